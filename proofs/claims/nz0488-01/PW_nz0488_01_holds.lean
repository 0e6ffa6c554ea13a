import PyProof.Rows.All
import Wide.All
import OpenK.AllK
import Wide.FinOn
import PySem.Challenge.RW_nz0488_01
set_option Elab.async false
set_option linter.all false
set_option tactic.hygienic false
noncomputable section
set_option linter.all false
set_option exponentiation.threshold 3000
namespace Mine
abbrev bv:=@List.take_succ_eq_append_getElem
abbrev IO:=@PyProof.Rows.assignInOrder_cons
abbrev SS:=@Array.getElem?_eq_some_iff
abbrev ST:=@Int.fdiv_eq_ediv_of_nonneg
abbrev SU:=@Int.fmod_eq_emod_of_nonneg
abbrev SV:=@Int.sign_eq_neg_one_of_neg
abbrev SW:=@List.getElem?_append_right
abbrev SX:=@PySem.Heap.get?_none_of_le
abbrev SZ:=@Int.natAbs_ediv_le_natAbs
abbrev S1:=@List.drop_eq_getElem_cons
abbrev S4:=@List.getElem?_append_left
abbrev S5:=@List.getElem?_eq_none_iff
abbrev S6:=@List.getElem?_eq_some_iff
abbrev S7:=@List.getLast?_eq_getElem?
abbrev S8:=@Option.isNone_iff_eq_none
abbrev S9:=@Int.mul_ediv_cancel_left
abbrev Ta:=@List.getElem?_eq_getElem
abbrev Tc:=@Nat.gcd_pos_of_pos_right
abbrev Td:=@Option.isSome_iff_exists
abbrev Te:=@Int.mul_ediv_mul_of_pos
abbrev Tf:=@List.getElem?_cons_succ
abbrev Tg:=@List.length_eq_zero_iff
abbrev Th:=@Option.bind_eq_some_iff
abbrev Ti:=@PySem.F.plainAttrs_list
abbrev Tm:=@Int.sign_eq_one_of_pos
abbrev Tn:=@Option.map_eq_some_iff
abbrev Tq:=@List.getElem?_eq_none
abbrev Tr:=@List.getElem?_toArray
abbrev Ts:=@List.mem_append_right
abbrev Tt:=@PyProof.Rows.tail_any
abbrev Tu:=@Bool.and_eq_true_iff
abbrev Tv:=@Bool.or_eq_false_iff
abbrev Tw:=@Int.lt_iff_le_and_ne
abbrev Tx:=@Int.natAbs_of_nonneg
abbrev Ty:=@List.getElem?_set_ne
abbrev Tz:=@List.mem_append_left
abbrev TA:=@List.mem_cons_of_mem
abbrev TB:=@List.mem_of_getElem?
abbrev TC:=@List.mem_of_mem_take
abbrev TD:=@Nat.add_le_add_right
abbrev TE:=@Nat.pow_le_pow_right
abbrev TI:=@Int.toNat_of_nonneg
abbrev TJ:=@List.filterMap_cons
abbrev TK:=@List.replicate_succ
abbrev TL:=@Nat.add_le_add_left
abbrev TM:=@Nat.add_left_cancel
abbrev TN:=@Nat.add_lt_add_left
abbrev TO:=@Nat.mul_le_mul_left
abbrev TP:=@beq_eq_false_iff_ne
abbrev TQ:=@Bool.false_eq_true
abbrev TR:=@Int.lt_of_le_of_lt
abbrev TT:=@List.length_append
abbrev TU:=@List.mem_cons_self
abbrev TV:=@List.mem_filterMap
abbrev TW:=@List.mem_singleton
abbrev TX:=@List.prefix_append
abbrev TY:=@List.zip_cons_cons
abbrev TZ:=@Nat.add_right_comm
abbrev T1:=@Nat.lt_of_le_of_lt
abbrev T2:=@Nat.lt_of_lt_of_le
abbrev T3:=@Nat.one_lt_two_pow
abbrev T4:=@Bool.eq_false_iff
abbrev T5:=@Bool.not_eq_true'
abbrev T6:=@List.getElem?_map
abbrev T7:=@List.nodup_append
abbrev T8:=@List.size_toArray
abbrev T9:=@Nat.lt_succ_of_le
abbrev Ua:=@decide_eq_true_eq
abbrev Ub:=@of_decide_eq_true
abbrev Uc:=@Bool.and_eq_true
abbrev Ud:=@List.all_eq_true
abbrev Ue:=@List.getElem_mem
abbrev Uf:=@List.isEmpty_iff
abbrev Ug:=@List.length_cons
abbrev Uh:=@List.lookup_cons
abbrev Ui:=@List.mem_flatMap
abbrev Uj:=@List.not_mem_nil
abbrev Uk:=@List.prefix_refl
abbrev Ul:=@Nat.le_add_right
abbrev Um:=@Nat.lt_add_right
abbrev Un:=@Nat.lt_succ_self
abbrev Uo:=@Nat.succ_le_succ
abbrev Uq:=@Option.bind_some
abbrev Ur:=@decide_eq_decide
abbrev Uu:=@List.append_nil
abbrev Uv:=@List.forIn_cons
abbrev Uw:=@List.length_map
abbrev Ux:=@List.map_append
abbrev Uy:=@List.mem_append
abbrev Uz:=@List.nodup_cons
abbrev UA:=@List.range_succ
abbrev UB:=@Option.some.inj
abbrev UC:=@decide_eq_false
abbrev UF:=@Bool.and_false
abbrev UG:=@Bool.false_and
abbrev UH:=@Bool.not_false
abbrev UJ:=@Int.natAbs_mul
abbrev UK:=@Int.natAbs_neg
abbrev UL:=@decide_eq_true
abbrev UM:=@Int.mul_assoc
abbrev UN:=@Int.ofNat.inj
abbrev UO:=@List.any_cons
abbrev UP:=@List.cons.inj
abbrev UQ:=@List.map_cons
abbrev UR:=@List.mem_cons
abbrev UW:=@Int.le_of_lt
abbrev UX:=@Int.le_trans
abbrev UY:=@Int.lt_trans
abbrev UZ:=@Int.mul_comm
abbrev U0:=@Int.ne_of_gt
abbrev U1:=@Int.ofNat_le
abbrev U2:=@Int.ofNat_lt
abbrev U3:=@List.mem_map
abbrev U4:=@Nat.gcd_comm
abbrev U5:=@Nat.le_of_eq
abbrev U6:=@Nat.le_of_lt
abbrev U7:=@Nat.le_trans
abbrev U8:=@Nat.lt_trans
abbrev U9:=@Nat.ne_of_gt
abbrev Va:=@Nat.ne_of_lt
abbrev Vb:=@Nat.sub_self
abbrev Vd:=@Nat.succ.inj
abbrev Vf:=@Int.mul_pos
abbrev Vg:=@Int.pow_pos
abbrev Vh:=@Nat.gcd_rec
abbrev Vi:=@Nat.le_refl
abbrev Vj:=@Int.not_lt
abbrev Vk:=@Nat.mod_lt
abbrev Vl:=@beq_iff_eq
abbrev Vm:=@cond_false
abbrev Vr:=@cond_true
abbrev Vs:=@congrArg
abbrev Vt:=@if_false
abbrev Vu:=@Ne.symm
abbrev Vv:=@if_neg
abbrev Vw:=@if_pos
noncomputable abbrev Vx:=@Option.casesOn.{0,0}
noncomputable abbrev Vz:=@List.casesOn.{0,0}
noncomputable abbrev VA:=@Bool.casesOn.{0}
variable {P S U:Prop} {a b c d e:Nat}
theorem ns {f:Type}{a:f}(h:(none:Option f)=some a):P:=by cases h
theorem ff(h:false=true):P:=by cases h
theorem tt(h:a<=b)(k:b<=c):a<=c:=U7 h k
theorem tl(h:a<b):a<=b:=U6 h
@[elab_as_elim] theorem nB {P:Int->Prop} (a:Int) (k:Nat) (d:∀n,n<k->P (n:Nat)) (p:0<=a) (q:a<k):P a:=by have:=d a.toNat ((Int.toNat_lt p).2 q);rwa [TI p]at this
@[elab_as_elim] theorem nA {P:Int->Prop} (a:Int) (k:Nat) (d:∀n,n<k->P (n:Nat)/\P (-(n:Nat))) (p:a.natAbs<k):P a:=(Int.natAbs_eq a).elim (λe=>e▸(d _ p).1) λe=>e▸(d _ p).2
theorem Pj {a:Int}(p:a.natAbs=1):a=1\/a= -1:=by have:=Int.natAbs_eq a;rwa [p]at this
theorem PT {a:Int}(p:0<=a)(q:a.natAbs=1):a=1:=(Tx p).symm.trans (Vs _ q)
theorem HI {a:Int}(p:0<=a):a.natAbs=a.toNat:=UN ((Tx p).trans (TI p).symm)
theorem sb {b:Int}(p:0<=b)(q:b<1024):b.natAbs<1024:=U2.mp (by rw[Tx p];exact q)
theorem Le {a b:Int}(p:a.natAbs<c)(q:b.natAbs<c):(a+b).natAbs<c*2:=T1 (Int.natAbs_add_le a b) (Nat.mul_two c▸Nat.add_lt_add p q)
theorem b2 {a:Int}(p:0<=a)(q:a<2):a=0\/a=1:=nB a 2 (by decide+kernel) p q
theorem gj {a b c k:Nat}(h:k<=12)(p:a+12*(b+1)+300<=c):a+k+12*b+300<=c:=tt (TD (by rw[Nat.add_assoc,Nat.add_comm k];exact TL (TL h _) _) 300) p
theorem aV {A B:Type}{P:A->B->Prop}(a:A)(b:B)(h:P a b):∃a b,P a b:=⟨a,b,h⟩
theorem bJ {A B C:Type}{P:A->B->C->Prop}(a:A)(b:B)(c:C)(h:P a b c):∃a b c,P a b c:=⟨a,aV b c h⟩
theorem vt {A B C D:Type}{P:A->B->C->D->Prop}(a:A)(b:B)(c:C)(d:D)(h:P a b c d):∃a b c d,P a b c d:=⟨a,bJ b c d h⟩
theorem xo {A B C D E:Type}{P:A->B->C->D->E->Prop}(a:A)(b:B)(c:C)(d:D)(e:E)(h:P a b c d e):∃a b c d e,P a b c d e:=⟨a,vt b c d e h⟩
theorem Lg {A B C D E F:Type}{P:A->B->C->D->E->F->Prop}(a:A)(b:B)(c:C)(d:D)(e:E)(f:F)(h:P a b c d e f):∃a b c d e f,P a b c d e f:=⟨a,xo b c d e f h⟩
theorem HJ {A B C D E F G:Type}{P:A->B->C->D->E->F->G->Prop}(a:A)(b:B)(c:C)(d:D)(e:E)(f:F)(g:G)(h:P a b c d e f g):∃a b c d e f g,P a b c d e f g:=⟨a,Lg b c d e f g h⟩
section
variable {A B C D E F G H I J K L M N O Zz:Type} {X:Prop}
theorem af {Q:Prop}(h:P/\Q)(k:P->Q->X):X:=k h.1 h.2
theorem cQ {Q R:Prop}(h:P/\Q/\R)(k:P->Q->R->X):X:=k h.1 h.2.1 h.2.2
theorem fD {Q R:Prop}(h:P/\Q/\R/\S)(k:P->Q->R->S->X):X:=k h.1 h.2.1 h.2.2.1 h.2.2.2
theorem HK {Q R T:Prop}(h:P/\Q/\R/\S/\T)(k:P->Q->R->S->T->X):X:=k h.1 h.2.1 h.2.2.1 h.2.2.2.1 h.2.2.2.2
theorem BM {Q R T:Prop}(h:P/\Q/\R/\S/\T/\U)(k:P->Q->R->S->T->U->X):X:=k h.1 h.2.1 h.2.2.1 h.2.2.2.1 h.2.2.2.2.1 h.2.2.2.2.2
theorem Oh {Q R T V:Prop}(h:P/\Q/\R/\S/\T/\U/\V)(k:P->Q->R->S->T->U->V->X):X:=k h.1 h.2.1 h.2.2.1 h.2.2.2.1 h.2.2.2.2.1 h.2.2.2.2.2.1 h.2.2.2.2.2.2
theorem Oi {Q R T V W:Prop}(h:P/\Q/\R/\S/\T/\U/\V/\W)(k:P->Q->R->S->T->U->V->W->X):X:=k h.1 h.2.1 h.2.2.1 h.2.2.2.1 h.2.2.2.2.1 h.2.2.2.2.2.1 h.2.2.2.2.2.2.1 h.2.2.2.2.2.2.2
theorem Oj {Q R T V W Y:Prop}(h:P/\Q/\R/\S/\T/\U/\V/\W/\Y)(k:P->Q->R->S->T->U->V->W->Y->X):X:=k h.1 h.2.1 h.2.2.1 h.2.2.2.1 h.2.2.2.2.1 h.2.2.2.2.2.1 h.2.2.2.2.2.2.1 h.2.2.2.2.2.2.2.1 h.2.2.2.2.2.2.2.2
theorem am {A:Sort u}{P:A->Prop}(h:∃a,P a)(k:∀a,P a->X):X:=h.elim λa h=>k a h
theorem aa {P Q:A->Prop}(h:∃a,P a/\Q a)(k:∀a,P a->Q a->X):X:=h.elim λa h=>k a h.1 h.2
theorem aQ {P Q R:A->Prop}(h:∃a,P a/\Q a/\R a)(k:∀a,P a->Q a->R a->X):X:=h.elim λa h=>cQ h (k a)
theorem Ok {P Q R S:A->Prop}(h:∃a,P a/\Q a/\R a/\S a)(k:∀a,P a->Q a->R a->S a->X):X:=h.elim λa h=>fD h (k a)
theorem wZ {P Q R S T:A->Prop}(h:∃a,P a/\Q a/\R a/\S a/\T a)(k:∀a,P a->Q a->R a->S a->T a->X):X:=h.elim λa h=>HK h (k a)
theorem Ol {P Q R S T U:A->Prop}(h:∃a,P a/\Q a/\R a/\S a/\T a/\U a)(k:∀a,P a->Q a->R a->S a->T a->U a->X):X:=h.elim λa h=>BM h (k a)
theorem Om {P Q R S T U V:A->Prop}(h:∃a,P a/\Q a/\R a/\S a/\T a/\U a/\V a)(k:∀a,P a->Q a->R a->S a->T a->U a->V a->X):X:=h.elim λa h=>Oh h (k a)
theorem On {P Q R S T U V W:A->Prop}(h:∃a,P a/\Q a/\R a/\S a/\T a/\U a/\V a/\W a)(k:∀a,P a->Q a->R a->S a->T a->U a->V a->W a->X):X:=h.elim λa h=>Oi h (k a)
theorem Oo {P Q R S T U V W Y:A->Prop}(h:∃a,P a/\Q a/\R a/\S a/\T a/\U a/\V a/\W a/\Y a)(k:∀a,P a->Q a->R a->S a->T a->U a->V a->W a->Y a->X):X:=h.elim λa h=>Oj h (k a)
theorem Lh {P Q R S T U V W Y g f:A->Prop}(h:∃a,P a/\Q a/\R a/\S a/\T a/\U a/\V a/\W a/\Y a/\g a/\f a)(k:∀a,P a->Q a->R a->S a->T a->U a->V a->W a->Y a->g a->f a->X):X:=h.elim λa h=>k a h.1 h.2.1 h.2.2.1 h.2.2.2.1 h.2.2.2.2.1 h.2.2.2.2.2.1 h.2.2.2.2.2.2.1 h.2.2.2.2.2.2.2.1 h.2.2.2.2.2.2.2.2.1 h.2.2.2.2.2.2.2.2.2.1 h.2.2.2.2.2.2.2.2.2.2
theorem cI {P:A->B->Prop}(h:∃a b,P a b)(k:∀a b,P a b->X):X:=h.elim λa h=>am h (k a)
theorem cY {P Q:A->B->Prop}(h:∃a b,P a b/\Q a b)(k:∀a b,P a b->Q a b->X):X:=h.elim λa h=>aa h (k a)
theorem aW {P Q R:A->B->Prop}(h:∃a b,P a b/\Q a b/\R a b)(k:∀a b,P a b->Q a b->R a b->X):X:=h.elim λa h=>aQ h (k a)
theorem bM {P Q R S:A->B->Prop}(h:∃a b,P a b/\Q a b/\R a b/\S a b)(k:∀a b,P a b->Q a b->R a b->S a b->X):X:=h.elim λa h=>Ok h (k a)
theorem bW {P Q R S T:A->B->Prop}(h:∃a b,P a b/\Q a b/\R a b/\S a b/\T a b)(k:∀a b,P a b->Q a b->R a b->S a b->T a b->X):X:=h.elim λa h=>wZ h (k a)
theorem w3 {P Q R S T U:A->B->Prop}(h:∃a b,P a b/\Q a b/\R a b/\S a b/\T a b/\U a b)(k:∀a b,P a b->Q a b->R a b->S a b->T a b->U a b->X):X:=h.elim λa h=>Ol h (k a)
theorem Oq {P Q R S T U V:A->B->Prop}(h:∃a b,P a b/\Q a b/\R a b/\S a b/\T a b/\U a b/\V a b)(k:∀a b,P a b->Q a b->R a b->S a b->T a b->U a b->V a b->X):X:=h.elim λa h=>Om h (k a)
theorem Os {P Q R S T U V W:A->B->Prop}(h:∃a b,P a b/\Q a b/\R a b/\S a b/\T a b/\U a b/\V a b/\W a b)(k:∀a b,P a b->Q a b->R a b->S a b->T a b->U a b->V a b->W a b->X):X:=h.elim λa h=>On h (k a)
theorem Ot {P Q R S T U V W Y:A->B->Prop}(h:∃a b,P a b/\Q a b/\R a b/\S a b/\T a b/\U a b/\V a b/\W a b/\Y a b)(k:∀a b,P a b->Q a b->R a b->S a b->T a b->U a b->V a b->W a b->Y a b->X):X:=h.elim λa h=>Oo h (k a)
theorem pP {P:A->B->C->Prop}(h:∃a b c,P a b c)(k:∀a b c,P a b c->X):X:=h.elim λa h=>cI h (k a)
theorem dK {P Q:A->B->C->Prop}(h:∃a b c,P a b c/\Q a b c)(k:∀a b c,P a b c->Q a b c->X):X:=h.elim λa h=>cY h (k a)
theorem bw {P Q R:A->B->C->Prop}(h:∃a b c,P a b c/\Q a b c/\R a b c)(k:∀a b c,P a b c->Q a b c->R a b c->X):X:=h.elim λa h=>aW h (k a)
theorem kH {P Q R S:A->B->C->Prop}(h:∃a b c,P a b c/\Q a b c/\R a b c/\S a b c)(k:∀a b c,P a b c->Q a b c->R a b c->S a b c->X):X:=h.elim λa h=>bM h (k a)
theorem jc {P Q R S T:A->B->C->Prop}(h:∃a b c,P a b c/\Q a b c/\R a b c/\S a b c/\T a b c)(k:∀a b c,P a b c->Q a b c->R a b c->S a b c->T a b c->X):X:=h.elim λa h=>bW h (k a)
theorem kJ {P Q R S T U:A->B->C->Prop}(h:∃a b c,P a b c/\Q a b c/\R a b c/\S a b c/\T a b c/\U a b c)(k:∀a b c,P a b c->Q a b c->R a b c->S a b c->T a b c->U a b c->X):X:=h.elim λa h=>w3 h (k a)
theorem HL {P Q R S T U V:A->B->C->Prop}(h:∃a b c,P a b c/\Q a b c/\R a b c/\S a b c/\T a b c/\U a b c/\V a b c)(k:∀a b c,P a b c->Q a b c->R a b c->S a b c->T a b c->U a b c->V a b c->X):X:=h.elim λa h=>Oq h (k a)
theorem Ou {P Q R S T U V W:A->B->C->Prop}(h:∃a b c,P a b c/\Q a b c/\R a b c/\S a b c/\T a b c/\U a b c/\V a b c/\W a b c)(k:∀a b c,P a b c->Q a b c->R a b c->S a b c->T a b c->U a b c->V a b c->W a b c->X):X:=h.elim λa h=>Os h (k a)
theorem Ov {P Q R S T U V W Y:A->B->C->Prop}(h:∃a b c,P a b c/\Q a b c/\R a b c/\S a b c/\T a b c/\U a b c/\V a b c/\W a b c/\Y a b c)(k:∀a b c,P a b c->Q a b c->R a b c->S a b c->T a b c->U a b c->V a b c->W a b c->Y a b c->X):X:=h.elim λa h=>Ot h (k a)
theorem HM {P:A->B->C->D->Prop}(h:∃a b c d,P a b c d)(k:∀a b c d,P a b c d->X):X:=h.elim λa h=>pP h (k a)
theorem Ow {P Q:A->B->C->D->Prop}(h:∃a b c d,P a b c d/\Q a b c d)(k:∀a b c d,P a b c d->Q a b c d->X):X:=h.elim λa h=>dK h (k a)
theorem HN {P Q R:A->B->C->D->Prop}(h:∃a b c d,P a b c d/\Q a b c d/\R a b c d)(k:∀a b c d,P a b c d->Q a b c d->R a b c d->X):X:=h.elim λa h=>bw h (k a)
theorem mZ {P Q R S:A->B->C->D->Prop}(h:∃a b c d,P a b c d/\Q a b c d/\R a b c d/\S a b c d)(k:∀a b c d,P a b c d->Q a b c d->R a b c d->S a b c d->X):X:=h.elim λa h=>kH h (k a)
theorem jz {P Q R S T:A->B->C->D->Prop}(h:∃a b c d,P a b c d/\Q a b c d/\R a b c d/\S a b c d/\T a b c d)(k:∀a b c d,P a b c d->Q a b c d->R a b c d->S a b c d->T a b c d->X):X:=h.elim λa h=>jc h (k a)
theorem Ox {P Q R S T U:A->B->C->D->Prop}(h:∃a b c d,P a b c d/\Q a b c d/\R a b c d/\S a b c d/\T a b c d/\U a b c d)(k:∀a b c d,P a b c d->Q a b c d->R a b c d->S a b c d->T a b c d->U a b c d->X):X:=h.elim λa h=>kJ h (k a)
theorem Oy {P Q R S T U V:A->B->C->D->Prop}(h:∃a b c d,P a b c d/\Q a b c d/\R a b c d/\S a b c d/\T a b c d/\U a b c d/\V a b c d)(k:∀a b c d,P a b c d->Q a b c d->R a b c d->S a b c d->T a b c d->U a b c d->V a b c d->X):X:=h.elim λa h=>HL h (k a)
theorem Oz {P Q R S T U V W:A->B->C->D->Prop}(h:∃a b c d,P a b c d/\Q a b c d/\R a b c d/\S a b c d/\T a b c d/\U a b c d/\V a b c d/\W a b c d)(k:∀a b c d,P a b c d->Q a b c d->R a b c d->S a b c d->T a b c d->U a b c d->V a b c d->W a b c d->X):X:=h.elim λa h=>Ou h (k a)
theorem HO {P:A->B->C->D->E->Prop}(h:∃a b c d e,P a b c d e)(k:∀a b c d e,P a b c d e->X):X:=h.elim λa h=>HM h (k a)
theorem OA {P Q R:A->B->C->D->E->Prop}(h:∃a b c d e,P a b c d e/\Q a b c d e/\R a b c d e)(k:∀a b c d e,P a b c d e->Q a b c d e->R a b c d e->X):X:=h.elim λa h=>HN h (k a)
theorem HP {P Q R S T U V W Y:A->B->C->D->E->Prop}(h:∃a b c d e,P a b c d e/\Q a b c d e/\R a b c d e/\S a b c d e/\T a b c d e/\U a b c d e/\V a b c d e/\W a b c d e/\Y a b c d e)(k:∀a b c d e,P a b c d e->Q a b c d e->R a b c d e->S a b c d e->T a b c d e->U a b c d e->V a b c d e->W a b c d e->Y a b c d e->X):X:=h.elim λa h=>h.elim λb h=>Ov h (k a b)
theorem BO {P:A->B->C->D->E->F->Prop}(h:∃a b c d e f,P a b c d e f)(k:∀a b c d e f,P a b c d e f->X):X:=h.elim λa h=>HO h (k a)
theorem OB {P Q R:A->B->C->D->E->F->Prop}(h:∃a b c d e f,P a b c d e f/\Q a b c d e f/\R a b c d e f)(k:∀a b c d e f,P a b c d e f->Q a b c d e f->R a b c d e f->X):X:=h.elim λa h=>OA h (k a)
theorem OC {P:A->B->C->D->E->F->G->Prop}(h:∃a b c d e f g,P a b c d e f g)(k:∀a b c d e f g,P a b c d e f g->X):X:=h.elim λa h=>BO h (k a)
theorem OD {P Q R:A->B->C->D->E->F->G->Prop}(h:∃a b c d e f g,P a b c d e f g/\Q a b c d e f g/\R a b c d e f g)(k:∀a b c d e f g,P a b c d e f g->Q a b c d e f g->R a b c d e f g->X):X:=h.elim λa h=>OB h (k a)
theorem HQ {P:A->B->C->D->E->F->G->H->Prop}(h:∃a b c d e f g i,P a b c d e f g i)(k:∀a b c d e f g i,P a b c d e f g i->X):X:=h.elim λa h=>OC h (k a)
theorem xp {P:A->B->C->D->E->F->G->H->I->J->K->L->M->N->O->Zz->Prop}(h:∃a b c d e f g i j l m n o q r s,P a b c d e f g i j l m n o q r s)(k:∀a b c d e f g i j l m n o q r s,P a b c d e f g i j l m n o q r s->X):X:=HQ h λa b c d e f g i h=>HQ h (k a b c d e f g i)
end
theorem aB {G:Prop}(h:∀P:Prop,(G->P)->P):G:=h G id
theorem o1:0<=a:=Nat.zero_le _
theorem o2(_:a<=9):a<=4096:=by exact U7 ‹_› (by decide)
theorem o4(p:4200<a):40<a:=tt (by decide) p
theorem o5(_:a<=c)(_:c<=b):a<=b:=U7 ‹_› ‹_›
theorem o6 {a:Int}(p:0<=a)(q:¬a=0):0<a:=(Tw.mpr ⟨p,Vu q⟩)
theorem o8(_:a<b):a≠b:=Va ‹_›
theorem o9(_:a<=b):a<=b:=by omega
theorem rR(_:b<a):a≠b:=U9 ‹_›
theorem qC(_:c<=a)(_:b<c):a≠b:=U9 (T2 ‹_› ‹_›)
theorem qD(p:2000<a):40<a:=tt (by decide) p
theorem qE:0<=(↑a:Int):=by simp_all
theorem rS(_:b<c)(_:c<=a):a≠b:=U9 (T2 ‹_› ‹_›)
theorem Au(_:a<=9):a<1099511627776:=by exact T1 ‹_› (by decide)
theorem Av(_:c<=b)(_:a<=c):a<=b:=U7 ‹_› ‹_›
theorem vu(p:0<a):(↑a:Int)≠0:=U0 (U2.mpr p)
theorem Aw(_:c<=b)(_:a<c):a≠b:=Va (T2 ‹_› ‹_›)
theorem Ax(_:a>0):(↑a:Int)>0:=by simp_all
theorem Ay(_:a=0):(↑a:Int)=0:=by simp_all
theorem Az(p:¬a>0):¬(↑a:Int)>0:=λh=>p (U2.mp h)
theorem AA(_:¬a=0):¬(↑a:Int)=0:=by simp_all
theorem Dx {a:Int}:0-a= -a:=by simp_all
theorem Dy(_:a<=4000):a<=4096:=by exact U7 ‹_› (by decide)
theorem Dz(_:a<c)(_:c<=b):a≠b:=Va (T2 ‹_› ‹_›)
theorem DA(p:a<2):a=0\/a=1:=(by decide+kernel:∀a,a<2->a=0\/a=1) a p
theorem DB(_:¬b<a):a<=b:=Nat.not_lt.mp ‹_›
theorem DC {a:Int}(p:0<a):0<a.natAbs:=Int.natAbs_pos.mpr (U0 p)
theorem xq(_:a<=9):a<2^62:=by exact T1 ‹_› (by decide)
theorem HR(p:b<a):0<a:=Nat.zero_lt_of_lt p
theorem HT(_:1<a):0<a:=U6 ‹_›
theorem HU(p:a<=9)(q:40<b):a<b:=tt (Uo p) (tt (by decide) q)
theorem HV(p:4200<a):2000<a:=tt (by decide) p
theorem Sz {c:Int}(p:(↑b:Int)=c+(↑d:Int))(q:(↑a:Int)=c+(↑e:Int))(r:e=d):a=b:=by subst r;exact UN (q.trans p.symm)
theorem HW(p:40<a):2<a:=tt (by decide) p
theorem Pk(p:c<=b)(q:d<=a/\a<c):a≠b:=Va (tt q.2 p)
theorem HX {a:Int}(_:0<a):¬a=0:=by omega
theorem HY(p:a-b<c+1)(q:b<a):a-(b+1)<c:=T2 (Nat.pred_lt (U9 (Nat.sub_pos_of_lt q))) (Nat.le_of_lt_succ p)
theorem HZ {a:Int}(p:0<a):(↑a.natAbs:Int)=a:=Tx (UW p)
theorem Li(p:a+12<=b):a<b:=tt (Ul (a+1) 11) p
theorem Lj(_:b<=9)(_:a=b):a<=9:=by simp_all
theorem Lk(p:a<=9)(q:2000<b):a<b:=tt (Uo p) (tt (by decide) q)
theorem Ll(_:a<=9):a<=9:=by omega
theorem Lm(_:b<=9)(_:a<b):a<=9:=U6 (T2 ‹_› ‹_›)
theorem Pl(p:a+12<=b):a+10<=b:=tt (TL (by decide) a) p
theorem Pm(_:a<c)(_:c<=b):a<b:=T2 ‹_› ‹_›
theorem Ln(p:a+(b+1)<=c):a+1+b<=c:=tt (U5 (TZ a 1 b)) p
theorem H0 {a:Int}(p:¬a=0)(q:¬a<0):0<a:=(Tw.mpr ⟨Vj.mp q,Vu p⟩)
theorem Lp {a:Int}(_:a>0):0<=a:=by omega
theorem Lq(_:¬a=1):¬(↑a:Int)=1:=by grind
theorem Lr(p:a=b)(q:b<=9):a<=4096:=by subst p;exact tt q (by decide)
theorem Ls(_:a=1):(↑a:Int)=1:=by simp_all
theorem Lu(p:40<b)(q:a<=4):a<b:=tt (Uo q) (tt (by decide) p)
theorem Lv {a:Int}(p:0<=a):0<1+a:=Int.add_pos_of_pos_of_nonneg (by decide) p
theorem Lw(_:4200<b)(_:a<=9):a<b:=by grind
theorem Lx {a b:Int}(p:0<a*b):¬a*b<0:=Vj.mpr (UW p)
theorem Ly {a:Int}(_:a<0):0< -a:=by simp_all
theorem Pn:0<=(↑(min a b):Int):=by simp_all
theorem Po(p:0<a%b):(↑(a%b):Int)>0:=U2.mpr p
theorem Pp(p:0<a):0<(↑a:Int):=U2.mpr p
theorem Pq {a:Int}(_:¬a>0):0<= -a:=by simp_all
theorem Pr:0≠a+2:=by lia
theorem Ps(_:a<2^0):a=0:=by simp_all
theorem Pt(_:0<a):(↑a:Int)>0:=by grind
theorem Pu {a:Int}(p:a≠0)(q:¬a<0):0<a:=(Tw.mpr ⟨Vj.mp q,Vu p⟩)
theorem Pv(_:1<=a):a≠0:=U9 ‹_›
theorem Px(p:a+10<=b):a<b:=tt (Ul (a+1) 9) p
theorem Py {a:Int}(p:a.natAbs<=4):a<=4096:=nA a 5 (by decide+kernel) (T9 p)
theorem Pz(_:a=b):(↑a:Int)=(↑b:Int):=by simp_all
theorem PA:2*0+a+1=a+1:=Vs (· +1) (Nat.zero_add a)
theorem PB(p:a<c)(q:d<=b)(r:c<d):a<b:=tt p (tt (tl r) q)
theorem PC:(↑(max a b%min a b):Int)=0↔max a b%min a b=0:=⟨λh=>UN h,λh=>Vs Int.ofNat h⟩
theorem PD {a:Int}(p:a<4):a<2^62:=UY p (by decide)
theorem PE(p:4200<b)(q:a<=4096):a<b:=tt (Uo q) (tt (by decide) p)
theorem PF(p:a<c*2)(q:a%(b%a)<b%a)(r:a%(b%a)+b%a*(a/(b%a))=a)(s:b%a*1<=b%a*(a/(b%a))):a%(b%a)<c:=by rw[Nat.mul_one]at s;exact Nat.lt_of_mul_lt_mul_right (a:=2) (U8 (Nat.mul_two _▸Nat.lt_of_lt_of_eq (TN (T2 q s) _) r) p)
theorem Lz(_:a%b<b):a%b<=b:=U6 ‹_›
theorem LA(_:¬a=0):0<a:=Nat.pos_of_ne_zero ‹_›
theorem LB {a b c:Int}(p:¬c=0)(q:a=0/\b=0):¬(a=1/\b=1\/c=0):=λh=>h.elim (λh=>absurd (q.1.symm.trans h.1) (by decide)) p
theorem LC(p:b=c)(q:¬a=c):¬(↑a:Int)=(↑b:Int):=λh=>q ((UN h).trans p)
theorem LD(p:a=b)(q:b<=9):a<2^40:=by subst p;exact T1 q (by decide)
theorem LE(p:c<=a)(q:d<=c)(r:b<d):a≠b:=U9 (tt r (tt q p))
theorem LF(p:c<=d)(q:d<b)(r:e+3<c)(s:a<e):a≠b:=Va (tt (tt s (Ul e 3)) (tt (tl r) (tt p (tl q))))
theorem LG(_:¬a%b=0):0<a%b:=Nat.pos_of_ne_zero ‹_›
theorem LH {a b c:Int}(p:¬c=0)(q:a=0/\b=1):¬(a=1/\b=1\/c=0):=λh=>h.elim (λh=>absurd (q.1.symm.trans h.1) (by decide)) p
theorem LJ(p:a+12*c+300<=b):a+12<=b:=tt (Nat.add_le_add (Ul a (12*c)) (by decide)) p
theorem LK(p:c<=a)(q:b<c/\b≠d):a≠b:=U9 (tt q.1 p)
theorem LM(p:b<=a)(q:¬b<a):a=b:=Nat.le_antisymm (Nat.le_of_not_lt q) p
theorem LN(_:¬a=b):¬(↑a:Int)=(↑b:Int):=by lia
theorem LO {a b:Int}(_:0<a*b):¬a*b=0:=by omega
theorem LP {a:Int}(_:¬a>0)(_:¬a<0):a=0:=by omega
theorem LQ {a:Int}(p:a.natAbs<=4): -a<=4096:=nA a 5 (by decide+kernel) (T9 p)
theorem LT(_:a<b):a<b:=by omega
theorem LV(p:c<b)(q:d<=a/\a<c):a<b/\a≠c:=⟨U8 q.2 p,Va q.2⟩
theorem LW(p:c<=a/\a<b):a≠b:=Va p.2
theorem LX(_:a<=2):a<=4096:=by exact U7 ‹_› (by decide)
theorem LY(p:2*(a+1)<b+1+1+1):2*a<b+1:=Nat.lt_of_succ_lt_succ (Nat.lt_of_succ_lt_succ p)
theorem LZ(_:b=c)(_:a=c):(↑a:Int)=(↑b:Int):=by simp_all
theorem L4:0≠a+1/\0≠a+4:=⟨(Nat.succ_ne_zero a).symm,(Nat.succ_ne_zero (a+3)).symm⟩
theorem L6(_:a=c)(_:c=b):a=b:=by simp_all
theorem L7(p:2*(b+1)<a):a=a-3+1+1+1:=(Nat.sub_add_cancel (tt (Nat.le_add_left 3 (2*b)) p)).symm
theorem L8 {a:Int}(_:0<a):¬a<0:=by omega
theorem PU {b:Int}(p:b<3)(q:a=(1+b).toNat):a<=9:=q▸Int.toNat_le.mpr (UX (Int.add_le_add_left (UW p) 1) (by decide))
theorem L9(p:2000<b)(q:a<=9):a<b:=tt (Uo q) (tt (by decide) p)
theorem Ma(_:¬a=0)(_:¬b=0):¬(a=0\/b=0):=by simp_all
theorem Mb {a:Int}(p:a.natAbs<=4):(-a).toNat<=4:=nA a 5 (by decide+kernel) (T9 p)
theorem Mc(p:a-b=0):a<=b:=Nat.le_of_sub_eq_zero p
theorem Md {a:Int}(p:0<=a/\a<2^62):a<2^63:=UY p.2 (by decide)
theorem Me(_:a<c)(_:c<=b):a<=b:=U6 (T2 ‹_› ‹_›)
theorem Mf:a+a<=2*a:=by grind
theorem Mg:min 160 a<=4096:=tt (Nat.min_le_left 160 a) (by decide)
theorem Mh(p:a>0)(q:b>0):(↑(min a b):Int)≠0:=λh=>absurd (UN h) (U9 (Nat.lt_min.mpr ⟨p,q⟩))
theorem Mi(_:a<=9):a<2^40:=by exact T1 ‹_› (by decide)
theorem Mj(p:c<=b)(q:d<=a/\a<c):a<b:=tt q.2 p
theorem Mk {a:Int}(p:0<a/\a<=9):0<=a:=UW p.1
theorem Ml {a b c:Int}(p:¬c=0)(q:b=0):¬(a=1/\b=1\/c=0):=λh=>h.elim (λh=>absurd (q.symm.trans h.2) (by decide)) p
theorem Mm(_:a<b):a+1<=b:=by assumption
theorem Mn(p:b+6<c)(q:c<=a/\a<d):a≠b+2:=U9 (tt (tt (TL (by decide:3<=7) b) p) q.1)
theorem Mo(_:a<=c)(_:c<b):a<=b:=U6 (T1 ‹_› ‹_›)
theorem Mp {a:Int}(p:¬a=0)(q:¬a>0):a<0:=(Tw.mpr ⟨Vj.mp q,p⟩)
theorem Mq(p:¬a<b)(q:a<b+1):a=b:=Nat.le_antisymm (Nat.le_of_lt_succ q) (Nat.le_of_not_lt p)
theorem Mr:a<=2*a:=by lia
theorem Ms(_:a<=9):(↑a:Int).natAbs<2^4:=by exact T1 ‹_› (by decide)
theorem Mt {a:Int}(p:0<=a)(q:a<4):a=0\/a=1\/a=2\/a=3:=nB a 4 (by decide+kernel) p q
theorem PV(p:a<c)(q:c<=d)(r:b=d+1):a<b:=by subst r;exact tt p (tt q (Nat.le_succ d))
theorem PW {a:Int}(_:0<a):a≠0:=by grind
theorem PX(_:a<=0):a=0:=by simp_all
theorem PY {a:Int}(p:b<=9)(q:(↑b:Int)%3=0)(r:(↑b:Int)>0)(s:a=(↑b:Int)/3\/a=3):0<a/\a<=9:=(λh:∀n:Nat,n<10->(n:Int)%3=0->(n:Int)>0->0<(n:Int)/3/\(n:Int)/3<=9=>s.elim (λe=>by rw[e];exact h b (T9 p) q r) λe=>by rw[e];decide) (by decide+kernel)
theorem PZ(p:a<=c)(q:c<=d)(r:b=d+1):a<=b:=by subst r;exact tt p (tt q (Nat.le_succ d))
theorem P0 {a:Int}(_:a.natAbs<=1):a.natAbs<2^2000:=by exact T1 ‹_› (by decide)
theorem P2 {a b:Int}(p:0<=b)(q:b<40)(r:b-15=a):(a*1024).natAbs<2^60:=by subst r;exact nB b 40 (by decide+kernel) p q
theorem P3 {a:Int}(_:¬a<0):(↑a.natAbs:Int)=a:=by omega
theorem P4 {a b c d:Int}(p:0<=d)(q:d<40)(r:d-15=a)(s:0<=b)(t:b<1024)(u:0<=c)(v:c<1024):(a*1024*1024+b*1024+c).natAbs<2^40:=by subst r;exact Nat.lt_of_lt_of_eq (Le (Le (nB d 40 (by decide+kernel) p q) (UJ b 1024▸T2 (Nat.mul_lt_mul_of_pos_right (sb s t) (by decide)) (by decide))) (T2 (sb u v) (by decide))) (show 2^38*2*2=2^40 from rfl)
theorem P5(p:(↑a:Int)%3=0):1*((↑a:Int)/3)*3=(↑a:Int):=by rw[Int.one_mul];exact Int.ediv_mul_cancel_of_emod_eq_zero p
theorem P6(_:a<=20):a<30:=by exact T1 ‹_› (by decide)
theorem P7(p:¬(b=0\/a=0)):¬(a=0\/b=0):=λh=>p (Or.symm h)
theorem P8 {a:Int}(p:b<=9)(q:(↑b:Int)%2=0)(r:(↑b:Int)>0)(s:a=2\/a=(↑b:Int)/2):0<a/\a<=9:=(λh:∀n:Nat,n<10->(n:Int)%2=0->(n:Int)>0->0<(n:Int)/2/\(n:Int)/2<=9=>s.elim (λe=>by rw[e];decide) λe=>by rw[e];exact h b (T9 p) q r) (by decide+kernel)
theorem P9(p:b<=9)(q:a=b):a<=4096:=by subst q;exact tt p (by decide)
theorem Qa(_:a<=c)(_:c<=d)(_:d<=b):a<=b:=by grind
theorem Qb {a:Int}(_:a=1):¬a=0:=by simp_all
theorem Qc(_:14+a+b+c+d=0):False:=by grind
theorem Qd(p:a+12*(b+1)+300<=c):a+1+3+12*b+300<=c:=gj (k:=4) (by decide) p
theorem Qe(p:c<=d)(q:b=d+1)(r:a<c):a<b:=by subst q;exact tt r (tt p (Nat.le_succ d))
theorem Qf {a b:Int}(_:a≠0):¬(a=0/\b=0):=by grind
theorem Qg {a:Int}(_:a.natAbs<=2147483647):a.natAbs<2^60:=by exact T1 ‹_› (by decide)
theorem Qh {a:Int}(_:a=0):¬a<0:=by simp_all
theorem Qi {a:Int}(p:a.natAbs=1):a=1\/a=0\/a= -1:=(Pj p).elim .inl λh=>.inr (.inr h)
theorem Qj:(↑a:Int)=(↑a:Int)-(↑b:Int)+(↑b:Int):=by simp_all
theorem Qk {a:Int}(p:0<=a)(q:a<9):(a-4).natAbs<=4:=nB a 9 (by decide+kernel) p q
theorem Ql(_:a<=63):a<=4096*4096:=by exact U7 ‹_› (by decide)
theorem Qm(p:b<=9)(q:a=c)(r:c<b):a<=9:=by subst q;exact tt (tl r) p
theorem Qo {a:Int}(_:a.natAbs<=4):a.natAbs<2^62:=by exact T1 ‹_› (by decide)
theorem Qp {a b c d:Int}(p:0<d)(q:0<b):¬(a=0/\b=0\/c=0/\d=0):=λh=>h.elim (λh=>U0 q h.2) λh=>U0 p h.2
theorem Qq(_:a<=2)(_:a>=2):a=2:=by lia
theorem Qr {a:Int}(_:a<2^62):a.toNat<2^62:=by simp_all
theorem Qs(_:a+3+12*b+300<=c):a+3+12*b+300<=c:=by simp_all
theorem Qu:(↑a:Int)>1↔a>1:=U2 (n:=1) (m:=a)
theorem Qv(_:a<=4):a<=4096:=by exact U7 ‹_› (by decide)
theorem Qw(_:a+31<=4096):a+1+30<=4096:=by assumption
theorem Qx {b:Int}(_:b.natAbs<=4)(_:a<b.natAbs):a<=4:=U6 (T2 ‹_› ‹_›)
theorem Qy {a:Int}(_:a.natAbs<=2147483647):a.natAbs<2^40:=by exact T1 ‹_› (by decide)
theorem Qz:a<=a+(b+1):=by simp_all
theorem QA:a+4≠a+1:=by grind
theorem QB {a:Int}(p:0<=a)(q:a<12):(1+a).natAbs<2^40:=nB a 12 (by decide+kernel) p q
theorem QC(_:a<=4000):a<=4095:=by exact U7 ‹_› (by decide)
theorem QD {a:Int}(_:a<7):a<2^62:=by lia
theorem QE(_:30<a):30-0<a:=by omega
theorem QF {a b:Int}(_:0<b):¬(a=0/\b=0):=by lia
theorem QG {a:Int}(_:0<=a):0<=1+a:=by lia
theorem QH {a:Int}(p:a<3):1+a<2^62:=UY (Int.add_lt_add_left p 1) (by decide)
theorem QI {a b:Int}(p:b=1):¬(a<0/\b=0):=λh=>absurd (p.symm.trans h.2) (by decide)
theorem QJ {a:Int}(p:0<=a)(q:a<7):a=0\/a=1\/a=2\/a=3\/a=4\/a=5\/a=6:=nB a 7 (by decide+kernel) p q
theorem QK {b:Int}(_:a*b.toNat<=2^24):a*b.toNat<=16777216:=by omega
theorem QL(p:a<=c)(q:c<d)(r:e=d+1)(s:e<=b):a<=b:=by subst r;exact tt p (tt (tl q) (tl s))
theorem QM {a b:Int}(_:¬(a=0/\b=1)):¬(a=0/\b=1):=by omega
theorem QN:3<0+1+1+1+1+1+a:=by lia
theorem QO {a:Int}(p:a<12):1+a<100:=UY (Int.add_lt_add_left p 1) (by decide)
theorem QP(_:a<b):a-0<b:=by omega
theorem QQ:(↑a:Int)+1=(↑(a+1):Int):=by simp_all
theorem QR:a<=a+b:=by simp_all
theorem QS {a b:Int}(p:a=0/\b=0):a=1\/a=0\/a= -1:=.inr (.inl p.1)
theorem QT(_:a=1/\b>1):(↑a:Int)=1:=by simp_all
theorem QU {a:Int}(p:0<a)(q:a<100):a.natAbs<2^7:=nB a 100 (by decide+kernel) (UW p) q
theorem QV(p:(a+1)%2=1):2*((a+1)/2)=a:=by have e:=Nat.div_add_mod (a+1) 2;rw[p]at e;exact Vd e
theorem QW(_:a<=1240):a<=4096:=by exact U7 ‹_› (by decide)
theorem QX {a:Int}(_:a.natAbs<2^1000):(-a).natAbs<2^1000:=by simp_all
theorem QY {a:Int}(_:a<2^62/\ -2^62<=a):a<2^62:=by simp_all
theorem QZ {a:Int}(p:a<3):(1+a).toNat<=9:=Int.toNat_le.mpr (UX (Int.add_le_add_left (UW p) 1) (by decide))
theorem Q2(_:a<b):a<=b:=U6 ‹_›
theorem Q3 {a:Int}(p:a≠0)(q:a.natAbs<=4):a= -4\/a= -3\/a= -2\/a= -1\/a=1\/a=2\/a=3\/a=4:=(nA (P:=λa=>a=0\/a= -4\/a= -3\/a= -2\/a= -1\/a=1\/a=2\/a=3\/a=4) a 5 (λn h=>⟨(by decide+kernel:∀n:Nat,n<5->(n:Int)=0\/(n:Int)= -4\/(n:Int)= -3\/(n:Int)= -2\/(n:Int)= -1\/(n:Int)=1\/(n:Int)=2\/(n:Int)=3\/(n:Int)=4) n h,(by decide+kernel:∀n:Nat,n<5-> -(n:Int)=0\/ -(n:Int)= -4\/ -(n:Int)= -3\/ -(n:Int)= -2\/ -(n:Int)= -1\/ -(n:Int)=1\/ -(n:Int)=2\/ -(n:Int)=3\/ -(n:Int)=4) n h⟩) (T9 q)).resolve_left p
theorem Q4(p:(↑a:Int)%2=0):1*2*((↑a:Int)/2)=(↑a:Int):=by rw[Int.one_mul];exact Int.mul_ediv_cancel_of_emod_eq_zero p
theorem Q5(p:c<=2^20)(q:a+(d+1)<=c)(r:b=16777216):a<=b:=by subst r;exact tt (Ul a (d+1)) (tt q (tt p (by decide)))
theorem Q6(_:¬a=1):¬(a=1/\b>1):=by simp_all
theorem Q7(_:b<7):a+b-a<7:=by simp_all
theorem Q8 {a b:Int}(p:0<=b)(q:b<40)(r:b-15=a):a.natAbs<2^60:=by subst r;exact nB b 40 (by decide+kernel) p q
theorem Q9 {a:Int}(_:a<3):a<2^62:=by lia
theorem Ra {a:Int}(_:0<=a/\a<2^62):¬a<0:=by simp_all
theorem Rb(p:c=b+7)(q:c<=a):a≠b:=by subst p;exact U9 (tt (Ul (b+1) 6) q)
theorem Rc(p:b+a=c):a+1+b=c+1:=by subst p;exact(TZ a 1 b).trans (Vs (· +1) (Nat.add_comm a b))
theorem Rd(_:a<=1):a<=16777216:=by exact U7 ‹_› (by decide)
theorem Re {a:Int}(p:0<=a/\a<=(↑b:Int)/\c*a.toNat<=b): -2^63<=a:=UX (by decide) p.1
theorem Rf(_:a+10<=b):a+1+8<=b:=U6 ‹_›
theorem Rg(p:a+c=d)(q:d<=b):a<=b:=by subst p;exact tt (Ul a c) q
theorem Rh(_:b<a):0<(↑a:Int)-(↑b:Int):=by simp_all
theorem Ri(_:a<=4095):a<=4096:=by exact U7 ‹_› (by decide)
theorem Rj {a b:Int}(_:a=0)(_:b=0):a=b:=by simp_all
theorem Rl:(a+1)*31=a*31+31:=by grind
theorem Rm {a:Int}(p:0<=a)(q:a<8):a=0\/a=1\/a=2\/a=3\/a=4\/a=5\/a=6\/a=7:=nB a 8 (by decide+kernel) p q
theorem Rn {b:Int}(_:a*b.toNat<=4096):a*b.toNat<=2^24:=by exact U7 ‹_› (by decide)
theorem Ro {a b:Int}(p:0<=b)(q:b<40)(r:b-15=a):a.natAbs<2^40:=by subst r;exact nB b 40 (by decide+kernel) p q
theorem Rp {a:Int}(p:0<=a)(q:a<9):(a-4).natAbs<2^40:=nB a 9 (by decide+kernel) p q
theorem Rq(_:c=b)(_:a<c):a<b:=by simp_all
theorem Rr(p:a<=c)(q:d=c+1)(r:d<=b):a<=b:=by subst q;exact tt p (tl r)
theorem Rs(p:a=c)(q:c+1=b):a+1=min b (c+1):=by subst p;subst q;exact(Nat.min_self _).symm
theorem Ru(_:¬(↑b:Int)<(↑a:Int)):(↑a:Int)=(↑(min a b):Int):=by simp_all
theorem Rv {a:Int}(p:a<2):a<2^62:=UY p (by decide)
theorem Rw {a:Int}(p:a.natAbs<=4)(q:2000<b):a.natAbs<b:=tt (Uo p) (tt (by decide) q)
theorem Rx {a b c:Int}(p:¬c=0)(q:¬(a=1/\b=1)):¬(a=1/\b=1\/c=0):=λh=>h.elim q p
theorem Ry(_:b<=a):¬a<b:=by simp_all
theorem Rz {a b c:Int}(p:¬(a=0/\c=0))(q:c=0)(r:0<=b/\b<2)(s:¬a>0)(t:¬b=1):a<0/\b=0:=⟨Tw.mpr ⟨Vj.mp s,λh=>p ⟨h,q⟩⟩,(b2 r.1 r.2).resolve_right t⟩
theorem RB {a:Int}(_:0<=a)(_:a≠0):0<a:=by omega
theorem RC(_:a<=4000):a+1<=4096:=by exact T1 ‹_› (by decide)
theorem RD(_:c<=b)(_:a<c):a<b:=T2 ‹_› ‹_›
theorem RE {a:Int}(_:¬a=0):0<(↑a.natAbs:Int):=by simp_all
theorem RF:a+1≠a+4:=by simp_all
theorem RG(_:¬a=0):¬(a=0/\b>0):=by simp_all
theorem RH(p:a=c)(q:c+1=b):a+1=b:=by subst p;exact q
theorem RI {a:Int}(_: -2^63<=a)(_:a<2^63): -9223372036854775808<=a/\a<9223372036854775808:=by simp_all
theorem RJ(_:b=0\/a=0):a=0\/b=0:=by grind
theorem RK(_:a<=9):a<10:=by exact T1 ‹_› (by decide)
theorem RL {a:Int}(p:0<a):a=(↑a.natAbs:Int):=(Tx (UW p)).symm
theorem RM {a b:Int}(_:a≠0):¬(a=0/\b=1):=by simp_all
theorem RN {a:Int}(p:0<=a)(q:a<30):(a-10).natAbs<=2147483647:=nB a 30 (by decide+kernel) p q
theorem RO(p:c+a=d)(q:d<=b):a<=b:=by subst p;exact tt (Nat.le_add_left a c) q
theorem RP {a:Int}(_:0<=a/\a<=9^2):a<=81:=by simp_all
theorem RQ(p:40<b):min 40 a<b:=T1 (Nat.min_le_left 40 a) p
theorem RR {a:Int}(p:0<=a)(q:a<2^60):a.natAbs<2^60:=U2.mp (by rw[Tx p];exact q)
theorem RT(_:a+(b+1)<=c):a+b<=c:=U6 ‹_›
theorem RU {a:Int}(p:a>0):a.natAbs=a.toNat:=HI (UW p)
theorem RW {a:Int}(_:a>0):a>=0:=by lia
theorem RX {a:Int}(_:a<0):¬a>0:=by omega
theorem RY:a+4≠0:=by simp_all
theorem RZ {a:Int}(p:¬a>0):a.natAbs=(-a).toNat:=(UK a).symm.trans (HI (Int.neg_nonneg_of_nonpos (Vj.mp p)))
theorem R0 {a:Int}(p:0<=a)(q:a<1024):a.natAbs<2^60:=U8 (sb p q) (by decide)
theorem R2(p:4200<a):2<a:=tt (by decide) p
theorem R3(_:a+12<=b):a+1+10<=b:=U6 ‹_›
theorem R4 {a:Int}(_:a<2^62/\ -2^62<=a): -2^62<=a:=by simp_all
theorem R5 {a:Int}(p:0<=a)(q:a<2):a=0\/a=1:=nB a 2 (by decide+kernel) p q
theorem R6(p:a<=2)(q:40<b):a<b:=tt (Uo p) (tt (by decide) q)
theorem R7(_:c<=d)(_:a<=c)(_:d<=b):a<=b:=by grind
theorem R8 {a:Int}(_:a<8):a<2^62:=by lia
theorem R9(p:a<=9):(↑a:Int)<=(↑4096:Int):=U1.mpr (tt p (by decide))
theorem Sa {a:Int}(p:b<=9)(q:(↑b:Int)>0)(r:a=(↑b:Int)):0<a/\a<=9:=by subst r;exact⟨q,U1.mpr p⟩
theorem Sb {a b:Int}(p:a>0):¬(a<0/\b=0):=λh=>Int.lt_asymm p h.1
theorem Sc(p:¬(a+1)%2=1):2*((a+1)/2-1)+1=a:=by have e:=Nat.div_add_mod (a+1) 2;rw[(Nat.mod_two_eq_zero_or_one (a+1)).resolve_right p]at e;generalize (a+1)/2=m at e ⊢;cases m with|zero=>cases e|succ m=>exact Vd e
theorem Sd(_:a<1):a=0:=by simp_all
end Mine
end
noncomputable section
open PySem PySem.W PyProof.Rows
namespace Mine
abbrev Tk:=@PySem.Heap.get?_push_of_some
abbrev Tl:=@PySem.Heap.get?_update_other
abbrev To:=@PySem.Heap.get?_update_self
abbrev TF:=@PySem.wpAny_loadName_local
abbrev TG:=@PySem.Heap.SameBut.update
abbrev TH:=@PySem.Heap.get?_push_size
abbrev Us:=@PySem.wpAny_Call_NameR
abbrev Ut:=@PySem.wpAny_items_cons
abbrev UD:=@PySem.wpAny_items_nil
abbrev UE:=@PySem.wpAny_loadPart'
abbrev UI:=@PySem.Heap.size_push
abbrev US:=@PySem.Value.ref.inj
abbrev UT:=@PySem.wpAny_holding
abbrev UU:=@PySem.wpAny_standAt
abbrev UV:=@PySem.Heap.lt_size
abbrev Ve:=@PySem.W.looks_findIn
abbrev Vn:=@PySem.wpAny_bind
abbrev Vo:=@PySem.wpAny_call
abbrev Vp:=@PySem.wpAny_mono
abbrev Vq:=@PySem.wpAny_pure
noncomputable abbrev Vy:=@Expr.casesOn.{0}
noncomputable abbrev VE:=@PySem.Expr.casesOn.{0}
noncomputable abbrev VF:=@PySem.Data.casesOn.{0}
noncomputable abbrev VG:=@PySem.Value.casesOn.{0}
variable {n i:Nat} {h h':Heap} {a:Addr} {m:Str->Option Value} {e:Expr} {x:Str} {vs:List Value} {k:Const} {o:Obj} {Er:Value->Shared->Prop}
inductive V where
 |none
 |bool (b:Bool)
 |int (i:Int)
 |str (s:Str)
 |tup (l:List V)
 |ref (n:Nat)
inductive O where
 |list (l:List V)
 |flist (l:List V)
 |dict (l:List (Str×V))
 |inst (c:Str) (l:List (Str×V))
 |cell (v:Option V)
 |clo (body:Expr) (scope:Scope) (cells:List (Str×Nat))
 |tab
inductive R (α:Type) where
 |ok (a:α) (h:List O)
 |exc (msg:V) (h:List O)
 |bad
noncomputable abbrev M (b:Type):=List O->R b
def mr {b:Type}(a:b):M b:=λh=>.ok a h
def mq {b β:Type}(m:M b)(f:b->M β):M β:=λh=>match m h with
 |.ok a h'=>f a h'
 |.exc e h'=>.exc e h'
 |.bad=>.bad
noncomputable def bad {b:Type}:M b:=λZ=>.bad
theorem my {c β:Type}{m:M c}{f:c->M β}{σ b:List O}{a:c}(h:m σ=.ok a b):mq m f σ=f a b:=by unfold mq;rw[h]
theorem mu {b β:Type}{m:M b}{f:b->M β}{σ:List O}(h:m σ=.bad):mq m f σ=.bad:=by unfold mq;rw[h]
noncomputable abbrev Loc:=List (Str×V)
structure Cx where
 name:Str
 scope:Scope
 cells:List (Str×Nat)
inductive Fl where
 |next|cont
 |ret (v:V)
noncomputable def put {b:Type}(x:Str)(v:b):List (Str×b)->List (Str×b)
 | []=> [(x,v)]
 |(y,w)::r=>if x=y then(y,v)::r else(y,w)::put x v r
noncomputable def look {b:Type}(x:Str):List (Str×b)->Option b
 | []=>Option.none
 |(y,w)::r=>if x=y then some w else look x r
noncomputable def aC(o:O):M V:=λh=>.ok (.ref h.length) (h++ [o])
noncomputable def jQ(x:Str):Option V:=
 if x= "NAN" then some (.tup [.int 0,.int 0])
 else if x= "INF" then some (.tup [.int 1,.int 0])
 else if x= "ZERO" then some (.tup [.int 0,.int 1])
 else if x= "ONE" then some (.tup [.int 1,.int 1])
 else if x= "MOST_POWER" then some (.int 4096)
 else if x= "MOST_INTEGER" then some (.int 2147483647)
 else Option.none
noncomputable def qF(o:Option O):Option V:=@Option.casesOn O (λZ=>Option V) o Option.none λo=>@O.casesOn (λZ=>Option V) o (λZ=>Option.none) (λZ=>Option.none) (λZ=>Option.none) (λZ Z=>Option.none) (λv=>v) (λZ Z Z=>Option.none) Option.none
theorem Mu {o:Option O}{v:V}(h:qF o=some v):o=some (.cell (some v)):=by
 induction o using Vx with
 |none=>exact ns h
 |some o=>induction o using O.casesOn with
  |cell=>exact Vs (λx=>some (O.cell x)) h
  |_=>exact ns h
noncomputable def jA(o:Option O):Bool:=@Option.casesOn O (λZ=>Bool) o false λo=>@O.casesOn (λZ=>Bool) o (λZ=>false) (λZ=>false) (λZ=>false) (λZ Z=>false) (λZ=>true) (λZ Z Z=>false) false
theorem FA {o:Option O}(h:jA o=true):∃v,o=some (.cell v):=by
 induction o using Vx with
 |none=>exact ff h
 |some o=>induction o using O.casesOn with
  |cell v=>exact⟨v,rfl⟩
  |_=>exact ff h
def BP(c:Cx)(x:Str)(h:List O):R V:=if x= "__classdict__" then .bad else(look x c.cells).elim .bad λn=>(qF h[n]?).elim .bad λv=>.ok v h
def PG(c:Cx)(l:Loc)(x:Str)(h:List O)(k:NameKind):R V:=match k with
 |.local=>(look x l).elim .bad λv=>.ok v h
 |.cell|.free=>BP c x h
 |.globalImplicit=>(jQ x).elim .bad λv=>.ok v h
 |_=>.bad
def rd(c:Cx)(l:Loc)(x:Str):M V:=λh=>(c.scope.names.lookup x).elim .bad (PG c l x h)
def OE(c:Cx)(x:Str)(v:V)(l:Loc)(h:List O):R Loc:=(look x c.cells).elim .bad λn=>bif jA h[n]? then .ok l (h.set n (.cell (some v)))else .bad
def PH(c:Cx)(x:Str)(v:V)(l:Loc)(h:List O)(k:NameKind):R Loc:=match k with
 |.local=>.ok (put x v l) h
 |.cell=>OE c x v l h
 |_=>.bad
def wr(c:Cx)(x:Str)(v:V)(l:Loc):M Loc:=λh=>(c.scope.names.lookup x).elim .bad (PH c x v l h)
noncomputable def FC(o p:Option Bool):Option Bool:=o.bind λx=>p.map λy=>x&&y
theorem AB {o p:Option Bool}{r:Bool}(h:FC o p=some r):∃x y,o=some x/\p=some y/\(x&&y)=r:=by
 refine aa (Th.mp h) λx f d=>aa (Tn.mp d) λy b c=>aV x y ⟨f,b,c⟩
noncomputable def gC(f:V->V->Option Bool):List V->List V->Option Bool
 | []=>λZ=>some true
 |x::xs=>λb=>@List.casesOn V (λZ=>Option Bool) b (some true) λy b=>FC (f x y) (gC f xs b)
noncomputable def eK(f:V->V->Option Bool)(b:List (Str×V)):List (Str×V)->Option Bool
 | []=>some true
 |p::r=>(eK f b r).bind λq=>(look p.1 b).elim (some false) λw=>(f p.2 w).map λx=>x&&q
noncomputable def dM(o:Option O):Option (List V):=@Option.casesOn O (λZ=>Option (List V)) o Option.none λo=>@O.casesOn (λZ=>Option (List V)) o (λl=>some l) (λZ=>Option.none) (λZ=>Option.none) (λZ Z=>Option.none) (λZ=>Option.none) (λZ Z Z=>Option.none) Option.none
noncomputable def dct(o:Option O):Option (List (Str×V)):=@Option.casesOn O (λZ=>Option (List (Str×V))) o Option.none λo=>@O.casesOn (λZ=>Option (List (Str×V))) o (λZ=>Option.none) (λZ=>Option.none) (λl=>some l) (λZ Z=>Option.none) (λZ=>Option.none) (λZ Z Z=>Option.none) Option.none
noncomputable def oP(o:Option O):Option (Str×List (Str×V)):=@Option.casesOn O (λZ=>Option (Str×List (Str×V))) o Option.none λo=>@O.casesOn (λZ=>Option (Str×List (Str×V))) o (λZ=>Option.none) (λZ=>Option.none) (λZ=>Option.none) (λc l=>some (c,l)) (λZ=>Option.none) (λZ Z Z=>Option.none) Option.none
theorem dx {o:Option O}{l:List V}(h:dM o=some l):o=some (.list l):=by
 induction o using Vx with
 |none=>exact ns h
 |some o=>induction o using O.casesOn with
  |list=>exact Vs (λx=>some (O.list x)) (UB h)
  |_=>exact ns h
theorem fy {o:Option O}{l:List (Str×V)}(h:dct o=some l):o=some (.dict l):=by
 induction o using Vx with
 |none=>exact ns h
 |some o=>induction o using O.casesOn with
  |dict=>exact Vs (λx=>some (O.dict x)) (UB h)
  |_=>exact ns h
theorem rT {o:Option O}{q:Str×List (Str×V)}(h:oP o=some q):o=some (.inst q.1 q.2):=by
 induction o using Vx with
 |none=>exact ns h
 |some o=>induction o using O.casesOn with
  |inst=>exact Vs (λx=>some (O.inst x.1 x.2)) (UB h)
  |_=>exact ns h
theorem gp {c:Type}{o:Option O}{l:List V}{b:c}{f:List V->c}(e:o=some (.list l)):(dM o).elim b f=f l:=by rw[e];rfl
theorem ic {c:Type}{o:Option O}{l:List (Str×V)}{b:c}{f:List (Str×V)->c}(e:o=some (.dict l)):(dct o).elim b f=f l:=by rw[e];rfl
theorem jR {d:Type}{o:Option O}{c:Str}{l:List (Str×V)}{b:d}{f:Str×List (Str×V)->d}(e:o=some (.inst c l)):(oP o).elim b f=f (c,l):=by rw[e];rfl
theorem fA {c β:Type}{o:Option β}{v:β}{b:c}{f:β->c}(e:o=some v):o.elim b f=f v:=by rw[e];rfl
noncomputable def dz(v:V):Option Nat:=@V.casesOn (λZ=>Option Nat) v Option.none (λZ=>Option.none) (λZ=>Option.none) (λZ=>Option.none) (λZ=>Option.none) (λn=>some n)
noncomputable def ie(v:V):Option Str:=@V.casesOn (λZ=>Option Str) v Option.none (λZ=>Option.none) (λZ=>Option.none) (λs=>some s) (λZ=>Option.none) (λZ=>Option.none)
noncomputable abbrev VB:=@V.casesOn.{0}
theorem cS {v:V}(h:dz v=some n):v=.ref n:=by
 induction v using VB with
 |ref=>exact Vs V.ref (UB h)
 |_=>exact ns h
theorem gJ {v:V}{n:Str}(h:ie v=some n):v=.str n:=by
 induction v using VB with
 |str=>exact Vs V.str (UB h)
 |_=>exact ns h
def both {c:Type}(g:Option O->Option c)(h:List O)(a b:V):Option (c×c):=(dz a).bind λm=>(dz b).bind λn=>(g h[m]?).bind λx=>(g h[n]?).map λy=>(x,y)
theorem AE {c:Type}{g:Option O->Option c}{h:List O}{a b:V}{q:c×c}(e:both g h a b=some q):∃m n,a=.ref m/\b=.ref n/\g h[m]?=some q.1/\g h[n]?=some q.2:=by
 refine aa (Th.mp e) λm l e=>aa (Th.mp e) λn d e=>aa (Th.mp e) λx f e=>aa (Tn.mp e) λy j e=>?_;subst e;exact aV m n ⟨cS l,cS d,f,j⟩
theorem tX {b:Type}{g:Option O->Option b}{h:List O}{m:Nat}{x y:b}(d:g h[m]?=some x)(c:g h[n]?=some y):both g h (.ref m) (.ref n)=some (x,y):=by
 show((g h[m]?).bind λx=>(g h[n]?).map λy=>(x,y))=_
 rw[d,c];rfl
theorem vw {c:Type}{g:Option O->Option c}{h:List O}{m:Nat}(b:g h[m]?=none):both g h (.ref m) (.ref n)=none:=by
 show((g h[m]?).bind λx=>(g h[n]?).map λy=>(x,y))=_
 rw[b];rfl
noncomputable def lq(f:V->V->Option Bool)(xs b:List V):Option Bool:=(gC f xs b).map λr=>r&&decide (xs.length=b.length)
noncomputable def OF(b:V):Option Bool:=@V.casesOn (λZ=>Option Bool) b (some true) (λZ=>Option.none) (λZ=>some false) (λZ=>some false) (λZ=>some false) (λZ=>Option.none)
noncomputable def Se(x:Int)(b:V):Option Bool:=@V.casesOn (λZ=>Option Bool) b (some false) (λZ=>Option.none) (λy=>some (decide (x=y))) (λZ=>Option.none) (λZ=>Option.none) (λZ=>Option.none)
noncomputable def Sf(x:Str)(b:V):Option Bool:=@V.casesOn (λZ=>Option Bool) b (some false) (λZ=>Option.none) (λZ=>Option.none) (λy=>some (decide (x=y))) (λZ=>Option.none) (λZ=>Option.none)
noncomputable def Sg(f:V->V->Option Bool)(xs:List V)(b:V):Option Bool:=@V.casesOn (λZ=>Option Bool) b (some false) (λZ=>Option.none) (λZ=>Option.none) (λZ=>Option.none) (λc=>lq f xs c) (λZ=>Option.none)
def Sh(h:List O)(f:V->V->Option Bool)(m:Nat)(b:V):Option Bool:=(dz b).bind λn=>(dM h[m]?).bind λxs=>(dM h[n]?).bind λc=>lq f xs c
def Si(h:List O)(f:V->V->Option Bool)(a b:V):Option Bool:=@V.casesOn (λZ=>Option Bool) a (OF b) (λZ=>Option.none) (λx=>Se x b) (λx=>Sf x b) (λxs=>Sg f xs b) (λm=>Sh h f m b)
noncomputable def cT(h:List O):Nat->V->V->Option Bool
 |0=>λZ Z=>Option.none
 |k+1=>Si h (cT h k)
def eM(h:List O)(a b:V):Option Bool:=(both dct h a b).elim (cT h 8 a b) λq=>(eK (cT h 8) q.2 q.1).map λr=>r&&decide (q.1.length=q.2.length)
def jS(h:List O)(a b:V):Option Bool:=(both dM h a b).elim (eM h a b) λq=>lq (eM h) q.1 q.2
def ig(h:List O)(v:V):Bool:=(dz v).any λn=>(oP h[n]?).isSome
def Mw(a b:V):M Bool:=λh=>(eM h a b).elim ((ie b).elim .bad λZ=>bif ig h a then .ok false h else .bad) λr=>.ok r h
def truth(v:V):M Bool:=@V.casesOn (λZ=>M Bool) v bad (λb=>mr b) (λZ=>bad) (λZ=>bad) (λZ=>bad) λn h=>(dct h[n]?).elim .bad λl=>if l.length<=4096 then .ok (!l.isEmpty) h else .bad
noncomputable def line:Nat:=4096
noncomputable def isNone(v:V):Bool:=@V.casesOn (λZ=>Bool) v true (λZ=>false) (λZ=>false) (λZ=>false) (λZ=>false) (λZ=>false)
noncomputable def eE(v:V):Option Int:=@V.casesOn (λZ=>Option Int) v Option.none (λZ=>Option.none) (λi=>some i) (λZ=>Option.none) (λZ=>Option.none) (λZ=>Option.none)
theorem gK {v:V}{n:Int}(h:eE v=some n):v=.int n:=by
 induction v using VB with
 |int=>exact Vs V.int (UB h)
 |_=>exact ns h
theorem DD {v:V}(h:isNone v=true):v=.none:=by
 induction v using VB with
 |none=>rfl
 |_=>exact ff h
def kL(a b:V):Option (Int×Int):=(eE a).bind λx=>(eE b).map λy=>(x,y)
theorem q5 {a b:V}{q:Int×Int}(h:kL a b=some q):a=.int q.1/\b=.int q.2:=by
 refine aa (Th.mp h) λx d e=>aa (Tn.mp e) λy c e=>?_;rw[<-e];exact⟨gK d,gK c⟩
def H2(a b:V):Option (Str×Str):=(ie a).bind λx=>(ie b).map λy=>(x,y)
def DE(a b:V):Option (Nat×Int):=(dz a).bind λx=>(eE b).map λy=>(x,y)
theorem xr {a b:V}{q:Str×Str}(h:H2 a b=some q):a=.str q.1/\b=.str q.2:=by
 refine aa (Th.mp h) λx d e=>aa (Tn.mp e) λy c e=>?_;rw[<-e];exact⟨gJ d,gJ c⟩
theorem vz {a b:V}{q:Nat×Int}(h:DE a b=some q):a=.ref q.1/\b=.int q.2:=by
 refine aa (Th.mp h) λx d e=>aa (Tn.mp e) λy c e=>?_;rw[<-e];exact⟨cS d,gK c⟩
def na(a b:V)(g:Int×Int->Bool)(f:Int×Int->Int):M V:=λh=>(kL a b).elim .bad λq=>bif g q then .ok (.int (f q)) h else .bad
def DF(a b:V):M V:=λh=>(H2 a b).elim .bad λq=>bif decide (q.1.length+q.2.length<=line)then .ok (.str (q.1++q.2)) h else .bad
def AF(a b:V):M V:=λh=>(DE a b).elim .bad λq=>(dM h[q.1]?).elim .bad λl=>bif decide (0<=q.2)&&(decide (q.2<=line)&&decide (l.length*q.2.toNat<=line))then .ok (.ref h.length) (h++ [.list (List.replicate q.2.toNat l).flatten])else .bad
def ah(op:Operator)(a b:V):M V:=match op with
 |.Add=>bif (eE a).isSome then na a b (λZ=>true) (λq=>q.1+q.2)else DF a b
 |.Sub=>na a b (λZ=>true) (λq=>q.1-q.2)
 |.Mult=>bif (eE a).isSome then na a b (λq=>decide (q.1.natAbs<2^2000)&&decide (q.2.natAbs<2^2000)) (λq=>q.1*q.2)else AF a b
 |.FloorDiv=>na a b (λq=> !(decide (q.2=0))&&decide (q.2.natAbs<2^2000)) (λq=>q.1.fdiv q.2)
 |.Mod=>na a b (λq=> !(decide (q.2=0))) (λq=>q.1.fmod q.2)
 |.Pow=>na a b (λq=>decide (0<=q.2)&&(decide (q.2<=4096)&&decide (q.1.natAbs<2^2000))) (λq=>q.1^q.2.toNat)
 |_=>bad
noncomputable def tY(b:Str):V->Bool
 |.str t=>decide (t=b)
 |_=>false
noncomputable def xt:V->Bool
 |.str _=>true
 |_=>false
def cmp(op:CmpOp)(a b:V):M Bool:=λh=>match op with
 |.Eq=>Mw a b h
 |.NotEq=>(jS h a b).elim .bad λr=>.ok (!r) h
 |.Is=>bif isNone b then .ok (isNone a) h else .bad
 |.IsNot=>bif isNone b then .ok (!isNone a) h else .bad
 |.Lt=>(kL a b).elim .bad λq=>.ok (decide (q.1<q.2)) h
 |.LtE=>(kL a b).elim .bad λq=>.ok (decide (q.1<=q.2)) h
 |.Gt=>(kL a b).elim .bad λq=>.ok (decide (q.1>q.2)) h
 |.GtE=>(kL a b).elim .bad λq=>.ok (decide (q.1>=q.2)) h
 |.In=>memb a b h
 |.NotIn=>(match memb a b h with|.ok r h'=>.ok (!r) h'|.exc e h'=>.exc e h'|.bad=>.bad)
where
 memb (a b:V):M Bool:=λh=>(ie a).elim .bad λs=>@V.casesOn (λZ=>R Bool) b .bad (λZ=>.bad) (λZ=>.bad) (λZ=>.bad) (λl=>if l.all xt then .ok (l.any (tY s)) h else .bad)
  (λn=>(dct h[n]?).elim .bad λl=>.ok (look s l).isSome h)
noncomputable def jL(a:Str):Bool:=a= "kind"||a= "items"||a= "attrs"||a= "shared"||a= "loose"
def aN(o:V)(a:Str):M V:=λh=>bif jL a then(dz o).elim .bad λn=>(oP h[n]?).elim .bad λq=>(look a q.2).elim .bad λv=>.ok v h else .bad
def dF(o:V)(a:Str)(v:V):M Unit:=λh=>bif jL a then(dz o).elim .bad λn=>(oP h[n]?).elim .bad λq=>if q.2.length<=64 then .ok () (h.set n (.inst q.1 (put a v q.2)))else .bad else .bad
def cH(d k v:V):M Unit:=λh=>(dz d).elim .bad λn=>(ie k).elim .bad λs=>(dct h[n]?).elim .bad λl=>if l.length<=line then .ok () (h.set n (.dict (put s v l)))else .bad
noncomputable def FD(l:List V)(k:Int):M V:=λh=>if 0<=k/\k<2^62 then(l[k.toNat]?).elim .bad λv=>.ok v h else .bad
noncomputable def kM(l:List V)(k:Int):M V:=λh=>if 0<=k/\k<2^62 then(l[k.toNat]?).elim .bad λv=>.ok v h
 else if k= -1/\l.length<2^62 then(l.getLast?).elim .bad λv=>.ok v h else .bad
def ak(o i:V):M V:=@V.casesOn (λZ=>M V) o bad (λZ=>bad) (λZ=>bad) (λZ=>bad) (λl h=>(eE i).elim .bad λk=>FD l k h)
 (λn=>@V.casesOn (λZ=>M V) i bad (λZ=>bad) (λk h=>(dM h[n]?).elim .bad λl=>kM l k h) (λs h=>(dct h[n]?).elim .bad λl=>(look s l).elim .bad λv=>.ok v h) (λZ=>bad) (λZ=>bad))
noncomputable def rU:Option O->Option (List V)
 |some (.list l)=>some l
 |some (.flist l)=>some l
 |_=>Option.none
def kN(o:V)(k:Int):M V:=λh=>(dz o).elim .bad λn=>(rU h[n]?).elim .bad λl=>if 0<=k/\k<=line/\l.length<=line*line then .ok (.ref h.length) (h++ [.list (l.take k.toNat)])else .bad
noncomputable def q6(m:Str):Bool:=decide (m= "append")||(decide (m= "pop")||decide (m= "reverse"))
def bQ(o:V)(m:Str):M Unit:=λh=>(dz o).elim .bad λn=>bif q6 m then(dM h[n]?).elim .bad λZ=>.ok () h else bif decide (m= "get")then(dct h[n]?).elim .bad λZ=>.ok () h else .bad
noncomputable def fc(l:List V):Option V:=@List.casesOn V (λZ=>Option V) l Option.none λv r=>bif r.isEmpty then some v else Option.none
theorem DG {l:List V}{v:V}(h:fc l=some v):l= [v]:=by
 induction l using Vz with
 |nil=>exact ns h
 |cons w r=>induction r using Vz with
  |nil=>rw[UB h]
  |cons=>exact ns h
def Mx(l:List V):Option (Str×V):=@List.casesOn V (λZ=>Option (Str×V)) l Option.none λv r=>(ie v).bind λs=>bif r.isEmpty then some (s,.none)else(fc r).map λd=>(s,d)
theorem IN {l:List V}{q:Str×V}(h:Mx l=some q):(l= [.str q.1]/\q.2=.none)\/l= [.str q.1,q.2]:=by
 induction l using Vz with
 |nil=>exact ns h
 |cons w r=>
  refine aa (Th.mp h) λs c e=>?_;rw[gJ c];induction r using Vz with
  |nil=>rw[<-UB e];exact .inl ⟨rfl,rfl⟩
  |cons=>
   refine aa (Tn.mp e) λd b e=>?_;rw[DG b,<-e];exact .inr rfl
def md(n:Nat)(l as:List V):M V:=λh=>(fc as).elim .bad λv=>if l.length<line*line then .ok .none (h.set n (.list (l++ [v])))else .bad
def xu(n:Nat)(l as:List V):M V:=λh=>bif as.isEmpty then if l.length<=line*line then(l.getLast?).elim .bad λv=>.ok v (h.set n (.list l.dropLast))else .bad else .bad
def xw(n:Nat)(l as:List V):M V:=λh=>bif as.isEmpty then if l.length<=line*line then .ok .none (h.set n (.list l.reverse))else .bad else .bad
def BQ(l:List (Str×V))(as:List V):M V:=λh=>(Mx as).elim .bad λq=>.ok ((look q.1 l).getD q.2) h
def bN(o:V)(m:Str)(as:List V):M V:=λh=>(dz o).elim .bad λn=>bif decide (m= "get")then(dct h[n]?).elim .bad λl=>BQ l as h
 else(dM h[n]?).elim .bad λl=>if m= "append" then md n l as h else if m= "pop" then xu n l as h else if m= "reverse" then xw n l as h else .bad
noncomputable def xx(x:Str):Bool:=x= "len"||x= "abs"||x= "max"||x= "min"||x= "list"||x= "dict"||x= "chr"||x= "str"
noncomputable def xy:List V->Option Nat
 | [.ref n]=>some n
 |_=>Option.none
noncomputable def xz:List V->Option Int
 | [.int i]=>some i
 |_=>Option.none
noncomputable def DH:List V->Option (Int×Int)
 | [.int i,.int j]=>some (i,j)
 |_=>Option.none
theorem xA {l:List V}(h:xy l=some n):l= [.ref n]:=by
 rcases l with _|⟨v,_|⟨w,r⟩⟩
 ·exact ns h
 ·induction v using VB with
  |ref n=>injection h with h;rw[h]
  |_=>exact ns h
 ·induction v using VB with
  |_=>exact ns h
theorem xB {l:List V}{n:Int}(h:xz l=some n):l= [.int n]:=by
 rcases l with _|⟨v,_|⟨w,r⟩⟩
 ·exact ns h
 ·induction v using VB with
  |int n=>injection h with h;rw[h]
  |_=>exact ns h
 ·induction v using VB with
  |_=>exact ns h
theorem DJ {l:List V}{q:Int×Int}(h:DH l=some q):l= [.int q.1,.int q.2]:=by
 rcases l with _|⟨v,_|⟨w,_|⟨x,r⟩⟩⟩
 ·exact ns h
 ·induction v using VB with
  |_=>exact ns h
 ·induction v using VB with
  |int i=>induction w using VB with
   |int j=>injection h with h;subst h;rfl
   |_=>exact ns h
  |_=>exact ns h
 ·induction v using VB with
  |int i=>induction w using VB with
   |_=>exact ns h
  |_=>exact ns h
def FE(n:Nat):M V:=λh=>(dM h[n]?).elim .bad λl=>if l.length<2^40 then .ok (.int l.length) h else .bad
def BR(n:Nat):M V:=λh=>(dM h[n]?).elim .bad λl=>if l.length<=line*line then .ok (.ref h.length) (h++ [.list l])else .bad
def BS(n:Nat):M V:=λh=>(dct h[n]?).elim .bad λl=>if l.length<=line then .ok (.ref h.length) (h++ [.dict l])else .bad
noncomputable def fG {b:Type}(o:Option b)(f:b->M V):M V:=λh=>o.elim .bad λa=>f a h
def builtin(x:Str)(as:List V):M V:=λh=>
 if x= "len" then fG (xy as) FE h
 else if x= "abs" then fG (xz as) (λi=>mr (.int i.natAbs)) h
 else if x= "max" then fG (DH as) (λq=>mr (.int (if q.2>q.1 then q.2 else q.1))) h
 else if x= "min" then fG (DH as) (λq=>mr (.int (if q.2<q.1 then q.2 else q.1))) h
 else if x= "list" then fG (xy as) BR h
 else if x= "dict" then fG (xy as) BS h
 else if x= "chr" then fG (xz as) (λi h=>if 0<=i/\i<128 then .ok (.str ⟨#[i.toNat]⟩) h else .bad) h
 else if x= "str" then fG (xz as) (λi h=>if i.natAbs<2^1000 then .ok (.str (Str.ofString (toString i))) h else .bad) h
 else .bad
inductive It where
 |list (n:Nat)
 |vals (l:List V)
 |range (k:Nat)
 |keys (n:Nat) (ks:List Str)
 |items (n:Nat) (ks:List Str)
def bY(v:V):M It:=@V.casesOn (λZ=>M It) v bad (λZ=>bad) (λZ=>bad) (λZ=>bad) (λl=>mr (.vals l)) λn h=>(dM h[n]?).elim ((dct h[n]?).elim .bad λl=>.ok (.keys n (l.map (·.1))) h) λZ=>.ok (.list n) h
def rV(h:List O)(i:Nat)(it:It):Option (Option V):=@It.casesOn (λZ=>Option (Option V)) it (λn=>(dM h[n]?).map λl=>l[i]?) (λl=>some l[i]?) (λk=>some (if i<k then some (.int i)else Option.none))
 (λn ks=>(dct h[n]?).bind λl=>if l.map (·.1)=ks then some (ks[i]?.map .str)else Option.none) (λn ks=>(dct h[n]?).bind λl=>if l.map (·.1)=ks then some (l[i]?.map λp=>.tup [.str p.1,p.2])else Option.none)
def ci(it:It)(i:Nat):M (Option V):=λh=>(rV h i it).elim .bad λr=>.ok r h
noncomputable def eO {b:Type}(m:M b):M b:=λh=>match m h with
 |.exc _ _=>.bad
 |r=>r
noncomputable def ij(body:V->Loc->M (Fl×Loc))(it:It):Nat->Nat->Loc->M (Fl×Loc)
 |0,_,_=>bad
 |k+1,i,l=>mq (ci it i) λr=>match r with
  |Option.none=>mr (.next,l)
  |some v=>mq (eO (body v l)) λp=>match p.1 with
   |.ret v=>mr (.ret v,p.2)
   |_=>ij body it k (i+1) p.2
noncomputable def cz(turn:V->M (Option V))(it:It):Nat->Nat->List V->M (List V)
 |0,_,_=>bad
 |k+1,i,acc=>mq (ci it i) λr=>match r with
  |Option.none=>mr acc
  |some v=>mq (eO (turn v)) λq=>cz turn it k (i+1) (match q with|some x=>acc++ [x]|Option.none=>acc)
noncomputable def me(c:Loc->M Bool)(body:Loc->M (Fl×Loc)):Nat->Loc->M (Fl×Loc)
 |0,_=>bad
 |k+1,l=>mq (eO (c l)) λb=>match b with
  |false=>mr (.next,l)
  |true=>mq (eO (body l)) λp=>match p.1 with
   |.ret v=>mr (.ret v,p.2)
   |_=>me c body k p.2
noncomputable def eP(e:Expr):Bool:=by
 induction e using Expr.casesOn with
 |Call=>exact true
 |_=>exact false
noncomputable def bZ(e:Expr):Bool:=by
 induction e using Expr.casesOn with
 |Name=>exact true
 |_=>exact false
noncomputable def mf(e:Expr):Bool:=by
 induction e using Expr.casesOn with
 |Slice=>exact true
 |_=>exact false
noncomputable def bI(e:Expr):Bool:=by
 induction e using Expr.casesOn with
 |Starred=>exact true
 |_=>exact false
noncomputable def H3(e:Expr):Bool:=by
 induction e using Expr.casesOn with
 |Tuple=>exact true
 |_=>exact false
def b6(it:It)(t:Expr):Bool:=@It.casesOn (λZ=>Bool) it (λZ=>H3 t||bZ t) (λZ=>bZ t) (λZ=>bZ t) (λZ Z=>bZ t) (λZ Z=>H3 t)
noncomputable def dN(f:Expr->M V):List Expr->M (List V)
 | []=>mr []
 |e::r=>if bI e then bad else mq (f e) λv=>mq (dN f r) λvs=>mr (v::vs)
noncomputable def AG(f:Expr->M V)(op:BoolOp):List Expr->M V
 | []=>bad
 | [x]=>f x
 |x::r=>mq (f x) λv=>mq (truth v) λb=>match op,b with
  |.And,false|.Or,true=>mr v
  |_,_=>AG f op r
noncomputable def nc(f:Expr->M Bool)(op:BoolOp):List Expr->M Bool
 | []=>mr (match op with|.And=>true|.Or=>false)
 |x::r=>mq (f x) λb=>match op,b with
  |.And,false=>mr false
  |.Or,true=>mr true
  |_,_=>nc f op r
noncomputable def db(f:Loc->Stmt->M (Fl×Loc)):List Stmt->Loc->M (Fl×Loc)
 | [],l=>mr (.next,l)
 |s::r,l=>mq (f l s) λp=>match p.1 with
  |.next=>db f r p.2
  |x=>mr (x,p.2)
noncomputable def mh(e:Expr):Option Str:=by
 induction e using Expr.casesOn with
 |Name x=>exact some x
 |_=>exact Option.none
theorem ik(h:mh e=some x):∃p,e=.Name x p:=by
 induction e using Vy with
 |Name x p=>injection h with h;subst h;exact⟨p,rfl⟩
 |_=>exact ns h
noncomputable def names?:List Expr->Option (List Str)
 | []=>some []
 |e::r=>(mh e).bind λx=>(names? r).map (x:: ·)
noncomputable def eG(c:Cx):List Str->List V->Loc->M Loc
 | [],vs,l=>(match vs with| []=>mr l|_::_=>bad)
 |x::xs,vs,l=>(match vs with|v::vs=>mq (wr c x v l) λb=>eG c xs vs b| []=>bad)
theorem ng {c:Cx}{xs:List Str}{v:V}{vs:List V}{l:Loc}:eG c (x::xs) (v::vs) l=mq (wr c x v l) λb=>eG c xs vs b:=rfl
noncomputable def jB(v:V):Option (List V):=@V.casesOn (λZ=>Option (List V)) v Option.none (λZ=>Option.none) (λZ=>Option.none) (λZ=>Option.none) (λl=>some l) (λZ=>Option.none)
theorem xC {v:V}{l:List V}(h:jB v=some l):v=.tup l:=by
 induction v using VB with
 |tup=>exact Vs V.tup (UB h)
 |_=>exact ns h
def jq(c:Cx)(b:List Expr)(v:V)(l:Loc):M Loc:=λh=>(names? b).elim .bad λxs=>(jB v).elim .bad λvs=>if xs.length=vs.length then eG c xs vs l h else .bad
def target(c:Cx)(t:Expr)(v:V)(l:Loc):M Loc:=by
 induction t using Expr.casesOn with
 |Name x=>exact wr c x v l
 |Tuple ts=>exact jq c ts v l
 |_=>exact bad
noncomputable def My(k:Const):Option Int:=by
 induction k using Const.casesOn with
 |int k=>exact some k
 |_=>exact Option.none
noncomputable def xD(k:Const):Option Str:=by
 induction k using Const.casesOn with
 |str k=>exact some k
 |_=>exact Option.none
theorem IP {i:Int}(h:My k=some i):k=.int i:=by
 induction k using Const.casesOn with
 |int=>exact Vs Const.int (UB h)
 |_=>exact ns h
theorem AH {i:Str}(h:xD k=some i):k=.str i:=by
 induction k using Const.casesOn with
 |str=>exact Vs Const.str (UB h)
 |_=>exact ns h
noncomputable def q7(e:Expr):Option Const:=by
 induction e using Expr.casesOn with
 |Constant k=>exact some k
 |_=>exact Option.none
theorem tZ(h:q7 e=some k):∃i p,e=.Constant k i p:=by
 induction e using Vy with
 |Constant k i p=>rw[UB h];exact aV i p rfl
 |_=>exact ns h
noncomputable def PI(e:Expr):Option Expr:=by
 induction e using Expr.casesOn with
 |FormattedValue e cv fs=>exact bif decide (cv= -1)&&fs.isNone then some e else Option.none
 |_=>exact Option.none
theorem Mz {x:Expr}(h:PI e=some x):∃p,e=.FormattedValue x (-1) Option.none p:=by
 induction e using Vy with
 |FormattedValue e cv fs p=>
  replace h:(bif decide (cv= -1)&&fs.isNone then some e else Option.none)=some x:=h
  induction b:decide (cv= -1)&&fs.isNone using VA with
  |false=>rw[b]at h;exact ns h
  |true=>
   rw[b]at h;have b:=Tu.mp b;exact⟨p,by rw[UB h,Ub b.1,S8.mp b.2]⟩
 |_=>exact ns h
def nh(e:Expr):Option (Str ⊕ Expr):=(((q7 e).bind xD).map Sum.inl).or ((PI e).map Sum.inr)
theorem DK {s:Str}(h:nh e=some (.inl s)):∃k p,e=.Constant (.str s) k p:=by
 unfold nh at h;induction hc:(q7 e).bind xD using Vx with
 |none=>rw[hc]at h;exact aa (Tn.mp h) λx Z z=>nomatch z
 |some t=>
  rw[hc]at h;rw[<-Sum.inl.inj (UB h)];exact aa (Th.mp hc) λk c b=>cI (tZ c) λi p z=>aV i p (by rw[z,AH b])
theorem DL {x:Expr}(h:nh e=some (.inr x)):∃p,e=.FormattedValue x (-1) Option.none p:=by
 unfold nh at h;induction hc:(q7 e).bind xD using Vx with
 |none=>rw[hc]at h;exact aa (Tn.mp h) λy b z=>Sum.inr.inj z▸Mz b
 |some t=>rw[hc]at h;exact nomatch (UB h)
def part(b:Str)(v:V):M Str:=(eE v).elim bad λi=>if i.natAbs<2^1000/\b.length+(Str.ofString (toString i)).length<=line then mr (b++Str.ofString (toString i))else bad
noncomputable def ej(f:Expr->M V):List Expr->Str->M Str
 | [],acc=>mr acc
 |e::r,acc=>(nh e).elim bad λq=>match q with
   |.inl s=>if acc.length+s.length<=line then ej f r (acc++s)else bad
   |.inr e=>mq (f e) λv=>mq (part acc v) λa=>ej f r a
def cq(c:Cx)(sc:Scope):List (Str×Nat):=sc.names.filterMap λp=>match p.2 with
 |.free=>(look p.1 c.cells).map (p.1,·)
 |_=>Option.none
noncomputable def BU(c:Cx)(sc:Scope):Scope:= {sc with names:=sc.names.map λ(n,k)=>if(k==.free&&c.scope.kind==.function&&c.scope.names.lookup n==some .cell)then(n,.cell)else(n,k) }
def fH(c:Cx)(sc:Scope):Bool:=sc.kind==.function&&sc.names.all λp=>p.2 !=.cell&&(p.2 !=.local||sc.names.lookup p.1==some .local)&&(p.2 !=.free||(look p.1 c.cells).isSome)
def cr(c:Cx)(sc:Scope):Cx:=⟨Str.empty,BU c sc,cq c sc⟩
noncomputable def jC(sc:Scope):Bool:=sc.kind==.function&&sc.isGenerator==false&&sc.isCoroutine==false&&sc.names.all λp=>p.2 !=.cell&&p.2 !=.local
def pQ(c:Cx)(sc:Scope):Bool:=decide (c.name= "law")&&sc.kind==.function&&sc.isGenerator==false&&sc.isCoroutine==false&&sc.names.all λp=>p.2 !=.cell&&p.2 !=.local&&(p.2 !=.free||(look p.1 c.cells).isSome)
noncomputable def hj(sc:Scope):M (List (Str×Nat)):=go sc.names
where
 go:List (Str×NameKind)->M (List (Str×Nat))
  | []=>mr []
  |(x,k)::r=>match k with
   |.cell=>λh=>(mq (go r) λl=>mr ((x,h.length)::l)) (h++ [.cell Option.none])
   |_=>go r
structure Fn where
 params:Arguments
 body:List Stmt
 scope:Scope
noncomputable def nj(s:Stmt):Option Fn:=by
 induction s using Stmt.casesOn with
 |FunctionDef _ a b _ _ _ sc=>exact some ⟨a,b,sc⟩
 |_=>exact Option.none
def Sj(e:Expr):Bool:=(q7 e).any λk=>by
 induction k using Const.casesOn with
 |none=>exact true
 |_=>exact false
def pS(ps:List Arg)(ds:List Expr)(vs:List V):Option (List (Str×V)):=
 if vs.length=ps.length then some ((ps.map (·.arg)).zip vs)
 else bif ds.length==1&&ds.all Sj then(if vs.length+1=ps.length then some ((ps.map (·.arg)).zip (vs++ [.none]))else Option.none)else Option.none
structure Itp where
 ev:Cx->Loc->Expr->M V
 tst:Cx->Loc->Expr->M Bool
 ex:Cx->Loc->Stmt->M (Fl×Loc)
 call:Str->List V->M V
structure Prg where
 fn:Str->Option Fn
 init:Str->Option Fn
noncomputable def nq(P:Prg)(f:Str):Bool:=(P.fn f).isSome||(P.init f).isSome
def fj(I:Itp)(x:Str)(f:Fn)(vs:List V):M V:=match pS f.params.args f.params.defaults vs with
 |some bs=>mq (hj f.scope) λb=>mq (eG ⟨x,f.scope,b⟩ (bs.map (·.1)) (bs.map (·.2)) []) λl=>
   mq (db (I.ex ⟨x,f.scope,b⟩) f.body l) λp=>mr (match p.1 with|.ret v=>v|_=>.none)
 |Option.none=>bad
def gE(I:Itp)(c:Cx)(t f:Expr)(d:List Expr)(v:V):M (Option V):=
 mq (target c t v []) λg=>mq (nc (I.tst c g) .And d) λb=>match b with
  |true=>mq (I.ev c g f) λx=>mr (some x)
  |false=>mr Option.none
def uc(I:Itp)(wf:Nat)(c:Cx)(l:Loc)(f:Expr)(t b:Expr)(d:List Expr)(sc:Scope)(jT:Cx->Loc->Expr->M It):M (List V):=
 if !bZ t|| !fH c sc||decide (1<d.length)then bad else mq (jT c l b) λit=>if b6 it t=false then bad else
  cz (gE I (cr c sc) t f d) it wf 0 []
noncomputable def im(e:Expr):Bool:=by
 induction e using Expr.casesOn with
 |ListComp=>exact true
 |SetComp=>exact true
 |DictComp=>exact true
 |_=>exact false
def MA:List Expr->Option (Str×Str)
 | [a,b]=>(mh a).bind λx=>(mh b).map λy=>(x,y)
 |_=>Option.none
theorem MB {f:List Expr}{q:Str×Str}(h:MA f=some q):∃p d,f= [.Name q.1 p,.Name q.2 d]:=by
 rcases f with _|⟨a,_|⟨b,_|⟨c,r⟩⟩⟩
 case cons.cons.nil=>
  obtain⟨x,t,g⟩:=Th.mp h;obtain⟨y,l,j⟩:=Tn.mp g
  clear h g
  obtain⟨p,rfl⟩:=ik t;obtain⟨d,rfl⟩:=ik l;subst j;exact aV p d rfl
 all_goals exact ns h
def oQ(b:List Expr)(e:Expr):Bool:=by
 induction e using Expr.casesOn with
 |Tuple vs=>exact(MA b).elim false λq=>decide (q.1≠q.2)&& !(vs.all (constantsAlone 8))
 |_=>exact true
noncomputable def oR(e:Expr):Bool:=by
 induction e using Expr.casesOn with
 |Set=>exact true
 |_=>exact false
def dI(v:V):M It:=λh=>(dz v).elim .bad λn=>(dct h[n]?).elim .bad λd=>.ok (.items n (d.map (·.1))) h
noncomputable def BW(e:Expr):Option (Expr×List Expr×Pos):=by
 induction e using Expr.casesOn with
 |Call f as ks pos=>exact bif ks.isEmpty then some (f,as,pos)else Option.none
 |_=>exact Option.none
theorem xE {q:Expr×List Expr×Pos}(h:BW e=some q):e=.Call q.1 q.2.1 [] q.2.2:=by
 induction e using Vy with
 |Call f as ks pos=>induction ks using Vz with
  |nil=>rw[<-UB h]
  |cons=>exact ns h
 |_=>exact ns h
noncomputable def xF(e:Expr):Option (Expr×Str×Pos):=by
 induction e using Expr.casesOn with
 |Attribute o a p=>exact some (o,a,p)
 |_=>exact Option.none
theorem ue {q:Expr×Str×Pos}(h:xF e=some q):e=.Attribute q.1 q.2.1 q.2.2:=by
 induction e using Vy with
 |Attribute=>rw[<-UB h]
 |_=>exact ns h
noncomputable def fI {b:Type}(l:List b):Option b:=@List.casesOn b (λZ=>Option b) l Option.none λv r=>bif r.isEmpty then some v else Option.none
theorem dp {b:Type}{l:List b}{v:b}(h:fI l=some v):l= [v]:=by
 induction l using Vz with
 |nil=>exact ns h
 |cons w r=>induction r using Vz with
  |nil=>rw[UB h]
  |cons=>exact ns h
def nu(e:Expr):Option (Str×Expr):=(BW e).bind λq=>(mh q.1).bind λf=>(fI q.2.1).map λa=>(f,a)
def rW(e:Expr):Option (Expr×Str×Bool):=(BW e).bind λq=>(xF q.1).bind λr=>bif q.2.1.isEmpty then some (r.1,r.2.1,r.2.2.endLine==q.2.2.line)else Option.none
theorem xG {q:Str×Expr}(h:nu e=some q):∃p pos,e=.Call (.Name q.1 p) [q.2] [] pos:=by
 refine aa (Th.mp h) λr g h=>aa (Th.mp h) λf b h=>aa (Tn.mp h) λa c h=>am (ik b) λp d=>?_;rw[<-h];exact aV p r.2.2 (by rw[xE g,d,dp c])
theorem FF {q:Expr×Str×Bool}(h:rW e=some q):∃ap pos,e=.Call (.Attribute q.1 q.2.1 ap) [] [] pos/\q.2.2=(ap.endLine==pos.line):=by
 refine aa (Th.mp h) λr c h=>aa (Th.mp h) λf b h=>?_;induction hb:r.2.1.isEmpty using VA with
 |false=>rw[hb]at h;exact ns h
 |true=>
  rw[hb]at h;rw[<-UB h];exact aV f.2.2 r.2.2 ⟨by rw[xE c,ue b,Uf.mp hb],rfl⟩
def bt(v:V):M It:=λh=>(eE v).elim .bad λk=>if k<2^62/\ -(2^62)<=k then .ok (.range k.toNat) h else .bad
def jT(I:Itp)(c:Cx)(l:Loc)(e:Expr):M It:=if oR e then bad else match nu e with
 |some q=>if q.1= "range"/\c.scope.names.lookup q.1=some .globalImplicit/\bI q.2=false then mq (I.ev c l q.2) bt else mq (I.ev c l e) bY
 |Option.none=>match rW e with
  |some q=>if q.2.1= "items"/\eP q.1=false/\q.2.2=true then mq (I.ev c l q.1) dI else mq (I.ev c l e) bY
  |Option.none=>mq (I.ev c l e) bY
def MC(l:List (Str×V))(p:Str×V):List (Str×V):=put p.1 p.2 l
noncomputable def mi:V->Str×V
 |.tup [.str k,v]=>(k,v)
 |_=>(Str.empty,.none)
def bR(ps:List V):List (Str×V):=ps.foldl (λl p=>MC l (mi p)) []
def eQ(I:Itp)(c:Cx)(t k v:Expr)(x:V):M (Option V):=
 mq (target c t x []) λd=>mq (I.ev c d k) λb=>mq (I.ev c d v) λf=>match b with
  |.str _=>mr (some (.tup [b,f]))
  |_=>bad
def rX {c:Type}(l:List c):Option (c×c):=@List.casesOn c (λZ=>Option (c×c)) l Option.none λa r=>(fI r).map λb=>(a,b)
def rY {c:Type}(l:List c):Option (c×c×c):=@List.casesOn c (λZ=>Option (c×c×c)) l Option.none λa r=>(rX r).map λb=>(a,b)
theorem oS {c:Type}{l:List c}{q:c×c}(h:rX l=some q):l= [q.1,q.2]:=by
 induction l using Vz with
 |nil=>exact ns h
 |cons a r=>exact aa (Tn.mp h) λb e z=>by rw[dp e,<-z]
theorem oU {c:Type}{l:List c}{q:c×c×c}(h:rY l=some q):l= [q.1,q.2.1,q.2.2]:=by
 induction l using Vz with
 |nil=>exact ns h
 |cons a r=>exact aa (Tn.mp h) λb e z=>by rw[oS e,<-z]
theorem FG {b:Type}{l:List b}(h:l.length=1):∃a,fI l=some a:=by
 induction l using Vz with
 |nil=>exact nomatch h
 |cons a r=>induction r using Vz with
  |nil=>exact⟨a,rfl⟩
  |cons=>exact nomatch h
theorem AJ {c:Type}{l:List c}(h:l.length=2):∃q,rX l=some q:=by
 induction l using Vz with
 |nil=>exact nomatch h
 |cons a r=>exact am (FG (Vd h)) λb e=>⟨(a,b),by show(fI r).map _=_;rw[e];rfl⟩
theorem IQ {c:Type}{l:List c}(h:l.length=3):∃q,rY l=some q:=by
 induction l using Vz with
 |nil=>exact nomatch h
 |cons a r=>exact am (AJ (Vd h)) λb e=>⟨(a,b),by show(rX r).map _=_;rw[e];rfl⟩
def BX(o:Option Expr):Option Str:=(o.bind q7).bind xD
theorem uf {o:Option Expr}(h:BX o=some x):∃i p,o=some (.Constant (.str x) i p):=
 aa (Th.mp h) λc g b=>aa (Th.mp g) λe d f=>cI (tZ f) λi p z=>aV i p (by rw[d,z,AH b])
def FH(l:List (Option Expr)):Option (Str×Str×Str):=(rY l).bind λt=>(BX t.1).bind λx=>(BX t.2.1).bind λy=>(BX t.2.2).map λz=>(x,y,z)
theorem IR {ks:List (Option Expr)}{q:Str×Str×Str}(h:FH ks=some q):∃b c j g d f,ks= [some (.Constant (.str q.1) b c),some (.Constant (.str q.2.1) j g),some (.Constant (.str q.2.2) d f)]:=by
 refine aa (Th.mp h) λt v h=>aa (Th.mp h) λx l h=>aa (Th.mp h) λy p h=>aa (Tn.mp h) λz A h=>cI (uf l) λb c u=>cI (uf p) λj g r=>cI (uf A) λd f w=>Lg b c j g d f ?_;rw[oU v,u,r,w,<-h]
def MD(e:Expr):Option Int:=(q7 e).bind My
def BY(e:Expr):Option Int:=by
 induction e using Expr.casesOn with
 |Slice a b c=>exact bif a.isNone&&c.isNone then b.bind MD else Option.none
 |_=>exact Option.none
theorem IS {k:Int}(h:MD e=some k):∃i p,e=.Constant (.int k) i p:=
 aa (Th.mp h) λc d b=>cI (tZ d) λi p z=>aV i p (by rw[z,IP b])
theorem FI {k:Int}(h:BY e=some k):∃kd p0 p1,e=.Slice Option.none (some (.Constant (.int k) kd p0)) Option.none p1:=by
 induction e using Vy with
 |Slice a b c p=>
  induction a using Vx with
  |some=>exact ns h
  |none=>induction c using Vx with
   |some=>exact ns h
   |none=>induction b using Vx with
    |none=>exact ns h
    |some b=>exact cI (IS h) λi q z=>by rw[z];exact bJ i q p rfl
 |_=>exact ns h
noncomputable def clo(o:Option O):Option (Expr×Scope×List (Str×Nat)):=@Option.casesOn O (λZ=>Option (Expr×Scope×List (Str×Nat))) o Option.none λo=>@O.casesOn (λZ=>Option (Expr×Scope×List (Str×Nat))) o (λZ=>Option.none) (λZ=>Option.none) (λZ=>Option.none) (λZ Z=>Option.none) (λZ=>Option.none) (λb sc c=>some (b,sc,c)) Option.none
noncomputable def BZ(o:Option O):Bool:=@Option.casesOn O (λZ=>Bool) o false λo=>@O.casesOn (λZ=>Bool) o (λZ=>false) (λZ=>false) (λZ=>false) (λZ Z=>false) (λZ=>false) (λZ Z Z=>false) true
theorem IT {o:Option O}{q:Expr×Scope×List (Str×Nat)}(h:clo o=some q):o=some (.clo q.1 q.2.1 q.2.2):=by
 induction o using Vx with
 |none=>exact ns h
 |some o=>induction o using O.casesOn with
  |clo=>exact Vs (λx=>some (O.clo x.1 x.2.1 x.2.2)) (UB h)
  |_=>exact ns h
theorem FJ {o:Option O}(h:BZ o=true):o=some .tab:=by
 induction o using Vx with
 |none=>exact ff h
 |some o=>induction o using O.casesOn with
  |tab=>rfl
  |_=>exact ff h
noncomputable def ME(k:Const):M V:=by
 induction k using Const.casesOn with
 |none=>exact mr .none
 |bool b=>exact mr (.bool b)
 |int i=>exact mr (.int i)
 |str s=>exact mr (.str s)
 |_=>exact bad
def nz(v:V):M V:=λh=>(eE v).elim .bad λi=>.ok (.int (-i)) h
def SA(op:UnaryOp)(m:M V):M V:=by
 induction op using UnaryOp.casesOn with
 |USub=>exact mq m nz
 |Not=>exact mq m λx=>mq (truth x) λb=>mr (.bool (!b))
 |_=>exact bad
def ug {d:Type}(c:List CmpOp)(bs:List Expr)(f:CmpOp->Expr->M d):M d:=(fI c).elim bad λop=>(fI bs).elim bad λb=>if behindInMarks op b then bad else f op b
def nC(h:List O)(v:V):Option Str:=((dz v).bind λn=>oP h[n]?).map (·.1)
def isV(k:Str)(v:V):M V:=λh=>if k= "Vector" then(nC h v).elim .bad λb=>if b= "Vector" then .ok (.bool true) h else .bad
 else if k= "str" then bif (ie v).isSome then .ok (.bool true) h else(nC h v).elim .bad λb=>if b= "Vector" then .ok (.bool false) h else .bad
 else .bad
def MF(as:List Expr):Option (Expr×Str):=(rX as).bind λq=>(mh q.2).map λk=>(q.1,k)
def B0(I:Itp)(v:V):M V:=λh=>((dz v).bind λn=>clo h[n]?).elim .bad λq=>if jC q.2.1 then I.ev ⟨Str.empty,q.2.1,q.2.2⟩ [] q.1 h else .bad
def MG(I:Itp)(c:Cx)(l:Loc)(as:List Expr):M V:=(MF as).elim bad λq=>if c.scope.names.lookup q.2=some .globalImplicit then mq (I.ev c l q.1) (isV q.2)else bad
def H4(P:Prg)(I:Itp)(c:Cx)(l:Loc)(f:Str)(as:List Expr):M V:=
 if as.any bI then bad else if c.scope.names.lookup f=some .globalImplicit then
  (if f= "isinstance" then MG I c l as
  else if xx f then mq (dN (I.ev c l) as) λvs=>builtin f vs
  else if nq P f then mq (dN (I.ev c l) as) λvs=>I.call f vs else bad)
 else if c.scope.names.lookup f=some .local/\as= []/\(f==("__debug__":Str))=false then mq (rd c l f) (B0 I)
 else bad
def DM(r:Expr×Str×Pos)(as:List Expr)(pos:Pos):Bool:=eP r.1|| !(r.2.2.endLine==pos.line)||decide (20<as.length)||as.any bI
def H5(I:Itp)(c:Cx)(l:Loc)(r:Expr×Str×Pos)(as:List Expr)(pos:Pos):M V:=if DM r as pos then bad else mq (I.ev c l r.1) λv=>mq (bQ v r.2.1) λZ=>mq (dN (I.ev c l) as) λvs=>bN v r.2.1 vs
noncomputable def AK(a:Arguments):Bool:=a.posonlyargs.isEmpty&&(a.args.isEmpty&&(a.vararg.isNone&&(a.kwonlyargs.isEmpty&&(a.kw_defaults.isEmpty&&(a.kwarg.isNone&&a.defaults.isEmpty)))))
theorem B1 {a:Arguments}(h:AK a=true):a=⟨[],[],none,[],[],none,[]⟩:=by
 refine af (Tu.mp h) λg h=>af (Tu.mp h) λd h=>af (Tu.mp h) λb h=>af (Tu.mp h) λc h=>af (Tu.mp h) λj h=>af (Tu.mp h) λf l=>?_;induction a using Arguments.casesOn with
 |mk a1 a2 a3 a4 a5 a6 a7=>rw[show a1= [] from Uf.mp g,show a2= [] from Uf.mp d,show a3=none from S8.mp b,show a4= [] from Uf.mp c,show a5= [] from Uf.mp j,show a6=none from S8.mp f,show a7= [] from Uf.mp l]
def B2(c:Cx)(body:Expr)(sc:Scope):M V:=λh=>bif BZ h[0]? then aC (.clo body sc (cq c sc)) h else .bad
def MH(c:Cx)(a:Arguments)(body:Expr)(sc:Scope):M V:=bif AK a then(if pQ c sc then B2 c body sc else bad)else bad
noncomputable abbrev oV:=Expr×Expr×List Expr
def dc(gs:List Comprehension):Option oV:=(fI gs).bind λg=>if g.is_async=0 then some (g.target,g.iter,g.ifs)else Option.none
theorem uh {gs:List Comprehension}{g:oV}(h:dc gs=some g):gs= [⟨g.1,g.2.1,g.2.2,0⟩]:=by
 refine aa (Th.mp h) λx b h=>?_;by_cases hz:x.is_async=0
 ·rw[Vw hz]at h
  rw[dp b,<-UB h];induction x using Comprehension.casesOn with
  |mk t i f a=>rw[show a=0 from hz]
 ·rw[Vv hz]at h;exact ns h
def H6(I:Itp)(wf:Nat)(c:Cx)(l:Loc)(b:Expr)(sc:Scope)(g:oV):M V:=mq (uc I wf c l b g.1 g.2.1 g.2.2 sc (jT I)) λvs=>aC (.list vs)
def SB(I:Itp)(wf:Nat)(c:Cx)(l:Loc)(k v:Expr)(sc:Scope)(t b:Expr):M V:=if !bZ t|| !fH c sc then bad else mq (jT I c l b) λit=>if b6 it t=false then bad else
 mq (cz (eQ I (cr c sc) t k v) it wf 0 []) λps=>aC (.dict (bR ps))
def MI(I:Itp)(c:Cx)(l:Loc)(o i:Expr):M V:=if mf i then(BY i).elim bad λk=>if bZ o then mq (I.ev c l o) λv=>kN v k else bad else mq (I.ev c l o) λv=>mq (I.ev c l i) λk=>ak v k
def d3(q:Str×Str×Str)(d c b:V):M V:=aC (.dict (put q.2.2 b (put q.2.1 c (put q.1 d []))))
def H7(I:Itp)(c:Cx)(l:Loc)(ks:List (Option Expr))(vs:List Expr):M V:=if ks.isEmpty then(if vs.isEmpty then aC (.dict [])else bad)else(FH ks).elim bad λq=>(rY vs).elim bad λe=>mq (I.ev c l e.1) λd=>mq (I.ev c l e.2.1) λf=>mq (I.ev c l e.2.2) λb=>d3 q d f b
def vA(e:Expr):Option (Expr×oV×Scope):=by
 induction e using Expr.casesOn with
 |ListComp elt gs sc=>exact(dc gs).map λg=>(elt,g,sc)
 |_=>exact Option.none
theorem MJ {q:Expr×oV×Scope}(h:vA e=some q):∃p,e=.ListComp q.1 [⟨q.2.1.1,q.2.1.2.1,q.2.1.2.2,0⟩] q.2.2 p:=by
 induction e using Vy with
 |ListComp elt gs sc p=>exact aa (Tn.mp h) λg b c=>⟨p,by rw[uh b,<-c]⟩
 |_=>exact ns h
def FK(I:Itp)(wf:Nat)(c:Cx)(l:Loc)(t e:Expr):M (Fl×Loc):=by
 induction t using Expr.casesOn with
 |Attribute o a=>exact mq (I.ev c l e) λv=>mq (I.ev c l o) λx=>mq (dF x a v) λZ=>mr (Fl.next,l)
 |Subscript o i=>exact mq (I.ev c l e) λv=>mq (I.ev c l o) λx=>mq (I.ev c l i) λk=>mq (cH x k v) λZ=>mr (Fl.next,l)
 |Name x px=>exact(vA e).elim (if im e then bad else mq (I.ev c l e) λv=>mq (target c (.Name x px) v l) λb=>mr (Fl.next,b)) λq=>mq (H6 I wf c l q.1 q.2.2 q.2.1) λv=>mq (target c (.Name x px) v l) λb=>mr (Fl.next,b)
 |Tuple ts k p=>exact if im e=true\/oQ ts e=false then bad else mq (I.ev c l e) λv=>mq (target c (.Tuple ts k p) v l) λb=>mr (Fl.next,b)
 |_=>exact bad
noncomputable def FL(s:Stmt):Option Expr:=by
 induction s using Stmt.casesOn with
 |Return o=>exact o
 |_=>exact Option.none
theorem AL {s:Stmt}(h:FL s=some e):∃p,s=.Return (some e) p:=by
 induction s using Stmt.casesOn with
 |Return o p=>exact⟨p,by rw[show o=some e from h]⟩
 |_=>exact ns h
def MK(x:ExceptHandler):Option (Str×Str×Str×Str):=by
 induction x using ExceptHandler.casesOn with
 |ExceptHandler ty nm b=>exact(ty.bind mh).bind λt=>nm.bind λn=>((fI b).bind FL).bind λe=>(xF e).bind λr=>(mh r.1).map λy=>(t,n,y,r.2.1)
theorem ML {x:ExceptHandler}{q:Str×Str×Str×Str}(h:MK x=some q):∃c d p3 f p5,x=.ExceptHandler (some (.Name q.1 c)) (some q.2.1) [.Return (some (.Attribute (.Name q.2.2.1 d) q.2.2.2 p3)) f] p5:=by
 induction x using ExceptHandler.casesOn with
 |ExceptHandler ty nm b p5=>
  refine aa (Th.mp h) λt B h=>aa (Th.mp h) λn j h=>aa (Th.mp h) λe p h=>aa (Th.mp h) λr D h=>aa (Tn.mp h) λy g h=>aa (Th.mp B) λF u C=>am (ik C) λc z=>aa (Th.mp p) λE l A=>am (AL A) λf v=>am (ik g) λd w=>xo c d r.2.2 f p5 (by rw[u,z,j,dp l,v,ue D,w,<-h])
def fW(c:Cx)(b:List ExceptHandler):Bool:=((fI b).bind MK).any λq=>decide (q.1=("Refusal":Str))&&(decide (q.2.1=q.2.2.1)&&(decide (q.2.2.2=("message":Str))&&(decide (c.scope.names.lookup ("Refusal":Str)=some .globalImplicit)&&(decide (c.scope.names.lookup q.2.1=some .local)&& !(q.2.1==("__debug__":Str))))))
def MM(I:Itp)(c:Cx)(l:Loc)(o b:Option Expr):M (Fl×Loc):=(bif b.isNone then o.bind nu else Option.none).elim bad λq=>if q.1= "Refusal"/\c.scope.names.lookup q.1=some .globalImplicit/\bI q.2=false then mq (I.ev c l q.2) λv h=>.exc v h else bad
noncomputable def xH(m:M V)(l:Loc):M (Fl×Loc):=λh=>match m h with
 |.ok v h'=>.ok (.ret v,l) h'
 |.exc m h'=>.ok (.ret m,[]) h'
 |.bad=>.bad
def MN(P:Prg)(wf:Nat)(I:Itp)(c:Cx)(l:Loc)(e:Expr):M V:=by
 induction e using Expr.casesOn with
 |Constant k=>exact ME k
 |Name x=>exact if x= "__debug__" then bad else rd c l x
 |BinOp a op b=>exact mq (I.ev c l a) λx=>mq (I.ev c l b) λy=>ah op x y
 |UnaryOp op a=>exact SA op (I.ev c l a)
 |BoolOp op vs=>exact AG (I.ev c l) op vs
 |Compare a ops bs=>exact ug ops bs λop b=>mq (I.ev c l a) λx=>mq (I.ev c l b) λy=>mq (cmp op x y) λr=>mr (.bool r)
 |IfExp t a b=>exact mq (I.tst c l t) λr=>match r with|true=>I.ev c l a|false=>I.ev c l b
 |Attribute o a=>exact if eP o then bad else mq (I.ev c l o) λv=>aN v a
 |Subscript o i=>exact MI I c l o i
 |Tuple es=>exact mq (dN (I.ev c l) es) λvs=>if vs.length<=64 then mr (.tup vs)else bad
 |List es=>exact mq (dN (I.ev c l) es) λvs=>if vs.length<=64 then aC (.list vs)else bad
 |Dict ks vs=>exact H7 I c l ks vs
 |Call f as ks pos=>exact bif ks.isEmpty then(mh f).elim ((xF f).elim bad λr=>H5 I c l r as pos) λx=>H4 P I c l x as else bad
 |Lambda a body sc=>exact MH c a body sc
 |ListComp elt gs sc=>exact(dc gs).elim bad λg=>H6 I wf c l elt sc g
 |DictComp k v gs sc=>exact(dc gs).elim bad λg=>bif g.2.2.isEmpty then SB I wf c l k v sc g.1 g.2.1 else bad
 |JoinedStr vs=>exact if vs.length<2 then bad else mq (ej (I.ev c l) vs Str.empty) λs=>mr (.str s)
 |_=>exact bad
def FM(I:Itp)(c:Cx)(l:Loc)(e:Expr):M Bool:=by
 have d:M Bool:=mq (I.ev c l e) truth;induction e using Expr.casesOn with
 |UnaryOp op a=>
  induction op using UnaryOp.casesOn with
  |Not=>exact mq (I.tst c l a) λb=>mr (!b)
  |_=>exact d
 |BoolOp op vs=>exact nc (I.tst c l) op vs
 |IfExp t a b=>exact mq (I.tst c l t) λr=>match r with|true=>I.tst c l a|false=>I.tst c l b
 |Compare a ops bs=>exact ug ops bs λop b=>mq (I.ev c l a) λx=>mq (I.ev c l b) λy=>cmp op x y
 |_=>exact d
def B3(P:Prg)(wf:Nat)(I:Itp)(c:Cx)(l:Loc)(s:Stmt):M (Fl×Loc):=by
 induction s using Stmt.casesOn with
 |Return o=>exact o.elim bad λe=>mq (I.ev c l e) λv=>mr (.ret v,l)
 |Expr e=>exact if im e then bad else mq (I.ev c l e) λZ=>mr (.next,l)
 |Continue=>exact mr (.cont,l)
 |If t a b=>exact mq (I.tst c l t) λr=>match r with|true=>db (I.ex c) a l|false=>db (I.ex c) b l
 |While t b els=>exact bif els.isEmpty then me (λl=>I.tst c l t) (λl=>db (I.ex c) b l) wf l else bad
 |For t iter b els=>exact bif els.isEmpty then mq (jT I c l iter) λit=>if b6 it t=false then bad else ij (λv l=>mq (target c t v l) λd=>db (I.ex c) b d) it wf 0 l else bad
 |Assign ts e=>exact(fI ts).elim bad λt=>FK I wf c l t e
 |Raise o cause=>exact MM I c l o cause
 |Try b hs els f=>exact bif els.isEmpty&&f.isEmpty then((fI b).bind FL).elim bad λe=>if fW c hs then xH (I.ev c l e) l else bad else bad
 |_=>exact bad
def AM(P:Prg)(wf:Nat)(I:Itp):Itp where
 ev:=MN P wf I
 tst:=FM I
 ex:=B3 P wf I
 call f vs:=match P.fn f with
  |some fn=>fj I f fn vs
  |Option.none=>match P.init f with
   |some fn=>mq (aC (.inst f [])) λo=>mq (fj I "__init__" fn (o::vs)) λr=>match r with|.none=>mr o|_=>bad
   |Option.none=>bad
theorem mx {b β c:Type}(m:M b)(f:b->M β)(g:β->M c)(σ:List O):mq (mq m f) g σ=mq m (λa=>mq (f a) g) σ:=by
 unfold mq;cases m σ<;>rfl
noncomputable def fe(x:Str)(s:Stmt):Bool:=by
 induction s using Stmt.casesOn with
 |FunctionDef n=>exact Fast.sEq n x
 |ClassDef n=>exact Fast.sEq n x
 |_=>exact false
def xI(s:Stmt):Option Fn:=by
 induction s using Stmt.casesOn with
 |ClassDef _ _ _ b=>exact(b.find? (fe "__init__")).bind nj
 |_=>exact Option.none
def ai:Prg where
 fn x:=(Challenge.pw_nz0488_01.main.body.find? (fe x)).bind nj
 init x:=if x= "Vector"\/x= "Null" then(Challenge.pw_nz0488_01.main.body.find? (fe x)).bind xI else Option.none
inductive Aux where
 |none
 |some (d:Addr)
 |base (e:Int)
noncomputable def Aux.toList:Aux->List Addr
 |.some d=> [d]
 |_=> []
noncomputable abbrev al:=List (Addr×Aux)
def aU(φ:al):List Addr:=φ.flatMap λp=>p.1::p.2.toList
mutual
inductive VR (φ:al) (h:Heap):V->Value->Prop
 |none:VR φ h .none .none
 |bool (b:Bool):VR φ h (.bool b) (.bool b)
 |int (i:Int) (t:Tok):VR φ h (.int i) (.int i t)
 |str (x:Str) (t:Tok):VR φ h (.str x) (.str x t)
 |tup {l:List V} {a:Addr} {o:Obj} {vs:Array Value} {n:Nat}:h.get? a=some o->o.cls=.type "tuple"->o.data=.seq vs n->VRs φ h l vs.toList->VR φ h (.tup l) (.ref a)
 |ref {n:Nat} {p:Addr×Aux}:φ[n]?=some p->VR φ h (.ref n) (.ref p.1)
inductive VRs (φ:al) (h:Heap):List V->List Value->Prop
 |nil:VRs φ h [] []
 |cons {V:V} {v:Value} {l:List Mine.V} {vs:List Value}:VR φ h V v->VRs φ h l vs->VRs φ h (V::l) (v::vs)
end
def PJ(φ:al)(h:Heap)(x:V)(v:Value):Prop:=@V.casesOn (λZ=>Prop) x (v=.none) (λb=>v=.bool b) (λi=>∃t,v=.int i t) (λs=>∃t,v=.str s t)
 (λl=>∃a o vs n,v=.ref a/\h.get? a=some o/\o.cls=.type "tuple"/\o.data=.seq vs n/\VRs φ h l vs.toList) (λn=>∃p,v=.ref p.1/\φ[n]?=some p)
def MO(φ:al)(h:Heap)(l:List V)(vs:List Value):Prop:=@List.casesOn V (λZ=>Prop) l (vs= []) (λa r=>∃v t,vs=v::t/\VR φ h a v/\VRs φ h r t)
section
variable {φ:al} {h:Heap} {v:Value}
theorem VR.out {x:V}(z:VR φ h x v):PJ φ h x v:=@VR.casesOn φ h (λx v Z=>PJ φ h x v) _ _ z rfl (λZ=>rfl) (λZ t=>⟨t,rfl⟩) (λZ t=>⟨t,rfl⟩) (λa b c d=>⟨_,_,_,_,rfl,a,b,c,d⟩) (λe=>⟨_,rfl,e⟩)
theorem VRs.out {l:List V}(z:VRs φ h l vs):MO φ h l vs:=@VRs.casesOn φ h (λx v Z=>MO φ h x v) _ _ z rfl (λa b=>⟨_,_,rfl,a,b⟩)
theorem VR.none'(z:VR φ h .none v):v=.none:=z.out
theorem VR.bool' {b:Bool}(z:VR φ h (.bool b) v):v=.bool b:=z.out
theorem VR.int' {i:Int}(z:VR φ h (.int i) v):∃t,v=.int i t:=z.out
theorem VR.str'(z:VR φ h (.str x) v):∃t,v=.str x t:=z.out
theorem VR.tup' {l:List V}(z:VR φ h (.tup l) v):∃a o vs n,v=.ref a/\h.get? a=some o/\o.cls=.type "tuple"/\o.data=.seq vs n/\VRs φ h l vs.toList:=z.out
theorem VR.ref'(z:VR φ h (.ref n) v):∃p,v=.ref p.1/\φ[n]?=some p:=z.out
theorem VRs.nil' {l:List Value}(z:VRs φ h [] l):l= []:=z.out
theorem VRs.cons' {a:V}{r:List V}{l:List Value}(z:VRs φ h (a::r) l):∃v vs,l=v::vs/\VR φ h a v/\VRs φ h r vs:=z.out
end
theorem VR.all {φ:al}{P:V->Value->Prop}{Q:List V->List Value->Prop}(m:P .none .none)(g:∀b,P (.bool b) (.bool b))(c:∀i t,P (.int i) (.int i t))(j:∀x t,P (.str x) (.str x t))
  (k:∀ {l:List V} {a:Addr} {o:Obj} {vs:Array Value} {n:Nat},h.get? a=some o->o.cls=.type "tuple"->o.data=.seq vs n->VRs φ h l vs.toList->Q l vs.toList->P (.tup l) (.ref a))
  (f:∀ {n:Nat} {p:Addr×Aux},φ[n]?=some p->P (.ref n) (.ref p.1))(e:Q [] [])(d:∀ {a:V} {v:Value} {l:List V} {vs:List Value},VR φ h a v->VRs φ h l vs->P a v->Q l vs->Q (a::l) (v::vs)):
  (∀ {x v},VR φ h x v->P x v)/\ ∀ {l vs},VRs φ h l vs->Q l vs:=
 ⟨λx=>@VR.rec φ h (λa b Z=>P a b) (λa b Z=>Q a b) m g c j k f e d _ _ x,λx=>@VRs.rec φ h (λa b Z=>P a b) (λa b Z=>Q a b) m g c j k f e d _ _ x⟩
theorem VRs.ind {φ:al}{Q:List V->List Value->Prop}(c:Q [] [])(b:∀ {a:V} {v:Value} {l:List V} {vs:List Value},VR φ h a v->VRs φ h l vs->Q l vs->Q (a::l) (v::vs)){l:List V}(x:VRs φ h l vs):Q l vs:=
 (VR.all (P:=λZ Z=>True) trivial (λZ=>trivial) (λZ Z=>trivial) (λZ Z=>trivial) (λZ Z Z Z Z=>trivial) (λZ=>trivial) c (λa r Z=>b a r)).2 x
theorem VRs.length {φ:al}{h:Heap}{l:List V}{vs:List Value}(x:VRs φ h l vs):vs.length=l.length:=VRs.ind (Q:=λl vs=>vs.length=l.length) rfl (λZ Z a=>Vs Nat.succ a) x
theorem VRs.append {φ:al}{c:List V}{b:List Value}{l:List V}(x:VRs φ h l vs)(k:VRs φ h c b):VRs φ h (l++c) (vs++b):=VRs.ind (Q:=λl vs=>VRs φ h (l++c) (vs++b)) k (λa Z d=>.cons a d) x
theorem VRs.get {φ:al}{l:List V}{V:V}(x:VRs φ h l vs)(e:l[i]?=some V):∃v,vs[i]?=some v/\VR φ h V v:=
 VRs.ind (Q:=λl vs=>∀i,l[i]?=some V-> ∃v,vs[i]?=some v/\VR φ h V v) (λZ e=>ns e) (λa Z b i=>by
  induction i using Nat.casesAuxOn with
  |zero=>exact λe=>⟨_,rfl,UB e▸a⟩
  |succ i=>exact b i) x i e
theorem VRs.getNone {φ:al}{l:List V}(x:VRs φ h l vs)(e:l[i]?=Option.none):vs[i]?=Option.none:=by
 rw[S5]at e ⊢;rw[x.length];exact e
theorem VRs.take {φ:al}{h:Heap}{l:List V}{vs:List Value}(k:Nat)(x:VRs φ h l vs):VRs φ h (l.take k) (vs.take k):=
 VRs.ind (Q:=λl vs=>∀k,VRs φ h (l.take k) (vs.take k)) (λk=>by rw[List.take_nil,List.take_nil];exact .nil) (λa Z b k=>by
  induction k using Nat.casesAuxOn with
  |zero=>exact .nil
  |succ k=>exact .cons a (b k)) x k
theorem VRs.reverse {φ:al}{h:Heap}{l:List V}{vs:List Value}(x:VRs φ h l vs):VRs φ h l.reverse vs.reverse:=
 VRs.ind (Q:=λl vs=>VRs φ h l.reverse vs.reverse) .nil (λa Z b=>by rw[List.reverse_cons,List.reverse_cons];exact b.append (.cons a .nil)) x
theorem VRs.dropLast {φ:al}{h:Heap}{l:List V}{vs:List Value}(x:VRs φ h l vs):VRs φ h l.dropLast vs.dropLast:=by
 rw[List.dropLast_eq_take,List.dropLast_eq_take,x.length];exact x.take _
theorem VRs.last {φ:al}{l:List V}{V:V}(x:VRs φ h l vs)(e:l.getLast?=some V):∃v,vs.getLast?=some v/\VR φ h V v:=by
 rw[S7]at e ⊢;rw[x.length];exact x.get e
theorem VRs.flatRep {φ:al}{h:Heap}{l:List V}{vs:List Value}(x:VRs φ h l vs):∀k:Nat,VRs φ h (List.replicate k l).flatten (List.replicate k vs).flatten
 |0=>.nil
 |k+1=>by rw[TK,TK,List.flatten_cons,List.flatten_cons];exact x.append (x.flatRep k)
inductive PR (φ:al) (h:Heap):List (Str×V)->List (Str×Value)->Prop
 |nil:PR φ h [] []
 |cons {k:Str} {V:V} {v:Value} {l:List (Str×Mine.V)} {es:List (Str×Value)}:VR φ h V v->PR φ h l es->PR φ h ((k,V)::l) ((k,v)::es)
structure CloR (φ:al) (h:Heap) (o:Obj) (body:Expr) (sc:Scope) (cells:List (Str×Nat)):Prop where
 cls:o.cls=.type "function"
 ex:∃fd:FuncData,o.data=.func fd/\fd.body=.expr body/\fd.scope=sc/\fd.globals=mainGlobals/\fd.builtins=builtinsNs/\
  fd.params=⟨[],[],fd.params.vararg,[],[],fd.params.kwarg,[]⟩/\fd.params.vararg=none/\fd.params.kwarg=none/\fd.defaults=.none/\h.CodeRec fd.code fd.qualname/\
  ∀x n,look x cells=some n-> ∃a,fd.closure.lookup x=some a/\φ[n]?=some (a,Aux.none)
noncomputable def oW(h:Heap)(a:Addr)(m:Str->Option Value)(n:Nat):Prop:=∃o es ep,h.get? a=some o/\o.data=.dict es ep/\StrKeys es/\(∀name,nsFind es name=m name)/\es.size=n
theorem oW.ns(x:oW h a m n):h.Ns a m:=jc x λo b ep e d k q Z=>⟨o,b,ep,e,d,k,q⟩
noncomputable def cj(b:Program)(w:World)(h:Heap)(a:Addr)(kvs:List (Str×Value))(e:Int):Prop:=∃ep,h.DictAt (strKind b w) a kvs ep/\(ep:Int)=e+kvs.length
theorem cj.of {b:Program}{w:World}{kvs:List (Str×Value)}{e:Int}(x:cj b w h a kvs e):h.DictOf (strKind b w) a kvs:=aa x λZ d Z=>d.dictOf
noncomputable def q8:Str:= "law.<locals>.<lambda>"
structure Cls where
 at_:Str->Option Addr
 code:Addr
 tab:Addr
 ps:Array Value
 scr:Obj
variable (cl:Cls) (pg:Program) (w:World)
inductive ObjR (φ:al) (h:Heap):Addr×Aux->O->Prop
 |list {a:Addr} {l:List V} {vs:List Value} {n:Nat}:h.get? a=some (listOf vs.toArray n)->VRs φ h l vs->ObjR φ h (a,Aux.none) (.list l)
 |flist {a:Addr} {l:List V} {vs:List Value} {n:Nat}:cl.scr.cls=.type "list"->cl.scr.data=.seq vs.toArray n->h.get? a=some cl.scr->VRs φ h l vs->ObjR φ h (a,Aux.none) (.flist l)
 |dict {a:Addr} {l:List (Str×V)} {kvs:List (Str×Value)} {e:Int}:cj pg w h a kvs e->PR φ h l kvs->ObjR φ h (a,Aux.base e) (.dict l)
 |inst {a d C:Addr} {c:Str} {l:List (Str×V)} {m:Str->Option Value}:cl.at_ c=some C->h.get? a=some (instObj C d)->oW h d m l.length->(∀x,(m x).isSome=(look x l).isSome)->(∀x V,look x l=some V-> ∃v,m x=some v/\VR φ h V v)->
   ObjR φ h (a,Aux.some d) (.inst c l)
 |cellN {a:Addr}:h.get? a=some {cls:=.type "cell",data:=.cell Option.none}->ObjR φ h (a,Aux.none) (.cell Option.none)
 |cellS {a:Addr} {V:V} {v:Value}:h.get? a=some {cls:=.type "cell",data:=.cell (some v) }->VR φ h V v->ObjR φ h (a,Aux.none) (.cell (some V))
 |clo {a:Addr} {o:Obj} {body:Expr} {sc:Scope} {cells:List (Str×Nat)}:h.get? a=some o->CloR φ h o body sc cells->ObjR φ h (a,Aux.none) (.clo body sc cells)
 |tab {a:Addr} {ps:Array Value}:a=cl.tab->(∃more,ps=cl.ps++more)->h.get? a=some (tabObj ps)->TriplesOk ps.toList->(∀pos cv,codeAmong pos ps.toList=some cv->h.CodeRec cv q8)->ObjR φ h (a,Aux.none) .tab
def OG(φ:al)(h:Heap)(p:Addr×Aux)(o:O):Prop:=@O.casesOn (λZ=>Prop) o
 (λl=>∃a vs n,p=(a,Aux.none)/\h.get? a=some (listOf vs.toArray n)/\VRs φ h l vs)
 (λl=>∃a vs n,p=(a,Aux.none)/\cl.scr.cls=.type "list"/\cl.scr.data=.seq vs.toArray n/\h.get? a=some cl.scr/\VRs φ h l vs)
 (λl=>∃a kvs e,p=(a,Aux.base e)/\cj pg w h a kvs e/\PR φ h l kvs)
 (λc l=>∃a d C m,p=(a,Aux.some d)/\cl.at_ c=some C/\h.get? a=some (instObj C d)/\oW h d m l.length/\(∀x,(m x).isSome=(look x l).isSome)/\ ∀x V,look x l=some V-> ∃v,m x=some v/\VR φ h V v)
 (λv=>@Option.casesOn V (λZ=>Prop) v (∃a,p=(a,Aux.none)/\h.get? a=some {cls:=.type "cell",data:=.cell Option.none}) λV=>∃a v,p=(a,Aux.none)/\h.get? a=some {cls:=.type "cell",data:=.cell (some v) }/\VR φ h V v)
 (λbody sc b=>∃a o,p=(a,Aux.none)/\h.get? a=some o/\CloR φ h o body sc b)
 (∃a ps,p=(a,Aux.none)/\a=cl.tab/\(∃more,ps=cl.ps++more)/\h.get? a=some (tabObj ps)/\TriplesOk ps.toList/\ ∀pos cv,codeAmong pos ps.toList=some cv->h.CodeRec cv q8)
section
variable {cl pg w}
variable {φ:al} {h:Heap} {p:Addr×Aux}
theorem ObjR.out {o:O}(x:ObjR cl pg w φ h p o):OG cl pg w φ h p o:=by
 induction x using ObjR.casesOn with
 |list a b=>exact⟨_,_,_,rfl,a,b⟩
 |flist a b c d=>exact⟨_,_,_,rfl,a,b,c,d⟩
 |dict a b=>exact⟨_,_,_,rfl,a,b⟩
 |inst a b c d e=>exact⟨_,_,_,_,rfl,a,b,c,d,e⟩
 |cellN a=>exact⟨_,rfl,a⟩
 |cellS a b=>exact⟨_,_,rfl,a,b⟩
 |clo a b=>exact⟨_,_,rfl,a,b⟩
 |tab a b c d e=>exact⟨_,_,rfl,a,b,c,d,e⟩
theorem ObjR.list' {l:List V}(x:ObjR cl pg w φ h p (.list l)):∃a vs n,p=(a,Aux.none)/\h.get? a=some (listOf vs.toArray n)/\VRs φ h l vs:=x.out
theorem ObjR.flist' {l:List V}(x:ObjR cl pg w φ h p (.flist l)):∃a vs n,p=(a,Aux.none)/\cl.scr.cls=.type "list"/\cl.scr.data=.seq vs.toArray n/\h.get? a=some cl.scr/\VRs φ h l vs:=x.out
theorem ObjR.dict' {l:List (Str×V)}(x:ObjR cl pg w φ h p (.dict l)):∃a kvs e,p=(a,Aux.base e)/\cj pg w h a kvs e/\PR φ h l kvs:=x.out
theorem ObjR.inst' {c:Str}{l:List (Str×V)}(x:ObjR cl pg w φ h p (.inst c l)):∃a d C m,p=(a,Aux.some d)/\cl.at_ c=some C/\h.get? a=some (instObj C d)/\oW h d m l.length/\(∀x,(m x).isSome=(look x l).isSome)/\ ∀x V,look x l=some V-> ∃v,m x=some v/\VR φ h V v:=x.out
theorem ObjR.cellN'(x:ObjR cl pg w φ h p (.cell Option.none)):∃a,p=(a,Aux.none)/\h.get? a=some {cls:=.type "cell",data:=.cell Option.none}:=x.out
theorem ObjR.cellS' {V:V}(x:ObjR cl pg w φ h p (.cell (some V))):∃a v,p=(a,Aux.none)/\h.get? a=some {cls:=.type "cell",data:=.cell (some v) }/\VR φ h V v:=x.out
theorem ObjR.clo' {body:Expr}{sc:Scope}{b:List (Str×Nat)}(x:ObjR cl pg w φ h p (.clo body sc b)):∃a o,p=(a,Aux.none)/\h.get? a=some o/\CloR φ h o body sc b:=x.out
theorem ObjR.tab'(x:ObjR cl pg w φ h p .tab):∃a ps,p=(a,Aux.none)/\a=cl.tab/\(∃more,ps=cl.ps++more)/\h.get? a=some (tabObj ps)/\TriplesOk ps.toList/\ ∀pos cv,codeAmong pos ps.toList=some cv->h.CodeRec cv q8:=x.out
end
structure St (B:Heap) (F:List Addr) (φ:al) (σ:List O) (h:Heap):Prop where
 base:B.StaysIn h
 nodup:(aU φ).Nodup
 fresh:∀a∈aU φ,B.get? a=Option.none
 len:φ.length=σ.length
 obj:∀(i:Nat) p o,φ[i]?=some p->σ[i]?=some o->ObjR cl pg w φ h p o
 frames:∀f∈F,(∃o es n,h.get? f=some o/\o.data=.dict es n)/\f∉aU φ/\B.get? f=Option.none
def Kp(F M:List Addr)(h h':Heap):Prop:=∀b o,h.get? b=some o->b∉M->(b∉F->h'.get? b=some o)/\ ∃sl,h'.get? b=some {o with slots:=sl}
noncomputable def side(o:Obj):Prop:=¬((o.cls=.type "tuple"/\ ∃vs n,o.data=.seq vs n)\/ ∃vs q t,o.data=.fields vs/\vs[1]?=some (.str q t))
theorem bP {a:Array DictEntry}(d:o.data=.dict a n):side o:=by
 rintro(⟨_,vs,m,h⟩|⟨vs,q,t,h,_⟩)<;>(rw[d]at h;cases h)
def eS(X:List Addr)(φ:al)(h:Heap):Prop:=∀a∈X,a∉aU φ/\ ∃o,h.get? a=some o/\side o
structure Go (F X:List Addr) (φ φ':al) (h h':Heap):Prop where
 pre:φ<+:φ'
 new:∀a∈aU φ',a∈aU φ\/h.get? a=Option.none
 kp:Kp F (X++aU φ) h h'
 xs:∀a∈X,∀o,h.get? a=some o->side o-> ∃o',h'.get? a=some o'/\side o'/\ ∀es n,o.data=.dict es n-> ∃es' n',o'.data=.dict es' n'
theorem dO {φ b:al}(p:φ<+:b):∀a∈aU φ,a∈aU b:=by
 refine am (p) λt c=>?_;subst c;intro a d;unfold aU at*;rw[List.flatMap_append];exact Tz _ d
theorem dq {φ a:al}(p:φ<+:a){x:Addr×Aux}(e:φ[n]?=some x):a[n]?=some x:=by
 obtain⟨t,rfl⟩:=p;obtain⟨b,_⟩:=S6.mp e;rw[S4 b];exact e
theorem oX {φ:al}{x:Addr×Aux}(e:φ[n]?=some x):x.1∈aU φ/\ ∀d,x.2=Aux.some d->d∈aU φ:=by
 have a:x∈φ:=TB e;refine⟨Ui.mpr ⟨x,a,TU ..⟩,λd hd=>Ui.mpr ⟨x,a,TA _ ?_⟩⟩;rw[hd];exact TW.mpr rfl
theorem Go.refl(F X:List Addr)(φ:al)(h:Heap):Go F X φ φ h h:=⟨Uk _,λZ h=>.inl h,λZ o e Z=>⟨λZ=>e,o.slots,e⟩,λZ Z o e d=>⟨o,e,d,λa n q=>⟨a,n,q⟩⟩⟩
theorem Go.off {F X:List Addr}{φ b:al}(x:Go F X φ b h h')(O:eS X φ h):eS X b h':=λa c=>by
 obtain⟨j,o,e,d⟩:=O a c;refine aQ (x.xs a c o e d) λf i g Z=>⟨λq=>(x.new a q).elim j λr=>(by rw[e]at r;cases r),f,i,g⟩
theorem Go.trans {F X:List Addr}{φ f c:al}{h h' g:Heap}(O:eS X φ h)(x:Go F X φ f h h')(y:Go F X f c h' g):Go F X φ c h g:=by
 have E:=x.off O;refine⟨x.pre.trans y.pre,λa l=>?_,λb o e p=>?_,λa l o e d=>?_⟩
 ·by_cases i:a∈aU φ
  ·exact .inl i
  ·rcases y.new a l with q|q
   ·exact x.new a q
   ·refine .inr ?_
    by_cases B:a∈X
    ·obtain⟨_,o,e,_⟩:=E a B
     rw[q]at e;cases e
    ·induction r:h.get? a using Vx with
     |none=>rfl
     |some o=>
      obtain⟨_,D,m⟩:=x.kp a o r (λz=>(Uy.mp z).elim B i);rw[q]at m;cases m
 ·have j:b∉X++aU f:=λq=>by
   rcases Uy.mp q with q|q
   ·exact p (Tz _ q)
   ·rcases x.new b q with r|r
    ·exact p (Ts _ r)
    ·rw[e]at r;cases r
  obtain⟨k1,D,k2⟩:=x.kp b o e p;obtain⟨N,v,I⟩:=y.kp b _ k2 j;exact⟨λC=>(y.kp b o (k1 C) j).1 C,v,I⟩
 ·refine aQ (x.xs a l o e d) λJ m G k=>aQ (y.xs a l J m G) λt A u H=>⟨t,A,u,λL n q=>let⟨es',n',q'⟩:=k L n q;H es' n' q'⟩
theorem Go.more {F X:List Addr}{φ c:al}(O:eS X φ h)(x:Go F [] φ c h h'):Go F X φ c h h':=
 ⟨x.pre,x.new,λb o e g=>x.kp b o e λq=>g (Ts _ (by simpa [Aux.toList]using q)),λa f o e d=>by
  obtain⟨_,k,j⟩:=x.kp a o e (by simpa using(O a f).1);exact⟨_,j,d,λi n q=>⟨i,n,q⟩⟩⟩
theorem AN {ps:Array Value}(c:TriplesOk ps.toList){q:Str}{t:Tok}(e:ps[1]?=some (.str q t)):False:=by
 rw[<-Array.getElem?_toList]at e;generalize ps.toList=l at c e;rcases l with _|⟨a,_|⟨b,r⟩⟩
 ·cases e
 ·cases e
 ·have d:b=.str q t:=by injection e
  subst d;cases a<;>exact c
theorem IU:Value.type "list"≠Value.type "tuple":=by simp
theorem AO:Value.type "cell"≠Value.type "tuple":=by simp
theorem hM(d:o.cls≠ .type "tuple"\/ ∀vs n,o.data≠ .seq vs n)(b:∀vs q t,o.data=.fields vs->vs[1]?=some (.str q t)->False):side o:=λz=>
 z.elim (λq=>d.elim (λk=>k q.1) λk=>cI q.2 λvs n e=>k vs n e) λq=>dK q λvs x t c a=>b vs x t c a
theorem kO(e:h.get? a=some o)(s:side o):∀b∈ [a],∃ob,h.get? b=some ob/\side ob:=λb c=>by rw[TW.mp c];exact⟨o,e,s⟩
theorem OH {d:Addr}{c:Obj}(e:h.get? a=some o)(s:side o)(g:h.get? d=some c)(i:side c):∀b∈ [a,d],∃ob,h.get? b=some ob/\side ob:=λb f=>by
 rcases UR.mp f with q|q
 ·rw[q];exact⟨o,e,s⟩
 ·exact kO g i b q
theorem ObjR.held {φ:al}{p:Addr×Aux}{o:O}(x:ObjR cl pg w φ h p o):∀a∈p.1::p.2.toList,∃ob,h.get? a=some ob/\side ob:=by
 induction x using ObjR.casesOn with
 |list g _=>exact kO g (hM (.inl IU) (λZ Z Z z=>nomatch z))
 |flist e0 e1 g _=>exact kO g (hM (.inl (by rw[e0];exact λz=>nomatch z)) (by rw[e1];exact λZ Z Z z=>nomatch z))
 |dict g _=>exact kH (g.of) λe f ep g Z d Z=>kO g (bP d)
 |inst _ g d _ _=>exact bw d λe f ep b d Z=>OH g (hM (.inr λZ Z z=>nomatch z) (λZ Z Z z=>nomatch z)) b (bP d)
 |cellN g=>exact kO g (hM (.inl AO) (λZ Z Z z=>nomatch z))
 |cellS g _=>exact kO g (hM (.inl AO) (λZ Z Z z=>nomatch z))
 |clo g c=>exact kO g (hM (.inl (by rw[c.cls];exact λz=>nomatch z)) (aa c.ex λfd hd Z=>by rw[hd];exact λZ Z Z z=>nomatch z))
 |tab _ _ g ht _=>exact kO g (hM (.inl λz=>nomatch z) λvs q t j i=>AN ht (Data.fields.inj j▸i))
theorem St.held {B:Heap}{F:List Addr}{φ:al}{σ:List O}{h:Heap}(S:St cl pg w B F φ σ h){a:Addr}(c:a∈aU φ):∃ob,h.get? a=some ob/\side ob:=by
 refine aa (Ui.mp c) λp e d=>am (List.getElem?_of_mem e) λi b=>?_;exact(S.obj i p _ b (Ta (S.len▸(S6.mp b).1))).held _ _ _ a d
theorem St.noTup {B:Heap}{F:List Addr}{φ:al}{σ:List O}(S:St cl pg w B F φ σ h)(e:h.get? a=some o)(f:(o.cls=.type "tuple"/\ ∃vs n,o.data=.seq vs n)\/ ∃vs q t,o.data=.fields vs/\vs[1]?=some (.str q t)):a∉aU φ/\a∉F:=
 ⟨λb=>aa (S.held _ _ _ b) λob g i=>i (UB (e.symm.trans g)▸f),λb=>by
  refine af (S.frames a b) λc Z=>dK c λj k n g d=>?_;exact bP d (UB (e.symm.trans g)▸f)⟩
section
variable {cl pg w}
variable {B:Heap} {F X:List Addr} {φ φ':al} {σ σ':List O} {h h':Heap}
theorem St.keepTup(S:St cl pg w B F φ σ h)(O:eS X φ h)(g:Go F X φ φ' h h')(e:h.get? a=some o)(c:(o.cls=.type "tuple"/\ ∃vs n,o.data=.seq vs n)\/ ∃vs q t,o.data=.fields vs/\vs[1]?=some (.str q t)):h'.get? a=some o:=by
 have z:=S.noTup cl pg w e c;refine(g.kp a o e λq=>?_).1 z.2;rcases Uy.mp q with q|q
 ·obtain⟨_,f,b,d⟩:=O a q
  rw[e]at b;injection b with b;subst b;exact(d c).elim
 ·exact z.1 q
structure Mv (φ φ':al) (h h':Heap):Prop where
 tup:∀ {a:Addr} {o:Obj},h.get? a=some o->((o.cls=.type "tuple"/\ ∃vs n,o.data=.seq vs n)\/ ∃vs q t,o.data=.fields vs/\vs[1]?=some (.str q t))->h'.get? a=some o
 pos:∀ {n:Nat} {p:Addr×Aux},φ[n]?=some p->φ'[n]?=some p
theorem Mv.both(m:Mv φ φ' h h'):(∀ {x v},VR φ h x v->VR φ' h' x v)/\ ∀ {l vs},VRs φ h l vs->VRs φ' h' l vs:=
 VR.all (P:=λx v=>VR φ' h' x v) (Q:=λl vs=>VRs φ' h' l vs) .none .bool .int .str (λe c d Z r=>.tup (m.tup e (.inl ⟨c,_,_,d⟩)) c d r) (λe=>.ref (m.pos e)) .nil (λZ Z a r=>.cons a r)
theorem VR.mv(m:Mv φ φ' h h'){V:V}{v:Value}(x:VR φ h V v):VR φ' h' V v:=m.both.1 x
theorem VRs.mv(m:Mv φ φ' h h'){l:List V}(x:VRs φ h l vs):VRs φ' h' l vs:=m.both.2 x
theorem PR.mv(m:Mv φ φ' h h'){l:List (Str×V)}{b:List (Str×Value)}(x:PR φ h l b):PR φ' h' l b:=
 @PR.rec φ h (λl b Z=>PR φ' h' l b) .nil (λa Z c=>.cons (VR.mv m a) c) _ _ x
theorem Go.mv(S:St cl pg w B F φ σ h)(O:eS X φ h)(g:Go F X φ φ' h h'):Mv φ φ' h h':=⟨λe c=>S.keepTup O g e c,dq g.pre⟩
theorem VR.go(S:St cl pg w B F φ σ h)(O:eS X φ h)(g:Go F X φ φ' h h'){V:V}{v:Value}(x:VR φ h V v):VR φ' h' V v:=VR.mv (g.mv S O) x
theorem VRs.go(S:St cl pg w B F φ σ h)(O:eS X φ h)(g:Go F X φ φ' h h'){l:List V}(x:VRs φ h l vs):VRs φ' h' l vs:=VRs.mv (g.mv S O) x
theorem PR.go(S:St cl pg w B F φ σ h)(O:eS X φ h)(g:Go F X φ φ' h h'){l:List (Str×V)}{a:List (Str×Value)}(x:PR φ h l a):PR φ' h' l a:=PR.mv (g.mv S O) x
theorem FN(x:oW h a m n)(k:∀o,h.get? a=some o->h'.get? a=some o):oW h' a m n:=
 dK x λo b ep e r=>⟨o,b,ep,k o e,r⟩
theorem oY {kvs:List (Str×Value)}{b:Int}(x:cj pg w h a kvs b)(k:∀o,h.get? a=some o->h'.get? a=some o):cj pg w h' a kvs b:=
 aa x λep y q=>cY y λo c e r=>⟨ep,⟨o,c,k o e,r⟩,q⟩
theorem AP(m:Mv φ φ' h h'){v:Value}{q:Str}(x:h.CodeRec v q):h'.CodeRec v q:=mZ x λa c vs t e d b r=>⟨a,c,vs,t,e,m.tup d (.inr ⟨vs,_,_,b,r⟩),b,r⟩
theorem CloR.mv(m:Mv φ φ' h h'){body:Expr}{sc:Scope}{a:List (Str×Nat)}(c:CloR φ h o body sc a):CloR φ' h' o body sc a:=
 ⟨c.cls,Lh c.ex λfd i l d3 r g p j u t d e=>⟨fd,i,l,d3,r,g,p,j,u,t,AP m d,λx n q=>aa (e x n q) λb f k=>⟨b,f,m.pos k⟩⟩⟩
theorem ObjR.mv(m:Mv φ φ' h h'){p:Addr×Aux}{o:Mine.O}(x:ObjR cl pg w φ h p o)(k:∀a∈p.1::p.2.toList,∀ob,h.get? a=some ob->h'.get? a=some ob):ObjR cl pg w φ' h' p o:=by
 induction x using ObjR.casesOn with
 |list e r=>exact .list (k _ (TU ..) _ e) (VRs.mv m r)
 |dict e r=>exact .dict (oY e (k _ (TU ..))) (PR.mv m r)
 |inst c e d z r=>exact .inst c (k _ (TU ..) _ e) (FN d (k _ (TA _ (TW.mpr rfl)))) z λx V q=>aa (r x V q) λv f b=>⟨v,f,VR.mv m b⟩
 |cellN e=>exact .cellN (k _ (TU ..) _ e)
 |cellS e r=>exact .cellS (k _ (TU ..) _ e) (VR.mv m r)
 |clo e c=>exact .clo (k _ (TU ..) _ e) (CloR.mv m c)
 |flist e0 e1 e r=>exact .flist e0 e1 (k _ (TU ..) _ e) (VRs.mv m r)
 |tab ea em e t c=>exact .tab ea em (k _ (TU ..) _ e) t λpos g q=>AP m (c pos g q)
theorem ObjR.go(S:St cl pg w B F φ σ h)(O:eS X φ h)(g:Go F X φ φ' h h'){p:Addr×Aux}{o:Mine.O}(x:ObjR cl pg w φ h p o)(k:∀a∈p.1::p.2.toList,∀ob,h.get? a=some ob->h'.get? a=some ob):ObjR cl pg w φ' h' p o:=x.mv (g.mv S O) k
structure LocR (cl:Cls) (B:Heap) (E:Env) (c:Cx) (l:Loc) (φ:al) (h:Heap):Prop where
 scope:E.scope=c.scope
 kind:E.scope.kind=.function
 glob:E.globals=mainGlobals
 blt:E.builtins=builtinsNs
 ns:∃m,h.Ns E.locals m/\ ∀x V,look x l=some V-> ∃v,m x=some v/\VR φ h V v
 off:E.locals∉aU φ
 offB:B.get? E.locals=Option.none
 cells:∀x n,look x c.cells=some n-> ∃a,E.cells.lookup x=some a/\φ[n]?=some (a,Aux.none)
 code:c.name= "law"->E.code=.ref cl.code/\E.qual= "law.<locals>."
theorem FO {h h':Heap}(x:h.Ns a m)(k:∀o,h.get? a=some o-> ∃b,h'.get? a=some {o with slots:=b}):h'.Ns a m:=by
 refine bw (x) λo d ep c hd r=>am (k o c) λb e=>⟨_,d,ep,e,hd,r⟩
theorem au {φ:al}{h:Heap}:eS [] φ h:=λZ a=>nomatch a
theorem LocR.offL {E:Env}{c:Cx}{l:Loc}(L:LocR cl B E c l φ h):eS [E.locals] φ h:=λa d=>by
 refine aB λg e=>?_;obtain rfl:=TW.mp d;refine aa (L.ns) λm b Z=>?_;obtain⟨o,i,ep,f,hd,_⟩:=b;refine e<|⟨L.off,o,f,bP hd⟩
theorem LocR.go {E:Env}{c:Cx}{l:Loc}(L:LocR cl B E c l φ h)(S:St cl pg w B F φ σ h)(g:Go F [] φ φ' h h'):LocR cl B E c l φ' h':=by
 refine aa (L.ns) λm f i=>⟨L.scope,L.kind,L.glob,L.blt,⟨m,FO f λo e=>(g.kp _ o e (by simpa using L.off)).2,λx V e=>?_⟩,λq=>?_,L.offB,λx n e=>?_,L.code⟩
 ·refine aa (i x V e) λv d b=>⟨v,d,VR.go S au g b⟩
 ·rcases g.new _ q with r|r
  ·exact L.off r
  ·refine dK (f) λo Z Z e Z=>?_;rw[r]at e;cases e
 ·refine aa (L.cells x n e) λa d b=>⟨a,d,dq g.pre b⟩
theorem dP(O:eS X φ h)(g:Go F X φ φ' h h')(d:a∉aU φ)(e:h'.get? a=Option.none):h.get? a=Option.none:=by
 by_cases c:a∈X
 ·obtain⟨_,o,b,_⟩:=g.off O a c
  rw[e]at b;cases b
 ·induction r:h.get? a using Vx with
  |none=>rfl
  |some o=>obtain⟨_,f,b⟩:=g.kp a o r (λz=>(Uy.mp z).elim c d);rw[e]at b;cases b
theorem St.baseGo(S:St cl pg w B F φ σ h)(c:∀a∈X,B.get? a=Option.none)(g:Go F X φ φ' h h'):B.StaysIn h':=λb o e=>by
 refine(g.kp b o (S.base b o e) λq=>?_).1 λq=>?_
 ·rcases Uy.mp q with q|q
  ·rw[c b q]at e;cases e
  ·rw[S.fresh b q]at e;cases e
 ·rw[(S.frames b q).2.2]at e;cases e
theorem St.framesGo(S:St cl pg w B F φ σ h)(g:Go F X φ φ' h h'):∀f∈F,(∃o a n,h'.get? f=some o/\o.data=.dict a n)/\f∉aU φ'/\B.get? f=Option.none:=λf x=>by
 refine cQ (S.frames f x) λb l p=>?_;obtain⟨o,a,n,e,d⟩:=b;refine⟨?_,λq=>(g.new f q).elim l λr=>(by rw[e]at r;cases r),p⟩;refine aB λz j=>?_;by_cases m:f∈X
 ·refine aQ (g.xs f m o e (bP d)) λu i Z k=>cI (k a n d) λc v t=>j<|bJ u c v ⟨i,t⟩
 ·obtain⟨_,y,i⟩:=g.kp f o e λq=>(Uy.mp q).elim m l
  refine j<|bJ _ a n ⟨i,d⟩
theorem St.step(S:St cl pg w B F φ σ h)(O:eS X φ h)(e:∀a∈X,B.get? a=Option.none)(g:Go F X φ φ' h h')(b:(aU φ').Nodup)(c:∀a∈aU φ',a∉aU φ->B.get? a=Option.none)(len:φ'.length=σ'.length)
  (d:∀(i:Nat) p o,φ'[i]?=some p->σ'[i]?=some o->(φ[i]?=some p/\σ[i]?=some o/\ ∀a∈p.1::p.2.toList,∀ob,h.get? a=some ob->h'.get? a=some ob)\/ObjR cl pg w φ' h' p o):St cl pg w B F φ' σ' h':=
 ⟨S.baseGo e g,b,λa l=>by
  by_cases q:a∈aU φ
  ·exact S.fresh a q
  ·exact c a l q,len,λi p o f n=>by
  rcases d i p o f n with⟨j,m,k⟩|x
  ·exact(S.obj i p o j m).go S O g k
  ·exact x,S.framesGo g⟩
theorem St.grow(S:St cl pg w B F φ σ h)(k:∀b o,h.get? b=some o->h'.get? b=some o):St cl pg w B F φ σ h'/\Go F [] φ φ h h':=by
 have g:Go F [] φ φ h h':=⟨Uk _,λZ q=>.inl q,λb o e Z=>⟨λZ=>k b o e,o.slots,k b o e⟩,λZ q=>nomatch q⟩;exact⟨S.step au (λZ q=>nomatch q) g S.nodup (λZ a b=>absurd a b) S.len λi p o c d=>.inl ⟨c,d,λa Z ob e=>k a ob e⟩,g⟩
theorem fk(φ:al)(p:Addr×Aux):aU (φ++ [p])=aU φ++p.1::p.2.toList:=by
 unfold aU;rw[List.flatMap_append];simp
theorem St.push(S:St cl pg w B F φ σ h){p:Addr×Aux}{o:O}(k:∀b ob,h.get? b=some ob->h'.get? b=some ob)(m:∀a∈p.1::p.2.toList,h.get? a=Option.none)(u:(p.1::p.2.toList).Nodup)
  (x:ObjR cl pg w (φ++ [p]) h' p o):St cl pg w B F (φ++ [p]) (σ++ [o]) h'/\Go F [] φ (φ++ [p]) h h':=by
 have f:∀a∈aU φ,∃ob,h.get? a=some ob:=λa c=>aa (S.held _ _ _ c) λob e Z=>⟨ob,e⟩;have g:Go F [] φ (φ++ [p]) h h':=⟨TX _ _,λa q=>by
   rw[fk]at q;exact(Uy.mp q).imp id (m a),λb ob e Z=>⟨λZ=>k b ob e,ob.slots,k b ob e⟩,λZ q=>nomatch q⟩
 refine⟨S.step au (λZ q=>nomatch q) g ?_ (λa c v=>?_) (by simp[S.len]) λi q ob d j=>?_,g⟩
 ·rw[fk,T7]
  refine⟨S.nodup,u,λa c b t e=>?_⟩;refine am (f a c) λob n=>?_;rw[e,m b t]at n;cases n
 ·rw[fk]at c
  rcases Uy.mp c with q|q
  ·exact absurd q v
  ·induction r:B.get? a using Vx with
   |none=>rfl
   |some ob=>have:=S.base a ob r;rw[m a q]at this;cases this
 ·by_cases l:i<φ.length
  ·rw[S4 l]at d
   rw[S4 (by rw[<-S.len];exact l)]at j;exact .inl ⟨d,j,λa Z ob e=>k a ob e⟩
  ·have y:i=φ.length:=by
    have:=(S6.mp d).1;simp at this;exact Mq l this
   subst y;rw[SW (Vi _),Vb]at d;rw[S.len,SW (Vi _),Vb]at j;cases d;cases j;exact .inr x
theorem lS:∀ {φ:al} {i j:Nat} {p q:Addr×Aux},(aU φ).Nodup->φ[i]?=some p->φ[j]?=some q->i≠j-> ∀a∈p.1::p.2.toList,a∉q.1::q.2.toList
 | [],_,_,_,_,_,e,_,_,_,_=>by cases e
 |x::r,0,0,_,_,_,_,_,n,_,_=>absurd rfl n
 |x::r,0,j+1,p,q,hn,e1,e2,_,a,ha=>λb=>by
  cases e1;rw[aU,List.flatMap_cons,T7]at hn;exact hn.2.2 a ha a (Ui.mpr ⟨q,TB e2,b⟩) rfl
 |x::r,i+1,0,p,q,hn,e1,e2,_,a,ha=>λb=>by
  cases e2;rw[aU,List.flatMap_cons,T7]at hn;exact hn.2.2 a b a (Ui.mpr ⟨p,TB e1,ha⟩) rfl
 |x::r,i+1,j+1,p,q,hn,e1,e2,n,a,ha=>by
  rw[aU,List.flatMap_cons,T7]at hn;exact lS hn.2.1 e1 e2 (λe=>n (by rw[e])) a ha
theorem St.upd(S:St cl pg w B F φ σ h){p:Addr×Aux}{o:O}(f:φ[i]?=some p)(k:∀b ob,h.get? b=some ob->b∉p.1::p.2.toList->h'.get? b=some ob)
  (x:(Go F [] φ φ h h')->ObjR cl pg w φ h' p o):St cl pg w B F φ (σ.set i o) h'/\Go F [] φ φ h h':=by
 have g:Go F [] φ φ h h':=⟨Uk _,λZ q=>.inl q,λb ob e r=>by
   have c:b∉p.1::p.2.toList:=λq=>r (by
    rw[List.nil_append];exact Ui.mpr ⟨p,TB f,q⟩)
   exact⟨λZ=>k b ob e c,ob.slots,k b ob e c⟩,λZ q=>nomatch q⟩
 refine⟨S.step au (λZ q=>nomatch q) g S.nodup (λZ a b=>absurd a b) (by rw[List.length_set];exact S.len) λj q ob d l=>?_,g⟩;by_cases e:i=j
 ·subst e
  rw[f]at d;cases d;rw[List.getElem?_set_self (by rw[<-S.len];exact(S6.mp f).1)]at l;cases l;exact .inr (x g)
 ·rw[Ty e]at l
  exact .inl ⟨d,l,λa n m t=>k a m t (lS S.nodup d f (Vu e) a n)⟩
theorem St.local(S:St cl pg w B F φ σ h){L:Addr}(O:eS [L] φ h)(u:B.get? L=Option.none)(sb:Heap.SameBut L h h')(r:∃o j n,h'.get? L=some o/\o.data=.dict j n):St cl pg w B F φ σ h'/\Go F [L] φ φ h h':=by
 have g:Go F [L] φ φ h h':=⟨Uk _,λZ q=>.inl q,λb o e l=>by
   have f:b≠L:=λq=>l (Tz _ (TW.mpr q));exact⟨λZ=>(sb.2 b f).trans e,o.slots,(sb.2 b f).trans e⟩,λa c Z Z Z=>by
   rw[TW.mp c];refine aB λv m=>dK (r) λo j n e d=>m ?_;exact⟨o,e,bP d,λZ Z Z=>⟨j,n,d⟩⟩⟩
 refine⟨S.step O (λa c=>by rw[TW.mp c];exact u) g S.nodup (λZ a b=>absurd a b) S.len λi p o k t=>.inl ⟨k,t,λa c ob e=>?_⟩,g⟩;refine(sb.2 a λq=>?_).trans e;exact(O L (TW.mpr rfl)).1 (q▸Ui.mpr ⟨p,TB k,c⟩)
theorem St.aside(S:St cl pg w B F φ σ h)(O:eS [a] φ h)(z:B.get? a=Option.none)(sb:Heap.SameBut a h h')(x:∃m,h'.get? a=some m/\side m/\ ∀o r n,h.get? a=some o->o.data=.dict r n-> ∃es' n',m.data=.dict es' n'):St cl pg w B F φ σ h'/\Go F [a] φ φ h h':=by
 have g:Go F [a] φ φ h h':=⟨Uk _,λZ q=>.inl q,λb o e f=>by
  have l:b≠a:=λq=>f (Tz _ (TW.mpr q));exact⟨λZ=>(sb.2 b l).trans e,o.slots,(sb.2 b l).trans e⟩,λb f j c Z=>by
  rw[TW.mp f]at c ⊢;refine aQ (x) λm y v k=>?_;exact⟨m,y,v,λr n d=>k j r n c d⟩⟩
 exact⟨S.step O (λb f=>by rw[TW.mp f];exact z) g S.nodup (λZ a b=>absurd a b) S.len λi p o t u=>.inl ⟨t,u,λb f ob e=>(sb.2 b λq=>(O a (TW.mpr rfl)).1 (q▸Ui.mpr ⟨p,TB t,f⟩)).trans e⟩,g⟩
theorem St.drop {F':List Addr}(S:St cl pg w B F φ σ h)(a:∀f∈F',f∈F):St cl pg w B F' φ σ h:=⟨S.base,S.nodup,S.fresh,S.len,S.obj,λf b=>S.frames f (a f b)⟩
end
structure Wd where
 prog:Program
 w:World
 K:Frag
 mg:Str->Option Value
 mb:Str->Option Value
 cl:Cls
 B:Heap
 CR:Addr
 P:Prg
noncomputable def ao(fs:List Env):List Addr:=fs.filterMap (·.frame)
structure At (A:Around) (fs:List Env) (n:Nat):Prop where
 frames:A.frames=some fs
 depth:A.depth+2*n+20<=recursionLimit
 units:A.units+12*n+300<=cLine
 handled:A.handled=none
 envs:∀e∈fs,e.scope.kind≠ .module/\ ∃L,e.frame=some L
abbrev Wd.St (W:Wd) (F:List Addr) (φ:al) (σ:List O) (h:Heap):Prop:=Mine.St W.cl W.prog W.w W.B F φ σ h
abbrev Wd.Loc (W:Wd) (E:Env) (c:Cx) (l:Loc) (φ:al) (h:Heap):Prop:=LocR W.cl W.B E c l φ h
structure MsgAt (φ:al) (Y h':Heap) (msg:V) (e:Addr):Prop where
 ex:∃oe d mm v,h'.get? e=some oe/\oe.dict=some d/\Y.Ns d mm/\mm "message"=some v/\VR φ Y msg v
noncomputable def rZ(Y:Heap)(fs:List Env)(e C:Addr)(h':Heap):Prop:=
 Y.StaysIn h'/\Y.get? e=none/\h'.FunFrames Y fs/\ ∃a0,(∃oe vs,h'.get? e=some oe/\oe.cls=.ref C/\oe.data=.fields vs/\vs[1]?=some .none/\vs[0]?=some a0)\/h'.TracedW Y e (.ref C) a0
structure ErrR (W:Wd) (fs:List Env) (X:List Addr) (φ:al) (h:Heap) (φ':al) (σ':List O) (m:V) (e:Addr) (h':Heap):Prop where
 pre:φ<+:φ'
 new:∀a∈aU φ',a∈aU φ\/h.get? a=Option.none
 ex:∃Y,W.St [] φ' σ' Y/\(∀b o,h.get? b=some o->b∉aU φ->b∉X->b∉ao fs->Y.get? b=some o)/\
  (∀f∈ao fs,Y.get? f=none/\f∉aU φ'/\(∃o es n,h'.get? f=some o/\o.data=.dict es n)/\(f∉X-> ∀o,h.get? f=some o-> ∃sl,h'.get? f=some {o with slots:=sl}))/\
  rZ Y fs e W.CR h'/\MsgAt φ' Y h' m e
def aj {c β:Type}(W:Wd)(fs:List Env)(X:List Addr)(RV:al->Heap->c->β->Prop)(r:R c)(s:Shared)(φ:al)(Q:β->Shared->Prop)(Er:Value->Shared->Prop):Prop:=match r with
 |.ok a σ'=>∀b h' tk φ',W.St (ao fs) φ' σ' h'->Go (ao fs) X φ φ' s.heap h'->RV φ' h' a b->Q b {s with heap:=h',toks:=tk}
 |.exc m σ'=>∀e h' tk φ',ErrR W fs X φ s.heap φ' σ' m e h'->Er (.ref e) {s with heap:=h',toks:=tk}
 |.bad=>False
def aI {a β:Type}(W:Wd)(A:Around)(fs:List Env)(E:Env)(c:Cx)(l:Loc)(RV:al->Heap->a->β->Prop)(t:Sem β)(m:M a):Prop:=
 ∀(s:Shared) (φ:al) (σ:List O) (Q:β->Shared->Prop) (Er:Value->Shared->Prop),W.St (ao fs) φ σ s.heap->W.Loc E c l φ s.heap->aj W fs [] RV (m σ) s φ Q Er->wpAny (model W.prog W.w) A t Q Er s
section
variable {W:Wd} {A:Around} {fs:List Env} {X:List Addr} {E:Env} {c:Cx} {l:Loc}
theorem ErrR.before {φ d k:al}{i:Heap}{t:List O}{m:V}{e:Addr}(O:eS X φ h)(g:Go (ao fs) X φ d h i)(x:ErrR W fs X d i k t m e h'):ErrR W fs X φ h k t m e h':=by
 obtain⟨p,N,Y,L,P,S,air,I⟩:=x;have n:∀a,a∉aU φ->i.get? a=none->h.get? a=none:=λa y e=>dP O g y e;refine⟨g.pre.trans p,λa y=>?_,Y,L,λb o e C u F=>?_,λf Z=>?_,air,I⟩
 ·by_cases j:a∈aU φ
  ·exact .inl j
  ·rcases N a y with q|q
   ·exact g.new a q
   ·exact .inr (n a j q)
 ·have B:=(g.kp b o e (λz=>(Uy.mp z).elim u C)).1 F
  exact P b o B (λz=>(g.new b z).elim C λr=>by rw[e]at r;cases r) u F
 ·refine fD (S f Z) λG D J U=>⟨G,D,J,λu o e=>?_⟩
  have j:f∉aU φ:=λz=>D (dO (g.pre.trans p) f z);obtain⟨_,sl,B⟩:=g.kp f o e (λz=>(Uy.mp z).elim u j);refine am (U u _ B) λv H=>⟨v,H⟩
theorem ErrR.more {φ a:al}{d:List O}{m:V}{e:Addr}(x:ErrR W fs [] φ h a d m e h'):ErrR W fs X φ h a d m e h':=by
 refine aB λv n=>?_;obtain⟨p,r,Y,q,t,g,air,j⟩:=x;refine n<|⟨p,r,Y,q,λb o e k Z u=>t b o e k (λz=>nomatch z) u,λf i=>⟨(g f i).1,(g f i).2.1,(g f i).2.2.1,λZ=>(g f i).2.2.2 (λz=>nomatch z)⟩,air,j⟩
theorem aj.el {a β b:Type}{RV:al->Heap->a->β->Prop}{o:Option b}{f:b->R a}{s:Shared}{φ:al}{Q:β->Shared->Prop}(p:aj W fs X RV (o.elim .bad f) s φ Q Er):∃x,o=some x/\aj W fs X RV (f x) s φ Q Er:=by
 induction o using Vx with
 |none=>exact p.elim
 |some x=>exact⟨x,rfl,p⟩
theorem aj.bi {a β:Type}{RV:al->Heap->a->β->Prop}{b:Bool}{r:R a}{s:Shared}{φ:al}{Q:β->Shared->Prop}(p:aj W fs X RV (bif b then r else .bad) s φ Q Er):b=true/\aj W fs X RV r s φ Q Er:=by
 induction b using VA with
 |false=>exact p.elim
 |true=>exact⟨rfl,p⟩
theorem aj.it {a β:Type}{RV:al->Heap->a->β->Prop}{P:Prop}[Decidable P]{r:R a}{s:Shared}{φ:al}{Q:β->Shared->Prop}(p:aj W fs X RV (if P then r else .bad) s φ Q Er):P/\aj W fs X RV r s φ Q Er:=by
 by_cases h:P
 ·rw[Vw h]at p;exact⟨h,p⟩
 ·rw[Vv h]at p;exact p.elim
noncomputable abbrev VD:=@Mine.R.casesOn.{0}
theorem aj.after {j β:Type}{RV:al->Heap->j->β->Prop}{r:R j}{s:Shared}{φ d:al}{f:Heap}{tk:Nat}{Q:β->Shared->Prop}(O:eS X φ s.heap)(g:Go (ao fs) X φ d s.heap f)
  (p:aj W fs X RV r s φ Q Er):aj W fs X RV r {s with heap:=f,toks:=tk} d Q Er:=by
 induction r using VD with
 |ok a σ'=>exact λb h' i h k n x=>p b h' i h k (Go.trans O g n) x
 |exc m σ'=>exact λe h' i h x=>p e h' i h (x.before O g)
 |bad=>exact p.elim
theorem aj.bind {o n β j:Type}{RV:al->Heap->o->β->Prop}{RV':al->Heap->n->j->Prop}{m:M o}{f:o->M n}{σ:List O}{s:Shared}{φ:al}{Q:j->Shared->Prop}{Q₁:β->Shared->Prop}{Er:Value->Shared->Prop}(O:eS X φ s.heap)
  (p:aj W fs X RV' (mq m f σ) s φ Q Er)
  (k:∀a b σ₁ h tk d,W.St (ao fs) d σ₁ h->Go (ao fs) X φ d s.heap h->RV d h a b->aj W fs X RV' (f a σ₁) {s with heap:=h,toks:=tk} d Q Er->Q₁ b {s with heap:=h,toks:=tk}):
  aj W fs X RV (m σ) s φ Q₁ Er:=by
 unfold mq at p;induction hm:m σ using VD with
 |ok a σ₁=>
  rw[hm]at p;exact λb h tk d i g x=>k a b σ₁ h tk d i g x (p.after O g)
 |exc e σ₁=>rw[hm]at p;exact p
 |bad=>rw[hm]at p;exact p.elim
theorem aj.ret {d β:Type}{RV:al->Heap->d->β->Prop}{a:d}{b:β}{σ:List O}{s:Shared}{φ:al}{Q:β->Shared->Prop}{tk:Nat}
  (p:aj W fs X RV (.ok a σ) s φ Q Er)(k:∀b o,s.heap.get? b=some o->h'.get? b=some o)(S:W.St (ao fs) φ σ s.heap)(O:eS X φ s.heap)(x:RV φ h' a b):Q b {s with heap:=h',toks:=tk}:=by
 refine af (S.grow k) λe g=>p b h' tk φ e (g.more O) x
theorem aj.ret0 {d β:Type}{RV:al->Heap->d->β->Prop}{a:d}{b:β}{σ:List O}{s:Shared}{φ:al}{Q:β->Shared->Prop}{tk:Nat}
  (p:aj W fs X RV (.ok a σ) s φ Q Er)(S:W.St (ao fs) φ σ s.heap)(x:RV φ s.heap a b):Q b {s with toks:=tk}:=p b s.heap tk φ S (Go.refl _ _ _ _) x
theorem aI.bind {n i β k:Type}{RV:al->Heap->n->β->Prop}{RV':al->Heap->i->k->Prop}{t:Sem β}{m:M n}{u:β->Sem k}{f:n->M i}(x:aI W A fs E c l RV t m)
  (y:∀a b s₁ d e Q Er,W.St (ao fs) d e s₁.heap->W.Loc E c l d s₁.heap->RV d s₁.heap a b->aj W fs [] RV' (f a e) s₁ d Q Er->wpAny (model W.prog W.w) A (u b) Q Er s₁):aI W A fs E c l RV' (t>>=u) (mq m f):=by
 intro s φ σ Q Er S L p;refine Vn (x s φ σ _ _ S L (aj.bind au p λa b e h tk d j g z q=>?_));exact y a b {s with heap:=h,toks:=tk} d e Q Er j (L.go S g) z q
end
end Mine
end
noncomputable section
open PySem PySem.W PySem.Calls
set_option exponentiation.threshold 3000
namespace Mine
variable {φ:al} {σ:List O} {h:Heap} {a b:V} {v u:Value} {F:List Addr} {x:Str} {o:Obj} {Er:Value->Shared->Prop}
structure WdOk (W:Wd):Prop where
 K:W.K.In W.B
 g:W.B.Ns mainGlobals W.mg
 b:W.B.Ns builtinsNs W.mb
 lim:W.B.NoLimit
 consts:∀x v,jQ x=some v-> ∃val,W.mg x=some val/\ ∀φ h,W.B.StaysIn h->VR φ h v val
section
variable {W:Wd} {A:Around} {fs:List Env} {X:List Addr} {E:Env} {c:Cx} {l:Loc}
theorem aI.after {r j β i:Type}{RV:al->Heap->r->β->Prop}{RV':al->Heap->j->i->Prop}{t:Sem β}{m:M r}{f:r->M j}(x:aI W A fs E c l RV t m)
  {s:Shared}{φ:al}{σ:List O}{Q:i->Shared->Prop}{Q₁:β->Shared->Prop}{Er:Value->Shared->Prop}(S:W.St (ao fs) φ σ s.heap)(L:W.Loc E c l φ s.heap)(p:aj W fs [] RV' (mq m f σ) s φ Q Er)
  (k:∀a b s₁ d σ₁,W.St (ao fs) d σ₁ s₁.heap->W.Loc E c l d s₁.heap->RV d s₁.heap a b->Go (ao fs) [] φ d s.heap s₁.heap->aj W fs [] RV' (f a σ₁) s₁ d Q Er->Q₁ b s₁):wpAny (model W.prog W.w) A t Q₁ Er s:=
 x s φ σ _ _ S L (aj.bind au p λa b Z n tk d e g z q=>k a b {s with heap:=n,toks:=tk} d _ e (L.go S g) z g q)
theorem FP {k pos}:aI W A fs E c l VR (eval (.Constant .none k pos) E) (mr .none):=by
 intro s φ σ Q Er S L p;rw[eval_Constant];exact Vq (p.ret0 S .none)
theorem FQ {b k pos}:aI W A fs E c l VR (eval (.Constant (.bool b) k pos) E) (mr (.bool b)):=by
 intro s φ σ Q Er S L p;rw[eval_Constant];exact Vq (p.ret0 S (.bool b))
theorem IV {i k pos}:aI W A fs E c l VR (eval (.Constant (.int i) k pos) E) (mr (.int i)):=by
 intro s φ σ Q Er S L p;rw[eval_Constant];exact wpAny_mkInt (p.ret0 S (.int i _))
theorem IW {x k pos}:aI W A fs E c l VR (eval (.Constant (.str x) k pos) E) (mr (.str x)):=by
 intro s φ σ Q Er S L p;rw[eval_Constant];exact wpAny_mkText (p.ret0 S (.str x _))
theorem AQ {n:Nat}{a:Addr}{v:Option V}(S:W.St F φ σ h)(e:φ[n]?=some (a,Aux.none))(q:σ[n]?=some (.cell v)):
  ∃val,h.get? a=some {cls:=.type "cell",data:=.cell val}/\(∀V,v=some V-> ∃u,val=some u/\VR φ h V u):=by
 have x:=S.obj n _ _ e q;induction v using Vx with
 |none=>exact aa x.cellN' λb z g=>⟨_,(Prod.mk.inj z).1▸g,λV z=>ns z⟩
 |some v=>exact aW x.cellS' λb u z g r=>⟨_,(Prod.mk.inj z).1▸g,λV z=>⟨_,rfl,UB z▸r⟩⟩
theorem wm {a:Addr}{s:Shared}{M:Model}{Q:Value->Shared->Prop}(f:E.scope.kind=.function)
  (d:E.kindOf x=some .cell\/(E.kindOf x=some .free/\x≠ "__classdict__"))(g:E.cells.lookup x=some a)(i:s.heap.get? a=some o)(hd:o.data=.cell (some v))(h:Q v s):wpAny M A (loadName E x) Q Er s:=by
 have cb:∀ {t:Option Value->Sem Value},wpAny M A (t (some v)) Q Er s->wpAny M A (cellOf E x>>=λa=>cellGet a>>=t) Q Er s:=λq=>by
  unfold cellOf;rw[g];refine Vn (Vq (Vn ?_));refine Vn (wpAny_load i ?_);rw[hd];exact Vq q
 unfold loadName;rcases d with d|⟨d,j⟩
 ·simp only[Env.blockKind,f,ScopeKind.isAnnotationScope,UG,TQ,Vt,d]
  exact cb (Vq h)
 ·have e:(x==("__classdict__":Str))=false:=by simpa using j
  simp only[Env.blockKind,f,ScopeKind.isAnnotationScope,UG,TQ,Vt,d,e];exact cb (Vq h)
theorem ui {a:Addr}{v:Value}{d:Option Value}{s:Shared}{M:Model}{Q:Unit->Shared->Prop}{Er:Value->Shared->Prop}(i:E.scope.kind=.function)
  (k:E.kindOf x=some .cell)(g:E.cells.lookup x=some a)(e:s.heap.get? a=some o)(hd:o.data=.cell d)(h:Q () {s with heap:=s.heap.update a λo=> {o with data:=.cell (some v) } }):wpAny M A (storeName E x v) Q Er s:=by
 have j:(some NameKind.cell==some NameKind.globalImplicit)=false:=by decide
 have f:(ScopeKind.function==ScopeKind.class)=false:=by decide
 unfold storeName;simp only[i,k,j,f,UG,TQ,Vt];unfold cellOf;rw[g];refine Vn (Vq ?_);refine Vn (wpAny_load e ?_);rw[hd];exact wpAny_update e h
theorem AR {G:Prop}{c:Cx}{s:Shared}{Q:Value->Shared->Prop}
  (p:aj W fs [] VR ((look x c.cells).elim .bad λn=>(qF σ[n]?).elim .bad λv=>.ok v σ) s φ Q Er)(k:∀n V,look x c.cells=some n->σ[n]?=some (.cell (some V))->aj W fs [] VR (.ok V σ) s φ Q Er->G):G:=by
 induction hn:look x c.cells using Vx with
 |none=>rw[hn]at p;exact p.elim
 |some n=>
  rw[hn]at p
  replace p:aj W fs [] VR ((qF σ[n]?).elim .bad λv=>.ok v σ) s φ Q Er:=p
  induction hc:qF σ[n]? using Vx with
  |none=>rw[hc]at p;exact p.elim
  |some V=>rw[hc]at p;exact k n V hn (Mu hc) p
theorem MP {G:Prop}{c:Cx}{l:Loc}{s:Shared}{Q:Value->Shared->Prop}(p:aj W fs [] VR (rd c l x σ) s φ Q Er)
  (k1:c.scope.names.lookup x=some .local-> ∀V,look x l=some V->aj W fs [] VR (.ok V σ) s φ Q Er->G)
  (k2:∀n V,(c.scope.names.lookup x=some .cell\/(c.scope.names.lookup x=some .free/\x≠ "__classdict__"))->look x c.cells=some n->σ[n]?=some (.cell (some V))->aj W fs [] VR (.ok V σ) s φ Q Er->G)
  (k3:∀V,c.scope.names.lookup x=some .globalImplicit->jQ x=some V->aj W fs [] VR (.ok V σ) s φ Q Er->G):G:=by
 unfold rd at p;induction e:c.scope.names.lookup x using Vx with
 |none=>rw[e]at p;exact p.elim
 |some kd=>
  rw[e]at p;induction kd using NameKind.casesOn with
  |«local»=>
   replace p:aj W fs [] VR ((look x l).elim .bad λv=>.ok v σ) s φ Q Er:=p
   induction hv:look x l using Vx with
   |none=>rw[hv]at p;exact p.elim
   |some V=>rw[hv]at p;exact k1 e V hv p
  |globalImplicit=>
   replace p:aj W fs [] VR ((jQ x).elim .bad λv=>.ok v σ) s φ Q Er:=p
   induction hv:jQ x using Vx with
   |none=>rw[hv]at p;exact p.elim
   |some V=>rw[hv]at p;exact k3 V e hv p
  |cell=>
   replace p:aj W fs [] VR (if x= "__classdict__" then .bad else(look x c.cells).elim .bad λn=>(qF σ[n]?).elim .bad λv=>.ok v σ) s φ Q Er:=p
   by_cases d:x= "__classdict__"
   ·rw[Vw d]at p;exact p.elim
   ·rw[Vv d]at p;exact AR p λn V g f p=>k2 n V (.inl e) g f p
  |free=>
   replace p:aj W fs [] VR (if x= "__classdict__" then .bad else(look x c.cells).elim .bad λn=>(qF σ[n]?).elim .bad λv=>.ok v σ) s φ Q Er:=p
   by_cases d:x= "__classdict__"
   ·rw[Vw d]at p;exact p.elim
   ·rw[Vv d]at p;exact AR p λn V g f p=>k2 n V (.inr ⟨e,d⟩) g f p
  |_=>exact p.elim
theorem xJ(B:WdOk W){x pos}:aI W A fs E c l VR (eval (.Name x pos) E) (if x= "__debug__" then bad else rd c l x):=by
 intro s φ σ Q Er S L p;refine aB λH C=>?_;by_cases w:x= "__debug__"
 ·refine C ?_
  rw[Vw w]at p;exact p.elim
 rw[Vv w]at p;refine C<|wpAny_Name ?_ (by simpa using w);have d:E.kindOf x=c.scope.names.lookup x:=by unfold Env.kindOf;rw[L.scope]
 refine MP p (λe V y p=>?_) (λn V e j G p=>?_) (λV e y p=>?_)
 ·refine aa (L.ns) λm j D=>aa (D x V y) λv f i=>TF L.kind (d.trans e) j f (p.ret0 S i)
 ·refine aa (L.cells x n j) λa f i=>aa (AQ S i G) λt g k=>aa (k V rfl) λu z r=>?_
  rw[z]at g;exact wm L.kind (e.imp (λe=>d.trans e) λq=>⟨d.trans q.1,q.2⟩) f g rfl (p.ret0 S r)
 ·refine aa (B.consts x V y) λt f i=>?_
  unfold loadName;simp only[Env.blockKind,L.kind,d.trans e,ScopeKind.isAnnotationScope,UG,TQ,Vt];exact loadGlobal_global (by rw[L.glob];exact B.g.keeps S.base) f (p.ret0 S (i _ _ S.base))
theorem nE {x:Int}{k:Nat}(h:x.natAbs<2^k):Builtin.Int.intBits x<=k:=by
 exact intBits_le_iff.mpr h
theorem DN {l:Addr}{items:Array Value}{k:Nat}{x:Int}{u:Tok}{s:Shared}{Q:Value->Shared->Prop}{Er:Value->Shared->Prop}{e:Program}{w:World}
  (f:s.heap.get? l=some (listOf items k))
  (i: -(2^63:Int)<=x)(g:x<2^63)(d:items.size*x.toNat<=2^24)
  (h:Q (.ref s.heap.objs.size) {s with heap:=s.heap.push {cls:=.type "list",data:=.seq (List.foldl (λj m=>j++m) #[] (List.replicate (if items.isEmpty=true then 0 else x.toNat) items)) } }):
  wpAny (model e w) A (binaryOp .Mult (.ref l) (.int x u)) Q Er s:=
 wpAny_binaryOp_repeat_ref (T:= "list") (U:= "int") (by decide) ⟨_,f,rfl⟩ (λn=>typeIs_int n x u) noFill_list_mul F.fills_int_mul F.slot_int_rmul repeat_list F.slot_int_index.lookup
  (call_meets F.slot_int_rmul (typeIs_int s x u) F.entry_int_rmul (F.args_int_rmul_2 _ _) (int___rmul___int_list x u l items k)
   ⟨f,rfl,⟨_,f,rfl⟩,call_meets F.slot_list_mul ⟨_,f,rfl⟩ F.entry_list_mul (F.args_list_mul_2 _ _)
    (AutoListH.list___mul___list_int_3 l items k x u (by simp[Builtin.List.listFitsIndex];exact RI i g) (Nat.not_lt.mpr (tt d (by decide))) (by simp[Builtin.List.listTooLong,sizeLine];exact QK d))
    ⟨f,h⟩⟩)
theorem DO(vs:List Value):∀n:Nat,(List.foldl (λ(e f:Array Value)=>e++f) #[] (List.replicate n vs.toArray)).toList=(List.replicate n vs).flatten:=by
 have key:∀(n:Nat) (d:Array Value),(List.foldl (λ(e f:Array Value)=>e++f) d (List.replicate n vs.toArray)).toList=d.toList++(List.replicate n vs).flatten:=by
  intro n;induction n with
  |zero=>intro d;simp
  |succ k ih=>intro d;rw[TK,List.foldl_cons,ih,TK,List.flatten_cons,Array.toList_append,List.append_assoc]
 intro n;simpa using key n #[]
theorem B4 {o:Obj}{ob:O}(S:W.St F φ σ h)(x:ObjR W.cl W.prog W.w (φ++ [(h.objs.size,Aux.none)]) (h.push o) (h.objs.size,Aux.none) ob):
  W.St F (φ++ [(h.objs.size,Aux.none)]) (σ++ [ob]) (h.push o)/\Go F [] φ (φ++ [(h.objs.size,Aux.none)]) h (h.push o):=
 S.push (λb ob e=>Tk _ e) (λa d=>by
  have:a=h.objs.size:=by simpa [Aux.toList]using d
  subst this;exact SX (Vi _)) (by simp[Aux.toList]) x
theorem St.laid(S:W.St F φ σ h){V:V}{n:Nat}(e:V=.ref n)(x:VR φ h V v){o:O}(q:σ[n]?=some o):∃p,φ[n]?=some p/\v=.ref p.1/\ObjR W.cl W.prog W.w φ h p o:=by
 subst e;exact aa x.ref' λp z e=>⟨p,e,z,S.obj n _ _ e q⟩
theorem uj {h':Heap}{q:Addr×Aux}(k:∀b o,h.get? b=some o->h'.get? b=some o):Mv φ (φ++ [q]) h h':=⟨λe Z=>k _ _ e,dq (TX _ _)⟩
theorem VRs.goPush(S:W.St F φ σ h){l:List V}{vs:List Value}(x:VRs φ h l vs):VRs (φ++ [(h.objs.size,Aux.none)]) (h.push o) l vs:=VRs.mv (uj λZ Z e=>Tk _ e) x
theorem AS {h':Heap}{ob:O}{ax:Aux}(S:W.St F φ σ h)(d:ax.toList= [])(k:∀b o,h.get? b=some o->h'.get? b=some o)(x:ObjR W.cl W.prog W.w (φ++ [(h.objs.size,ax)]) h' (h.objs.size,ax) ob):
  W.St F (φ++ [(h.objs.size,ax)]) (σ++ [ob]) h'/\Go F [] φ (φ++ [(h.objs.size,ax)]) h h'/\VR (φ++ [(h.objs.size,ax)]) h' (.ref σ.length) (.ref h.objs.size):=by
 have z:=S.push k (p:=(h.objs.size,ax)) (λa e=>by
  rw[d]at e;rw[TW.mp e];exact SX (Vi _)) (by rw[d];exact Uz.mpr ⟨Uj,List.nodup_nil⟩) x
 refine⟨z.1,z.2,.ref (p:=(h.objs.size,ax)) ?_⟩;rw[<-S.len,SW (Vi _),Vb];rfl
theorem q9(S:W.St F φ σ h){l:List V}{vs:List Value}(x:VRs φ h l vs){a:Array Value}(e:a.toList=vs){k:Nat}:
  W.St F (φ++ [(h.objs.size,Aux.none)]) (σ++ [.list l]) (h.push (listOf a k))/\Go F [] φ (φ++ [(h.objs.size,Aux.none)]) h (h.push (listOf a k))/\VR (φ++ [(h.objs.size,Aux.none)]) (h.push (listOf a k)) (.ref σ.length) (.ref h.objs.size):=by
 have z:=B4 (o:=listOf a k) (ob:=.list l) S (.list (vs:=vs) (n:=k) (by rw[<-e];exact TH _ rfl) (VRs.goPush S x));refine⟨z.1,z.2,.ref (p:=(h.objs.size,Aux.none)) ?_⟩;rw[<-S.len,SW (Vi _),Vb];rfl
theorem zH {s:Shared}{Q:Value->Shared->Prop}(S:W.St (ao fs) φ σ s.heap)(r:VR φ s.heap a u)(m:VR φ s.heap b v)
  (p:aj W fs [] VR (AF a b σ) s φ Q Er):wpAny (model W.prog W.w) A (binaryOp .Mult u v) Q Er s:=by
 refine aa p.el λq B p=>aa p.el λl L p=>af p.bi λd p=>?_;obtain⟨n,y⟩:=q;have d:=(Tu.mp d);have i:0<=y:=Ub d.1;have d:=(Tu.mp d.2);have f:y<=4096:=Ub d.1;have e:(l.length*y.toNat:Nat)<=4096:=Ub d.2;rw[(vz B).1]at r;rw[(vz B).2]at m;refine am m.int' λt z=>?_;rw[z];refine aQ (St.laid S rfl r (dx L)) λN P j g=>?_;rw[j];refine bw g.list' λa vs k J g x=>?_;rw[J];refine DN g (Re ⟨i,f,e⟩) (TR f (by decide)) (by rw[T8,x.length];exact Rn e) ?_;have H:VRs φ s.heap (List.replicate y.toNat l).flatten (List.replicate (if vs.toArray.isEmpty=true then 0 else y.toNat) vs).flatten:=by
  by_cases C:vs= []
  ·subst C
   have:l= []:=Tg.mp x.length.symm;subst this
   simp;exact .nil
  ·have:vs.toArray.isEmpty=false:=by simpa using C
   rw[this];exact VRs.flatRep x y.toNat
 refine cQ (q9 (k:=0) S H (DO vs _)) λG D I=>p _ _ _ _ G D I
theorem iQ {op:Operator}{g:Int×Int->Bool}{f:Int×Int->Int}{s:Shared}{Q:Value->Shared->Prop}(S:W.St (ao fs) φ σ s.heap)(d:VR φ s.heap a u)(j:VR φ s.heap b v)
  (p:aj W fs [] VR (na a b g f σ) s φ Q Er)(k:∀x y t i,g (x,y)=true->(∀tk tk',Q (.int (f (x,y)) tk) {s with toks:=tk'})->wpAny (model W.prog W.w) A (binaryOp op (.int x t) (.int y i)) Q Er s):wpAny (model W.prog W.w) A (binaryOp op u v) Q Er s:=by
 refine aa p.el λq e p=>af p.bi λm p=>?_;rw[(q5 e).1]at d;rw[(q5 e).2]at j;exact am d.int' λt z=>am j.int' λi n=>by rw[z,n];exact k _ _ _ _ m λZ Z=>p.ret0 S (.int _ _)
theorem DP {s:Shared}{Q:Value->Shared->Prop}(S:W.St (ao fs) φ σ s.heap)(d:VR φ s.heap a u)(f:VR φ s.heap b v)
  (p:aj W fs [] VR (DF a b σ) s φ Q Er):wpAny (model W.prog W.w) A (binaryOp .Add u v) Q Er s:=by
 refine aa p.el λq e p=>af p.bi λi p=>?_;rw[(xr e).1]at d;rw[(xr e).2]at f;exact am d.str' λt z=>am f.str' λg j=>by rw[z,j];exact PyProof.Rows.add_str (λg tk=>p.ret0 S (.str _ _)) (U7 (Ub i) (by decide))
theorem FT {op:Operator}{s:Shared}{Q:Value->Shared->Prop}(S:W.St (ao fs) φ σ s.heap)(e:VR φ s.heap a u)(i:VR φ s.heap b v)
  (p:aj W fs [] VR (ah op a b σ) s φ Q Er):wpAny (model W.prog W.w) A (binaryOp op u v) Q Er s:=by
 induction op using Operator.casesOn with
 |Add=>
  unfold ah at p;induction hi:(eE a).isSome using VA with
  |true=>rw[hi]at p;exact iQ S e i p λZ Z Z Z Z k=>PyProof.Rows.add_int (k _ _)
  |false=>rw[hi]at p;exact DP S e i p
 |Sub=>exact iQ (g:=λZ=>true) (f:=λq=>q.1-q.2) S e i p λZ Z Z Z Z k=>PyProof.Rows.sub_int (k _ _)
 |Mult=>
  unfold ah at p;induction hi:(eE a).isSome using VA with
  |true=>
   rw[hi]at p;exact iQ S e i p λx y Z Z d k=>PyProof.Rows.mul_int (k _ _) (IntMulOk.of_bits (U7 (nE (Ub (Tu.mp d).1)) (by decide)) (U7 (nE (Ub (Tu.mp d).2)) (by decide)))
  |false=>rw[hi]at p;exact zH S e i p
 |FloorDiv=>
  refine iQ (g:=λq=> !(decide (q.2=0))&&decide (q.2.natAbs<2^2000)) (f:=λq=>q.1.fdiv q.2) S e i p λx y Z Z d k=>?_;have d:=Tu.mp d;have j:¬y=0:=of_decide_eq_false (T5 _▸d.1);have n:y.natAbs<2^2000:=Ub d.2;have hz:y.natAbs.log2<9000:=T2 ((Nat.log2_lt (Int.natAbs_ne_zero.mpr j)).mpr n) (show 2000<=9000 by decide);exact PyProof.Rows.floordiv_int j (k _ _) (.inl (PyProof.noPylong_of_log2 hz))
 |Mod=>
  exact iQ (g:=λq=> !(decide (q.2=0))) (f:=λq=>q.1.fmod q.2) S e i p λx y Z Z d k=>PyProof.Rows.mod_int (of_decide_eq_false (T5 _▸d)) (k _ _)
 |Pow=>
  refine iQ (g:=λq=>decide (0<=q.2)&&(decide (q.2<=4096)&&decide (q.1.natAbs<2^2000))) (f:=λq=>q.1^q.2.toNat) S e i p λx y Z Z d k=>?_;have d:=Tu.mp d;have m:=Tu.mp d.2;have j:0<=y:=Ub d.1;have r:y<=4096:=Ub m.1;have t:=nE (Ub m.2);have:(Builtin.Int.intBits x:Int)*y<=2000*4096:=Int.mul_le_mul (U1.mpr t) r j (by decide);exact PyProof.Rows.pow_int j (UX this (by decide)) (k _ _)
 |_=>exact p.elim
end
end Mine
end
noncomputable section
open PySem PySem.W PySem.Calls PySem.SeqAt
namespace Mine
variable {b a:V} {v u:Value} {n:Nat} {p:Addr×Aux} {f:V->V->Option Bool} {xs:List V} {r:Bool} {k:Str} {es:List (Str×Value)} {kvs:List (Str×V)}
section
variable {W:Wd} {A:Around} {fs:List Env} {X:List Addr} {E:Env} {c:Cx} {l:Loc}
variable {F:List Addr} {φ:al} {σ:List O} {h:Heap}
def SC(φ:al)(h:Heap)(b:V)(v:Value):Prop:=(v=.none->b=.none)/\(∀x,v=.bool x->b=.bool x)/\(∀i t,v=.int i t->b=.int i)/\(∀x t,v=.str x t->b=.str x)/\
 ∀a,v=.ref a->(∃l o vs n,b=.tup l/\h.get? a=some o/\o.cls=.type "tuple"/\o.data=.seq vs n/\VRs φ h l vs.toList)\/ ∃n p,b=.ref n/\p.1=a/\φ[n]?=some p
theorem VR.outv(y:VR φ h b v):SC φ h b v:=by
 induction y using VR.casesOn with
 |none=>exact⟨λZ=>rfl,λZ z=>(nomatch z),λZ Z z=>(nomatch z),λZ Z z=>(nomatch z),λZ z=>(nomatch z)⟩
 |bool=>exact⟨λz=>(nomatch z),λZ z=>Vs V.bool (Value.bool.inj z),λZ Z z=>(nomatch z),λZ Z z=>(nomatch z),λZ z=>(nomatch z)⟩
 |int=>exact⟨λz=>(nomatch z),λZ z=>(nomatch z),λZ Z z=>Vs V.int (Value.int.inj z).1,λZ Z z=>(nomatch z),λZ z=>(nomatch z)⟩
 |str=>exact⟨λz=>(nomatch z),λZ z=>(nomatch z),λZ Z z=>(nomatch z),λZ Z z=>Vs V.str (Value.str.inj z).1,λZ z=>(nomatch z)⟩
 |tup e c d r=>exact⟨λz=>(nomatch z),λZ z=>(nomatch z),λZ Z z=>(nomatch z),λZ Z z=>(nomatch z),λZ z=>.inl ⟨_,_,_,_,rfl,US z▸e,c,d,r⟩⟩
 |ref e=>exact⟨λz=>(nomatch z),λZ z=>(nomatch z),λZ Z z=>(nomatch z),λZ Z z=>(nomatch z),λZ z=>.inr ⟨_,_,rfl,US z,e⟩⟩
def MQ(φ:al)(h:Heap)(b:List V)(vs:List Value):Prop:=@List.casesOn Value (λZ=>Prop) vs (b= []) λv t=>∃a r,b=a::r/\VR φ h a v/\VRs φ h r t
theorem VRs.outv {b:List V}{vs:List Value}(y:VRs φ h b vs):MQ φ h b vs:=@VRs.casesOn φ h (λb vs Z=>MQ φ h b vs) _ _ y rfl (λa r=>⟨_,_,rfl,a,r⟩)
theorem VR.injT(S:W.St F φ σ h){l:List V}{a:Addr}{o:Obj}{vs:Array Value}(e:h.get? a=some o)(c:o.cls=.type "tuple")(d:o.data=.seq vs n)(x:∀m,VRs φ h m vs.toList->l=m)(b:V)(y:VR φ h b (.ref a)): .tup l=b:=
 (y.outv.2.2.2.2 a rfl).elim (λq=>jz q λj w C G i g H z D=>by
  have B:o=w:=UB (e.symm.trans g);rw[B,z]at d;rw[i,x j ((Data.seq.inj d).1▸D)]) λq=>aW q λn p i t g=>absurd (t▸(oX g).1) (St.noTup _ _ _ S e (.inl ⟨c,_,_,d⟩)).1
theorem VR.injR(S:W.St F φ σ h)(e:φ[n]?=some p)(b:V)(y:VR φ h b (.ref p.1)): .ref n=b:=
 (y.outv.2.2.2.2 p.1 rfl).elim (λq=>jz q λx z t B i g o j C=>absurd (oX e).1 (St.noTup _ _ _ S g (.inl ⟨o,_,_,j⟩)).1) λq=>aW q λm q i w g=>by
  by_cases d:n=m
  ·rw[d,i]
  ·exact absurd (UR.mpr (.inl w.symm)) (lS S.nodup e g d p.1 (TU ..))
theorem VR.injB(S:W.St F φ σ h):(∀ {a v},VR φ h a v-> ∀b,VR φ h b v->a=b)/\ ∀ {l vs},VRs φ h l vs-> ∀m,VRs φ h m vs->l=m:=
 VR.all (P:=λa v=>∀b,VR φ h b v->a=b) (Q:=λl vs=>∀m,VRs φ h m vs->l=m) (λb y=>(y.outv.1 rfl).symm) (λx b y=>(y.outv.2.1 x rfl).symm) (λi t b y=>(y.outv.2.2.1 i t rfl).symm) (λx t b y=>(y.outv.2.2.2.1 x t rfl).symm)
  (λe c d Z j=>VR.injT S e c d j) (λe=>VR.injR S e) (λm y=>y.outv.symm) (λZ Z q z m y=>aW y.outv λa r g w o=>by rw[g,q _ w,z _ o])
theorem VR.inj(S:W.St F φ σ h)(x:VR φ h a v)(y:VR φ h b v):a=b:=(VR.injB S).1 x b y
theorem B5(j:∀a r,f a a=some r->r=true)(xs:List V):∀r,gC f xs xs=some r->r=true:=by
 induction xs using List.rec with
 |nil=>exact λr e=>(UB e).symm
 |cons x xs ih=>exact λr e=>aW (AB e) λp q i g d=>by rw[<-d,j x p i,ih q g];rfl
theorem AT(i:∀a r,f a a=some r->r=true)(e:lq f xs xs=some r):r=true:=
 aa (Tn.mp e) λq g d=>by rw[<-d,B5 i xs q g,UL (Eq.refl _)];rfl
theorem ji {d:Type}{p:Str×d}{r:List (Str×d)}:Mine.look k (p::r)=if k=p.1 then some p.2 else Mine.look k r:=rfl
theorem w4 {d:Type}{v:d}{p:Str×d}{r:List (Str×d)}:Mine.put k v (p::r)=if k=p.1 then(p.1,v)::r else p::Mine.put k v r:=rfl
theorem qG {d:Type}{l:List (Str×d)}{v:d}:look k l=some v->(k,v)∈l:=by
 induction l using List.rec with
 |nil=>exact λh=>ns h
 |cons x r ih=>
  intro h;rw[ji]at h;by_cases e:k=x.1
  ·rw[Vw e]at h;rw[e,<-UB h];exact TU ..
  ·rw[Vv e]at h;exact TA _ (ih h)
noncomputable def B6 {d:Type}(l:List (Str×d)):Prop:=(l.map (·.1)).Nodup
theorem vB {d:Type}{l:List (Str×d)}{v:d}:B6 l->(k,v)∈l->look k l=some v:=by
 induction l using List.rec with
 |nil=>exact λZ m=>absurd m Uj
 |cons x r ih=>
  intro h m;have h':=Uz.mp h;rw[ji];rcases UR.mp m with e|e
  ·rw[<-e,Vw rfl]
  ·rw[Vv λq:k=x.1=>h'.1 (U3.mpr ⟨_,e,q⟩)];exact ih h'.2 e
theorem vC {d:List (Str×V)}{p:Str×V}{r:List (Str×V)}{q:Bool}(e:eK f d (p::r)=some q):
  ∃i,eK f d r=some i/\((∃w x,look p.1 d=some w/\f p.2 w=some x/\(x&&i)=q)\/(look p.1 d=none/\q=false)):=by
 refine aa (Th.mp e) λi o g=>⟨i,o, ?_⟩;induction hw:look p.1 d using Vx with
 |none=>rw[hw]at g;exact .inr ⟨rfl,(UB g).symm⟩
 |some w=>rw[hw]at g;exact aa (Tn.mp g) λx j m=>.inl ⟨w,x,rfl,j,m⟩
theorem zI(G:∀a r,f a a=some r->r=true)(d:List (Str×V))(D:B6 d)(xs:List (Str×V)):∀r,(∀x∈xs,x∈d)->eK f d xs=some r->r=true:=by
 induction xs using List.rec with
 |nil=>exact λr Z e=>(UB e).symm
 |cons x xs ih=>
  intro r j e;have m:look x.1 d=some x.2:=vB D (j _ (TU ..));refine aa (vC e) λC o y=>y.elim (λz=>aW z λw p t i q=>?_) λz=>ns (z.1.symm.trans m);have g:w=x.2:=UB (t.symm.trans m);rw[g]at i;rw[<-q,G _ p i,ih C (λx B=>j x (TA _ B)) o];rfl
theorem PR.ind {Q:List (Str×V)->List (Str×Value)->Prop}(e:Q [] [])(d:∀ {k:Str} {a:V} {v:Value} {l:List (Str×V)} {es:List (Str×Value)},VR φ h a v->PR φ h l es->Q l es->Q ((k,a)::l) ((k,v)::es)){l:List (Str×V)}(x:PR φ h l es):Q l es:=
 @PR.rec φ h (λl es Z=>Q l es) e d _ _ x
theorem PR.length {es:List (Str×Value)}{kvs:List (Str×V)}(x:PR φ h kvs es):es.length=kvs.length:=PR.ind (Q:=λkvs es=>es.length=kvs.length) rfl (λZ Z d=>Vs Nat.succ d) x
theorem PR.keys(x:PR φ h kvs es):es.map (·.1)=kvs.map (·.1):=PR.ind (Q:=λkvs es=>es.map (·.1)=kvs.map (·.1)) rfl (λ{k _ _ _ _} _ _ ih=>Vs (List.cons k) ih) x
theorem oZ {d:Str}:valueAt ((d,v)::es) k=if k=d then some v else valueAt es k:=by
 unfold valueAt;rw[List.find?_cons];by_cases e:k=d
 ·rw[show(decide (d=k))=true from UL e.symm,Vw e];rfl
 ·rw[show(decide (d=k))=false from UC (Vu e),Vv e]
theorem kP {d:Type}{e:Str}{v:d}{r:List (Str×d)}:Mine.look k ((e,v)::r)=if k=e then some v else Mine.look k r:=rfl
theorem PR.look {k:Str}{kvs:List (Str×V)}{es:List (Str×Value)}{v:V}(x:PR φ h kvs es)(e:Mine.look k kvs=some v):∃u,valueAt es k=some u/\VR φ h v u:=
 PR.ind (Q:=λkvs es=>Mine.look k kvs=some v-> ∃u,valueAt es k=some u/\VR φ h v u) (λe=>ns e) (λ{g _ _ _ _} x r ih e=>by
  rw[kP]at e;rw[oZ];by_cases d:k=g
  ·rw[Vw d]at e ⊢;exact⟨_,rfl,UB e▸x⟩
  ·rw[Vv d]at e ⊢;exact ih e) x e
theorem PR.lookNone(x:PR φ h kvs es)(e:Mine.look k kvs=Option.none):valueAt es k=Option.none:=
 PR.ind (Q:=λkvs es=>Mine.look k kvs=Option.none->valueAt es k=Option.none) (λZ=>rfl) (λ{g _ _ _ _} x r ih e=>by
  rw[kP]at e;rw[oZ];by_cases d:k=g
  ·rw[Vw d]at e;exact ns e.symm
  ·rw[Vv d]at e ⊢;exact ih e) x e
theorem PR.once(p:PR φ h kvs es){a:Addr}{g w}(d:h.DictOf (strKind g w) a es):B6 kvs:=by
 refine kJ (d) λo e ep Z Z Z Z j i=>?_;unfold B6;rw[<-p.keys];exact i
theorem vD(k:Nat):∀(a:V) (r:Bool),cT σ k a a=some r->r=true:=by
 induction k using Nat.rec with
 |zero=>exact λZ Z e=>ns e
 |succ k ih=>
  intro a r e;induction a using Mine.V.casesOn with
  |none=>exact(UB e).symm
  |bool b=>exact ns e
  |int i=>exact(UB e).symm.trans (UL rfl)
  |str i=>exact(UB e).symm.trans (UL rfl)
  |tup xs=>exact AT ih e
  |ref n=>
   refine aa (Th.mp e) λxs g e=>aa (Th.mp e) λj d e=>?_;rw[UB (g.symm.trans d)]at e;exact AT ih e
theorem qH(xs:List V):∀(d:List V) (q:Bool),gC f xs d=some q-> ∃e:Nat->Bool,q=(List.range (min xs.length d.length)).all e/\ ∀j x y,xs[j]?=some x->d[j]?=some y->f x y=some (e j):=by
 induction xs using List.rec with
 |nil=>exact λd q h=>⟨λZ=>true,by rw[<-UB h,List.length_nil,Nat.zero_min];rfl,λj x y B Z=>ns B⟩
 |cons x xs ih=>
  intro d q h;induction d using Vz with
  |nil=>exact⟨λZ=>true,by rw[<-UB h,List.length_nil,Nat.min_zero];rfl,λj x y Z C=>ns C⟩
  |cons y d=>
   refine aW (AB h) λp r o z w=>aa (ih d r z) λe m t=>⟨λj=>@Nat.casesOn (λZ=>Bool) j p e, ?_,λj a b i g=>?_⟩
   ·rw[Ug,Ug,Nat.succ_min_succ,List.range_succ_eq_map,List.all_cons,List.all_map,<-w,m];rfl
   ·induction j using Nat.casesAuxOn with
    |zero=>rw[<-UB i,<-UB g];exact o
    |succ j=>exact t j a b i g
structure Eqs (A:Around) (s:Shared) (u v:Value) (r:Bool):Prop where
 at_:EqAt A s u v r
 rc:RcAt A s u v r
 ne:RcNeAt A s u v (!r)
theorem dQ(S:W.St F φ σ h)(d:φ[n]?=some p)(g:σ[n]?=some (.list xs)):∃vs:List Value,h.IsList p.1 vs.toArray/\VRs φ h xs vs:=
 bw (S.obj n _ _ d g).list' λa vs n q e r=>⟨_,⟨_,by rw[q];exact e,rfl,_,rfl⟩,r⟩
theorem B7(S:W.St F φ σ h)(g:φ[n]?=some p)(i:σ[n]?=some (.flist xs)):∃vs:List Value,h.IsList p.1 vs.toArray/\VRs φ h xs vs:=
 jc (S.obj n _ _ g i).flist' λa vs n q d j e r=>⟨_,⟨_,by rw[q];exact e,d,_,j⟩,r⟩
theorem zJ(S:W.St F φ σ h)(e:φ[n]?=some p)(d:rU σ[n]?=some xs):∃vs:List Value,h.IsList p.1 vs.toArray/\VRs φ h xs vs:=by
 generalize g:σ[n]?=o at d;induction o using Vx with
 |none=>exact ns d
 |some o=>
  induction o using Mine.O.casesOn with
  |list l=>exact dQ S e (g.trans (Vs (λx=>some (O.list x)) (UB d)))
  |flist l=>exact B7 S e (g.trans (Vs (λx=>some (O.flist x)) (UB d)))
  |_=>exact ns d
theorem fg {xs:List (Str×V)}(S:W.St F φ σ h)(g:φ[n]?=some p)(i:σ[n]?=some (.dict xs)):∃es,h.DictOf (strKind W.prog W.w) p.1 es/\PR φ h xs es:=
 bw (S.obj n _ _ g i).dict' λa es e q d r=>⟨es,by rw[q];exact d.of,r⟩
theorem sg {xs:List (Str×V)}(S:W.St F φ σ h)(g:φ[n]?=some p)(i:σ[n]?=some (.dict xs)):∃es e,p.2=.base e/\cj W.prog W.w h p.1 es e/\PR φ h xs es:=
 bw (S.obj n _ _ g i).dict' λa es e q d r=>aV es e ⟨by rw[q],by rw[q];exact d,r⟩
theorem B8 {k:Nat}{s:Shared}{ks:List (Str×Value)}(d:PR φ s.heap kvs ks)
  (j:∀a b u v r,cT σ k a b=some r->VR φ s.heap a u->VR φ s.heap b v->EqAt A s u v r){xs:List (Str×V)}{es:List (Str×Value)}{q:Bool}(x:PR φ s.heap xs es)(e:eK (cT σ k) kvs xs=some q):KeqHits A s ks es q:=
 PR.ind (Q:=λxs es=>∀q,eK (cT σ k) kvs xs=some q->KeqHits A s ks es q) (λq e=>by rw[<-UB e];exact .nil) (λx r o q e=>by
  refine aa (vC e) λG m B=>B.elim (λz=>aW z λw p y g t=>aa (d.look y) λD i C=>?_) λz=>?_
  ·rw[<-t];exact .hit i (j _ _ _ _ _ g x C) (o _ m)
  ·rw[z.2];exact .miss (d.lookNone z.1)) x q e
theorem xK {s:Shared}{k:Nat}{A:Around}(C:∀(a b:V) (u v:Value) (r:Bool),cT σ k a b=some r->VR φ s.heap a u->VR φ s.heap b v->EqAt A s u v r){m:List V}{vs us:List Value}
  (t:VRs φ s.heap xs vs)(x:VRs φ s.heap m us)(g:lq (cT σ k) xs m=some r):
  ∃e:Nat->Bool,r=((List.range (min vs.length us.length)).all e&&vs.length==us.length)/\ ∀j (g:j<vs.toArray.size) (z:j<us.toArray.size),EqAt A s vs.toArray[j] us.toArray[j] (e j):=by
 refine aa (Tn.mp g) λq g z=>aa (qH xs m q g) λy G B=>⟨y,by rw[t.length,x.length,<-z,G];congr 1,λj o w=>?_⟩;rw[T8]at o w;refine aa (t.get (Ta (by rw[<-t.length];exact o))) λI i H=>?_;refine aa (x.get (Ta (by rw[<-x.length];exact w))) λJ d D=>?_;rw[Ta o]at i;rw[Ta w]at d;injection i with i;injection d with d;show EqAt A s vs[j] us[j] (y j);rw[i,d];exact C _ _ _ _ _ (B j _ _ (Ta _) (Ta _)) H D
theorem uk {s:Shared}(S:W.St F φ σ s.heap){k:Nat}{A:Around}{l d:Addr}(e:cT σ k a b=some r)(j:VR φ s.heap a (.ref l))(m:VR φ s.heap b (.ref d))(i:RcAt A s (.ref l) (.ref d) r):EqAt A s (.ref l) (.ref d) r:=by
 by_cases h:l=d
 ·subst h
  have g:a=b:=VR.inj S j m;subst g;rw[vD _ _ _ e];exact EqAt.same _
 ·exact EqAt.of_refs h i
theorem MR {s:Shared}(S:W.St F φ σ s.heap){k:Nat}{A:Around}(J:∀(a b:V) (u v:Value) (r:Bool),cT σ k a b=some r->VR φ s.heap a u->VR φ s.heap b v->EqAt A.in1 s u v r)(g:A.units<cLine){w:List V}
  (e:cT σ (k+1) (.tup xs) (.tup w)=some r)(C:VR φ s.heap (.tup xs) u)(B:VR φ s.heap (.tup w) v):Eqs A s u v r:=by
 have j:=C;have q:=B;obtain⟨x,o1,o,n1,rfl,P,I,L,G⟩:=C.tup';obtain⟨D,o2,m,n2,rfl,H,U,N,Y⟩:=B.tup';have d:s.heap.IsTuple x o.toList.toArray:=⟨_,P,I,_,L⟩;have i:s.heap.IsTuple D m.toList.toArray:=⟨_,H,U,_,N⟩;refine aa (xK J G Y e) λZ y z=>?_;have t:RcAt A s (.ref x) (.ref D) r:=by rw[y];exact RcAt.tuples d i g z
 exact⟨uk S e j q t,t,by rw[y];exact RcNeAt.tuples d i g z⟩
theorem IX {s:Shared}(S:W.St F φ σ s.heap){k:Nat}{A:Around}(L:∀(a b:V) (u v:Value) (r:Bool),cT σ k a b=some r->VR φ s.heap a u->VR φ s.heap b v->EqAt A.in1 s u v r)(g:A.units<cLine){m:Nat}
  (e:cT σ (k+1) (.ref m) (.ref n)=some r)(G:VR φ s.heap (.ref m) u)(C:VR φ s.heap (.ref n) v):Eqs A s u v r:=by
 have j:=G;have q:=C;obtain⟨D,rfl,P⟩:=G.ref';obtain⟨B,rfl,U⟩:=C.ref';refine aa (Th.mp e) λxs N x=>aa (Th.mp x) λZ I x=>aa (dQ S P (dx N)) λvs t H=>aa (dQ S U (dx I)) λus w Y=>aa (xK L H Y x) λJ y z=>?_;by_cases d:vs.length=us.length
 ·have o:r=(List.range vs.length).all J:=by rw[y,d,Nat.min_self,beq_self_eq_true,Bool.and_true]
  have i:RcAt A s (.ref D.1) (.ref B.1) r:=by rw[o];exact RcAt.lists t w d g z
  exact⟨uk S e j q i,i,by rw[o];exact RcNeAt.lists t w d g z⟩
 ·have o:r=false:=by rw[y,TP.mpr d,UF]
  have hz:(vs.toArray.size !=us.toArray.size)=true:=bne_iff_ne.mpr d;have i:RcAt A s (.ref D.1) (.ref B.1) r:=by rw[o];exact RcAt.lists_lengths t w hz g
  exact⟨uk S e j q i,i,by rw[o];exact RcNeAt.lists_lengths t w hz g⟩
theorem DQ {s:Shared}(S:W.St F φ σ s.heap)(k:Nat):∀(A:Around) (a b:V) (u v:Value) (r:Bool),cT σ k a b=some r->VR φ s.heap a u->VR φ s.heap b v->A.units+k<=cLine->Eqs A s u v r:=by
 induction k using Nat.rec with
 |zero=>exact λZ Z Z Z Z Z e Z Z Z=>ns e
 |succ k j=>
  intro A a b u v r e i g C;have d:A.units<cLine:=tt (Uo (Ul _ _)) C;have j:=λa b u v r e i g=>(j A.in1 a b u v r e i g (by show A.units+1+k<=cLine;exact Ln C)).at_
  clear C
  induction a using VB with
  |none=>
   rw[i.none'];induction b using VB with
   |none=>rw[g.none'];rw[<-UB e];exact⟨EqAt.same _,RcAt.none_none,RcNeAt.none_none⟩
   |int y=>obtain⟨t,rfl⟩:=g.int';rw[<-UB e];exact⟨EqAt.none_int _ _,RcAt.none_int _ _,RcNeAt.none_int _ _⟩
   |str y=>obtain⟨t,rfl⟩:=g.str';rw[<-UB e];exact⟨EqAt.none_str _ _,RcAt.none_str _ _,RcNeAt.none_str _ _⟩
   |tup y=>
    obtain⟨B,o2,m,G,rfl,o,w,q,H⟩:=g.tup';have z:s.heap.IsTuple B _:=⟨_,o,w,_,q⟩;rw[<-UB e];exact⟨EqAt.none_tuple z d,RcAt.none_tuple z d,RcNeAt.none_tuple z d⟩
   |_=>exact ns e
  |int x=>
   obtain⟨t,rfl⟩:=i.int';induction b using VB with
   |none=>rw[g.none'];rw[<-UB e];exact⟨EqAt.int_none _ _,RcAt.int_none _ _,RcNeAt.int_none _ _⟩
   |int y=>obtain⟨D,rfl⟩:=g.int';rw[<-UB e];exact⟨EqAt.int_int _ _ _ _,RcAt.int_int _ _ _ _,RcNeAt.int_int _ _ _ _⟩
   |_=>exact ns e
  |str x=>
   obtain⟨t,rfl⟩:=i.str';induction b using VB with
   |none=>rw[g.none'];rw[<-UB e];exact⟨EqAt.str_none _ _,RcAt.str_none _ _,RcNeAt.str_none _ _⟩
   |str y=>
    obtain⟨D,rfl⟩:=g.str';rw[<-UB e];have:decide (x=y)=(x==y):=by rw[Bool.eq_iff_iff];simp
    rw[this];exact⟨EqAt.str_str _ _ _ _,RcAt.str_str _ _ _ _,RcNeAt.str_str _ _ _ _⟩
   |_=>exact ns e
  |tup x=>
   induction b using VB with
   |none=>
    rw[g.none'];obtain⟨B,o2,m,G,rfl,o,w,q,H⟩:=i.tup';have z:s.heap.IsTuple B _:=⟨_,o,w,_,q⟩;rw[<-UB e];exact⟨EqAt.tuple_none z d,RcAt.tuple_none z d,RcNeAt.tuple_none z d⟩
   |tup y=>exact MR S j d e i g
   |_=>exact ns e
  |ref x=>
   induction b using VB with
   |ref y=>exact IX S j d e i g
   |_=>exact ns e
  |_=>exact ns e
theorem jr(d:∃o,W.B.get? sysModules=some o)(S:W.St F φ σ h)(g:φ[n]?=some p):(p.1==sysModules)=false:=by
 refine am (d) λi e=>?_;rw[TP];intro hz;have:=S.fresh _ (oX g).1;rw[hz,e]at this;cases this
noncomputable def xL(W:Wd)(A:Around)(s:Shared)(y x:Value)(b:Bool):Prop:=∀(E:Value->Shared->Prop) (Q:Bool->Shared->Prop),Q b s->wpAny (model W.prog W.w) A (eqBool y x) Q E s
noncomputable def rb(W:Wd)(op:CmpOp)(A:Around)(s:Shared)(y x:Value)(b:Bool):Prop:=∀(E:Value->Shared->Prop) (Q:Value->Shared->Prop),Q (.bool b) s->wpAny (model W.prog W.w) A (compareOp op y x) Q E s
structure EqsIn (W:Wd) (A:Around) (s:Shared) (u v:Value) (r:Bool):Prop where
 at_:xL W A s u v r
 rc:rb W .Eq A s u v r
 ne:rb W .NotEq A s u v (!r)
theorem Eqs.inW {s:Shared}(x:Eqs A s u v r):EqsIn W A s u v r:=⟨λZ Z h=>x.at_ _ _ _ _ h,λZ Z h=>x.rc _ _ _ _ h,λZ Z h=>x.ne _ _ _ _ h⟩
theorem FU(d:∃o,W.B.get? sysModules=some o){s:Shared}(S:W.St F φ σ s.heap){m:Nat}{xs x:List (Str×V)}(s1:σ[m]?=some (.dict xs))(Y:σ[n]?=some (.dict x)){D z:Addr×Aux}(y:φ[m]?=some D)(C:φ[n]?=some z)
  (e:((eK (cT σ 8) x xs).map λr=>r&&decide (xs.length=x.length))=some r)(P:A.units+10<=cLine):EqsIn W A s (.ref D.1) (.ref z.1) r:=by
 refine aa (fg S y s1) λes H w=>aa (fg S C Y) λks l2 r2=>aa (Tn.mp e) λq I J=>?_;have g:KeqHits A.in1 s ks es q:=B8 r2 (λa b u v r h3 h4 h5=>(DQ S 8 A.in1 a b u v r h3 h4 h5 (by show A.units+1+8<=cLine;exact Rf P)).at_) w I;have t:(es.length==ks.length&&q)=r:=by
  rw[w.length,r2.length,<-J,Bool.and_comm];congr 1
 have U:rb W .Eq A s (.ref D.1) (.ref z.1) r:=λE Q i=>
  keq_eq (jr d S y) (jr d S C) H l2 (Px P) (λZ=>g) (by rw[t];exact i)
 refine⟨?_,U,λE Q i=>keq_ne (jr d S y) (jr d S C) H l2 (Px P) (λZ=>g) (by rw[t];exact i)⟩;by_cases j:D.1=z.1
 ·have L:V.ref m=V.ref n:=VR.inj S (.ref y) (by rw[j];exact .ref C)
  have N:xs=x:=O.dict.inj (UB (s1.symm.trans (V.ref.inj L▸Y)));rw[N]at I J w;have:r=true:=by rw[<-J,zI (vD 8) _ (w.once H) _ q (λZ hx=>hx) I,UL rfl];rfl
  rw[this,j];exact λE Q i=>EqAt.same _ _ _ _ _ i
 ·intro E Q i
  refine UT<|wpAny_ite_split (λG=>absurd (US (eq_of_beq G)) j) (λZ=>?_);exact Vn (U E _ (wpAny_truthy_bool i))
theorem ul(d:∃o,W.B.get? sysModules=some o){s:Shared}(S:W.St F φ σ s.heap)(e:eM σ a b=some r)(g:VR φ s.heap a u)(i:VR φ s.heap b v)(j:A.units+10<=cLine):EqsIn W A s u v r:=by
 induction hb:both dct σ a b using Vx with
 |none=>unfold eM at e;rw[hb]at e;exact(DQ S 8 A _ _ u v r e g i (tt (TL (by decide) _) j)).inW
 |some q=>
  unfold eM at e;rw[hb]at e;obtain⟨xs,H⟩:=q;refine bM (AE hb) λm n D t x w=>?_;subst D t;refine aa g.ref' λG z C=>?_;subst z;refine aa i.ref' λI z y=>?_;subst z;exact FU d S (fy x) (fy w) C y e j
end
end Mine
end
noncomputable section
open PySem PySem.W PySem.Calls PySem.SeqAt
open AutoSeq1 (wpAny_loadPart')
open MeetsSeq MeetsSeq2 MeetsSeq3
namespace Mine
variable {items2:Array Value} {n:Nat} {a b:V} {u v:Value} {t:Tok} {op:CmpOp} {Er:Value->Shared->Prop}
section
variable {W:Wd} {A:Around} {fs:List Env} {X:List Addr} {E:Env} {c:Cx} {l:Loc}
variable {F:List Addr} {φ:al} {σ:List O} {h:Heap}
theorem MS(W:Wd){l b:Addr}{items:Array Value}{n J:Nat}{dd z:Option Addr}{H y:Array (Option Value)}(m:items.size=items2.size)(e:Nat->Bool)(k:Nat):
  ∀i:Nat,items.size-i=k->MeetsIn W.prog W.w (Builtin.«list.__eq__.loop» ⟨[.ref l,.ref b,rawInt i,rawInt 3],[]⟩)
   (λA R s=>s.heap.get? l=some {cls:=.type "list",dict:=dd,data:=.seq items n,slots:=H}/\s.heap.get? b=some {cls:=.type "list",dict:=z,data:=.seq items2 J,slots:=y}/\
    (∀j (h1:j<items.size) (h2:j<items2.size),xL W A.in1 s items[j] items2[j] (e j))/\
    R (.ok (.ret (.bool (!((List.range items.size).drop i).all e)))) s):=by
 induction k with
 |zero=>
  intro i p A R s x;obtain⟨L,g,d,tk,I⟩:=s;refine fD (x) λq o B f=>?_
  wp_walk using UE q,UE o
  rw[show items[((i:Nat):Int).toNat]?=none by simp;exact Mc p,show items2[((i:Nat):Int).toNat]?=none by simp;exact m▸Nat.le_of_sub_eq_zero p];rw[show(List.range items.size).drop i= [] by simp;exact Mc p]at f
  wp_walk using UE q,UE o
  show R (.ok (.ret (.bool (items.size !=items2.size)))) _;rw[m];simpa using f
 |succ k ih=>
  intro i p A R s x;obtain⟨L,g,d,tk,I⟩:=s;refine fD (x) λq o B f=>?_;have r:i<items.size:=Nat.lt_of_sub_eq_succ p;have D:i<items2.size:=Rq m r
  wp_walk using UE q,UE o
  have G:items[((i:Nat):Int).toNat]?=some items[i]:=by simp[r]
  have C:items2[((i:Nat):Int).toNat]?=some items2[i]:=by simp[D]
  rw[show(List.range items.size).drop i=i::(List.range items.size).drop (i+1) by simp[S1,r],List.all_cons]at f;rw[G,C];refine Vn (B i r D _ _ ?_);induction hb':e i using VA with
  |true=>
   rw[hb']at f
   wp_walk
   rw[show((i:Int)+1)=((i+1:Nat):Int) by push_cast;rfl];exact⟨plainId_quiet plain_eq_loop _,codeAny_builtin entry_eq_loop (by
    rw[Around.under_plainId plain_eq_loop _];exact ih (i+1) (Vs Nat.pred p) A R _ ⟨q,o,B,by simpa using f⟩)⟩
  |false=>
   rw[hb']at f
   wp_walk using UE q,UE o
   rw[G,C]
   wp_walk
   simpa using f
theorem MT(W:Wd){l b:Addr}{items:Array Value}{n q:Nat}{dd k:Option Addr}{p i:Array (Option Value)}(f:items.size=items2.size)(e:Nat->Bool):
  MeetsIn W.prog W.w (Builtin.«list.__ne__» ⟨[.ref l,.ref b],[]⟩)
   (λA R s=>s.heap.get? l=some {cls:=.type "list",dict:=dd,data:=.seq items n,slots:=p}/\s.heap.get? b=some {cls:=.type "list",dict:=k,data:=.seq items2 q,slots:=i}/\
    (∀j (h1:j<items.size) (h2:j<items2.size),xL W A.in1 s items[j] items2[j] (e j))/\
    R (.ok (.ret (.bool (!(List.range items.size).all e)))) s):=by
 intro A R s x;obtain⟨D,g,d,tk,B⟩:=s;refine fD (x) λo m y z=>?_;have C:=AutoSeq1.sub_list_list;have r:¬(items.size !=items2.size)=true:=by simp[f]
 wp_walk using UE o,UE m
 exact⟨plainId_quiet plain_eq_loop _,codeAny_builtin entry_eq_loop (by
  rw[Around.under_plainId plain_eq_loop _];exact MS W f e _ 0 rfl A R _ ⟨o,m,y,by simpa using z⟩)⟩
theorem FV {l b:Addr}{items:Array Value}{e:Nat->Bool}{s:Shared}(C:s.heap.IsList l items)(w:s.heap.IsList b items2)(k:items.size=items2.size)(B:A.units<cLine)
  (z:∀j (h1:j<items.size) (h2:j<items2.size),xL W A.in1 s items[j] items2[j] (e j)):rb W .NotEq A s (.ref l) (.ref b) (!(List.range items.size).all e):=λE Q h=>by
 obtain⟨⟨D,dd,q,G⟩,i,o,n,hd⟩:=id C;obtain⟨⟨p,y,m,r⟩,f,d,H,g⟩:=id w;simp only at o hd d g;subst o hd d g;exact wpAny_richCompare_same_room (op:=.NotEq) ⟨_,i,rfl⟩ ⟨_,f,rfl⟩ PySem.F.slot_list_ne (call_meetsIn PySem.F.slot_list_ne ⟨_,i,rfl⟩ PySem.F.entry_list_ne (PySem.F.args_list_ne_2 _ _) (MT W k e)
  ⟨i,f,z,show Value.bool (!(List.range items.size).all e)≠Value.notImplemented/\Q (.bool (!(List.range items.size).all e)) s from⟨(λx=>nomatch x),h⟩⟩) B
theorem MU(f:∃o,W.B.get? sysModules=some o){s:Shared}(S:W.St F φ σ s.heap){m:Nat}{xs k:List V}(s1:σ[m]?=some (.list xs))(N:σ[n]?=some (.list k)){J H:Addr×Aux}(p1:φ[m]?=some J)(p2:φ[n]?=some H){r:Bool}
  (e:lq (eM σ) xs k=some r)(y:A.units+12<=cLine):rb W .NotEq A s (.ref J.1) (.ref H.1) (!r):=by
 refine aa (dQ S p1 s1) λvs D g=>aa (dQ S p2 N) λus L i=>aa (Tn.mp e) λq U G=>aa (qH xs k q U) λC Z P=>?_;by_cases d:vs.length=us.length
 ·have p:r=(List.range vs.toArray.size).all C:=by
   rw[<-G,Z,<-g.length,<-i.length,d,Nat.min_self,UL (Eq.refl _),Bool.and_true,T8,d]
  rw[p];refine FV D L d (Li y) λj w x=>?_;rw[T8]at w x;refine aa (g.get (Ta (by rw[<-g.length];exact w))) λv1 I x1=>?_;refine aa (i.get (Ta (by rw[<-i.length];exact x))) λv2 z Y=>?_;rw[Ta w]at I;rw[Ta x]at z;show xL W A.in1 s vs[j] us[j] (C j);rw[UB I,UB z];exact(ul f S (P j _ _ (Ta _) (Ta _)) x1 Y (by show A.units+1+10<=cLine;exact R3 y)).at_
 ·have p:r=false:=by rw[<-G,<-g.length,<-i.length,UC d,UF]
  rw[p];exact λE Q hq=>RcNeAt.lists_lengths D L (bne_iff_ne.mpr d) (Li y) _ _ _ _ hq
theorem IY(d:∃o,W.B.get? sysModules=some o){s:Shared}(S:W.St F φ σ s.heap){r:Bool}(e:jS σ a b=some r)(f:VR φ s.heap a u)(g:VR φ s.heap b v)(i:A.units+12<=cLine):rb W .NotEq A s u v (!r):=by
 induction hb:both dM σ a b using Vx with
 |none=>unfold jS at e;rw[hb]at e;exact(ul d S e f g (Pl i)).ne
 |some q=>
  unfold jS at e;rw[hb]at e;obtain⟨xs,D⟩:=q;refine bM (AE hb) λm n y j p k=>?_;subst y j;refine aa f.ref' λC z x=>?_;subst z;refine aa g.ref' λG z w=>?_;subst z;exact MU d S (dx p) (dx k) x w e i
def BV:al->Heap->Bool->Value->Prop:=λZ Z b v=>v=.bool b
theorem kQ {f:Str}{xs:List (Str×V)}{p:Addr×Aux}(S:W.St F φ σ h)(i:φ[n]?=some p)(j:σ[n]?=some (.inst f xs)):∃C d m,W.cl.at_ f=some C/\p.2=.some d/\h.get? p.1=some (instObj C d)/\oW h d m xs.length/\(∀x,(m x).isSome=(look x xs).isSome)/\(∀x V,look x xs=some V-> ∃v,m x=some v/\VR φ h V v):=
 Ox (S.obj n _ _ i j).inst' λa d C m q e g dd z r=>bJ C d m ⟨e,by rw[q],by rw[q];exact g,dd,z,r⟩
structure EqK (K:Frag) (C:Addr):Prop where
 eq:findIn K (.ref C) "__eq__"=some (some (.builtin "object.__eq__"))
 mro:mroIn K C (.type "object")=some true
structure WdOk2 (W:Wd):Prop extends WdOk W where
 sys:∃o,W.B.get? sysModules=some o
 cmp:∀cn C,W.cl.at_ cn=some C->EqK W.K C
theorem nF(b:Str)(u:Tok)(l:Addr)(c:Value)(dd:Option Addr)(i:Array (Option Value)):
  Meets (Builtin.«str.__eq__» ⟨[.str b u,.ref l],[]⟩) (λZ R s=>s.heap.get? l=some {cls:=c,dict:=dd,data:=.plain,slots:=i}/\R (.ok (.ret .notImplemented)) s):=
 .of_wp λe w A R s h=>by obtain⟨j,g,d,tk,k⟩:=s;obtain⟨f,h⟩:=h;wp_walk using UE f,wpAny_load f;exact⟨_,rfl,h⟩
theorem zK(D:WdOk2 W){s:Shared}{x C d:Addr}{y:Str}(J:W.B.StaysIn s.heap)(p:EqK W.K C)(q:s.heap.get? x=some (instObj C d))(L:A.units+12<=cLine):rb W .Eq A s (.ref x) (.str y t) false:=λEr Q G=>by
 have X:W.K.In s.heap:=D.K.keeps J;have T:∀M,Looks M s.heap (typeOf (.ref x)) (.ref C):=λM=>(Looks.ld q).andThen .now;have I:=λM=>Ve (M:=M) X p.eq;have sub:Looks (model W.prog W.w) s.heap (isInstance (.ref x) (.type "object")) true:=(T _).andThen (looks_mroIn X p.mro);have o:=PySem.F.cmp_object;show wpAny _ A (richCompare .Eq (.ref x) (.str y t)) Q Er s;have e:oneThing? .Eq (.ref x) (.str y t)=none:=rfl;simp only[richCompare,cmpInfo_Eq,e];refine UT<|Vn (wpAny_cRoomFor (Li L) ?_);refine Vn ((T _).here (Vn (Vq ?_)));have j:(Value.ref C !=Value.type "str")=true:=rfl;rw[Vw j];refine Vn (wpAny_of_eq (show isSubtype (.type "str") (.ref C)=pure false by rw[isSubtype_type];rfl) ?_);simp only[TQ,Vt,UH,if_true];have k:wpAny (model W.prog W.w) A (call (.builtin "object.__eq__") [.ref x,.str y t]) (λv f=>v=.notImplemented/\f=s) Er s:=by
  refine Vo (codeAny_call_builtin o.eq.plain PySem.F.cmpEntry_eq (@PySem.W.check_slot (model W.prog W.w) _ _ s "object.__eq__" "object" "__eq__" (.ref x) [.str y t] [] _ PySem.F.cmpKind_eq PySem.F.cmpSplit_eq sub (PySem.F.cmpArgs_eq _ _) ?_));obtain⟨S,g,N,tk,P⟩:=s;unfold Builtin.«object.__eq__»
  repeat wp_step
  exact⟨rfl,rfl⟩
 have i:wpAny (model W.prog W.w) A (tryCompare (.ref x) "__eq__" (.str y t)) (λr f=>r=none/\f=s) Er s:=by
  simp only[tryCompare];refine Vn ?_;simp only[callSpecialIfBound?,bindSpecialIfBound?,specialOf];refine UT (Vn (Vn (Vn ((T _).here ((I _).here ?_)))));simp only[o.eq.bind];refine Vn (wpAny_askSetting (wpAny_ite ?_))
  split
  ·exact Vn (Vq (Vq (Vn (Vp k (λv f ⟨e,e2⟩=>by subst e;subst e2;exact Vq (Vq ⟨rfl,rfl⟩)) λZ Z h'=>h'))))
  ·exact wpAny_tryCatch (Vn (Vq (Vq (Vn (Vp k (λv f ⟨e,e2⟩=>by subst e;subst e2;exact Vq (Vq ⟨rfl,rfl⟩)) λZ Z h'=>h')))))
 refine Vn (Vp i (λr f ⟨e,e2⟩=>?_) λZ Z z=>z);subst e;subst e2;have H:=PySem.F.slot_str_eq_refl;refine Vn (m:=tryCompare (.str y t) "__eq__" (.ref x)) (wpAny_tryCompare_declines (typeIs_str _ _ _) H (call_meets PySem.F.slot_str_eq_refl (typeIs_str _ y t) PySem.F.entry_str_eq (PySem.F.args_str_eq_2 _ _) (nF y t x (.ref C) (some d) #[]) ⟨q,rfl, ?_⟩));exact Vn (wpAny_rule (Vn (wpAny_of_eq (rfl:isSame (.ref x) (.str y t)=pure false) (Vq G))))
noncomputable def isS(d:Str):Value->Bool
 |.str z _=>z==d
 |_=>false
theorem VR.isS {a:V}{v:Value}(d:Str)(x:VR φ h a v):Mine.isS d v=tY d a:=by
 induction x using VR.casesOn with
 |str z t=>exact Bool.beq_eq_decide_eq z d
 |_=>rfl
theorem IZ {us:List Value}(d:Str){l:List V}(x:VRs φ h l us):us.any (isS d)=l.any (tY d):=
 VRs.ind (Q:=λl us=>us.any (isS d)=l.any (tY d)) rfl (λa Z e=>by rw[UO,UO,e,a.isS]) x
noncomputable def FW(W:Wd)(A:Around)(s:Shared)(u v:Value)(q:Bool):Prop:=
 (∀Er Q',(∀tk,Q' (.bool q) {s with toks:=tk})->wpAny (model W.prog W.w) A (compareOp .In u v) Q' Er s)/\ ∀Er Q',(∀tk,Q' (.bool !q) {s with toks:=tk})->wpAny (model W.prog W.w) A (compareOp .NotIn u v) Q' Er s
theorem FX {f:Str}{l:List V}{s:Shared}(j:l.all xt=true)(D:VR φ s.heap (.tup l) v):FW W A s (.str f t) v (l.any (tY f)):=by
 refine jz D.tup' λJ o vs n z e c d xs=>?_;subst z;have C:∀y,y∈vs.toList.toArray->EqAt A.in1 s y (.str f t) (isS f y):=by
  intro y I;have r:y∈vs.toList:=List.mem_toArray.mp I;refine am (List.getElem?_of_mem r) λi B=>?_;have p:i<l.length:=by rw[<-xs.length];exact(S6.mp B).1
  refine aa (xs.get (Ta p)) λN H w=>?_;rw[UB (B.symm.trans H)];have x:=Ud.mp j _ (Ue p);generalize l[i]=z at w x;induction z using VB with
  |str z=>exact am w.str' λL q=>by rw[q];exact EqAt.str_str _ _ _ _
  |_=>exact ff x
 have g:vs.toList.toArray.any (isS f)=l.any (tY f):=by
  rw[List.any_toArray];exact IZ f xs
 have m:s.heap.IsTuple J vs.toList.toArray:=⟨_,e,c,_,d⟩;refine⟨λEr G k=>in_tupleAt (isS f) m C ?_,λEr G k=>notIn_tupleAt (isS f) m C ?_⟩
 ·rw[g];exact k s.toks
 ·rw[g];exact k s.toks
theorem DT(g:WdOk2 W){e:Str}{l:List (Str×V)}{s:Shared}(S:W.St F φ σ s.heap)(p:σ[n]?=some (.dict l))(m:VR φ s.heap (.ref n) v):FW W A s (.str e t) v (look e l).isSome:=by
 refine aa m.ref' λq z f=>?_;subst z;refine aa (fg S f p) λo d r=>?_;have i:(valueAt o e).isSome=(look e l).isSome:=by
  induction hk:look e l using Vx with
  |none=>rw[r.lookNone hk];rfl
  |some v=>refine aa (r.look hk) λu x Z=>?_;rw[x];rfl
 refine⟨λEr j k=>wpAny_in_of (knd:=strKind W.prog W.w) (k:=e) (by simp[strKind,Value.isStrOf]) (jr g.sys S f) d.mapOf ?_,λEr j k=>wpAny_notIn_of (knd:=strKind W.prog W.w) (k:=e) (by simp[strKind,Value.isStrOf]) (jr g.sys S f) d.mapOf ?_⟩
 ·rw[i];exact k _
 ·rw[i];exact k _
theorem AU(i:WdOk2 W){s:Shared}(S:W.St F φ σ s.heap)(g:VR φ s.heap a u)(f:VR φ s.heap b v):(∃q,cmp.memb a b σ=.ok q σ/\FW W A s u v q)\/cmp.memb a b σ=.bad:=by
 induction e:ie a using Vx with
 |none=>exact .inr (by unfold cmp.memb;rw[e];rfl)
 |some st=>
  have e:=gJ e;subst e;refine am g.str' λt z=>?_;subst z;induction b using VB with
  |tup l=>
   by_cases d:l.all xt=true
   ·exact .inl ⟨_,Vw d,FX d f⟩
   ·exact .inr (Vv d)
  |ref n=>
   induction hl:dct σ[n]? using Vx with
   |none=>exact .inr (show((dct σ[n]?).elim R.bad λl=>.ok (look st l).isSome σ)=R.bad by rw[hl];rfl)
   |some l=>exact .inl ⟨_,show((dct σ[n]?).elim R.bad λl=>.ok (look st l).isSome σ)=R.ok (look st l).isSome σ by rw[hl];rfl,DT i S (fy hl) f⟩
  |_=>exact .inr rfl
theorem pT {f:Int×Int->Bool}{s:Shared}{φ:al}{σ:List O}{Q:Value->Shared->Prop}(S:W.St (ao fs) φ σ s.heap)(d:VR φ s.heap a u)(i:VR φ s.heap b v)
  (p:aj W fs [] BV ((kL a b).elim .bad λq=>.ok (f q) σ) s φ Q Er)(k:∀x y t g,Q (.bool (f (x,y))) s->wpAny (model W.prog W.w) A (compareOp op (.int x t) (.int y g)) Q Er s):wpAny (model W.prog W.w) A (compareOp op u v) Q Er s:=by
 induction hs:kL a b using Vx with
 |none=>rw[hs]at p;exact p.elim
 |some q=>
  rw[hs]at p;have e:=q5 hs;rw[e.1]at d;rw[e.2]at i;exact am d.int' λt z=>am i.int' λg j=>by rw[z,j];exact k _ _ _ _ (p.ret0 S rfl)
theorem AV {f:Bool->Bool}{s:Shared}{φ:al}{σ:List O}{Q:Value->Shared->Prop}(S:W.St (ao fs) φ σ s.heap)(g:VR φ s.heap a u)(d:VR φ s.heap b v)
  (p:aj W fs [] BV (bif isNone b then .ok (f (isNone a)) σ else .bad) s φ Q Er)(k:∀u,Q (.bool (f (u==.none))) s->wpAny (model W.prog W.w) A (compareOp op u .none) Q Er s):wpAny (model W.prog W.w) A (compareOp op u v) Q Er s:=by
 induction hs:isNone b using VA with
 |false=>rw[hs]at p;exact p.elim
 |true=>
  rw[hs]at p;rw[DD hs]at d;rw[d.none'];refine k u ?_;have q:Q (.bool (f (isNone a))) s:=p.ret0 S rfl;have e:(u==Value.none)=isNone a:=by
   induction g using VR.casesOn with
   |_=>rfl
  rw[e];exact q
theorem MV(i:WdOk2 W){s:Shared}{φ:al}{σ:List O}{Q:Value->Shared->Prop}(S:W.St (ao fs) φ σ s.heap)(f:VR φ s.heap a u)(g:VR φ s.heap b v)(j:A.units+12<=cLine)
  (p:aj W fs [] BV (Mw a b σ) s φ Q Er):wpAny (model W.prog W.w) A (compareOp .Eq u v) Q Er s:=by
 unfold Mw at p;induction e:eM σ a b using Vx with
 |some r=>rw[e]at p;exact(ul i.sys S e f g (Pl j)).rc _ _ (p.ret0 S rfl)
 |none=>
  rw[e]at p;induction hs:ie b using Vx with
  |none=>rw[hs]at p;exact p.elim
  |some st=>
   rw[hs]at p;rw[gJ hs]at g;refine am g.str' λt z=>?_;rw[z];induction hr:dz a using Vx with
   |none=>rw[show ig σ a=false by unfold ig;rw[hr];rfl]at p;exact p.elim
   |some n=>
    rw[cS hr]at f;refine aa f.ref' λy z o=>?_;rw[z];induction hi:oP σ[n]? using Vx with
    |none=>rw[show ig σ a=false by unfold ig;rw[hr];show(oP σ[n]?).isSome=false;rw[hi];rfl]at p;exact p.elim
    |some q=>
     rw[show ig σ a=true by unfold ig;rw[hr];show(oP σ[n]?).isSome=true;rw[hi];rfl]at p;refine kH (kQ S o (rT hi)) λC d m x B k Z=>zK i S.base (i.cmp _ _ x) k j _ _ (p.ret0 S rfl)
theorem DU(j:WdOk2 W){s:Shared}{φ:al}{σ:List O}{Q:Value->Shared->Prop}(S:W.St (ao fs) φ σ s.heap)(d:VR φ s.heap a u)(g:VR φ s.heap b v)(m:A.units+12<=cLine)
  (p:aj W fs [] BV (cmp op a b σ) s φ Q Er):wpAny (model W.prog W.w) A (compareOp op u v) Q Er s:=by
 have cb:∀ {r:Bool},aj W fs [] BV (.ok r σ) s φ Q Er->Q (.bool r) s:=λq=>q.ret0 S rfl;induction op using PySem.CmpOp.casesOn with
 |Eq=>exact MV j S d g m p
 |NotEq=>
  replace p:aj W fs [] BV ((jS σ a b).elim .bad λr=>.ok (!r) σ) s φ Q Er:=p
  induction e:jS σ a b using Vx with
  |some r=>rw[e]at p;exact IY j.sys S e d g m _ _ (cb p)
  |none=>rw[e]at p;exact p.elim
 |Lt=>exact pT (f:=λq=>decide (q.1<q.2)) S d g p λZ Z Z Z=>PyProof.Rows.lt_int
 |LtE=>exact pT (f:=λq=>decide (q.1<=q.2)) S d g p λZ Z Z Z=>PyProof.Rows.le_int
 |Gt=>exact pT (f:=λq=>decide (q.1>q.2)) S d g p λZ Z Z Z=>PyProof.Rows.gt_int
 |GtE=>exact pT (f:=λq=>decide (q.1>=q.2)) S d g p λZ Z Z Z=>PyProof.Rows.ge_int
 |Is=>exact AV (f:=λq=>q) S d g p λZ=>is_none
 |IsNot=>exact AV (f:=λq=> !q) S d g p λZ=>isNot_none
 |In=>
  replace p:aj W fs [] BV (cmp.memb a b σ) s φ Q Er:=p
  rcases AU (A:=A) j S d g with⟨q,i,k,_⟩|i
  ·rw[i]at p
   exact k Er Q λtk=>p.ret0 S rfl
  ·rw[i]at p;exact p.elim
 |NotIn=>
  replace p:aj W fs [] BV (match cmp.memb a b σ with|.ok r h'=>.ok (!r) h'|.exc e h'=>.exc e h'|.bad=>.bad) s φ Q Er:=p
  rcases AU (A:=A) j S d g with⟨q,i,_,k⟩|i
  ·rw[i]at p
   exact k Er Q λtk=>p.ret0 S rfl
  ·rw[i]at p;exact p.elim
end
end Mine
end
noncomputable section
open PySem PySem.W PySem.Calls PySem.SeqAt
namespace Mine
variable {e e₁ e₂:Expr} {pos:Pos}
abbrev BB:al->Heap->Bool->Bool->Prop:=λZ Z a b=>a=b
section
variable {W:Wd} {A:Around} {fs:List Env} {X:List Addr} {E:Env} {c:Cx} {l:Loc}
variable {F:List Addr} {φ:al} {σ:List O} {h:Heap}
theorem re {a β:Type}{RV:al->Heap->a->β->Prop}{σ:List O}{s:Shared}{φ:al}{Q:β->Shared->Prop}{Er:Value->Shared->Prop}(p:aj W fs X RV ((bad:M a) σ) s φ Q Er){P:Prop}:P:=p.elim
theorem cN {r:List Expr}(h:bI e=false):starEach (e::r) E=(false,eval e E)::starEach r E:=by
 cases e<;>first|rfl|cases h
theorem gM {f:Expr->M V}{pos:Pos}:∀es:List Expr,(∀e∈es,aI W A fs E c l VR (eval e E) (f e))->aI W A fs E c l VRs (spliced (backTo pos (starEach es E))) (dN f es)
 | [],_=>λs φ σ Q Er S L p=>UD (p.ret0 S .nil)
 |e::r,ih=>λs φ σ Q Er S L p=>by
  rw[dN]at p;by_cases o:bI e=true
  ·rw[Vw o]at p;exact re p
  rw[Vv o]at p;have t:bI e=false:=T4.mpr o;refine Ut ((ih e (TU ..)).after S L p λa b s₁ m n d i z g q=>?_) (cN t);exact(gM r λy h'=>ih y (TA _ h')).after d i q λD G w k u j v B x C=>C.ret0 j (.cons (VR.go d au x z) B)
theorem I4 {d β:Type}{a:List d}{b:List β}(h:a.length=b.length):a.isEmpty=b.isEmpty:=by
 induction a using Vz with
 |nil=>rw[Tg.mp h.symm];rfl
 |cons=>induction b using Vz with
  |nil=>exact absurd h (Nat.succ_ne_zero _)
  |cons=>rfl
theorem nG(k:WdOk2 W){a:V}{u:Value}{s:Shared}{φ:al}{σ:List O}{Q:Bool->Shared->Prop}{Er:Value->Shared->Prop}(S:W.St (ao fs) φ σ s.heap)(g:VR φ s.heap a u)
  (p:aj W fs [] BB (truth a σ) s φ Q Er):wpAny (model W.prog W.w) A (truthy u) Q Er s:=by
 induction a using VB with
 |bool b=>rw[g.bool'];exact wpAny_truthy_bool (p.ret0 S rfl)
 |ref n=>
  replace p:aj W fs [] BB ((dct σ[n]?).elim .bad λl=>if l.length<=4096 then .ok (!l.isEmpty) σ else .bad) s φ Q Er:=p
  induction hl:dct σ[n]? using Vx with
  |none=>rw[hl]at p;exact p.elim
  |some l=>
   rw[hl]at p
   replace p:aj W fs [] BB (if l.length<=4096 then .ok (!l.isEmpty) σ else .bad) s φ Q Er:=p
   by_cases f:l.length<=4096
   ·rw[Vw f]at p
    refine aa g.ref' λq z i=>?_;rw[z];refine aa (fg S i (fy hl)) λj d r=>wpAny_truthy_dict (jr k.sys S i) d (by rw[r.length];exact TR (U1.mpr f) (by decide)) ?_;rw[show j.isEmpty=l.isEmpty from I4 r.length];exact p.ret0 S rfl
   ·rw[Vv f]at p;exact p.elim
 |_=>exact p.elim
theorem DV {op:Operator}{i d:M V}(x:aI W A fs E c l VR (eval e₁ E) i)(y:aI W A fs E c l VR (eval e₂ E) d):
  aI W A fs E c l VR (eval (.BinOp e₁ op e₂ pos) E) (mq i λa=>mq d λb=>ah op a b):=λs φ σ Q Er S L p=>by
 refine wpAny_BinOp (x.after S L p λa u s₁ n o f j z g q=>?_);exact y.after f j q λb v w m r k t C B D=>FT k (VR.go f au B z) C D
theorem FY {m:M V}(x:aI W A fs E c l VR (eval e E) m):aI W A fs E c l VR (eval (.UnaryOp .USub e pos) E) (mq m nz):=λs φ σ Q Er S L p=>by
 refine wpAny_UnaryOp (x.after S L p λa u s₁ d f b j z g q=>aa q.el λi k q=>?_);rw[gK k]at z;exact am z.int' λt e=>by rw[e];exact PyProof.Rows.neg_int (q.ret0 b (.int _ _))
theorem I5(y:WdOk2 W){m:M V}(x:aI W A fs E c l VR (eval e E) m):
  aI W A fs E c l VR (eval (.UnaryOp .Not e pos) E) (mq m λx=>mq (truth x) λb=>mr (.bool (!b))):=λs φ σ Q Er S L p=>by
 refine wpAny_UnaryOp (x.after S L p λa u s₁ o r k v z g q=>not_value ?_);exact nG y k z (aj.bind au q λb B t i tk n d w f j=>by
  cases f;exact j.ret0 (s:= {s₁ with heap:=i,toks:=tk}) (tk:=tk) d (.bool _))
theorem DW {t:Expr}{m:M Bool}{i b:M V}(x:aI W A fs E c l BB (isTrue t E (eval t E)) m)(j:aI W A fs E c l VR (eval e₁ E) i)(k:aI W A fs E c l VR (eval e₂ E) b):
  aI W A fs E c l VR (eval (.IfExp t e₁ e₂ pos) E) (mq m λr=>match r with|true=>i|false=>b):=λs φ σ Q Er S L p=>by
 refine wpAny_IfExp (x.after S L p λa u s₁ n o f d z g q=>?_);cases z;cases a
 ·exact k _ _ _ _ _ f d q
 ·exact j _ _ _ _ _ f d q
theorem I6(Z:WdOk2 W){n:Nat}(hA:At A fs n){op:CmpOp}{i d:M V}(Y:behindInMarks op e₂=false)(x:aI W A fs E c l VR (eval e₁ E) i)(y:aI W A fs E c l VR (eval e₂ E) d):
  aI W A fs E c l VR (eval (.Compare e₁ [op] [e₂] pos) E) (mq i λa=>mq d λb=>mq (cmp op a b) λr=>mr (.bool r)):=λs φ σ Q Er S L p=>by
 have hu:=hA.units;refine wpAny_Compare1 (x.after S L p λa u s₁ G H f j z g q=>?_) Y;exact y.after f j q λb v t D J k N z' U q'=>DU Z k (VR.go f au U z) z' (LJ hu) (aj.bind au q' λb b' I o tk C m P w B=>by
  cases w;exact B.ret0 (s:= {t with heap:=o,toks:=tk}) (tk:=tk) m (.bool _))
theorem DX {f:Expr->M V}{op:BoolOp}{x y:Expr}{r:List Expr}:AG f op (x::y::r)=mq (f x) λv=>mq (truth v) λb=>match op,b with
  |.And,false|.Or,true=>mr v
  |_,_=>AG f op (y::r):=rfl
theorem AW(B:WdOk2 W){f:Expr->M V}{op:BoolOp}{pos:Pos}:∀es:List Expr,(∀e∈es,aI W A fs E c l VR (eval e E) (f e))->aI W A fs E c l VR (eval (.BoolOp op es pos) E) (AG f op es)
 | [],_=>λs φ σ Q Er S L p=>p.elim
 | [e],ih=>λs φ σ Q Er S L p=>PyProof.Rows.BoolOp_one (ih e (TU ..) _ _ _ _ _ S L p)
 |e::e₂::r,ih=>λs φ σ Q Er S L p=>by
  have y:=AW B (f:=f) (op:=op) (pos:=pos) (e₂::r) λC h'=>ih C (TA _ h');rw[DX]at p;induction op using PySem.BoolOp.casesOn with
  |And=>
   refine PyProof.Rows.BoolOp_and ((ih e (TU ..)).after S L p λa u s₁ w x d t z g q=>?_);refine nG B d z (aj.bind au q λb D o k tk n i j v m=>?_);cases v;cases b
   ·exact m.ret0 (s:= {s₁ with heap:=k,toks:=tk}) (tk:=tk) i (VR.go d au j z)
   ·exact y {s₁ with heap:=k,toks:=tk} n o _ _ i (t.go d j) m
  |Or=>
   refine PyProof.Rows.BoolOp_or ((ih e (TU ..)).after S L p λa u s₁ w x d t z g q=>?_);refine nG B d z (aj.bind au q λb D o k tk n i j v m=>?_);cases v;cases b
   ·exact y {s₁ with heap:=k,toks:=tk} n o _ _ i (t.go d j) m
   ·exact m.ret0 (s:= {s₁ with heap:=k,toks:=tk}) (tk:=tk) i (VR.go d au j z)
theorem qI {f:Expr->M Bool}{op:BoolOp}:∀es:List Expr,(∀e∈es,aI W A fs E c l BB (isTrue e E (eval e E)) (f e))->aI W A fs E c l BB (allTrue op es E) (nc f op es)
 | [],_=>λs φ σ Q Er S L p=>by
  cases op
  ·exact wpAny_allTrue_And_nil (p.ret0 S rfl)
  ·exact wpAny_allTrue_Or_nil (p.ret0 S rfl)
 |e::r,ih=>λs φ σ Q Er S L p=>by
  have k:=qI (f:=f) (op:=op) r λm h'=>ih m (TA _ h');rw[nc]at p;induction op using PySem.BoolOp.casesOn with
  |And=>
   refine wpAny_allTrue_And_cons ((ih e (TU ..)).after S L p λa u s₁ i j b d z g q=>?_);cases z;cases a
   ·exact q.ret0 b rfl
   ·exact k _ _ _ _ _ b d q
  |Or=>
   refine wpAny_allTrue_Or_cons ((ih e (TU ..)).after S L p λa u s₁ i j b d z g q=>?_);cases z;cases a
   ·exact k _ _ _ _ _ b d q
   ·exact q.ret0 b rfl
theorem I7 {m:M Bool}{k:Sem Value}(x:aI W A fs E c l BB (isTrue e E (eval e E)) m):
  aI W A fs E c l BB (isTrue (.UnaryOp .Not e pos) E k) (mq m λb=>mr (!b)):=λs φ σ Q Er S L p=>
 wpAny_isTrue_Not (x.after S L p λa u s₁ f i d j z g q=>by cases z;exact q.ret0 d rfl)
theorem DY {t:Expr}{v:Sem Value}{m i b:M Bool}(x:aI W A fs E c l BB (isTrue t E (eval t E)) m)(j:aI W A fs E c l BB (isTrue e₁ E (eval e₁ E)) i)(k:aI W A fs E c l BB (isTrue e₂ E (eval e₂ E)) b):
  aI W A fs E c l BB (isTrue (.IfExp t e₁ e₂ pos) E v) (mq m λr=>match r with|true=>i|false=>b):=λs φ σ Q Er S L p=>by
 refine PyProof.Rows.isTrue_IfExp (x.after S L p λa u s₁ n o f d z g q=>?_);cases z;cases a
 ·exact k _ _ _ _ _ f d q
 ·exact j _ _ _ _ _ f d q
theorem I8(Y:WdOk2 W){n:Nat}(hA:At A fs n){op:CmpOp}{U:Sem Value}{o f:M V}(P:behindInMarks op e₂=false)(x:aI W A fs E c l VR (eval e₁ E) o)(y:aI W A fs E c l VR (eval e₂ E) f):
  aI W A fs E c l BB (isTrue (.Compare e₁ [op] [e₂] pos) E U) (mq o λa=>mq f λb=>cmp op a b):=λs φ σ Q Er S L p=>by
 have hu:=hA.units;refine wpAny_isTrue_Compare1 (x.after S L p λa u s₁ H I i t z g q=>?_) P;refine y.after i t q λb v j d J B N z' G q'=>DU Y B (VR.go i au G z) z' (LJ hu) ?_;have:∀ {r:R Bool},aj W fs [] BB r j d Q Er->aj W fs [] BV r j d (λc C=>wpAny (model W.prog W.w) A (truthy c) Q Er C) Er:=λ{r} k=>by
  induction r using VD with
  |ok a σ'=>exact λb h' tk D Z G x=>by cases x;exact wpAny_truthy_bool (k a h' tk D Z G rfl)
  |exc m σ'=>exact k
  |bad=>exact k
 exact this q'
theorem vE(j:WdOk2 W){m:M V}(k:isTrue e E (eval e E)=(do let v <-eval e E;standAt e.pos;holding [v] (truthy v)))(x:aI W A fs E c l VR (eval e E) m):
  aI W A fs E c l BB (isTrue e E (eval e E)) (mq m truth):=λs φ σ Q Er S L p=>
 wpAny_isTrue_value (x.after S L p λa u s₁ d f b i z g q=>nG j b z q) k
theorem I9 {F:List Addr}{φ:al}{σ:List O}{h:Heap}(S:W.St F φ σ h){l:List V}{vs:List Value}(x:VRs φ h l vs){a:Array Value}(e:a.toList=vs){k:Nat}:
  W.St F φ σ (h.push {cls:=.type "tuple",data:=.seq a k})/\Go F [] φ φ h (h.push {cls:=.type "tuple",data:=.seq a k})/\VR φ (h.push {cls:=.type "tuple",data:=.seq a k}) (.tup l) (.ref h.objs.size):=by
 have z:=S.grow (h':=h.push {cls:=.type "tuple",data:=.seq a k}) λb o q=>Tk _ q;exact⟨z.1,z.2,.tup (TH _ rfl) rfl rfl (e▸VRs.go S au z.2 x)⟩
theorem Ja {f:Expr->M V}{d:List Expr}{k:Nat}(n:∀e∈d,aI W A fs E c l VR (eval e E) (f e)):
  aI W A fs E c l VR (eval (.Tuple d k pos) E) (mq (dN f d) λvs=>if vs.length<=64 then mr (.tup vs)else bad):=λs φ σ Q Er S L p=>by
 refine wpAny_Tuple ((gM d n).after S L p λa u s₁ i j b m z g q=>?_)
 split at q
 ·rename_i hl
  refine cQ (I9 b z (a:=u.toArray) rfl (k:=0)) λr o t=>⟨by rw[z.length];exact U7 hl (by decide),q _ _ _ _ r o t⟩
 ·exact re q
theorem FZ {f:Expr->M V}{d:List Expr}(n:∀e∈d,aI W A fs E c l VR (eval e E) (f e)):
  aI W A fs E c l VR (eval (.List d pos) E) (mq (dN f d) λvs=>if vs.length<=64 then aC (.list vs)else bad):=λs φ σ Q Er S L p=>by
 refine wpAny_List ((gM d n).after S L p λa u s₁ i j b m z g q=>?_)
 split at q
 ·rename_i hl
  refine cQ (q9 b z (a:=u.toArray) rfl (k:=0)) λr o t=>⟨by rw[z.length];exact U7 hl (by decide),q _ _ _ _ r o t⟩
 ·exact re q
end
end Mine
end
noncomputable section
open PySem PySem.W PySem.Calls
namespace Mine
variable {d:Addr} {m a:Str} {v u:Value} {o:V} {Er:Value->Shared->Prop} {pos:Pos} {n:Nat} {xs as:List V} {pr p:Addr×Aux} {se ve:Expr} {k:Int} {us:List Value}
structure ClsOk (K:Frag) (C:Addr):Prop where
 getattribute:findIn K (.ref C) "__getattribute__"=some (some (.builtin "object.__getattribute__"))
 setattr:findIn K (.ref C) "__setattr__"=some (some (.builtin "object.__setattr__"))
 hasDict:hasDictIn K C=true
 plain:plainOver K C=true
 fields:∀a,jL a=true->findIn K (.ref C) a=some none
structure WdOk3 (W:Wd):Prop extends WdOk2 W where
 cls:∀cn C,W.cl.at_ cn=some C->ClsOk W.K C
section
variable {W:Wd} {A:Around} {fs:List Env} {X:List Addr} {E:Env} {c:Cx} {l:Loc}
variable {F:List Addr} {φ:al} {σ:List O} {h:Heap}
theorem vF(b:WdOk W)(S:W.St F φ σ h):W.K.In h:=b.K.keeps S.base
theorem ol {b:Array DictEntry}(x:StrKeys b):b.toList.any (·.refKey)=false:=by
 rw[List.any_eq_false];intro e f;refine cI (x e (by simpa using f)) λn t q=>?_;unfold DictEntry.refKey;rw[q]
 simp
theorem vG {m:Str->Option Value}(r:h.Ns d m):∃o,h.get? d=some o/\ ∀name,lookIn name o=some (m name):=by
 refine aB λt g=>kH (r) λo b ep j hd q i=>g<|⟨o,j,λname=>?_⟩;unfold lookIn;rw[hd];dsimp only;have f:nsFind b name=m name:=i name;unfold nsFind findBy at f;rw[ol q];rw[<-f];have:(b.toList.find? λe=>e.key.isStr name)=b.find? λe=>e.key.isStr name:=by simp
 rw[this];cases b.find? λe=>e.key.isStr name<;>simp
theorem lT {x C:Addr}{m:Str->Option Value}(b:h.get? x=some (instObj C d))(g:h.Ns d m):∃od,InstAt h x (instObj C d) C (some od)/\ ∀name,lookIn name od=some (m name):=by
 refine aa (vG g) λo f e=>⟨o,⟨b,rfl,rfl,f⟩,e⟩
theorem DZ {V:V}(x:VR φ h V v):handedIn v=true:=by cases x<;>rfl
theorem Jb(f:WdOk3 W){H:Bool}{s:Shared}{φ:al}{σ:List O}{Q:Value->Shared->Prop}(S:W.St (ao fs) φ σ s.heap)(i:VR φ s.heap o u)
  (p:aj W fs [] VR (aN o a σ) s φ Q Er):wpAny (model W.prog W.w) A (getAttr u a H) Q Er s:=by
 refine af p.bi λJ p=>aa p.el λn D p=>aa p.el λq L p=>aa p.el λV B p=>?_;rw[cS D]at i;refine aa i.ref' λpr z G=>?_;rw[z];refine kJ (kQ S G (rT L)) λC d m t P y j Z x=>aa (x a V B) λv r g=>aa (lT y j.ns) λN I b=>?_;have e:=f.cls _ _ t;refine get_value (vF f.toWdOk S) I e.getattribute (findObj_own (v:=v) e.hasDict (e.fields a J) rfl (by rw[b,r])) (DZ g)<|p.ret0 S g
theorem nH {o:Expr}{w:Sem Value}(h:eP o=false):attributeBase o a E w=w:=by
 unfold attributeBase;cases o<;>first|rfl|cases h
theorem F1(I:WdOk3 W){o:Expr}{m:M V}(H:eP o=false)(x:aI W A fs E c l VR (eval o E) m):aI W A fs E c l VR (eval (.Attribute o a pos) E) (mq m λv=>aN v a):=λs φ σ Q Er S L p=>by
 rw[arm_eval_Attribute,nH H];refine Vn (x.after S L p λw u s₁ B b t D z g q=>?_);refine Vn (UU (Vn (UT (Jb I t z ?_))));refine aj.bind (f:=λv=>mr v) (RV':=VR) (RV:=VR) (m:=aN w a) (Q:=Q) au ?_ λv J C j tk y e G i r=>?_
 ·have:mq (aN w a) (λv=>mr v) b=aN w a b:=by unfold mq mr;cases aN w a b<;>rfl
  rw[this];exact q
 ·exact Vn (wpAny_letTemporaryGo (Vq (r.ret0 (s:= {s₁ with heap:=j,toks:=tk}) (tk:=tk) e i)))
theorem gN {e:Type}{x y:Str}{v:e}(l:List (Str×e)):look y (put x v l)=if y=x then some v else look y l:=by
 induction l using List.rec with
 |nil=>exact kP
 |cons p r ih=>
  rw[w4];by_cases b:x=p.1
  ·rw[Vw b,ji,ji,b]
   by_cases h:y=p.1
   ·rw[Vw h,Vw h]
   ·rw[Vv h,Vv h,Vv h]
  ·rw[Vv b,ji,ji,ih]
   by_cases h:y=p.1
   ·rw[Vw h,Vw h,Vv (λq=>b (q.symm.trans h))]
   ·rw[Vv h,Vv h]
theorem si {e:Type}{x:Str}{v:e}(l:List (Str×e)):(put x v l).length=if(look x l).isSome then l.length else l.length+1:=by
 induction l using List.rec with
 |nil=>rfl
 |cons p r ih=>
  rw[w4,ji];by_cases b:x=p.1
  ·rw[Vw b,Vw b];rfl
  ·rw[Vv b,Vv b,Ug,ih]
   by_cases h:(look x r).isSome=true
   ·rw[Vw h,Vw h];rfl
   ·rw[Vv h,Vv h];rfl
theorem AX {M:Model}{s:Shared}{a:Addr}{m:Str->Option Value}{n:Nat}{name:Str}{Q:Unit->Shared->Prop}{Er:Value->Shared->Prop}(H:oW s.heap a m n)
  (G:∀h',oW h' a (λx=>if x=name then some v else m x) (if(m name).isSome then n else n+1)->Heap.SameBut a s.heap h'-> ∀o',h'.get? a=some o'-> ∀j ep,o'.data=.dict j ep->j.size=(if(m name).isSome then n else n+1)->Q () {s with heap:=h',toks:=s.toks+1}):
  wpAny M A (nsSet a name v) Q Er s:=λI p Z=>by
 refine jc (H) λo j ep z hd C B r=>?_;simp only[nsSet,strHash,Sem.wp_bind',Sem.wp_cmd_ask,Sem.wp_pure',Sem.wp_cmd_mkText];rw[Sem.wp_loadPart_of M I _ p {s with toks:=s.toks+1} (o:=o) _ z];have t:j.any (·.refKey)=false:=by
  rw[<-Array.any_toList];exact ol C
 simp only[hd,aRefKeyMayBeTheName_eq,aRefKeyMayBeTheNameByArray,t,UF,TQ,Vt,Sem.wp_cmd_updatePart];refine⟨by rw[z];rfl, ?_⟩;obtain⟨cc,d,L,w⟩:=o;subst hd;have f:(m name).isSome=(j.findIdx? (λe=>e.key.isStr name)).isSome:=by
  rw[<-B,nsFind,findBy,Option.isSome_map];have:=Array.find?_isSome (xs:=j) (p:=λe=>e.key.isStr name);rw[Bool.eq_iff_iff,this,Array.findIdx?_isSome,Array.any_eq_true]
  constructor
  ·rintro⟨x,J,D⟩
   obtain⟨i,q,rfl⟩:=Array.mem_iff_getElem.mp J;exact⟨i,q,D⟩
  ·rintro⟨i,q,D⟩
   exact⟨_,Array.getElem_mem q,D⟩
 induction q:j.findIdx? (λe=>e.key.isStr name)using Vx with
 |some i=>
  rw[q]at f;have key:∀b,Obj.putName name b (Value.str name s.toks) v ⟨cc,d,.dict j ep,w⟩=⟨cc,d,.dict (j.modify i λe=> {e with val:=v}) ep,w⟩:=λb=>by
   simp only[Obj.putName_eq,Obj.putNameByArray,q]
  have g:=λb=>To (Obj.putName name b (Value.str name s.toks) v) z (by rw[key];rfl);simp only[key]at g;refine G _ ⟨_,_,ep,g _,rfl,C.modify _ _,λx=>?_, ?_⟩ (TG ..) _ (g _) _ _ rfl ?_
  ·show _=if x=name then some v else m x
   rw[<-B];exact findBy_modify (λn v=>v.isStr n) Value.isStr_inj j name x v i q
  ·rw[f];simp[r]
  ·rw[f];simp[r]
 |none=>
  rw[q]at f;have key:∀b,Obj.putName name b (Value.str name s.toks) v ⟨cc,d,.dict j ep,w⟩=⟨cc,d,.dict (j.push ⟨b,.str name s.toks,v⟩) (ep+1),w⟩:=λb=>by
   simp only[Obj.putName_eq,Obj.putNameByArray,q]
  have g:=λb=>To (Obj.putName name b (Value.str name s.toks) v) z (by rw[key];rfl);simp only[key]at g;refine G _ ⟨_,_,ep+1,g _,rfl,C.push _ _ _ _,λx=>?_, ?_⟩ (TG ..) _ (g _) _ _ rfl ?_
  ·show _=if x=name then some v else m x
   rw[<-B];exact findBy_push (λn v=>v.isStr n) j name x _ _ v (λy=>by
    show(name==y)=decide (y=name)
    by_cases h:y=name
    ·subst h;simp
    ·have:¬name=y:=λe=>h e.symm
     simp[h,this]) q
  ·rw[f];simp[r]
  ·rw[f];simp[r]
theorem Jc {b:Bool}(h:n<=64):(if b=true then n else n+1)<=sizeLine:=by
 rw[sizeLine_eq];induction b using VA with
 |true=>exact U7 h (by decide)
 |false=>exact U7 (Uo h) (by decide)
theorem F2 {t:Str}{xs:List (Str×V)}{v:V}{x:Value}{C:Addr}{m:Str->Option Value}{h':Heap}(S:W.St F φ σ h)(P:φ[n]?=some pr)(G:W.cl.at_ t=some C)(r:pr.2=.some d)(I:h.get? pr.1=some (instObj C d))
  (i:∀x,(m x).isSome=(look x xs).isSome)(H:∀x V,look x xs=some V-> ∃v,m x=some v/\VR φ h V v)(z:pr.1≠d)(Y:VR φ h v x)(sb:Heap.SameBut d h h')(Z:oW h' d (λB=>if B=a then some x else m B) (if(m a).isSome then xs.length else xs.length+1)):
  W.St F φ (σ.set n (.inst t (put a v xs))) h'/\Go F [] φ φ h h':=by
 refine St.upd (o:=.inst t (put a v xs)) S P (h':=h') (λb ob e D=>(sb.2 b λq=>D ?_).trans e) λg=>?_
 ·rw[r,q];exact TA _ (TW.mpr rfl)
 ·obtain⟨J,N⟩:=pr
  replace r:N=.some d:=r
  rw[r];refine .inst G ((sb.2 J z).trans I) (by rw[si,<-i];exact Z) (λy=>?_) λy V j=>?_
  ·rw[gN]
   by_cases f:y=a
   ·rw[Vw f,Vw f];rfl
   ·rw[Vv f,Vv f];exact i y
  ·rw[gN]at j
   by_cases f:y=a
   ·rw[Vw f]at j ⊢
    exact⟨x,rfl,UB j▸VR.go S au g Y⟩
   ·rw[Vv f]at j ⊢
    exact aa (H y V j) λw U L=>⟨w,U,VR.go S au g L⟩
theorem Jd(L:WdOk3 W){v:V}{x:Value}{s:Shared}{φ:al}{σ:List O}{Q:Unit->Shared->Prop}(S:W.St (ao fs) φ σ s.heap)(N:VR φ s.heap o u)(hv:VR φ s.heap v x)
  (p:aj W fs [] (λ_ _ (_ _:Unit)=>True) (dF o a v σ) s φ Q Er):wpAny (model W.prog W.w) A (setAttr u a x) Q Er s:=by
 refine af p.bi λhf p=>aa p.el λn hn p=>aa p.el λq hl p=>af p.it λf p=>?_;rw[cS hn]at N;refine aa N.ref' λpr z P=>?_;rw[z];refine kJ (kQ S P (rT hl)) λC d m J h2 i t y h5=>aa (lT i t.ns) λod I U=>?_;have j:=L.cls _ _ J;have X:=vF L.toWdOk S;refine set_plain X I j.setattr<|osa_open (s:= {s with toks:=s.toks+1}) (r:=none) X I j.plain (by unfold takerIn;rw[j.fields a hf];rfl) λb=>aa (any_some j.hasDict) λcd hc B=>Vn (Vq (Vn (Vn (wpAny_loadPart (s:= {s with toks:=s.toks+1}) i (Vn (Looks.here (s:= {s with toks:=s.toks+1}) (looks_clsIn X hc) ?_))))));rw[B];refine Vq (a:=some d) (Vn (Vq (Vn ?_)));refine AX (s:= {s with toks:=s.toks+1}) t λh' n' sb o' D es ep e G=>?_;refine Vn (wpAny_lookBehind (s:=({s with heap:=h',toks:=s.toks+1+1}:Shared)) D (by
  rw[e];exact pastItsLine_dict (by rw[G];exact Nat.le_succ_of_le (Jc f))) (Vq ?_))
 have H:pr.1≠d:=λq=>by
  refine bw (t) λo' es ep g dd Z=>?_;rw[<-q]at g;rw[<-UB (i.symm.trans g)]at dd;exact nomatch dd
 exact af (F2 S P J h2 i y h5 H hv sb n') λS' Y=>p () h' _ φ S' Y trivial
end
section
variable {W:Wd} {A:Around} {fs:List Env} {X:List Addr} {E:Env} {c:Cx} {l:Loc}
variable {F:List Addr} {φ:al} {σ:List O} {h:Heap}
theorem B9(h:mf se=false)(o i:Value):subscripted se false o i=operate [o,i] (getItem o i):=by
 unfold subscripted;induction se using Vy with
 |Slice=>cases h
 |_=>rfl
theorem Je(G:∀o i:Value,subscripted se false o i=operate [o,i] (getItem o i)){s:Shared}{φ:al}{σ:List O}{Q:Value->Shared->Prop}(S:W.St (ao fs) φ σ s.heap)(B:VR φ s.heap (.tup xs) u)(x:VR φ s.heap (.int k) v)(p:aj W fs [] VR (FD xs k σ) s φ Q Er):wpAny (model W.prog W.w) A (PyProof.Rows.subscriptTail ve se u v) Q Er s:=by
 refine af p.it λf p=>aa p.el λV C p=>jz B.tup' λa ob vs n z e c d r=>?_;rw[z];refine am x.int' λt z=>?_;rw[z];refine aa (r.get C) λw g D=>?_;have T:PyProof.Rows.IsTup s.heap a vs.toList.toArray:=⟨ob,e,c,n,d⟩;have b:k.toNat<vs.toList.length:=(S6.mp g).1;refine Tt T.typeIs PyProof.Rows.slot_tuple_getitem.lookup (PyProof.Rows.getItem_tuple T (UX (by decide) f.1) (Md f) (j:=k.toNat) ?_ ((Tr ..).trans g) (p.ret0 S D)) (G _ _);unfold seqIndex?;have q:¬k<0:=Ra f;rw[Vv q];have y:k<(vs.size:Int):=by
  rw[Array.length_toList]at b;exact TR (Int.self_le_toNat _) (U2.mpr b)
 simp[f.1,y]
theorem F3(y:∀o i:Value,subscripted se false o i=operate [o,i] (getItem o i)){s:Shared}{φ:al}{σ:List O}{Q:Value->Shared->Prop}(S:W.St (ao fs) φ σ s.heap)(G:σ[n]?=some (.list xs))(C:VR φ s.heap (.ref n) u)(B:VR φ s.heap (.int k) v)(p:aj W fs [] VR (kM xs k σ) s φ Q Er):wpAny (model W.prog W.w) A (PyProof.Rows.subscriptTail ve se u v) Q Er s:=by
 refine aa C.ref' λpr z D=>?_;rw[z];refine am B.int' λt z=>?_;rw[z];refine aa (dQ S D G) λvs f r=>?_;unfold kM at p;by_cases b:0<=k/\k<2^62
 ·rw[Vw b]at p
  refine aa p.el λV g p=>aa (r.get g) λw e j=>Tt f.typeIs slot_list_getitem.lookup (wpAny_getItem_list f b.1 (Md b) ((Tr ..).trans e) (p.ret0 S j)) (y _ _)
 ·rw[Vv b]at p
  clear b
  refine af p.it λb p=>aa p.el λV g p=>?_;rw[b.1];refine aa (r.last g) λw e j=>?_;rw[S7]at e;have q:vs.length-1<vs.length:=(S6.mp e).1;refine Tt f.typeIs slot_list_getitem.lookup (wpAny_getItem_list_neg f (by decide) (by rw[T8];exact Int.neg_le_neg (U1.mpr (T1 (Nat.zero_le _) q))) (by decide) (x:=w) ?_ (p.ret0 S j)) (y _ _);rw[T8,Tr,<-e]
  congr 1;exact(Vs Int.toNat (Int.add_comm (-1) _)).trans (Int.toNat_sub _ 1)
theorem F4(g:∀o i:Value,subscripted se false o i=operate [o,i] (getItem o i)){s:Shared}{φ:al}{σ:List O}{Q:Value->Shared->Prop}(S:W.St (ao fs) φ σ s.heap){xs:List (Str×V)}{b:Str}{V:V}(q:σ[n]?=some (.dict xs))(B:look b xs=some V)(y:VR φ s.heap (.ref n) u)(x:VR φ s.heap (.str b) v)(p:aj W fs [] VR (.ok V σ) s φ Q Er):wpAny (model W.prog W.w) A (PyProof.Rows.subscriptTail ve se u v) Q Er s:=by
 refine aa y.ref' λpr z j=>?_;rw[z];refine am x.str' λt z=>?_;rw[z];refine aa (fg S j q) λC d r=>aa (r.look B) λw f e=>Tt d.typeIs slot_dict_getitem.lookup (wpAny_getItem_of (knd:=strKind W.prog W.w) (k:=b) (by simp[strKind,Value.isStrOf]) d.mapOf f (p.ret0 S e)) (g _ _)
theorem MW(x:WdOk3 W){i:V}(e:mf se=false){s:Shared}{φ:al}{σ:List O}{Q:Value->Shared->Prop}(S:W.St (ao fs) φ σ s.heap)(q:VR φ s.heap o u)(b:VR φ s.heap i v)
  (p:aj W fs [] VR (ak o i σ) s φ Q Er):wpAny (model W.prog W.w) A (PyProof.Rows.subscriptTail ve se u v) Q Er s:=by
 have g:=B9 e;induction o using VB with
 |tup xs=>exact aa (aj.el (o:=eE i) (f:=λk=>FD xs k σ) p) λk r p=>by rw[gK r]at b;exact Je g S q b p
 |ref n=>induction i using VB with
  |int k=>exact aa (aj.el (o:=dM σ[n]?) (f:=λl=>kM l k σ) p) λl j p=>F3 g S (dx j) q b p
  |str st=>exact aa (aj.el (o:=dct σ[n]?) (f:=λl=>(look st l).elim .bad λv=>.ok v σ) p) λl j p=>aa p.el λV t p=>F4 g S (fy j) t q b p
  |_=>exact p.elim
 |_=>exact p.elim
theorem Jf(N:WdOk3 W){o i:Expr}{j e:M V}(w:mf i=false)(x:aI W A fs E c l VR (eval o E) j)(y:aI W A fs E c l VR (eval i E) e):
  aI W A fs E c l VR (eval (.Subscript o i pos) E) (mq j λv=>mq e λk=>ak v k):=λs φ σ Q Er S L p=>by
 refine PyProof.Rows.Subscript_ (x.after S L p λa u s₁ C D f r z g q=>?_);exact y.after f r q λb v I B G t H P J U=>MW N w t (VR.go f au J z) P U
theorem Jg {vs:List Value}(h:0<=k):slicePick vs.toArray none (some k) none=(vs.take k.toNat).toArray:=by
 have:=slicePick_upto' vs.toArray k.toNat;rw[TI h]at this;exact this
theorem D5 {o:Expr}{kd:Nat}{P H:Pos}{m:M V}(i:bZ o=true)(x:aI W A fs E c l VR (eval o E) m):
  aI W A fs E c l VR (eval (.Subscript o (.Slice none (some (.Constant (.int k) kd P)) none H) pos) E) (mq m λv=>kN v k):=λs φ σ Q Er S L p=>by
 refine wpAny_Subscript_list_slice (x.after S L p λa u s₁ f j e w z g q=>?_) (by
  intro U r;cases o<;>first|rfl|cases i)
 refine aa q.el λn i q=>aa q.el λxs N q=>af q.it λy q=>?_;rw[cS i]at z;refine aa z.ref' λpr z J=>?_;rw[z];refine aa (zJ e J N) λvs I r=>?_;rw[evalPart_none];refine Vq ?_;rw[evalPart_some];refine wpAny_Constant_int ⟨pr.1,vs.toArray,none,some k,rfl,I,by rw[T8,r.length];exact U7 y.2.2 (by decide),.none,.int _ _, ?_⟩;rw[Jg y.1];refine af (e.grow (h':=s₁.heap.push {cls:=.type "slice",data:=.fields #[.none,.int k s₁.toks,.none] }) λb o q=>Tk _ q) λG D=>?_;refine cQ (q9 (k:=0) G (VRs.go e au D (r.take k.toNat)) (a:=(vs.take k.toNat).toArray) rfl) λB t C=>?_;rw[UI]at B t C;exact q _ _ _ _ B (Go.trans au D t) C
theorem jj:∀as:List Expr,as.any bI=false-> ∀pos:Pos,(backTo pos (starEach as E)).any (·.1)=false/\(backTo pos (starEach as E)).all (λx=> !x.1)=true
 | [],_,_=>⟨rfl,rfl⟩
 |e::r,h,pos=>by
  rw[UO,Tv]at h;refine af (jj r h.2 pos) λf b=>?_;rw[cN h.1];unfold backTo at f b ⊢;rw[UQ,UO,List.all_cons];exact⟨by rw[f];rfl,by rw[b];rfl⟩
theorem js {j:String}{first:List Value}{as:List Expr}{f:Pos}{s:Shared}{Q:Value->Shared->Prop}{M:Model}(g:as.any bI=false)
  (h:wpAny M A (spliced (backTo f (starEach as E))) (λvs s₁=>wpAny M A (call (.builtin j) (first++vs)) Q Er s₁) Er s):wpAny M A (callWith pos (.builtin j) first (backTo f (starEach as E)) []) Q Er s:=by
 refine callWith_builtin (jj as g f).1 ?_;induction as using Vz with
 |nil=>
  refine evalArgs_none λi p b=>?_;have k:=h i p b
  change Sem.wp M i (pure []) _ _ _ _ at k
  rw[Sem.wp_pure']at k;exact k i p b
 |cons e r=>
  rw[UO,Tv]at g;rw[cN g.1]at h ⊢;exact evalArgs_plain h
theorem lU {F:List Addr}{φ:al}{σ:List O}{h h':Heap}{i:List V}{vs:List Value}{k:Nat}(S:W.St F φ σ h)(j:φ[n]?=some p)(x:σ[n]?=some (.list xs))(sb:Heap.SameBut p.1 h h')
  (g:h'.get? p.1=some (listOf vs.toArray k))(r:VRs φ h i vs):W.St F φ (σ.set n (.list i)) h'/\Go F [] φ φ h h':=by
 have f:p.2=.none:=bw (S.obj n _ _ j x).list' λZ Z Z q Z Z=>by rw[q]
 obtain⟨y,w⟩:=p
 replace f:w=.none:=f
 subst f;exact St.upd S j (λb ob e t=>(sb.2 b λq=>t (by rw[q];simp)).trans e) λgo=>.list g (VRs.go S au go r)
theorem zL {F:List Addr}{φ:al}{σ:List O}{h h':Heap}{xs i:List (Str×V)}{j:List (Str×Value)}{e:Int}(S:W.St F φ σ h)(x:φ[n]?=some p)(f:p.2=.base e)(sb:Heap.SameBut p.1 h h')
  (g:cj W.prog W.w h' p.1 j e)(r:PR φ h i j):W.St F φ (σ.set n (.dict i)) h'/\Go F [] φ φ h h':=by
 obtain⟨z,y⟩:=p;dsimp only at f g sb;subst f;exact St.upd S x (λb ob e t=>(sb.2 b λq=>t (by rw[q];simp)).trans e) λgo=>.dict g (PR.go S au go r)
theorem io(S:W.St F φ σ h)(b:φ[n]?=some p)(f:σ[n]?=some (.list xs)):∃(vs:List Value) (k:Nat),h.get? p.1=some (listOf vs.toArray k)/\VRs φ h xs vs:=bw (S.obj n _ _ b f).list' λa vs k q e r=>aV vs k ⟨by rw[q];exact e,r⟩
theorem Ca {s:Shared}{φ:al}{σ:List O}{Q:Value->Shared->Prop}(S:W.St (ao fs) φ σ s.heap)(i:φ[n]?=some pr)(j:σ[n]?=some (.list xs))(f:VRs φ s.heap as us)(p:aj W fs [] VR (md n xs as σ) s φ Q Er):wpAny (model W.prog W.w) A (call (.builtin "list.append") (.ref pr.1::us)) Q Er s:=by
 refine aa p.el λv C p=>af p.it λb p=>cY (io S i j) λvs k B r=>?_;rw[DG C]at f;refine aW f.cons' λw D z q e=>?_;rw[z,e.nil'];refine PyProof.Rows.append_at B (λh' sb g=>?_) (by rw[T8,r.length];exact U7 (U6 b) (by decide));have t:h'.get? pr.1=some (listOf (vs++ [w]).toArray (k+1)):=by rw[g,List.push_toArray]
 refine af (lU S i j sb t (r.append (.cons q .nil))) λy x=>p _ _ s.toks _ y x .none
theorem Jh {s:Shared}{φ:al}{σ:List O}{Q:Value->Shared->Prop}(S:W.St (ao fs) φ σ s.heap)(t:φ[n]?=some pr)(z:σ[n]?=some (.list xs))(i:VRs φ s.heap as us)(p:aj W fs [] VR (xu n xs as σ) s φ Q Er):wpAny (model W.prog W.w) A (call (.builtin "list.pop") (.ref pr.1::us)) Q Er s:=by
 refine af p.bi λG p=>af p.it λb p=>aa p.el λv H p=>cY (io S t z) λvs k f r=>?_;rw[Uf.mp G]at i;rw[i.nil'];refine aa (r.last H) λw q D=>?_;have y:vs.toArray[vs.toArray.size-1]?=some w:=by
  rw[S7]at q;rw[T8,Tr,q]
 refine call_meets PySem.F.slot_list_pop ⟨_,f,rfl⟩ PySem.F.entry_list_pop (PySem.F.args_list_pop_1 _) (PySem.MeetsSeq.list_pop_last pr.1 _ k w y (by rw[T8,r.length];exact U7 b (by decide))) ⟨f, ?_⟩;have g:=To (Obj.mapSeq λxs=>xs.eraseIdxIfInBounds (vs.toArray.size-1)) f rfl;have e:vs.toArray.eraseIdxIfInBounds (vs.toArray.size-1)=vs.dropLast.toArray:=by
  apply Array.toList_inj.mp;unfold Array.eraseIdxIfInBounds;rw[dif_pos (SS.mp y).1]
  simp
 refine am (show ∃x,(s.heap.update pr.1 (Obj.mapSeq λxs=>xs.eraseIdxIfInBounds (vs.toArray.size-1))).get? pr.1=some (listOf vs.dropLast.toArray x) by rw[g,<-e];exact⟨_,rfl⟩) λx B=>?_;refine af (lU S t z (TG ..) B r.dropLast) λC j=>p _ _ s.toks _ C j (VR.go S au j D)
theorem Ji {s:Shared}{φ:al}{σ:List O}{Q:Value->Shared->Prop}(S:W.St (ao fs) φ σ s.heap)(j:φ[n]?=some pr)(q:σ[n]?=some (.list xs))(f:VRs φ s.heap as us)(p:aj W fs [] VR (xw n xs as σ) s φ Q Er):wpAny (model W.prog W.w) A (call (.builtin "list.reverse") (.ref pr.1::us)) Q Er s:=by
 refine af p.bi λz p=>af p.it λb p=>cY (io S j q) λvs k e r=>?_;rw[Uf.mp z]at f;rw[f.nil'];refine call_meets PySem.F.slot_list_reverse ⟨_,e,rfl⟩ PySem.F.entry_list_reverse (PySem.F.args_list_reverse_1 _) (PySem.AutoSeq1.list_reverse_list_0 pr.1 _ k (by rw[T8,r.length];exact U7 b (by decide))) ⟨e, ?_⟩;have g:=To (Obj.mapSeq λx=>x.reverse) e rfl;refine am (show ∃i,(s.heap.update pr.1 (Obj.mapSeq λx=>x.reverse)).get? pr.1=some (listOf vs.reverse.toArray i) by rw[g,<-List.reverse_toArray];exact⟨_,rfl⟩) λi t=>?_;refine af (lU S j q (TG ..) t r.reverse) λB y=>p _ _ s.toks _ B y .none
theorem Jj(C:WdOk3 W){xs:List (Str×V)}{s:Shared}{φ:al}{σ:List O}{Q:Value->Shared->Prop}(S:W.St (ao fs) φ σ s.heap)(y:φ[n]?=some pr)(P:σ[n]?=some (.dict xs))(f:VRs φ s.heap as us)(p:aj W fs [] VR (BQ xs as σ) s φ Q Er):wpAny (model W.prog W.w) A (call (.builtin "dict.get") (.ref pr.1::us)) Q Er s:=by
 refine aa p.el λq H p=>aa (fg S y P) λN d r=>?_;have key:∀(e:Str) (t:Tok),(strKind W.prog W.w).is e (.str e t)=true:=λe t=>by simp[strKind,Value.isStrOf]
 obtain⟨e,dv⟩:=q;have look:∀ {j:Value},VR φ s.heap dv j->VR φ s.heap ((look e xs).getD dv) ((valueAt N e).getD j):=λhd=>by
  induction hk:Mine.look e xs using Vx with
  |none=>rw[r.lookNone hk];exact hd
  |some v=>exact aa (r.look hk) λw G I=>by rw[G];exact I
 refine(IN H).elim (λz=>?_) λz=>?_
 ·rw[z.1]at f
  refine aW f.cons' λw D x g b=>am g.str' λt i=>?_;rw[x,b.nil',i];refine call_meetsIn PySem.F.slot_dict_get d.typeIs PySem.F.entry_dict_get (PySem.F.args_dict_get_2 _ _) (meets_dict_get (strKind W.prog W.w) pr.1 (key e t) (jr C.sys S y)) ⟨_,d.mapOf, ?_⟩;exact p.ret0 S (look (show VR φ s.heap dv .none by rw[show dv=.none from z.2];exact .none))
 ·rw[z]at f
  refine aW f.cons' λw D x g b=>am g.str' λt i=>aW b.cons' λj J B L b=>?_;rw[x,B,b.nil',i];refine call_meetsIn PySem.F.slot_dict_get d.typeIs PySem.F.entry_dict_get (PySem.F.args_dict_get_3 _ _ _) (meets_dict_get_default (strKind W.prog W.w) pr.1 (key e t) (jr C.sys S y) _) ⟨_,d.mapOf, ?_⟩;exact p.ret0 S (look L)
noncomputable def D6(m:Str):String:=if m= "get" then "dict.get" else if m= "append" then "list.append" else if m= "pop" then "list.pop" else "list.reverse"
theorem Jk(r:WdOk3 W){s:Shared}{φ:al}{σ:List O}{Q:Value->Shared->Prop}(S:W.St (ao fs) φ σ s.heap)(q:VR φ s.heap o u)(e:VRs φ s.heap as us)
  (p:aj W fs [] VR (bN o m as σ) s φ Q Er):wpAny (model W.prog W.w) A (call (.builtin (D6 m)) (u::us)) Q Er s:=by
 refine aa p.el λn t p=>?_;rw[cS t]at q;refine aa q.ref' λpr z f=>?_;rw[z];unfold D6;by_cases g:m= "get"
 ·rw[UL g]at p;rw[Vw g]
  exact aa p.el λl b p=>Jj r S f (fy b) e p
 rw[UC g]at p;rw[Vv g];refine aa p.el λl b p=>?_;by_cases j:m= "append"
 ·rw[Vw j]at p ⊢;exact Ca S f (dx b) e p
 rw[Vv j]at p ⊢;by_cases i:m= "pop"
 ·rw[Vw i]at p ⊢;exact Jh S f (dx b) e p
 rw[Vv i]at p ⊢;exact af p.it λx p=>Ji S f (dx b) e p
structure MAt (m:Str) (s:Shared) (u:Value) (T:String):Prop where
 pl:PlainAttrs T
 sl:Slot T m (D6 m)
 ty:typeOf (.builtin (D6 m))=pure (.type "method_descriptor")
 is:s.TypeIs u T
 nd:∀a,u=.ref a-> ∃ob,s.heap.get? a=some ob/\ob.dict=none
theorem F5 {s:Shared}{a:Addr}{ob:Obj}(i:s.heap.get? a=some ob)(f:s.TypeIs (.ref a) "list")(hd:ob.dict=none)(g:q6 m=true):MAt m s (.ref a) "list":=by
 have e:∀b,Value.ref a=.ref b-> ∃ob,s.heap.get? b=some ob/\ob.dict=none:=λb q=>⟨ob,US q▸i,hd⟩;refine(Bool.or_eq_true_iff.mp g).elim (λh=>?_) λh=>(Bool.or_eq_true_iff.mp h).elim (λh=>?_) λh=>?_
 ·rw[Ub h];exact⟨Ti,PySem.F.slot_list_append,type_list_append,f,e⟩
 ·rw[Ub h];exact⟨Ti,PySem.F.slot_list_pop,PySem.F.type_list_pop,f,e⟩
 ·rw[Ub h];exact⟨Ti,PySem.F.slot_list_reverse,PySem.F.type_list_reverse,f,e⟩
theorem Jl {s:Shared}{φ:al}{σ:List O}(S:W.St F φ σ s.heap)(g:VR φ s.heap o u)(p:bQ o m σ≠ .bad):bQ o m σ=.ok () σ/\ ∃T,MAt m s u T:=by
 unfold bQ at p ⊢;induction hn:dz o using Vx with
 |none=>rw[hn]at p;exact absurd rfl p
 |some n=>
  rw[hn]at p;rw[cS hn]at g;refine aa g.ref' λpr z f=>?_;rw[z]
  replace p:(bif q6 m then(dM σ[n]?).elim (R.bad:R Unit) λZ=>R.ok () σ else bif decide (m= "get")then(dct σ[n]?).elim R.bad λZ=>R.ok () σ else R.bad)≠R.bad:=p
  show(bif q6 m then(dM σ[n]?).elim (R.bad:R Unit) λZ=>R.ok () σ else bif decide (m= "get")then(dct σ[n]?).elim R.bad λZ=>R.ok () σ else R.bad)=_/\_
  induction hm:q6 m using VA with
  |true=>
   rw[hm]at p;induction hl:dM σ[n]? using Vx with
   |none=>rw[hl]at p;exact absurd rfl p
   |some l=>exact cY (io S f (dx hl)) λvs k e r=>⟨rfl,_,F5 e ⟨_,e,rfl⟩ rfl hm⟩
  |false=>
   rw[hm]at p;by_cases b:m= "get"
   ·rw[UL b]at p ⊢
    induction hl:dct σ[n]? using Vx with
    |none=>rw[hl]at p;exact absurd rfl p
    |some l=>
     refine aa (fg S f (fy hl)) λi d r=>⟨rfl, "dict", ?_⟩;rw[b];exact⟨PySem.F.plainAttrs_dict,PySem.F.slot_dict_get,PySem.F.type_dict_get,d.typeIs,d.mapOf.noDict⟩
   ·rw[UC b]at p;exact absurd rfl p
theorem F6(Y:WdOk3 W){o:Expr}{G:Pos}{as:List Expr}{j:M V}{f:Expr->M V}(N:eP o=false)(hl:(G.endLine==pos.line)=true)(hn:as.length<=20)(H:as.any bI=false)
  (x:aI W A fs E c l VR (eval o E) j)(U:∀e∈as,aI W A fs E c l VR (eval e E) (f e)):
  aI W A fs E c l VR (eval (.Call (.Attribute o m G) as [] pos) E) (mq j λv=>mq (bQ v m) λZ=>mq (dN f as) λvs=>bN v m vs):=λs φ σ Q Er S L p=>by
 refine wpAny_Call_method_lateS (nH N) ?_ hl (x.after S L p λa u s₁ r b i t z g q=>?_)
 ·rw[(jj as H pos).2]
  simp[backToKw,show keywordEach [] E= [] from rfl];exact P6 hn
 ·have P:bQ a m b≠ .bad:=λe=>by unfold mq at q;rw[e]at q;exact q
  refine af (Jl i z P) λe h=>am h λT h=>?_;have q':aj W fs [] VR (mq (dN f as) (λvs=>bN a m vs) b) s₁ r Q Er:=by
   unfold mq at q;rw[e]at q;exact q
  exact⟨T,D6 m,h.pl,h.sl,h.ty,h.is,h.nd,js H ((gM as U).after i t q' λvs us I B C w D z' J y=>Jk (A:=A) Y w (VR.go i au J z) z' y)⟩
end
end Mine
end
noncomputable section
open PySem PySem.W PySem.Calls
set_option exponentiation.threshold 3000
namespace Mine
variable {pos:Pos} {Er:Value->Shared->Prop} {x:Str} {G:Prop} {n:Nat} {us:List Value}
noncomputable def SD(x:Str):Bool:=x= "list"||x= "dict"||x= "str"
noncomputable def PK(x:Str):String:=if x= "len" then "len" else if x= "abs" then "abs" else if x= "max" then "max" else if x= "min" then "min" else if x= "list" then "list" else if x= "dict" then "dict" else if x= "chr" then "chr" else "str"
def iS(x:Str):Value:=if SD x then .type (PK x)else .builtin (PK x)
structure WdOk4 (W:Wd):Prop extends WdOk3 W where
 blt:∀x,xx x=true->W.mg x=none/\W.mb x=some (iS x)
section
variable {W:Wd} {A:Around} {fs:List Env} {X:List Addr} {E:Env} {c:Cx} {l:Loc}
variable {F:List Addr} {φ:al} {σ:List O} {h:Heap}
theorem mj {T:String}{as:List Expr}{b:Pos}{s:Shared}{Q:Value->Shared->Prop}{M:Model}(d:as.any bI=false)
  (h:wpAny M A (spliced (backTo b (starEach as E))) (λvs s₁=>wpAny M A (call (.type T) vs) Q Er s₁) Er s):wpAny M A (callWith pos (.type T) [] (backTo b (starEach as E)) []) Q Er s:=by
 refine PyProof.Rows.callWith_type (jj as d b).1 ?_;induction as using Vz with
 |nil=>
  refine evalArgs_none λf p a=>?_;have k:=h f p a
  change Sem.wp M f (pure []) _ _ _ _ at k
  rw[Sem.wp_pure']at k;exact k f p a
 |cons e r=>
  rw[UO,Tv]at d;rw[cN d.1]at h ⊢;exact evalArgs_plain h
theorem Cb {as:List Expr}{b:Pos}{s:Shared}{Q:Value->Shared->Prop}{M:Model}(a:as.any bI=false)
  (h:wpAny M A (spliced (backTo b (starEach as E))) (λvs s₁=>wpAny M A (call (iS x) vs) Q Er s₁) Er s):wpAny M A (callWith pos (iS x) [] (backTo b (starEach as E)) []) Q Er s:=by
 unfold iS at h ⊢
 split at h
 ·rename_i ht;rw[Vw ht];exact mj a h
 ·rename_i ht;rw[Vv ht];exact js a h
theorem fJ {b:Type}{o:Option b}{f:b->M V}{s:Shared}{φ:al}{σ:List O}{Q:Value->Shared->Prop}{P:Prop}(p:aj W fs [] VR (fG o f σ) s φ Q Er)(k:∀a,o=some a->aj W fs [] VR (f a σ) s φ Q Er->P):P:=aa p.el k
theorem un {φ:al}{h:Heap}(f:VRs φ h [.ref n] us)(k:∀b,us= [.ref b.1]->φ[n]?=some b->G):G:=
 aW f.cons' λw i z d a=>aa d.ref' λb g e=>k b (by rw[z,a.nil',g]) e
theorem Jm {s:Shared}{φ:al}{σ:List O}{Q:Value->Shared->Prop}(S:W.St (ao fs) φ σ s.heap)(d:VRs φ s.heap [.ref n] us)(p:aj W fs [] VR (FE n σ) s φ Q Er):wpAny (model W.prog W.w) A (call (iS "len") us) Q Er s:=by
 refine aa p.el λxs f p=>af p.it λa p=>un d λg z e=>?_;rw[z];refine aa (dQ S e (dx f)) λvs b r=>call_len_list b (by rw[T8,r.length];exact UY (U2.mpr a) (by decide)) ?_;rw[T8,r.length];exact p.ret0 S (.int _ _)
theorem F7 {s:Shared}{φ:al}{σ:List O}{Q:Value->Shared->Prop}(S:W.St (ao fs) φ σ s.heap)(d:VRs φ s.heap [.ref n] us)(p:aj W fs [] VR (BR n σ) s φ Q Er):wpAny (model W.prog W.w) A (call (iS "list") us) Q Er s:=by
 refine aa p.el λxs m p=>af p.it λa p=>un d λe z i=>?_;rw[z];refine cY (io S i (dx m)) λvs k b r=>call_list_seq e.1 (T:= "list") (.inl rfl) b rfl rfl (λh' o k g=>?_) (by rw[T8,r.length];exact U7 a (by decide));exact cQ (AS (ax:=Aux.none) (ob:=.list xs) S rfl k (.list (vs:=vs) (n:=o) g (VRs.mv (uj k) r))) λj f q=>p _ _ s.toks _ j f q
theorem F8(j:WdOk4 W){s:Shared}{φ:al}{σ:List O}{Q:Value->Shared->Prop}(S:W.St (ao fs) φ σ s.heap)(m:VRs φ s.heap [.ref n] us)(p:aj W fs [] VR (BS n σ) s φ Q Er):wpAny (model W.prog W.w) A (call (iS "dict") us) Q Er s:=by
 refine aa p.el λxs B p=>af p.it λa p=>un m λC z g=>?_;rw[z];refine aa (fg S g (fy B)) λi d r=>kt_call_dict (jr j.sys S g) d (by rw[r.length];exact U7 a (by decide)) λh' f v=>?_;have k:∀b o,s.heap.get? b=some o->h'.get? b=some o:=λb o e=>by
  rw[v.2 b (λq=>by rw[q,SX (Vi _)]at e;exact ns e)];exact Tk _ e
 refine am f.dictAt λep f=>cQ (AS (ax:=Aux.base ((ep:Int)-i.length)) (ob:=.dict xs) S rfl k (.dict (kvs:=i) ⟨ep,f,by exact Qj⟩ (PR.mv (uj k) r))) λu t y=>p _ _ s.toks _ u t y
theorem pU {φ:al}{h:Heap}{i:Int}(d:VRs φ h [.int i] us)(k:∀t,us= [.int i t]->G):G:=
 aW d.cons' λw f z b a=>am b.int' λt e=>k t (by rw[z,a.nil',e])
theorem AY {φ:al}{h:Heap}{i j:Int}(f:VRs φ h [.int i,.int j] us)(k:∀t b,us= [.int i t,.int j b]->G):G:=
 aW f.cons' λw m z d a=>am d.int' λt g=>pU a λb e=>k t b (by rw[z,e,g])
def AZ(W:Wd)(A:Around)(fs:List Env)(x:Str)(m:List V->M V):Prop:=∀ {as:List V} {us:List Value} {s:Shared} {φ:al} {σ:List O} {Q:Value->Shared->Prop} {Er:Value->Shared->Prop},W.St (ao fs) φ σ s.heap->VRs φ s.heap as us->aj W fs [] VR (m as σ) s φ Q Er->wpAny (model W.prog W.w) A (call (iS x) us) Q Er s
theorem OI:AZ W A fs "abs" λas=>fG (xz as) (λi=>mr (.int i.natAbs)):=λ{as us s φ σ Q Er} S ha p=>by
 refine fJ p λi h p=>?_;rw[xB h]at ha;refine pU ha λt e=>?_;rw[e];refine PyProof.Rows.call_abs_int λu tk=>?_;rw[show(if i<0 then-i else i)=(i.natAbs:Int) by omega];exact p.ret0 S (.int _ _)
theorem OJ(b:At A fs n):AZ W A fs "max" λas=>fG (DH as) (λq=>mr (.int (if q.2>q.1 then q.2 else q.1))):=λ{as us s φ σ Q Er} S ha p=>by
 refine fJ p λq h p=>?_;rw[DJ h]at ha;refine AY ha λt d e=>?_;rw[e];refine max_two_ints b.handled λh' tk k=>?_;by_cases a:q.2>q.1
 ·rw[Vw a]at p ⊢;exact p.ret k S au (.int _ _)
 ·rw[Vv a]at p ⊢;exact p.ret k S au (.int _ _)
theorem OK(b:At A fs n):AZ W A fs "min" λas=>fG (DH as) (λq=>mr (.int (if q.2<q.1 then q.2 else q.1))):=λ{as us s φ σ Q Er} S ha p=>by
 refine fJ p λq h p=>?_;rw[DJ h]at ha;refine AY ha λt d e=>?_;rw[e];refine min_two_ints b.handled λh' tk k=>?_;by_cases a:q.2<q.1
 ·rw[Vw a]at p ⊢;exact p.ret k S au (.int _ _)
 ·rw[Vv a]at p ⊢;exact p.ret k S au (.int _ _)
theorem OL:AZ W A fs "chr" λas=>fG (xz as) (λi h=>if 0<=i/\i<128 then .ok (.str ⟨#[i.toNat]⟩) h else .bad):=λ{as us s φ σ Q Er} S ha p=>by
 refine fJ p λi h p=>?_;rw[xB h]at ha;refine af p.it λa p=>pU ha λt e=>?_;rw[e];exact PySem.P.chr_of_int (by simp;exact⟨a.1,UX (UW a.2) (by decide)⟩) (p.ret0 S (.str _ _))
theorem OM:AZ W A fs "str" λas=>fG (xz as) (λi h=>if i.natAbs<2^1000 then .ok (.str (Str.ofString (toString i))) h else .bad):=λ{as us s φ σ Q Er} S ha p=>by
 refine fJ p λi h p=>?_;rw[xB h]at ha;refine af p.it λa p=>pU ha λt e=>?_;rw[e];refine PySem.P.str_of_int (by
  by_cases hz:i.natAbs=0
  ·rw[hz];decide
  ·exact T2 ((Nat.log2_lt hz).mpr a) (by decide)) ?_
 exact p.ret0 S (.str _ _)
theorem o0 {y:Str}{m:List V->M V}{as:List V}{s:Shared}{φ:al}{σ:List O}{Q:Value->Shared->Prop}{r:R V}(b:AZ W A fs y m)(S:W.St (ao fs) φ σ s.heap)(a:VRs φ s.heap as us)(p:aj W fs [] VR (if x=y then m as σ else r) s φ Q Er)
  (k:aj W fs [] VR r s φ Q Er->wpAny (model W.prog W.w) A (call (iS x) us) Q Er s):wpAny (model W.prog W.w) A (call (iS x) us) Q Er s:=by
 by_cases h:x=y
 ·rw[Vw h]at p;rw[h];exact b S a p
 ·rw[Vv h]at p;exact k p
theorem Cc(d:WdOk4 W)(b:At A fs n){as:List V}{s:Shared}{φ:al}{σ:List O}{Q:Value->Shared->Prop}(S:W.St (ao fs) φ σ s.heap)(a:VRs φ s.heap as us)
  (p:aj W fs [] VR (builtin x as σ) s φ Q Er):wpAny (model W.prog W.w) A (call (iS x) us) Q Er s:=by
 refine o0 (m:=λas=>fG (xy as) FE) (λS a p=>fJ p λn h p=>Jm S (by rw[xA h]at a;exact a) p) S a p λp=>o0 OI S a p λp=>o0 (OJ b) S a p λp=>o0 (OK b) S a p λp=>o0 (m:=λas=>fG (xy as) BR) (λS a p=>fJ p λn h p=>F7 S (by rw[xA h]at a;exact a) p) S a p λp=>o0 (m:=λas=>fG (xy as) BS) (λS a p=>fJ p λn h p=>F8 d S (by rw[xA h]at a;exact a) p) S a p λp=>o0 OL S a p λp=>o0 OM S a p λp=>p.elim
theorem dR(d:WdOk W){v:Value}{s:Shared}{φ:al}{σ:List O}{Q:Value->Shared->Prop}(j:c.scope.names.lookup x=some .globalImplicit)(hd:(x==("__debug__":Str))=false)(S:W.St (ao fs) φ σ s.heap)(L:W.Loc E c l φ s.heap)
  (e:W.mg x=some v\/(W.mg x=none/\W.mb x=some v))(f:Q v s):wpAny (model W.prog W.w) A (eval (.Name x pos) E) Q Er s:=by
 refine wpAny_Name ?_ hd;have a:E.kindOf x=some .globalImplicit:=by unfold Env.kindOf;rw[L.scope,j]
 unfold loadName;simp only[Env.blockKind,L.kind,a,ScopeKind.isAnnotationScope,UG,TQ,Vt];rcases e with e|⟨k,i⟩
 ·exact loadGlobal_global (by rw[L.glob];exact d.g.keeps S.base) e f
 ·exact loadGlobal_builtin (by rw[L.glob];exact d.g.keeps S.base) k (by rw[L.blt];exact d.b.keeps S.base) i f
theorem zM(g:WdOk4 W)(v:At A fs n){w:Pos}{as:List Expr}{f:Expr->M V}(k:xx x=true)(r:c.scope.names.lookup x=some .globalImplicit)(t:as.any bI=false)(o:∀e∈as,aI W A fs E c l VR (eval e E) (f e)):
  aI W A fs E c l VR (eval (.Call (.Name x w) as [] pos) E) (mq (dN f as) λvs=>builtin x vs):=λs φ σ Q Er S L p=>by
 refine Us ?_;refine dR g.toWdOk r (by
  rw[TP];intro q;subst q;revert k;decide) S L (.inr (g.blt x k)) ?_
 exact Cb t ((gM as o).after S L p λvs us m d i a j u y b=>Cc g v a u b)
end
end Mine
end
noncomputable section
open PySem PySem.W PySem.Calls
namespace Mine
variable {v:V} {es kvs:List (Str×Value)} {o:Obj} {φ₀:al} {b:Int} {t e elt iter kx vx:Expr} {k n ep wf:Nat} {r:Option V} {σ' σ₁:List O} {Er Er':Value->Shared->Prop} {u:Value} {x y:Str} {pos p2 px p':Pos} {sc:Scope} {It0:Itp} {ifs:List Expr} {D:Addr}
section
variable {W:Wd} {A:Around} {fs:List Env} {X:List Addr} {E:Env} {c:Cx} {l:Loc}
variable {F:List Addr} {φ φ':al} {σ:List O} {h h' h₀:Heap} {a:Addr}
structure Asd (W:Wd) (F:List Addr) (φ:al) (h:Heap) (a:Addr):Prop where
 phi:a∉aU φ
 fr:a∉F
 base:W.B.get? a=none
 sd:∀o,h.get? a=some o->side o
theorem sj(x:∀o,h.get? a=some o->side o)(k:∀b o,b≠a->h.get? b=some o->h'.get? b=some o):Mv φ φ h h':=⟨λe c=>k _ _ (λq=>x _ (q▸e) c) e,id⟩
theorem VR.but(x:∀o,h.get? a=some o->side o)(k:∀b o,b≠a->h.get? b=some o->h'.get? b=some o){V:V}{v:Value}(y:VR φ h V v):VR φ h' V v:=VR.mv (sj x k) y
theorem VRs.but(x:∀o,h.get? a=some o->side o)(k:∀b o,b≠a->h.get? b=some o->h'.get? b=some o){l:List V}{vs:List Value}(y:VRs φ h l vs):VRs φ h' l vs:=VRs.mv (sj x k) y
theorem PR.but(x:∀o,h.get? a=some o->side o)(k:∀b o,b≠a->h.get? b=some o->h'.get? b=some o){l:List (Str×V)}(y:PR φ h l es):PR φ h' l es:=PR.mv (sj x k) y
theorem ObjR.but {d:Cls}{f:Program}{w:World}(x:∀o,h.get? a=some o->side o)(k:∀b o,b≠a->h.get? b=some o->h'.get? b=some o){p:Addr×Aux}{o:O}(i:a∉p.1::p.2.toList)(y:ObjR d f w φ h p o):ObjR d f w φ h' p o:=
 y.mv (sj x k) λb g ob e=>k b ob (λq=>i (q▸g)) e
theorem St.but(S:W.St F φ σ h)(x:Asd W F φ h a)(k:∀b o,b≠a->h.get? b=some o->h'.get? b=some o):W.St F φ σ h':=
 ⟨λb o e=>k b o (λq=>by rw[q,x.base]at e;cases e) (S.base b o e),S.nodup,S.fresh,S.len,λi p o j B=>(S.obj i p o j B).but x.sd k λq=>x.phi (Ui.mpr ⟨p,TB j,q⟩),λf m=>by
  refine cQ (S.frames f m) λg z w=>?_;obtain⟨o,es,n,e,d⟩:=g;exact⟨⟨o,es,n,k f o (λq=>x.fr (q▸m)) e,d⟩,z,w⟩⟩
theorem Go.but {X:List Addr}(g:Go F X φ₀ φ h₀ h)(w:h₀.get? a=none)(k:∀b o,b≠a->h.get? b=some o->h'.get? b=some o):Go F X φ₀ φ h₀ h':=
 have ne:∀b o,h₀.get? b=some o->b≠a:=λb o e q=>by rw[q,w]at e;cases e
 ⟨g.pre,g.new,λb o e f=>by
  obtain⟨k1,i,k2⟩:=g.kp b o e f;exact⟨λj=>k b _ (ne b o e) (k1 j),i,k b _ (ne b o e) k2⟩,λb f o e d=>by
  refine aa (g.xs b f o e d) λm p r=>?_;exact⟨m,k b _ (ne b o e) p,r⟩⟩
theorem Asd.go {X:List Addr}(x:Asd W F φ h a)(i:a∉X)(e:h.get? a=some o)(g:Go F X φ φ' h h'):Asd W F φ' h' a/\h'.get? a=some o:=by
 have f:=(g.kp a o e λq=>(Uy.mp q).elim i x.phi).1 x.fr;exact⟨⟨λq=>(g.new a q).elim x.phi λr=>(by rw[e]at r;cases r),x.fr,x.base,λj d=>by rw[f]at d;injection d with d;rw[<-d];exact x.sd o e⟩,f⟩
theorem Asd.but {b:Addr}(x:Asd W F φ h a)(f:a≠b)(e:h.get? a=some o)(k:∀c o,c≠b->h.get? c=some o->h'.get? c=some o):Asd W F φ h' a/\h'.get? a=some o:=
 have g:=k a o f e
 ⟨⟨x.phi,x.fr,x.base,λi d=>by rw[g]at d;injection d with d;rw[<-d];exact x.sd o e⟩,g⟩
theorem Asd.self(x:Asd W F φ h a)(e:h'.get? a=some o)(s:side o):Asd W F φ h' a:=⟨x.phi,x.fr,x.base,λf d=>by rw[e]at d;injection d with d;rw[<-d];exact s⟩
theorem LocR.but {E:Env}(L:W.Loc E c l φ h)(x:Asd W F φ h a)(d:E.locals≠a)(k:∀b o,b≠a->h.get? b=some o->h'.get? b=some o):W.Loc E c l φ h':=by
 refine aB λw g=>aa (L.ns) λm q p=>dK (q) λo es ep j r=>g<|⟨L.scope,L.kind,L.glob,L.blt,⟨m,⟨o,es,ep,k _ _ d j,r⟩,λy V e=>aa (p y V e) λv f i=>⟨v,f,VR.but x.sd k i⟩⟩,L.off,L.offB,L.cells,L.code⟩
theorem Asd.new(S:W.St F φ σ h)(d:h.get? a=none)(k:∀o,h'.get? a=some o->side o):Asd W F φ h' a:=by
 refine⟨λq=>?_,λq=>?_, ?_,k⟩
 ·exact aa (S.held _ _ _ q) λob e Z=>ns (d.symm.trans e)
 ·refine af (S.frames a q) λf Z=>?_;obtain⟨o,es,n,e,_⟩:=f
  rw[d]at e;exact ns e
 ·induction r:W.B.get? a using Vx with
  |none=>rfl
  |some o=>have:=S.base a o r;rw[d]at this;exact ns this
theorem sp(p:φ<+:φ'):Mv φ φ' h h:=⟨λe Z=>e,dq p⟩
theorem VR.ext(p:φ<+:φ'){V:V}{v:Value}(y:VR φ h V v):VR φ' h V v:=VR.mv (sp p) y
theorem VRs.ext(p:φ<+:φ'){l:List V}{vs:List Value}(y:VRs φ h l vs):VRs φ' h l vs:=VRs.mv (sp p) y
theorem PR.ext(p:φ<+:φ'){l:List (Str×V)}(y:PR φ h l es):PR φ' h l es:=PR.mv (sp p) y
theorem ObjR.ext {f:Cls}{d:Program}{w:World}(q:φ<+:φ'){p:Addr×Aux}{o:O}(y:ObjR f d w φ h p o):ObjR f d w φ' h p o:=y.mv (sp q) λZ Z Z e=>e
theorem St.adopt(S:W.St F φ σ h){ax:Aux}{o:O}(x:Asd W F φ h a)(g:ax.toList= [])(y:ObjR W.cl W.prog W.w φ h (a,ax) o):W.St F (φ++ [(a,ax)]) (σ++ [o]) h:=by
 have pre:φ<+:φ++ [(a,ax)]:=TX _ _;have B:∀b,b∈aU (φ++ [(a,ax)])->b∈aU φ\/b=a:=λb d=>by
  rw[fk]at d;exact(Uy.mp d).imp id λr=>by rw[g]at r;simpa using r
 refine⟨S.base, ?_,λb d=>?_,by simp[S.len],λi p o j m=>?_,λf G=>?_⟩
 ·rw[fk,T7]
  refine⟨S.nodup,by rw[g];simp,λb d c C e=>?_⟩;rw[g]at C;have:c=a:=by simpa using C
  rw[e,this]at d;exact x.phi d
 ·rcases B b d with r|r
  ·exact S.fresh b r
  ·rw[r];exact x.base
 ·by_cases z:i<φ.length
  ·rw[S4 z]at j
   rw[S4 (by rw[<-S.len];exact z)]at m;exact(S.obj i p o j m).ext pre
  ·have L:i=φ.length:=by
    have:=(S6.mp j).1;simp at this;exact Mq z this
   subst L;rw[SW (Vi _),Vb]at j;rw[S.len,SW (Vi _),Vb]at m;cases j;cases m;exact y.ext pre
 ·refine cQ (S.frames f G) λH J I=>⟨H,λq=>(B f q).elim J λr=>x.fr (r▸G),I⟩
theorem Go.adopt {X:List Addr}{ax:Aux}(d:ax.toList= [])(g:Go F X φ₀ φ h₀ h)(i:h₀.get? a=none):Go F X φ₀ (φ++ [(a,ax)]) h₀ h:=
 ⟨g.pre.trans (TX _ _),λb f=>by
  rw[fk]at f;rcases Uy.mp f with r|r
  ·exact g.new b r
  ·rw[d]at r
   have:b=a:=by simpa using r
   rw[this];exact .inr i,g.kp,g.xs⟩
end
inductive ItR (φ:al) (h:Heap):It->Nat->Addr->Prop
 |list {n i:Nat} {a I:Addr}:φ[n]?=some (a,.none)->h.IsListIter I a i->ItR φ h (.list n) i I
 |vals {l:List V} {t I:Addr} {i:Nat}:VR φ h (.tup l) (.ref t)->h.IsTupleIter I t i->ItR φ h (.vals l) i I
 |range {k i:Nat} {I:Addr}:IsRangeIter h I i ((k:Int)-i) 1->i<=k->ItR φ h (.range k) i I
 |keys {n i ep:Nat} {ks:List Str} {a I:Addr} {e:Int}:φ[n]?=some (a,.base e)->h.IsKeyIter I a i ks.length ep->(ep:Int)=e+ks.length->ItR φ h (.keys n ks) i I
 |items {n i ep:Nat} {ks:List Str} {a I:Addr} {e:Int} {ok ov:Value}:φ[n]?=some (a,.base e)->IsItemIter h I a i ks.length ep ok ov->(ep:Int)=e+ks.length->ItR φ h (.items n ks) i I
section
variable {W:Wd} {A:Around} {fs:List Env} {X:List Addr} {E:Env} {c:Cx} {l:Loc}
variable {F:List Addr} {φ φ':al} {σ:List O} {h h' h₀:Heap} {a I:Addr} {it:It} {i:Nat}
theorem MX {vs d:Array Value}{q:Str}{t:Tok}(f:∀q t,vs[1]? ≠some (.str q t))(e:Data.fields vs=.fields d)(z:d[1]?=some (.str q t)):False:=f q t (Data.fields.inj e▸z)
theorem jM {vs:Array Value}(hd:o.data=.fields vs)(f:∀q t,vs[1]? ≠some (.str q t)):side o:=hM (.inr λd n e=>by rw[hd]at e;exact nomatch e) λd q t e z=>MX f (hd.symm.trans e) z
theorem ItR.at_(x:ItR φ h it i I):∃o,h.get? I=some o/\side o:=by
 induction x using ItR.casesOn with
 |list _ y=>exact aQ y λo e Z d=>⟨o,e,jM d λZ Z z=>nomatch z⟩
 |vals _ y=>exact aQ y λo e Z d=>⟨o,e,jM d λZ Z z=>nomatch z⟩
 |range y _=>exact⟨_,y,jM rfl λZ Z z=>nomatch z⟩
 |keys _ y _=>exact aQ y λo e Z d=>⟨o,e,jM d λZ Z z=>nomatch z⟩
 |items _ y _=>exact⟨_,y,jM rfl λZ Z z=>nomatch z⟩
theorem ItR.map(x:ItR φ h it i I)(d:∀o,h.get? I=some o->h'.get? I=some o)(f:∀V v,VR φ h V v->VR φ' h' V v)(pre:φ<+:φ'):ItR φ' h' it i I:=by
 induction x using ItR.casesOn with
 |list p y=>exact aa y λo e r=>.list (dq pre p) ⟨o,d o e,r⟩
 |vals p y=>exact aa y λo e r=>.vals (f _ _ p) ⟨o,d o e,r⟩
 |range y z=>exact .range (d _ y) z
 |keys p y q=>exact aa y λo e r=>.keys (dq pre p) ⟨o,d o e,r⟩ q
 |items p y q=>exact .items (dq pre p) (d _ y) q
def Cd(t:Expr):Prop:=∀(it v:Value),letOwnedTupleGo t it v=pure ()
theorem jU(h:bZ t=true):Cd t:=by
 induction t using Vy with
 |Name=>exact λZ Z=>rfl
 |_=>exact ff h
theorem F9 {l:List V}:b6 (.vals l) t=bZ t:=by induction t using Vy with|_=>rfl
theorem D7:b6 (.range k) t=bZ t:=by induction t using Vy with|_=>rfl
theorem Ga {l:List Str}:b6 (.keys n l) t=bZ t:=by induction t using Vy with|_=>rfl
theorem nJ(d:ci it i σ=.ok r σ'):rV σ i it=some r/\σ'=σ:=by
 unfold ci at d;induction h:rV σ i it using Vx with
 |none=>rw[h]at d;exact nomatch d
 |some q=>rw[h]at d;exact⟨Vs some (R.ok.inj d).1,(R.ok.inj d).2.symm⟩
theorem lV(d:ci it i σ=.ok r σ'):σ'=σ:=(nJ d).2
theorem nK {e:V}(d:ci it i σ=.exc e σ'):False:=by
 unfold ci at d;induction h:rV σ i it using Vx with
 |none=>rw[h]at d;exact nomatch d
 |some q=>rw[h]at d;exact nomatch d
theorem pV {xs:List (Str×V)}{ks:List Str}{a:Addr}{e:Int}(S:W.St F φ σ h)(p:φ[n]?=some (a,.base e))(G:σ[n]?=some (.dict xs))(g:xs.map (·.1)=ks)(q:(ep:Int)=e+ks.length):
  ∃es,h.DictAt (strKind W.prog W.w) a es ep/\PR φ h xs es/\es.length=ks.length:=by
 refine aW (sg S p G) λes H C z r=>aa z λm d B=>?_;have f:es.length=ks.length:=by rw[r.length,<-g,Uw]
 rw[<-Aux.base.inj C]at B;have j:m=ep:=Sz q B f;exact⟨es,j▸d,r,f⟩
theorem pW {ks:List Str}{f:List (Str×V)->Option V}(m:((dct σ[n]?).bind λl=>if l.map (·.1)=ks then some (f l)else none)=some r):∃xs,σ[n]?=some (.dict xs)/\xs.map (·.1)=ks/\f xs=r:=by
 refine aa (Th.mp m) λxs j d=>?_;by_cases g:xs.map (·.1)=ks
 ·rw[Vw g]at d;exact⟨xs,fy j,g,UB d⟩
 ·rw[Vv g]at d;exact ns d
noncomputable def pX(W:Wd)(A:Around)(I:Addr)(t:Expr)(s:Shared)(Q:Value->Shared->Prop)(Er:Value->Shared->Prop):Prop:=
 wpAny (model W.prog W.w) A (pyNext (.ref I)) (λr s₁=>∃u,r=some u/\wpAny (model W.prog W.w) A (letOwnedTupleGo t (.ref I) u) (λZ d=>Q u d) Er s₁) Er s
def pY(φ:al)(it:It)(i:Nat)(I:Addr)(V:V)(s:Shared)(Q:Value->Shared->Prop):Prop:=
 ∀u h' tk,(∀b o,b≠I->s.heap.get? b=some o->h'.get? b=some o)->ItR φ h' it (i+1) I->VR φ h' V u->Q u {s with heap:=h',toks:=tk}
section
variable {t:Expr} {V:V} {s:Shared} {Q:Value->Shared->Prop} {Er:Value->Shared->Prop}
theorem iT {h h':Heap}(sb:Heap.SameBut I h h'):∀b o,b≠I->h.get? b=some o->h'.get? b=some o:=λb o d e=>(sb.2 b d).trans e
theorem Jn {a:Addr}(S:W.St F φ σ s.heap)(w:∀o,s.heap.get? I=some o->side o)(p:φ[n]?=some (a,.none))(y:s.heap.IsListIter I a i)(f:rV σ i (.list n)=some (some V))(k:pY φ (.list n) i I V s Q):pX W A I t s Q Er:=by
 refine aa (Tn.mp f) λxs q f=>aa (dQ S p (dx q)) λvs g r=>aa (r.get f) λu m j=>wpAny_pyNext_list_item y g ((Tr ..).trans m) λh' d sb=>⟨u,rfl,PyProof.Rows.letGo_listiter d (k u h' s.toks (iT sb) (.list p d) (VR.but w (iT sb) j))⟩
theorem Jo {l:List Mine.V}{g:Addr}(q:bZ t=true)(j:∀o,s.heap.get? I=some o->side o)(p:VR φ s.heap (.tup l) (.ref g))(y:s.heap.IsTupleIter I g i)(w:rV σ i (.vals l)=some (some V))(k:pY φ (.vals l) i I V s Q):pX W A I t s Q Er:=by
 refine jz p.tup' λa o vs n z e c d r=>?_;rw[<-US z]at e;refine aa (r.get (UB w)) λu B m=>wpAny_pyNext_tuple_item y (items:=vs.toList.toArray) ⟨o,e,c,n,d⟩ ((Tr ..).trans B) λh' f sb=>⟨u,rfl, ?_⟩;rw[jU q];exact Vq (k u h' s.toks (iT sb) (.vals (VR.but j (iT sb) p) f) (VR.but j (iT sb) m))
theorem Gb {m:Nat}(q:bZ t=true)(y:IsRangeIter s.heap I i ((m:Int)-i) 1)(f:rV σ i (.range m)=some (some V))(k:pY φ (.range m) i I V s Q):pX W A I t s Q Er:=by
 replace f:=UB f
 by_cases d:i<m
 ·rw[Vw d]at f
  refine wpAny_pyNext_range_item y (Rh d) λh' g sb=>⟨_,rfl, ?_⟩;rw[jU q];have p:((i:Int)+1)=((i+1:Nat):Int):=QQ;have j:((m:Int)-i-1)=((m:Int)-((i+1:Nat):Int)):=Int.sub_sub _ _ 1;rw[p,j]at g;exact Vq (k _ h' _ (iT sb) (.range g d) (UB f▸ .int _ _))
 ·rw[Vv d]at f;exact ns f
theorem Jp {ks:List Str}{a:Addr}{e:Int}(S:W.St F φ σ s.heap)(H:bZ t=true)(p:φ[n]?=some (a,.base e))(y:s.heap.IsKeyIter I a i ks.length ep)(q:(ep:Int)=e+ks.length)(B:rV σ i (.keys n ks)=some (some V))(k:pY φ (.keys n ks) i I V s Q):pX W A I t s Q Er:=by
 refine aQ (pW B) λxs P j B=>aQ (pV S p P j q) λes d r f=>aa (Tn.mp B) λL w J=>?_;have G:(es.map (·.1))[i]?=some L:=by rw[r.keys,j];exact w
 rw[T6]at G;refine aa (Tn.mp G) λC N g=>?_;rw[<-f]at y;refine wpAny_pyNext_dict_item y d (k:=C.1) (v:=C.2) N λkey h' w m sb=>⟨_,rfl, ?_⟩;rw[jU H];rw[g]at w;refine am (Value.isStrOf_shape w) λtk z=>?_;rw[f]at m;rw[z];exact Vq (k _ h' s.toks (iT sb) (.keys p m q) (J▸ .str _ _))
theorem PR.get {xs:List (Str×Mine.V)}(r:PR φ h xs es){d:Str×Mine.V}:∀i:Nat,xs[i]?=some d-> ∃u,es[i]?=some (d.1,u)/\VR φ h d.2 u:=
 PR.ind (Q:=λxs es=>∀i:Nat,xs[i]?=some d-> ∃u,es[i]?=some (d.1,u)/\VR φ h d.2 u) (λZ e=>ns e) (λa Z f i=>by
  induction i using Nat.casesAuxOn with
  |zero=>exact λe=>by rw[<-UB e];exact⟨_,rfl,a⟩
  |succ i=>exact f i) r
theorem vH {l:List Str}{t:Expr}(h:b6 (.items n l) t=true):∃ts c p,t=.Tuple ts c p:=by
 induction t using Vy with
 |Tuple=>exact bJ _ _ _ rfl
 |_=>exact ff h
theorem Gc {ks:List Str}{a:Addr}{e:Int}{ok ov:Value}(S:W.St F φ σ s.heap)(sd:∀o,s.heap.get? I=some o->side o)(P:b6 (.items n ks) t=true)(p:φ[n]?=some (a,.base e))(y:IsItemIter s.heap I a i ks.length ep ok ov)(q:(ep:Int)=e+ks.length)(B:rV σ i (.items n ks)=some (some V))(k:pY φ (.items n ks) i I V s Q):pX W A I t s Q Er:=by
 refine aQ (pW B) λxs hl w B=>aQ (pV S p hl w q) λes d r f=>pP (vH P) λts c tp z=>?_;rw[z];refine aa (Tn.mp B) λkv G Y=>aa (r.get i G) λu e1 N=>?_;rw[<-f]at y;refine wpAny_pyNext_items_item y d e1 λkey h' U out J Z m=>⟨_,rfl,wpAny_letOwnedTupleGo_items out λg j sb=>?_⟩;have C:s.heap.objs.size≠I:=U9 (UV y);have L:∀b o,b≠I->s.heap.get? b=some o->g.get? b=some o:=λb o H e=>(sb.2 b H).trans (m b o H e);refine am (Value.isStrOf_shape U) λtk z=>?_;rw[f]at j;rw[z]at J;exact k _ g s.toks L (.items p j q) (Y▸ .tup ((sb.2 _ C).trans J) rfl rfl (.cons (.str _ _) (.cons (VR.but sd L N) .nil)))
theorem o7(S:W.St F φ σ s.heap)(m:Asd W F φ s.heap I)(g:b6 it t=true)(x:ItR φ s.heap it i I)(d:ci it i σ=.ok (some V) σ)
  (k:∀u h' tk,(∀b o,b≠I->s.heap.get? b=some o->h'.get? b=some o)->ItR φ h' it (i+1) I->VR φ h' V u->Q u {s with heap:=h',toks:=tk}):
  wpAny (model W.prog W.w) A (pyNext (.ref I)) (λr s₁=>∃u,r=some u/\wpAny (model W.prog W.w) A (letOwnedTupleGo t (.ref I) u) (λZ f=>Q u f) Er s₁) Er s:=by
 have d:=(nJ d).1;have j:=m.sd
 clear m
 replace k:pY φ it i I V s Q:=k
 show pX W A I t s Q Er;induction x using ItR.casesOn with
 |list p y=>exact Jn S j p y d k
 |vals p y=>exact Jo (σ:=σ) (F9▸g) j p y d k
 |range y z=>exact Gb (σ:=σ) (D7▸g) y d k
 |keys p y q=>exact Jp S (Ga▸g) p y q d k
 |items p y q=>exact Gc S j g p y q d k
end
theorem Gd {xs:List (Str×V)}{ks:List Str}(d:es.length=ks.length)(f:ks[i]?=none):es[i]?=none:=S5.mpr (d▸S5.mp f)
theorem pa(G:A.handled=none){s:Shared}{Q:Option Value->Shared->Prop}{Er:Value->Shared->Prop}(S:W.St F φ σ s.heap)(x:ItR φ s.heap it i I)(f:ci it i σ=.ok none σ)
  (k:∀h',(∀b o,b≠I->s.heap.get? b=some o->h'.get? b=some o)->Q none {s with heap:=h'}):wpAny (model W.prog W.w) A (pyNext (.ref I)) Q Er s:=by
 have f:=(nJ f).1;refine aB λN C=>?_;induction x using ItR.casesOn with
 |list p y=>
  refine aa (Tn.mp f) λxs J f=>aa (dQ S p (dx J)) λvs L r=>C<|wpAny_pyNext_list_end G y L ((Tr ..).trans (r.getNone f)) λh' sb=>k h' λb o j e=>sb b o j e
 |vals p y=>
  refine jz p.tup' λa o vs n z e c d r=>?_;rw[<-US z]at e;refine C<|wpAny_pyNext_tuple_end G y (items:=vs.toList.toArray) ⟨o,e,c,n,d⟩ ((Tr ..).trans (r.getNone (UB f))) λh' sb=>k h' λb o j e=>sb b o j e
 |@range m i I y z=>
  replace f:=UB f
  by_cases H:i<m
  ·rw[Vw H]at f;exact ns f.symm
  ·refine C<|wpAny_pyNext_range_end G y (Int.sub_nonpos_of_le (U1.mpr (Nat.le_of_not_lt H))) λh' sb=>k h' λb o j e=>sb b o j e
 |keys p y q=>
  refine aQ (pW f) λxs J B f=>aQ (pV S p J B q) λes d r g=>?_;rw[<-g]at y;refine C<|wpAny_pyNext_dict_end G y d (Gd (xs:=xs) g (Option.map_eq_none_iff.mp f)) λh' sb=>k h' λb o j e=>sb b o j e
 |items p y q=>
  refine aQ (pW f) λxs J B f=>aQ (pV S p J B q) λes d r g=>?_;rw[<-g]at y;refine C<|wpAny_pyNext_items_end G y d (S5.mpr (by rw[r.length];exact S5.mp (Option.map_eq_none_iff.mp f))) λh' sb=>k h' λb o j e=>sb b o j e
end
structure WdOk5 (W:Wd):Prop extends WdOk4 W where
 rng:W.mg "range"=none/\W.mb "range"=some (.type "range")
section
variable {W:Wd} {A:Around} {fs:List Env} {X:List Addr} {E:Env} {c:Cx} {l:Loc}
variable {F:List Addr} {φ φ':al} {σ:List O} {h h' h₀:Heap} {a I:Addr} {it:It} {i:Nat}
theorem bK:h.get? h.objs.size=none:=SX (Vi _)
theorem pZ(S:W.St F φ σ h)(o:Obj):W.St F φ σ (h.push o)/\Go F [] φ φ h (h.push o):=S.grow λb d q=>Tk _ q
theorem aj.bindX {B z β w:Type}{RV:al->Heap->B->β->Prop}{RV':al->Heap->z->w->Prop}{m:M B}{f:B->M z}{σ:List O}{s:Shared}{φ:al}{Q:w->Shared->Prop}{Q₁:β->Shared->Prop}(O:eS X φ s.heap)
  (p:aj W fs X RV' (mq m f σ) s φ Q Er)
  (k:∀a b σ₁ j tk d,W.St (ao fs) d σ₁ j->Go (ao fs) [] φ d s.heap j->RV d j a b->aj W fs X RV' (f a σ₁) {s with heap:=j,toks:=tk} d Q Er->Q₁ b {s with heap:=j,toks:=tk}):
  aj W fs [] RV (m σ) s φ Q₁ Er:=by
 unfold mq at p;induction hm:m σ using VD with
 |ok a σ₁=>
  rw[hm]at p;exact λb j tk d q g x=>k a b σ₁ j tk d q g x (p.after O (g.more O))
 |exc e σ₁=>rw[hm]at p;exact λC h' tk φ' x=>p C h' tk φ' x.more
 |bad=>rw[hm]at p;exact p.elim
theorem aI.afterG {H C β B:Type}{RV:al->Heap->H->β->Prop}{RV':al->Heap->C->B->Prop}{t:Sem β}{m:M H}{f:H->M C}(x:aI W A fs E c l RV t m)
  {s:Shared}{φ:al}{σ:List O}{Q:B->Shared->Prop}{Q₁:β->Shared->Prop}{Er:Value->Shared->Prop}(O:eS X φ s.heap)(S:W.St (ao fs) φ σ s.heap)(L:W.Loc E c l φ s.heap)(p:aj W fs X RV' (mq m f σ) s φ Q Er)
  (k:∀a b s₁ d σ₁,W.St (ao fs) d σ₁ s₁.heap->W.Loc E c l d s₁.heap->RV d s₁.heap a b->Go (ao fs) [] φ d s.heap s₁.heap->aj W fs X RV' (f a σ₁) s₁ d Q Er->Q₁ b s₁):wpAny (model W.prog W.w) A t Q₁ Er s:=
 x s φ σ _ _ S L (aj.bindX O p λa b Z G tk d j g z q=>k a b {s with heap:=G,toks:=tk} d _ j (L.go S g) z g q)
theorem aI.after0 {G B β q:Type}{RV:al->Heap->G->β->Prop}{RV':al->Heap->B->q->Prop}{t:Sem β}{m:M G}{f:G->M B}(x:aI W A fs E c l RV t m)
  {s:Shared}{φ:al}{σ:List O}{Q:q->Shared->Prop}{Q₁:β->Shared->Prop}{Er:Value->Shared->Prop}(S:W.St (ao fs) φ σ s.heap)(L:W.Loc E c l φ s.heap)(p:aj W fs X RV' (mq m f σ) s φ Q Er)
  (k:∀a b s₁ d σ₁,s₁= {s with heap:=s₁.heap,toks:=s₁.toks}->W.St (ao fs) d σ₁ s₁.heap->W.Loc E c l d s₁.heap->RV d s₁.heap a b->Go (ao fs) [] φ d s.heap s₁.heap->aj W fs X RV' (f a σ₁) s φ Q Er->Q₁ b s₁):wpAny (model W.prog W.w) A t Q₁ Er s:=by
 refine x s φ σ _ _ S L ?_;unfold mq at p;induction hm:m σ using VD with
 |ok a σ₁=>
  rw[hm]at p;exact λb C tk d j g z=>k a b {s with heap:=C,toks:=tk} d σ₁ rfl j (L.go S g) z g p
 |exc e σ₁=>rw[hm]at p;exact λH h' tk φ' x=>p H h' tk φ' x.more
 |bad=>rw[hm]at p;exact p.elim
def p8(W:Wd)(fs:List Env)(E:Env)(c:Cx)(l:Loc)(s:Shared)(φ:al)(k:Value->Shared->Prop)(P:It->List O->Prop):Prop:=
 ∀it I s₂ φ₂ σ₂,s₂= {s with heap:=s₂.heap,toks:=s₂.toks}->W.St (ao fs) φ₂ σ₂ s₂.heap->Go (ao fs) [] φ φ₂ s.heap s₂.heap->W.Loc E c l φ₂ s₂.heap->Asd W (ao fs) φ₂ s₂.heap I->ItR φ₂ s₂.heap it 0 I->s.heap.get? I=none->P it σ₂->k (.ref I) s₂
theorem jV {s s₁:Shared}{φ d:al}{σ₁:List O}{k:Value->Shared->Prop}{o:Obj}{it:It}{P:It->List O->Prop}
  (K:p8 W fs E c l s φ k P)(G:s₁= {s with heap:=s₁.heap,toks:=s₁.toks})(f:W.St (ao fs) d σ₁ s₁.heap)(q:W.Loc E c l d s₁.heap)(g:Go (ao fs) [] φ d s.heap s₁.heap)(J:o.isFreed=false)
  (B:s.heap.get? s₁.heap.objs.size=none)(x:ItR d (s₁.heap.push o) it 0 s₁.heap.objs.size)(p:P it σ₁):k (.ref s₁.heap.objs.size) {s₁ with heap:=s₁.heap.push o}:=by
 refine af (pZ f o) λw m=>K it s₁.heap.objs.size {s₁ with heap:=s₁.heap.push o} d σ₁ (by rw[G]) w (Go.trans au g m) (q.go f m) (Asd.new f bK λH e=>?_) x B p;refine aa (x.at_) λC j z=>?_;rw[e]at j;injection j with j;rw[j];exact z
theorem jW {X:List Addr}(O:eS X φ h₀)(g:Go F X φ φ' h₀ h)(S:W.St F φ' σ h)(w:∀f∈aU φ,∃o,h₀.get? f=some o):h₀.get? h.objs.size=none:=by
 by_cases q:h.objs.size∈aU φ
 ·refine aa (Ui.mp (dO g.pre _ q)) λp d j=>am (List.getElem?_of_mem d) λi m=>?_
  exact absurd (dO g.pre _ q) (Asd.new (h':=h) S bK (λo e=>by rw[bK]at e;cases e)).phi
 ·exact dP O g q bK
theorem Jq(S:WdOk5 W){P β:Type}{RV:al->Heap->P->β->Prop}{s s₁:Shared}{φ m:al}{σ₁:List O}{Q:β->Shared->Prop}{Er':Value->Shared->Prop}{k:Value->Shared->Prop}{f:It->M P}{V:V}{u:Value}
  (K:p8 W fs E c l s φ k (λit H=>aj W fs X RV (f it H) s φ Q Er))(N:s₁= {s with heap:=s₁.heap,toks:=s₁.toks})(j:W.St (ao fs) m σ₁ s₁.heap)(B:W.Loc E c l m s₁.heap)(g:Go (ao fs) [] φ m s.heap s₁.heap)(L:s.heap.get? s₁.heap.objs.size=none)(z:VR m s₁.heap V u)
  (p:aj W fs X RV (mq (bY V) f σ₁) s φ Q Er):wpAny (model W.prog W.w) A (pyIter u) k Er' s₁:=by
 induction V using Mine.V.casesOn with
 |tup xs=>
  refine jz z.tup' λa o vs n J e c d r=>?_;rw[J];exact wpAny_pyIter_tuple (items:=vs.toList.toArray) ⟨o,e,c,n,d⟩ (jV K N j B g rfl L (.vals (VR.go j au (pZ j _).2 (.tup e c d r)) ⟨_,TH _ rfl,rfl,rfl⟩) p)
 |ref n=>
  refine aa z.ref' λZ J G=>?_;rw[J];induction hl:dM σ₁[n]? using Vx with
  |some xs=>
   rw[my (show bY (.ref n) σ₁=.ok (.list n) σ₁ by show(dM σ₁[n]?).elim _ _=_;rw[hl];rfl)]at p;refine bw (j.obj n _ _ G (dx hl)).list' λa vs k q e r=>?_;rw[q]at G ⊢;exact wpAny_pyIter_list ⟨_,e,rfl,_,rfl⟩ (jV K N j B g rfl L (.list G ⟨_,TH _ rfl,rfl,rfl⟩) p)
  |none=>
   induction hd:dct σ₁[n]? using Vx with
   |none=>rw[mu (show bY (.ref n) σ₁=.bad by show(dM σ₁[n]?).elim _ _=_;rw[hl];show(dct σ₁[n]?).elim _ _=_;rw[hd];rfl)]at p;exact p.elim
   |some xs=>
    rw[my (show bY (.ref n) σ₁=.ok (.keys n (xs.map (·.1))) σ₁ by show(dM σ₁[n]?).elim _ _=_;rw[hl];show(dct σ₁[n]?).elim _ _=_;rw[hd];rfl)]at p;refine bw (j.obj n _ _ G (fy hd)).dict' λa es e' q Y r=>?_;rw[q]at G ⊢;refine aa Y λep d U=>?_;have C:es.length=(xs.map (·.1)).length:=by rw[r.length,Uw]
    refine wpAny_pyIter_dict (jr S.sys j G) d (jV K N j B g rfl L (.keys (ep:=ep) G ?_ (by rw[<-C];exact U)) p);rw[<-C];exact⟨_,TH _ rfl,rfl,rfl⟩
 |_=>exact p.elim
theorem zN(h:¬oR e=true):∀x,foldedSetIterable e E x=pure x:=by
 induction e using Vy with
 |Set=>exact absurd rfl h
 |_=>exact λZ=>rfl
noncomputable def w5(W:Wd)(A:Around)(E:Env)(e:Expr)(s:Shared)(k:Value->Shared->Prop)(Er:Value->Shared->Prop):Prop:=wpAny (model W.prog W.w) A (eval e E) (λx s₁=>wpAny (model W.prog W.w) A (pyIter x) k Er s₁) Er s
section
variable {n:Nat} {It0:Itp} {α β:Type} {RV:al->Heap->α->β->Prop} {f:It->M α} {s:Shared} {φ:al} {σ:List O} {Q:β->Shared->Prop} {Er:Value->Shared->Prop} {k:Value->Shared->Prop}
theorem uo(S:W.St F φ σ h):∀f∈aU φ,∃o,h.get? f=some o:=λq d=>aa (S.held _ _ _ d) λo e Z=>⟨o,e⟩
theorem Ge {d:Int}:Builtin.Range.rangeSize 0 d 1=(d.toNat:Int)-((0:Nat):Int):=by rw[rangeSize_one];split<;>omega
theorem Ce(N:WdOk5 W){V:V}{u:Value}{s₁:Shared}{d:al}{σ₁:List O}(S:W.St (ao fs) φ σ s.heap)(K:p8 W fs E c l s φ k (λit G=>aj W fs X RV (f it G) s φ Q Er))(J:s₁= {s with heap:=s₁.heap,toks:=s₁.toks})(C:W.St (ao fs) d σ₁ s₁.heap)(H:W.Loc E c l d s₁.heap)
  (z:VR d s₁.heap V u)(g:Go (ao fs) [] φ d s.heap s₁.heap)(q:aj W fs X RV (mq (bt V) f σ₁) s φ Q Er):wpAny (model W.prog W.w) A (call (.type "range") [u]) (λx s₁=>wpAny (model W.prog W.w) A (pyIter x) k Er s₁) Er s₁:=by
 induction hk:eE V using Vx with
 |none=>rw[mu (show bt V σ₁=.bad by unfold bt;rw[hk];rfl)]at q;exact q.elim
 |some kk=>
  rw[gK hk]at z q;refine am z.int' λt L=>?_;rw[L];by_cases j:kk<2^62/\ -(2^62)<=kk
  ·rw[my (show bt (.int kk) σ₁=.ok (.range kk.toNat) σ₁ from Vw j)]at q
   refine call_range_1<|af (pZ C {cls:=.type "range",data:=.fields #[.int 0 s₁.toks,.int kk t,.int 1 (s₁.toks+1)] }) λB p=>?_;have m:=Go.trans au g p;refine wpAny_pyIter_range (IsRange.new ..) (small_one (by decide) (by decide) (R4 j) (QY j)) (jV (s₁:= {s₁ with heap:=s₁.heap.push {cls:=.type "range",data:=.fields #[.int 0 s₁.toks,.int kk t,.int 1 (s₁.toks+1)] },toks:=s₁.toks+1+1}) (it:=.range kk.toNat) K (by rw[J]) B (H.go C p) m rfl (jW au m B (uo S)) (.range ?_ (Nat.zero_le _)) q);rw[Ge];exact TH _ rfl
  ·rw[mu (show bt (.int kk) σ₁=.bad from Vv j)]at q;exact q.elim
theorem Gf(C:WdOk5 W)(H:∀e,aI W A fs E c l VR (eval e E) (It0.ev c l e)){r:Str×Expr}(w:∃p pos,e=.Call (.Name r.1 p) [r.2] [] pos)(B:r.1= "range"/\c.scope.names.lookup r.1=some .globalImplicit/\bI r.2=false)
  (S:W.St (ao fs) φ σ s.heap)(L:W.Loc E c l φ s.heap)(p:aj W fs X RV (mq (It0.ev c l r.2) (λv=>mq (bt v) f) σ) s φ Q Er)(K:p8 W fs E c l s φ k (λit d=>aj W fs X RV (f it d) s φ Q Er)):w5 W A E e s k Er:=by
 refine cI w λJ pos w=>?_;rw[w];refine Us<|dR C.toWdOk B.2.1 (by rw[B.1];decide) S L (.inr (by rw[B.1];exact C.rng))<|mj (as:= [r.2]) (by rw[UO,B.2.2];rfl) (Ut ((H r.2).after0 S L p λV u s₁ G σ₁ w m j z g q=>UD (Ce C S K w m j z g q)) (cN B.2.2))
theorem Gg(Wk:WdOk5 W)(ev:∀e,aI W A fs E c l VR (eval e E) (It0.ev c l e)){r:Expr×Str×Bool}(N:∃ap pos,e=.Call (.Attribute r.1 r.2.1 ap) [] [] pos/\r.2.2=(ap.endLine==pos.line))(U:r.2.1= "items"/\eP r.1=false/\r.2.2=true)
  (S:W.St (ao fs) φ σ s.heap)(L:W.Loc E c l φ s.heap)(p:aj W fs X RV (mq (It0.ev c l r.1) (λv=>mq (dI v) f) σ) s φ Q Er)(K:p8 W fs E c l s φ k (λit H=>aj W fs X RV (f it H) s φ Q Er)):w5 W A E e s k Er:=by
 refine cY N λap pos N hq=>?_;rw[N,U.1];refine wpAny_Call_method_lateS (nH U.2.1) rfl (hq.symm.trans U.2.2) ((ev r.1).after0 S L p λV u s₁ Y σ₁ N j J z g q=>?_);induction hn:dz V using Vx with
 |none=>rw[mu (show dI V σ₁=.bad by unfold dI;rw[hn];rfl)]at q;exact q.elim
 |some n=>
  rw[cS hn]at z q;refine aa z.ref' λpr zz P=>?_;rw[zz];induction hd:dct σ₁[n]? using Vx with
  |none=>rw[mu (show dI (.ref n) σ₁=.bad by show(dct σ₁[n]?).elim _ _=_;rw[hd];rfl)]at q;exact q.elim
  |some xs=>
   rw[my (show dI (.ref n) σ₁=.ok (.items n (xs.map (·.1))) σ₁ by show(dct σ₁[n]?).elim _ _=_;rw[hd];rfl)]at q;refine bw (j.obj n _ _ P (fy hd)).dict' λZ es e' qp gy r=>?_;rw[qp]at P ⊢;refine aa gy λep d q2=>⟨"dict", "dict.items",PySem.F.plainAttrs_dict,PySem.F.slot_dict_items,PySem.F.type_dict_items,d.dictOf.typeIs,d.dictOf.mapOf.noDict, ?_⟩;refine method_meetsIn PySem.F.slot_dict_items PySem.F.entry_dict_items rfl (evalArgs_none ⟨rfl,d.dictOf.typeIs,PySem.F.args_dict_items_1 _,_,meets_dict_items (strKind W.prog W.w) Z (jr Wk.sys j P),⟨es,d.dictOf⟩, ?_⟩);refine af (pZ j {cls:=.type "dict_items",data:=.fields #[.ref Z] }) λm B=>?_;have G:=Go.trans au g B;have C:es.length=(xs.map (·.1)).length:=by rw[r.length,Uw]
   refine wpAny_pyIter_items (kvs:=es) (ep:=ep) (knd:=strKind W.prog W.w) ⟨_,TH _ rfl,rfl,rfl⟩ (d.push _) (jV (s₁:= {s₁ with heap:=s₁.heap.push {cls:=.type "dict_items",data:=.fields #[.ref Z] } }) (it:=.items n (xs.map (·.1))) K (by rw[N]) m (J.go j B) G rfl (jW au G m (uo S)) (.items (ok:=.none) (ov:=.none) (ep:=ep) P ?_ (by rw[<-C];exact q2)) q);rw[<-C];exact TH _ rfl
theorem rf(H:WdOk5 W)(N:∀e,aI W A fs E c l VR (eval e E) (It0.ev c l e))
  (S:W.St (ao fs) φ σ s.heap)(L:W.Loc E c l φ s.heap)(p:aj W fs X RV (mq (jT It0 c l e) f σ) s φ Q Er)
  (K:p8 W fs E c l s φ k (λit B=>aj W fs X RV (f it B) s φ Q Er)):
  wpAny (model W.prog W.w) A (eval e E) (λx s₁=>wpAny (model W.prog W.w) A (pyIter x) k Er s₁) Er s/\ ∀x,foldedSetIterable e E x=pure x:=by
 unfold jT at p;by_cases j:oR e=true
 ·rw[Vw j]at p;exact p.elim
 rw[Vv j]at p;refine⟨?_,zN j⟩
 clear j
 show w5 W A E e s k Er;have d:aj W fs X RV (mq (mq (It0.ev c l e) bY) f σ) s φ Q Er->w5 W A E e s k Er:=λp=>by
  rw[mx]at p;exact(N e).after0 S L p λV u s₁ J σ₁ U m C z g q=>Jq H K U m C g (jW au g m (uo S)) z q
 induction hr:nu e using Vx with
 |some q=>
  rw[hr]at p
  replace p:aj W fs X RV (mq (if q.1= "range"/\c.scope.names.lookup q.1=some .globalImplicit/\bI q.2=false then mq (It0.ev c l q.2) bt else mq (It0.ev c l e) bY) f σ) s φ Q Er:=p
  by_cases P:q.1= "range"/\c.scope.names.lookup q.1=some .globalImplicit/\bI q.2=false
  ·rw[Vw P,mx]at p
   clear d
   exact Gf H N (xG hr) P S L p K
  ·rw[Vv P]at p;exact d p
 |none=>
  rw[hr]at p;induction hi:rW e using Vx with
  |none=>rw[hi]at p;exact d p
  |some q=>
   rw[hi]at p
   replace p:aj W fs X RV (mq (if q.2.1= "items"/\eP q.1=false/\q.2.2=true then mq (It0.ev c l q.1) dI else mq (It0.ev c l e) bY) f σ) s φ Q Er:=p
   by_cases G:q.2.1= "items"/\eP q.1=false/\q.2.2=true
   ·rw[Vw G,mx]at p
    clear d
    exact Gg H N (FF hi) G S L p K
   ·rw[Vv G]at p;exact d p
end
end
def FR(W:Wd)(E:Env)(c:Cx):al->Heap->Fl×Loc->Flow->Prop:=λφ h p f=>W.Loc E c p.2 φ h/\match p.1 with
 |.next=>f=.next
 |.cont=>f=.cont
 |.ret v=>∃u,f=.ret u/\VR φ h v u
def bT(W:Wd)(A:Around)(fs:List Env)(E:Env)(c:Cx)(l:Loc)(t:Sem Flow)(m:M (Fl×Loc)):Prop:=
 ∀(s:Shared) (φ:al) (σ:List O) (Q:Flow->Shared->Prop) (Er:Value->Shared->Prop),W.St (ao fs) φ σ s.heap->W.Loc E c l φ s.heap->aj W fs [E.locals] (FR W E c) (m σ) s φ Q Er->wpAny (model W.prog W.w) A t Q Er s
def LU(W:Wd)(E:Env)(c:Cx):al->Heap->Loc->Unit->Prop:=λφ h l Z=>W.Loc E c l φ h
section
variable {W:Wd} {A:Around} {fs:List Env} {X:List Addr} {E:Env} {c:Cx} {l:Loc}
variable {F:List Addr} {φ φ':al} {σ:List O} {h h' h₀:Heap} {a I:Addr} {it:It} {i:Nat}
theorem aI.afterX {H C β B:Type}{RV:al->Heap->H->β->Prop}{RV':al->Heap->C->B->Prop}{t:Sem β}{m:M H}{f:H->M C}(x:aI W A fs E c l RV t m)
  {s:Shared}{φ:al}{σ:List O}{Q:B->Shared->Prop}{Q₁:β->Shared->Prop}{Er:Value->Shared->Prop}(S:W.St (ao fs) φ σ s.heap)(L:W.Loc E c l φ s.heap)(p:aj W fs [E.locals] RV' (mq m f σ) s φ Q Er)
  (k:∀a b s₁ d σ₁,W.St (ao fs) d σ₁ s₁.heap->W.Loc E c l d s₁.heap->RV d s₁.heap a b->Go (ao fs) [] φ d s.heap s₁.heap->aj W fs [E.locals] RV' (f a σ₁) s₁ d Q Er->Q₁ b s₁):wpAny (model W.prog W.w) A t Q₁ Er s:=
 x s φ σ _ _ S L (aj.bindX L.offL p λa b Z G tk d j g z q=>k a b {s with heap:=G,toks:=tk} d _ j (L.go S g) z g q)
theorem uq(d:E.scope.kind=.function):(E.scope.kind==.class||(E.scope.kind==.module&&E.locals !=E.globals))=false:=by rw[d];rfl
theorem jk(L:W.Loc E c l φ h)(x:Str):E.kindOf x=c.scope.names.lookup x:=by unfold Env.kindOf;rw[L.scope]
theorem Jr {h:Heap}{a:Addr}{m:Str->Option Value}(x:h.Ns a m):∃o es n,h.get? a=some o/\o.data=.dict es n:=bw x λo es ep f d Z=>bJ o es ep ⟨f,d⟩
theorem MY {s:Shared}{φ:al}{σ:List O}{Q:Unit->Shared->Prop}(S:W.St (ao fs) φ σ s.heap)(L:W.Loc E c l φ s.heap)(z:VR φ s.heap v u)(e:c.scope.names.lookup x=some .local)
  (p:aj W fs [E.locals] (LU W E c) (.ok (put x v l) σ) s φ Q Er):wpAny (model W.prog W.w) A (storeName E x u) Q Er s:=by
 refine aa (L.ns) λm G C=>wpAny_storeName_local ((jk L x).trans e) G (λh' d sb=>?_) (uq L.kind);refine af (St.local S L.offL L.offB sb (Jr d)) λH g=>p () h' _ φ H g ⟨L.scope,L.kind,L.glob,L.blt,⟨_,d,λy V j=>?_⟩,L.off,L.offB,L.cells,L.code⟩;rw[gN]at j;by_cases f:y=x
 ·rw[Vw f]at j ⊢
  exact⟨u,rfl,UB j▸VR.go S L.offL g z⟩
 ·rw[Vv f]at j ⊢
  exact aa (C y V j) λw B q=>⟨w,B,VR.go S L.offL g q⟩
theorem Js {s:Shared}{φ:al}{σ:List O}{Q:Unit->Shared->Prop}(S:W.St (ao fs) φ σ s.heap)(L:W.Loc E c l φ s.heap)(z:VR φ s.heap v u)(e:c.scope.names.lookup x=some .cell)
  (G:look x c.cells=some n)(d:jA σ[n]?=true)(p:aj W fs [E.locals] (LU W E c) (.ok l (σ.set n (.cell (some v)))) s φ Q Er):wpAny (model W.prog W.w) A (storeName E x u) Q Er s:=by
 refine am (FA d) λN d=>aa (L.cells x n G) λa C j=>aa (AQ S j d) λJ g k=>ui L.kind ((jk L x).trans e) C g rfl ?_;have B:=To (λo:Obj=> {o with data:=.cell (some u) }) g rfl;refine af (St.upd (o:=.cell (some v)) S j (h':=s.heap.update a λo=> {o with data:=.cell (some u) }) (λb ob e m=>by
  have f:a≠b:=λq=>m (by rw[q];exact TU ..);exact(Tl s.heap _ f).trans e) λgo=>.cellS B (VR.go S au go z)) λH go=>?_
 exact p () _ s.toks φ H (go.more L.offL) (L.go S go)
theorem p9 {s:Shared}{φ:al}{σ:List O}{Q:Unit->Shared->Prop}(S:W.St (ao fs) φ σ s.heap)(L:W.Loc E c l φ s.heap)(z:VR φ s.heap v u)
  (p:aj W fs [E.locals] (LU W E c) (wr c x v l σ) s φ Q Er):wpAny (model W.prog W.w) A (storeName E x u) Q Er s:=by
 refine aa p.el λkd e p=>?_;induction kd using NameKind.casesOn with
 |«local»=>exact MY S L z e p
 |cell=>exact aa (aj.el (o:=look x c.cells) (f:=λn=>bif jA σ[n]? then .ok l (σ.set n (.cell (some v)))else .bad) p) λn g p=>af p.bi λd p=>Js S L z e g d p
 |_=>exact p.elim
theorem Jt(C:List Expr):∀ {xs:List Str} {vs:List V} {us:List Value} {l:Loc} {s:Shared} {φ:al} {σ:List O} {Q:Unit->Shared->Prop} {Er:Value->Shared->Prop},names? C=some xs->W.St (ao fs) φ σ s.heap->W.Loc E c l φ s.heap->VRs φ s.heap vs us->
  aj W fs [E.locals] (LU W E c) (eG c xs vs l σ) s φ Q Er->wpAny (model W.prog W.w) A (assignInOrder ((assignEach C E).map (·.2)) us) Q Er s:=by
 induction C using List.rec with
 |nil=>
  intro xs vs us l s φ σ Q Er d S L z p;rw[<-UB d]at p;induction vs using Vz with
  |nil=>rw[z.nil'];exact PyProof.Rows.assignInOrder_nil (p.ret0 (tk:=s.toks) S L)
  |cons=>exact p.elim
 |cons t r ih=>
  intro xs vs us l s φ σ Q Er d S L z p;refine aa (Th.mp d) λy G d=>aa (Tn.mp d) λY H d=>am (ik G) λN G=>?_;rw[<-d]at p;rw[G];induction vs using Vz with
  |nil=>exact p.elim
  |cons v vs=>
   refine aW z.cons' λu J P a b=>?_;rw[P];show wpAny _ A (assignInOrder (assign (.Name y N) E::(assignEach r E).map (·.2)) (_::_)) Q Er s;refine IO (wpAny_assign_Name (p9 S L a ?_));exact aj.bind L.offL p λU Z σ₁ j tk B m g f q=>ih (s:= {s with heap:=j,toks:=tk}) H m f (VRs.go S L.offL g b) q
theorem D8(f:List Expr):∀ {xs:List Str},names? f=some xs->(assignEach f E).length=xs.length/\(assignEach f E).findIdx? (·.1)=none:=by
 induction f using List.rec with
 |nil=>exact λd=>by rw[<-UB d];exact⟨rfl,rfl⟩
 |cons t r ih=>
  intro xs d;refine aa (Th.mp d) λy g d=>aa (Tn.mp d) λw q d=>am (ik g) λp g=>af (ih q) λm j=>?_;rw[<-d,g];refine⟨Vs Nat.succ m, ?_⟩
  show((false,assign (.Name y p) E)::assignEach r E).findIdx? (·.1)=none
  rw[List.findIdx?_cons,j];rfl
theorem jl(H:A.handled=none){s:Shared}{φ:al}{σ:List O}{Q:Unit->Shared->Prop}(S:W.St (ao fs) φ σ s.heap)(L:W.Loc E c l φ s.heap)(z:VR φ s.heap v u)
  (p:aj W fs [E.locals] (LU W E c) (target c t v l σ) s φ Q Er):wpAny (model W.prog W.w) A (assign t E u) Q Er s:=by
 induction t using VE with
 |Name x pos=>exact wpAny_assign_Name (p9 S L z p)
 |Tuple ts k pos=>
  refine aa (aj.el (o:=names? ts) (f:=λxs=>(jB v).elim .bad λvs=>if xs.length=vs.length then eG c xs vs l σ else .bad) p) λxs m p=>aa p.el λvs N p=>?_;rw[xC N]at z;refine jz z.tup' λP o us n C e J d r=>?_;rw[C];by_cases j:xs.length=vs.length
  ·rw[Vw j]at p
   refine af (D8 (E:=E) ts m) λq B=>wpAny_assign_Tuple H (items:=us.toList.toArray) ⟨o,e,J,n,d⟩ (by rw[q,j,<-r.length];rfl) B λh' sb=>?_;have k:∀b o,s.heap.get? b=some o->h'.get? b=some o:=λb o e=>sb b o (Va (UV e)) e;refine af (S.grow k) λG g=>Jt (s:= {s with heap:=h'}) ts m G (L.go S g) (VRs.go S au g r) (p.after (tk:=s.toks) L.offL (g.more L.offL))
  ·rw[Vv j]at p;exact p.elim
 |_=>exact p.elim
theorem hO {f:Loc->Stmt->M (Fl×Loc)}(C:∀l st,bT W A fs E c l (exec st E) (f l st)):∀(b:List Stmt) (l:Loc),bT W A fs E c l (execs b E) (db f b l)
 | [],l=>λs φ σ Q Er S L p=>wpAny_execs_nil (p.ret0 (tk:=s.toks) S ⟨L,rfl⟩)
 |st::r,l=>λs φ σ Q Er S L p=>by
  rw[db]at p;refine wpAny_execs_cons (C l st s φ σ _ _ S L (aj.bind L.offL p λa G σ₁ j tk w m g z q=>?_));obtain⟨d,z⟩:=z;obtain⟨H,B⟩:=a;dsimp only at z q d ⊢;induction H using Mine.Fl.casesOn with
  |next=>subst z;exact hO C r B {s with heap:=j,toks:=tk} w σ₁ Q Er m d q
  |cont=>subst z;exact q.ret0 (s:= {s with heap:=j,toks:=tk}) (tk:=tk) m ⟨d,rfl⟩
  |ret v=>obtain⟨u,rfl,z⟩:=z;exact q.ret0 (s:= {s with heap:=j,toks:=tk}) (tk:=tk) m ⟨d,u,rfl,z⟩
theorem zO {m:M V}(x:aI W A fs E c l VR (eval e E) m):bT W A fs E c l (exec (.Return (some e) pos) E) (mq m λv=>mr (.ret v,l)):=λs φ σ Q Er S L p=>
 wpAny_Return_some (x.afterX S L p λa u s₁ j σ₁ f d z g q=>q.ret0 (tk:=s₁.toks) f ⟨d,u,rfl,z⟩)
theorem wn:bT W A fs E c l (exec (.Continue pos) E) (mr (.cont,l)):=λs φ σ Q Er S L p=>
 wpAny_Continue (p.ret0 (tk:=s.toks) S ⟨L,rfl⟩)
theorem Ju {a b:List Stmt}{m:M Bool}{B w:M (Fl×Loc)}(x:aI W A fs E c l BB (isTrue t E (eval t E)) m)(G:bT W A fs E c l (execs a E) B)(C:bT W A fs E c l (execs b E) w):
  bT W A fs E c l (exec (.If t a b pos) E) (mq m λr=>match r with|true=>B|false=>w):=λs φ σ Q Er S L p=>
 wpAny_If (x.afterX S L p λr u s₁ j σ₁ f d z g q=>by
  cases z;cases r
  ·exact C _ _ _ _ _ f d q
  ·exact G _ _ _ _ _ f d q)
theorem aj.bindN {B z β w:Type}{RV:al->Heap->B->β->Prop}{RV':al->Heap->z->w->Prop}{m:M B}{f:B->M z}{σ:List O}{s:Shared}{φ:al}{Q:w->Shared->Prop}{Q₁:β->Shared->Prop}{Er':Value->Shared->Prop}(O:eS X φ s.heap)
  (p:aj W fs X RV' (mq (eO m) f σ) s φ Q Er)
  (k:∀a b σ₁ j tk d,W.St (ao fs) d σ₁ j->Go (ao fs) X φ d s.heap j->RV d j a b->aj W fs X RV' (f a σ₁) {s with heap:=j,toks:=tk} d Q Er->Q₁ b {s with heap:=j,toks:=tk}):
  aj W fs X RV (m σ) s φ Q₁ Er':=by
 unfold mq eO at p;induction hm:m σ using VD with
 |ok a σ₁=>
  rw[hm]at p;exact λb j tk d q g x=>k a b σ₁ j tk d q g x (p.after O g)
 |exc e σ₁=>rw[hm]at p;exact p.elim
 |bad=>rw[hm]at p;exact p.elim
theorem aj.bindNX {B z β w:Type}{RV:al->Heap->B->β->Prop}{RV':al->Heap->z->w->Prop}{m:M B}{f:B->M z}{σ:List O}{s:Shared}{φ:al}{Q:w->Shared->Prop}{Q₁:β->Shared->Prop}{Er':Value->Shared->Prop}(O:eS X φ s.heap)
  (p:aj W fs X RV' (mq (eO m) f σ) s φ Q Er)
  (k:∀a b σ₁ j tk d,W.St (ao fs) d σ₁ j->Go (ao fs) [] φ d s.heap j->RV d j a b->aj W fs X RV' (f a σ₁) {s with heap:=j,toks:=tk} d Q Er->Q₁ b {s with heap:=j,toks:=tk}):
  aj W fs [] RV (m σ) s φ Q₁ Er':=by
 unfold mq eO at p;induction hm:m σ using VD with
 |ok a σ₁=>
  rw[hm]at p;exact λb j tk d q g x=>k a b σ₁ j tk d q g x (p.after O (g.more O))
 |exc e σ₁=>rw[hm]at p;exact p.elim
 |bad=>rw[hm]at p;exact p.elim
theorem D9 {b:List Stmt}{mt:Loc->M Bool}{Z:Loc->M (Fl×Loc)}(x:∀l,aI W A fs E c l BB (isTrue t E (eval t E)) (mt l))(y:∀l,bT W A fs E c l (execs b E) (Z l))(wf:Nat):
  bT W A fs E c l (exec (.While t b [] pos) E) (me mt Z wf l):=λs φ σ Q Er S L p=>by
 refine wpAny_While (codeAny_whileLoop (λn s=>∃φ σ l,W.St (ao fs) φ σ s.heap/\W.Loc E c l φ s.heap/\aj W fs [E.locals] (FR W E c) (me mt Z n l σ) s φ Q Er) (λn s hI=>?_) wf ⟨φ,σ,l,S,L,p⟩);refine bw (hI) λφ σ l S L p=>?_;induction n using Nat.casesAuxOn with
 |zero=>exact p.elim
 |succ k=>
  rw[me]at p;refine x l s φ σ _ _ S L (aj.bindNX L.offL p λr u σ₁ J tk U P g z q=>?_);cases z;induction r using VA with
  |false=>exact wpAny_execs_nil (q.ret0 (s:= {s with heap:=J,toks:=tk}) (tk:=tk) P ⟨L.go S g,rfl⟩)
  |true=>
   have H:=L.go S g;refine y l {s with heap:=J,toks:=tk} U σ₁ _ _ P H (aj.bindN H.offL q λpr f G Y C w B g₂ d m=>?_);obtain⟨fl,N⟩:=pr;obtain⟨j,d⟩:=d;dsimp only at d m j ⊢;induction fl using Mine.Fl.casesOn with
   |next=>subst d;exact⟨k,Un _,w,G,N,B,j,m⟩
   |cont=>subst d;exact⟨k,Un _,w,G,N,B,j,m⟩
   |ret v=>obtain⟨u,rfl,d⟩:=d;exact m.ret0 (s:= {s with heap:=Y,toks:=C}) (tk:=C) B ⟨j,u,rfl,d⟩
end
section
variable {W:Wd} {A:Around} {fs:List Env} {X Y:List Addr} {E:Env} {c:Cx} {l:Loc}
variable {F:List Addr} {φ φ' φ'':al} {σ:List O} {h h' h'' h₀:Heap} {a I:Addr} {it:It} {i:Nat}
theorem Go.transN(O:eS X φ h)(x:Go F X φ φ' h h')(y:Go F Y φ' φ'' h' h'')(hY:∀a∈Y,a∈X\/h.get? a=none):Go F X φ φ'' h h'':=by
 have U:=x.off O;refine⟨x.pre.trans y.pre,λa w=>?_,λb o e z=>?_,λa w o e d=>?_⟩
 ·refine aB λS g=>?_
  by_cases j:a∈aU φ
  ·refine g<|.inl j
  ·rcases y.new a w with q|q
   ·refine g<|x.new a q
   ·refine g<|.inr (dP O x j q)
 ·have p:b∉Y++aU φ':=λq=>by
   rcases Uy.mp q with q|q
   ·rcases hY b q with r|r
    ·exact z (Tz _ r)
    ·rw[e]at r;cases r
   ·rcases x.new b q with r|r
    ·exact z (Ts _ r)
    ·rw[e]at r;cases r
  obtain⟨k1,P,k2⟩:=x.kp b o e λq=>z q;obtain⟨l1,G,l2⟩:=y.kp b _ k2 p;refine⟨λL=>(y.kp b o (k1 L) p).1 L,G,l2⟩
 ·refine aB λS g=>aQ (x.xs a w o e d) λN J H k=>?_
  by_cases m:a∈Y
  ·refine aQ (y.xs a m N J H) λB f C Z=>g<|⟨B,f,C,λes n q=>let⟨es',n',q'⟩:=k es n q;Z es' n' q'⟩
  ·obtain⟨_,P,f⟩:=y.kp a N J λq=>(Uy.mp q).elim m (U a w).1
   refine g<|⟨_,f,H,k⟩
noncomputable def fm(E:Env):List (Str×NameKind)->List (Str×Addr)->List (Str×Addr)
 | [],acc=>acc
 |(x,k)::r,acc=>if k==.free then(match E.cells.lookup x with|some a=>fm E r ((x,a)::acc)|none=>fm E r acc)else fm E r acc
theorem om(h:∀x∈sc.names,x.2=.free-> ∃a,E.cells.lookup x.1=some a):closureFor sc E=pure (fm E sc.names []):=by
 unfold closureFor;generalize sc.names=ns at h;have key:∀(ns:List (Str×NameKind)) (d:List (Str×Addr)),(∀x∈ns,x.2=.free-> ∃a,E.cells.lookup x.1=some a)->
   (forIn ns d λ(x:Str×NameKind) (r:List (Str×Addr))=>(if(x.2==NameKind.free)=true then(do let __do_lift <-cellOf E x.1;pure (ForInStep.yield ((x.1,__do_lift)::r)))else pure (ForInStep.yield r):Sem (ForInStep (List (Str×Addr)))))=pure (fm E ns d):=by
  intro ns;induction ns with
  |nil=>intro d _;rfl
  |cons x r ih=>
   intro d m;obtain⟨n,k⟩:=x;rw[Uv];rw[fm];by_cases f:(k==NameKind.free)=true
   ·refine am (m (n,k) (TU ..) (by simpa using f)) λa g=>?_
    dsimp only at g ⊢;rw[Vw f,Vw f,g];unfold cellOf;rw[g];simp only[pure_bind];exact ih _ λy j=>m y (TA _ j)
   ·dsimp only
    rw[Vv f,Vv f];simp only[pure_bind];exact ih _ λy j=>m y (TA _ j)
 have:=key ns [] h;simpa using this
theorem gq {x:Str}{a:Addr}(g:E.cells.lookup x=some a):∀(ns:List (Str×NameKind)) (acc:List (Str×Addr)),((x,NameKind.free)∈ns\/acc.lookup x=some a)->(∀y b,acc.lookup y=some b->E.cells.lookup y=some b)->(fm E ns acc).lookup x=some a
 | [],acc,h,_=>h.elim (λq=>nomatch q) id
 |(n,k)::r,acc,h,ha'=>by
  rw[fm];by_cases m:(k==NameKind.free)=true
  ·rw[Vw m]
   have w:k=.free:=by simpa using m
   induction hn:E.cells.lookup n using Vx with
   |none=>
    dsimp only;refine gq g r acc ?_ ha';rcases h with h|h
    ·rcases UR.mp h with q|q
     ·injection q with q1 q2;rw[<-q1,g]at hn;cases hn
     ·exact .inl q
    ·exact .inr h
   |some b=>
    dsimp only;refine gq g r ((n,b)::acc) ?_ λy p j=>?_
    ·by_cases d:x=n
     ·subst d;rw[g]at hn;injection hn with hn;subst hn;exact .inr (by simp)
     ·rcases h with h|h
      ·rcases UR.mp h with q|q
       ·injection q with q1 q2;exact absurd q1 d
       ·exact .inl q
      ·refine .inr ?_
       rw[Uh];have:(x==n)=false:=by simpa using d
       rw[this];exact h
    ·rw[Uh]at j
     by_cases f:y=n
     ·subst f;simp at j;rw[hn,j]
     ·have:(y==n)=false:=by simpa using f
      rw[this]at j;exact ha' y p j
  ·rw[Vv m]
   refine gq g r acc ?_ ha';rcases h with h|h
   ·rcases UR.mp h with q|q
    ·injection q with q1 q2;subst q2;exact absurd rfl m
    ·exact .inl q
   ·exact .inr h
theorem qJ(h:look x (cq c sc)=some n):(x,NameKind.free)∈sc.names/\look x c.cells=some n:=by
 have:=qG h;unfold cq at this;refine aB λw g=>aa (TV.mp this) λp j d=>?_;obtain⟨y,k⟩:=p;induction k using PySem.NameKind.casesOn with
 |free=>
  dsimp only at d;rw[Tn]at d;obtain⟨m,q,f⟩:=d;injection f with f h3;subst f;subst h3;refine g<|⟨j,q⟩
 |_=>exact ns d
theorem ip(h:fH c sc=true):sc.kind=.function/\(∀x∈sc.names,x.2≠ .cell)/\(∀x∈sc.names,x.2=.local->sc.names.lookup x.1=some .local)/\ ∀x∈sc.names,x.2=.free-> ∃n,look x.1 c.cells=some n:=by
 unfold fH at h;rw[Uc]at h;refine af (h) λg f=>?_;rw[Ud]at f;refine⟨by simpa using g,λx d=>?_,λx d j=>?_,λx d m=>?_⟩
 ·have:=f x d;simp at this;exact this.1.1
 ·have:=f x d;simp at this;exact this.1.2.resolve_left (λq=>q j)
 ·have:=f x d;simp at this
  have:=this.2.resolve_left (λq=>q m);exact Td.mp this
theorem Gh(L:W.Loc E c l φ h)(sc:Scope):relabel sc E=BU c sc:=by
 unfold relabel BU Env.kindOf;rw[L.scope]
theorem A0(L:W.Loc E c l φ h)(ok:fH c sc=true){C:Addr}(f:Asd W F φ h C)(d:∃m,h.Ns C m):W.Loc (compEnvC sc (fm E sc.names []) C E) (cr c sc) [] φ h:=by
 obtain⟨m,d⟩:=d;refine⟨Gh L sc, ?_,L.glob,L.blt,⟨m,d,λx V e=>nomatch e⟩,f.phi,f.base,λx n z=>?_,λq=>absurd (show Str.empty=("law":Str) from q) (by decide+kernel)⟩
 ·show(relabel sc E).kind=.function
  exact(ip ok).1
 ·refine af (qJ z) λw p=>aa (L.cells x n p) λa g j=>⟨a,gq g _ _ (.inl w) (λy b q=>nomatch q),j⟩
theorem pb(L:W.Loc E c l φ h)(ok:fH c sc=true):closureFor sc E=pure (fm E sc.names []):=
 om λx g f=>by
  refine am ((ip ok).2.2.2 x g f) λn j=>aa (L.cells x.1 n j) λa d Z=>⟨a,d⟩
def Ea(M:Model)(A:Around)(use:Option (Value->Sem Unit))(Q:Value->Shared->Prop)(Er:Value->Shared->Prop)(C:Addr)(f:Value)(g:Shared):Prop:=match use with
 |none=>∃m,g.heap.Ns C m/\ ∀h',Heap.SameBut C g.heap h'->Q f {g with heap:=h'}
 |some u=>wpAny M A (u f) (λZ d=>∃m,d.heap.Ns C m/\ ∀h',Heap.SameBut C d.heap h'->Q .none {d with heap:=h'}) Er g
def pc(M:Model)(A:Around)(use:Option (Value->Sem Unit))(Q:Value->Shared->Prop)(Er:Value->Shared->Prop)(C:Addr)(d:Value):Result->Shared->Prop:=λr f=>match r with
 |.ok _=>Ea M A use Q Er C d f
 |.error _=>False
theorem xM {M:Model}{Er:Value->Shared->Prop}{s:Shared}{scope:Scope}{pos:Pos}{d first:Sem Value}{g:Comprehension}{gs:List Comprehension}{use:Option (Value->Sem Unit)}{Q:Value->Shared->Prop}{cl:List (Str×Addr)}
  (hcl:clausesOf e=g::gs)(hs:∀x,foldedSetIterable g.iter E x=pure x)(B:closureFor scope E=pure cl)(z:scope.kind=.function)(j:∀x∈scope.names,x.2=.local->scope.names.lookup x.1=some .local)
  (h:wpAny M A first (λx s₁=>wpAny M A (pyIter x) (λit w=>wpAny M A d (λC q=>
   wpAny M A (newFunctionEnv scope E.globals cl [] E.qual none .none (some E)) (λcenv p=>
    codeAny M A (.compStart e 0 it C {cenv with scope:=relabel scope E}) (pc M A use Q Er cenv.locals C) p) Er q) Er w) Er s₁) Er s):
  wpAny M A (comprehension e scope E pos d false first use) Q Er s:=by
 unfold comprehension;rw[B,hcl];refine Vn (Vp h (λx s₁ P=>Vn (UU (Vn (wpAny_of_eq (hs x) (Vn (UT (Vp P (λit w h₂=>
  wpAny_standIf (Vn (Vp h₂ (λC q h₃=>Vn (Vq (Vn (Vp h₃ (λcenv p U=>?_) λZ Z h'=>h')))) λZ Z h'=>h')))
   λZ Z h'=>h'))))))) λZ Z h'=>h')
 dsimp only;have S:({cenv with scope:=relabel scope E}:Env).scope.kind=.function:=z;have hv:∀x∈scope.names,x.2=.local->Env.kindOf {cenv with scope:=relabel scope E} x.1=some .local:=λx hx L=>lookup_relabel_local (j x hx L);have H:∀x∈(scope.names.filter λx=>(x.2==.local||x.2==.cell)&&x.1 !=(".0":Str)).reverse,x.2=.local->Env.kindOf {cenv with scope:=relabel scope E} x.1=some .local:=λx hx L=>hv x (List.mem_filter.mp (List.mem_reverse.mp hx)).1 L;have hv':∀x∈(scope.names.filter λx=>(x.2==.local||x.2==.cell)&&x.1 !=(".0":Str)).reverse.drop 1++(scope.names.filter λx=>(x.2==.local||x.2==.cell)&&x.1 !=(".0":Str)).reverse.take 1,
   x.2=.local->Env.kindOf {cenv with scope:=relabel scope E} x.1=some .local:=λx hx L=>by
  rcases Uy.mp hx with h1|h1
  ·exact H x (List.mem_of_mem_drop h1) L
  ·exact H x (TC h1) L
 refine UT (Vn (wpAny_attempt (UT (wpAny_run (codeAny_mono U λr s' N=>?_)))));induction r using Except.casesOn with
 |error x=>exact N.elim
 |ok f=>
  induction use using Vx with
  |none=>
   refine aa (N) λm hn N=>Vn (UT (wpAny_comp_letGo (cenv:= {cenv with scope:=relabel scope E}) S _ s' m H hn λh' m' Z J=>Vq (N h' J)))
  |some u=>
   refine Vn (wpAny_rule (Vn (UT (Vp N (λZ s'' G=>?_) λZ Z h'=>h'))));refine aa (G) λm hn G=>Vn (wpAny_comp_letGo (cenv:= {cenv with scope:=relabel scope E}) S _ s'' m hv' hn λh' m' Z J=>Vq (G h' J))
end
def SE:al->Heap->Option V->Option Value->Prop:=λφ h q b=>match q,b with
 |some V,some v=>VR φ h V v
 |none,none=>True
 |_,_=>False
def Eb(W:Wd)(E:Env)(c:Cx):al->Heap->Option V->Option Value->Prop:=λφ h q b=>SE φ h q b/\W.Loc E c [] φ h
section
variable {W:Wd} {A:Around} {fs:List Env} {X Y:List Addr} {E:Env} {c:Cx} {l:Loc}
variable {F:List Addr} {φ φ' φ'':al} {σ:List O} {h h' h'' h₀:Heap} {a I:Addr} {it:It} {i:Nat}
theorem vI {g β:Type}{M:Model}{x:g}{t:Sem β}{Q:β->Shared->Prop}{s:Shared}(h:wpAny M A (pure x) (λZ s=>wpAny M A t Q Er s) Er' s):wpAny M A t Q Er s:=λf p d=>by
 have k:=h f p d;rw[Sem.wp_pure']at k;exact k f p d
theorem LocR.drop {E:Env}(L:W.Loc E c l φ h):W.Loc E c [] φ h:=
 let⟨m,hn,_⟩:=L.ns
 ⟨L.scope,L.kind,L.glob,L.blt,⟨m,hn,λZ Z e=>nomatch e⟩,L.off,L.offB,L.cells,L.code⟩
theorem vJ(a:Array Value)(k:Nat):side (PySem.W.listOf a k):=by
 rintro(⟨q,_⟩|⟨vs,_,_,q,_⟩)
 ·have d:Value.type "list"=Value.type "tuple":=q
  injection d with d;exact absurd d (by decide)
 ·cases q
theorem Ec(hh:A.handled=none){s:Shared}{φ:al}{σ:List O}{Qt:Option Value->Shared->Prop}{Er:Value->Shared->Prop}(hif:ifs.length<=1)
  (ev:∀l e,aI W A fs E c l VR (eval e E) (It0.ev c l e))(tst:∀l e,aI W A fs E c l BB (isTrue e E (eval e E)) (It0.tst c l e))
  (S:W.St (ao fs) φ σ s.heap)(L:W.Loc E c [] φ s.heap)(z:VR φ s.heap v u)
  (p:aj W fs [E.locals] (Eb W E c) (gE It0 c t elt ifs v σ) s φ Qt Er):
  wpAny (model W.prog W.w) A (assign t E u) (λZ s₂=>wpAny (model W.prog W.w) A (forIn ifs true λc r=>if r=true then do let ok <-isTrue c E (eval c E);pure (ForInStep.yield ok)else pure (ForInStep.yield r)) (λok d=>
   if ok=true then wpAny (model W.prog W.w) A (eval elt E) (λx C=>Qt (some x) C) Er d else Qt none d) Er s₂) Er s:=by
 unfold gE at p;refine jl hh S L z (aj.bind L.offL p λU Z σ₁ P tk N S₁ g J q=>?_);have last:∀(b:Bool) (d:Shared) (j:al) (B:List O),W.St (ao fs) j B d.heap->W.Loc E c U j d.heap->aj W fs [E.locals] (Eb W E c) ((match b with|true=>mq (It0.ev c U elt) λx=>mr (some x)|false=>mr Option.none:M (Option V)) B) d j Qt Er->
   if b=true then wpAny (model W.prog W.w) A (eval elt E) (λx C=>Qt (some x) C) Er d else Qt none d:=λb d j B H G q=>by
  induction b using VA with
  |false=>rw[Vv (by simp)];exact q.ret0 (tk:=d.toks) H ⟨trivial,G.drop⟩
  |true=>
   rw[Vw rfl];exact(ev U elt).afterG G.offL H G q λx w C φ₄ σ₄ S₄ L₄ z₄ g₄ q₄=>q₄.ret0 (tk:=C.toks) S₄ ⟨z₄,L₄.drop⟩
 induction ifs using Vz with
 |nil=>
  refine wpAny_tests_nil<|last true {s with heap:=P,toks:=tk} N σ₁ S₁ J q
 |cons e r=>
  induction r using Vz with
  |cons _ _=>simp at hif
  |nil=>
   refine wpAny_tests_one ?_;have q':aj W fs [E.locals] (Eb W E c) (mq (It0.tst c U e) (λb=>match b with|true=>mq (It0.ev c U elt) λx=>mr (some x)|false=>mr Option.none) σ₁) {s with heap:=P,toks:=tk} N Qt Er:=by
    have e1:∀(f:Bool->M (Option V)),mq (nc (It0.tst c U) .And [e]) f=mq (It0.tst c U e) f:=λf=>by
     funext σ
     rw[nc];unfold mq;induction hm:It0.tst c U e σ using VD with
     |ok a σ'=>cases a<;>rfl
     |exc m σ'=>rfl
     |bad=>rfl
    rw[e1]at q;exact q
   exact(tst U e).afterG (s:= {s with heap:=P,toks:=tk}) J.offL S₁ J q' λb b' d j B H G z₃ g₃ q₃=>by
    cases z₃;exact last b d j B H G q₃
theorem vK {s:Shared}{Q:Value->Shared->Prop}(f:b6 it t=true)(d:bZ t=true)(x:ItR φ s.heap it i I)(h:Q (.ref I) s):wpAny (model W.prog W.w) A (pyIter (.ref I)) Q Er s:=by
 induction x using ItR.casesOn with
 |list p y=>exact wpAny_pyIter_listiter y h
 |vals p y=>exact wpAny_pyIter_tupleiter y h
 |range y _=>exact wpAny_pyIter_rangeiter y h
 |keys p y q=>exact wpAny_pyIter_keyiter y h
 |items p y q=>
  refine pP (vH f) λj c g z=>?_;rw[z]at d;exact ff d
theorem mz {d β:Type}{m:M d}{f:d->M β}{σ σ':List O}{a:d}(h:m σ=.ok a σ'):mq m f σ=f a σ':=by unfold mq;rw[h]
theorem xN {d:Type}{m:M d}{σ σ':List O}{a:d}(h:m σ=.ok a σ'):eO m σ=.ok a σ':=by unfold eO;rw[h]
theorem ut {d:Type}{m:M d}{σ:List O}(h:∀a σ',m σ≠ .ok a σ'):eO m σ=.bad:=by
 unfold eO;induction hm:m σ using VD with
 |ok a σ'=>exact absurd hm (h a σ')
 |exc e σ'=>rfl
 |bad=>rfl
theorem Ed(hh:A.handled=none){cE:Env}{cc:Cx}{elt iter:Expr}{sc:Scope}{pos:Pos}{α β:Type}{RV:al->Heap->α->β->Prop}{s₀:Shared}{φ₀:al}{g:List V->M α}{Q:β->Shared->Prop}{Er:Value->Shared->Prop}{R:Result->Shared->Prop}
  (hwf:wf<=2^20)(hif:ifs.length<=1)(ht:b6 it t=true)(htn:bZ t=true)(hDI:D≠I)(hDC:D≠cE.locals)(hIC:I≠cE.locals)(hI0:s₀.heap.get? I=none)(hD0:s₀.heap.get? D=none)(hC0:s₀.heap.get? cE.locals=none)
  (ev:∀l e,aI W A fs cE cc l VR (eval e cE) (It0.ev cc l e))(tst:∀l e,aI W A fs cE cc l BB (isTrue e cE (eval e cE)) (It0.tst cc l e))
  (done:∀s φ σ N H kD,s= {s₀ with heap:=s.heap,toks:=s.toks}->W.St (ao fs) φ σ s.heap->Go (ao fs) [] φ₀ φ s₀.heap s.heap->W.Loc cE cc [] φ s.heap->Asd W (ao fs) φ s.heap D->s.heap.get? D=some (listOf H.toArray kD)->VRs φ s.heap N H->aj W fs X RV (g N σ) s₀ φ₀ Q Er->R (.ok .next) s)
  (n:Nat){s:Shared}{φ:al}{σ:List O}{N:List V}{H:List Value}{kD:Nat}{i:Nat}(he:s= {s₀ with heap:=s.heap,toks:=s.toks})(S:W.St (ao fs) φ σ s.heap)(G:Go (ao fs) [] φ₀ φ s₀.heap s.heap)(L:W.Loc cE cc [] φ s.heap)(AI:Asd W (ao fs) φ s.heap I)(x:ItR φ s.heap it i I)
  (AD:Asd W (ao fs) φ s.heap D)(gD:s.heap.get? D=some (listOf H.toArray kD))(za:VRs φ s.heap N H)(hn:N.length+n<=wf)
  (p:aj W fs X RV (mq (cz (gE It0 cc t elt ifs) it n i N) g σ) s₀ φ₀ Q Er):
  codeAny (model W.prog W.w) A (.compLoop (.ListComp elt [⟨t,iter,ifs,0⟩] sc pos) 0 (.ref I) (.ref D) cE) R s:=by
 have htq:Cd t:=jU htn;obtain⟨J,mk,el⟩:∃J:Nat->Shared->Prop,(∀ {n s i φ σ N H kD},s= {s₀ with heap:=s.heap,toks:=s.toks}->W.St (ao fs) φ σ s.heap->Go (ao fs) [] φ₀ φ s₀.heap s.heap->W.Loc cE cc [] φ s.heap->Asd W (ao fs) φ s.heap I->ItR φ s.heap it i I->Asd W (ao fs) φ s.heap D->s.heap.get? D=some (listOf H.toArray kD)->VRs φ s.heap N H->N.length+n<=wf->aj W fs X RV (mq (cz (gE It0 cc t elt ifs) it n i N) g σ) s₀ φ₀ Q Er->J n s)/\ ∀ {n s} {P:Prop},J n s->(∀i φ σ N H kD,s= {s₀ with heap:=s.heap,toks:=s.toks}->W.St (ao fs) φ σ s.heap->Go (ao fs) [] φ₀ φ s₀.heap s.heap->W.Loc cE cc [] φ s.heap->Asd W (ao fs) φ s.heap I->ItR φ s.heap it i I->Asd W (ao fs) φ s.heap D->s.heap.get? D=some (listOf H.toArray kD)->VRs φ s.heap N H->N.length+n<=wf->aj W fs X RV (mq (cz (gE It0 cc t elt ifs) it n i N) g σ) s₀ φ₀ Q Er->P)->P:=
  ⟨λn s=>∀P:Prop,(∀i φ σ N H kD,s= {s₀ with heap:=s.heap,toks:=s.toks}->W.St (ao fs) φ σ s.heap->Go (ao fs) [] φ₀ φ s₀.heap s.heap->W.Loc cE cc [] φ s.heap->Asd W (ao fs) φ s.heap I->ItR φ s.heap it i I->Asd W (ao fs) φ s.heap D->s.heap.get? D=some (listOf H.toArray kD)->VRs φ s.heap N H->N.length+n<=wf->aj W fs X RV (mq (cz (gE It0 cc t elt ifs) it n i N) g σ) s₀ φ₀ Q Er->P)->P,λa b c d e f g h i j k Z z=>z _ _ _ _ _ _ a b c d e f g h i j k,λj z=>j _ z⟩
 refine codeAny_compLoop_tests J (λn s hI=>?_) n (mk he S G L AI x AD gD za hn p) (λv=>htq _ _)
 clear p hn za gD AD x AI L G S he
 refine aB λgP gH=>el hI λi φ σ N H kD he S G L AI x AD gD za hn p=>?_;induction n using Nat.casesAuxOn with
 |zero=>exact p.elim
 |succ k=>
  rw[cz]at p;rw[mx]at p;induction hr:ci it i σ using VD with
  |bad=>refine gH ?_;rw[mu hr]at p;exact p.elim
  |exc e σ'=>exact(nK hr).elim
  |ok r σ'=>
   have:=lV hr;subst this;rw[mz hr]at p;induction r using Vx with
   |none=>
    refine gH<|pa hh S x hr λh' kk=>af (AD.but hDI gD kk) λAD' gD'=>done {s with heap:=h'} φ σ' N H kD (by rw[he]) (S.but AI kk) (G.but hI0 kk) (LocR.but L AI (Vu hIC) kk) AD' gD' (VRs.but AI.sd kk za) p
   |some v=>
    dsimp only at p;rw[mx]at p;by_cases hq:∃q σ₅,gE It0 cc t elt ifs v σ'=.ok q σ₅
    case neg=>
     rw[mu (ut λa b z=>hq ⟨a,b,z⟩)]at p;exact p.elim
    case pos=>
     refine cI (hq) λq σ₅ hq=>?_;rw[mz (xN hq)]at p;refine gH<|Vp (o7 (Q:=λu s₁=>∃h' tk,s₁= {s with heap:=h',toks:=tk}/\(∀b o,b≠I->s.heap.get? b=some o->h'.get? b=some o)/\ItR φ h' it (i+1) I/\VR φ h' v u) S AI ht x hr λu h' tk kk x' zu=>aV h' tk ⟨rfl,kk,x',zu⟩) (λr s₁ hr'=>?_) λZ Z e=>e;obtain⟨u,rfl,hr'⟩:=hr';rw[htq]at hr';refine vI (Vp hr' (λZ s₁ hr'=>?_) λZ Z e=>e);refine aB λgP gH=>bM (hr') λh' tk gz2 kk x' zu=>?_;subst gz2;have S₁:=S.but AI kk;refine aa (x'.at_) λoI gI sI=>?_;have AI':Asd W (ao fs) φ h' I:=AI.self gI sI;refine af (AD.but hDI gD kk) λAD' gD'=>?_;have L₁:=LocR.but L AI (Vu hIC) kk;have G₁:=G.but hI0 kk;have za₁:=VRs.but (φ:=φ) AI.sd kk za;have cb:∀(b:Option Value) (C:Shared) (B:al),C= {s₀ with heap:=C.heap,toks:=C.toks}->W.St (ao fs) B σ₅ C.heap->Go (ao fs) [cE.locals] φ B h' C.heap->Eb W cE cc B C.heap q b-> ∀Er':Value->Shared->Prop,
       (match b with
        |some y=>wpAny (model W.prog W.w) A (call (.builtin "list.append") [.ref D,y]) (λZ C=>∃m,m<k+1/\J m C) Er' C
        |none=>∃m,m<k+1/\J m C):=by
      intro b C B he₅ S₅ U z₅ Er';have hCI:I∉ [cE.locals]:=by simpa using hIC
      have hCD:D∉ [cE.locals]:=by simpa using hDC
      refine aB λgP gH=>af (AI'.go hCI gI U) λAI₅ gI₅=>af (AD'.go hCD gD' U) λAD₅ gD₅=>?_;have G₅:Go (ao fs) [] φ₀ B s₀.heap C.heap:=Go.transN au G₁ U λa ha=>.inr (by rw[TW.mp ha];exact hC0);refine af (z₅) λz₅ L₅=>?_;have x₅:ItR B C.heap it (i+1) I:=x'.map (λo e=>by rw[gI]at e;injection e with e;rw[<-e];exact gI₅) (λV v z=>VR.go S₁ L₁.offL U z) U.pre;have za₅:VRs B C.heap N H:=VRs.go S₁ L₁.offL U za₁;induction b using Vx with
      |none=>
       induction q using Vx with
       |some _=>exact z₅.elim
       |none=>refine gH ?_;exact⟨k,Un _,mk he₅ S₅ G₅ L₅ AI₅ x₅ AD₅ gD₅ za₅ (RT hn) p⟩
      |some y=>
       induction q using Vx with
       |none=>exact z₅.elim
       |some v'=>
        refine gH ?_;refine PyProof.Rows.append_at gD₅ (λh₆ sb g₆=>?_) (by
         rw[T8,za.length];have:sizeLine=16777216:=sizeLine_eq;exact Q5 hwf hn this)
        have kk₆:∀b o,b≠D->C.heap.get? b=some o->h₆.get? b=some o:=λb o hb e=>(sb.2 b hb).trans e;have gD₆:h₆.get? D=some (listOf (H++ [y]).toArray (kD+1)):=by rw[g₆];simp[PySem.W.listOf]
        refine af (AI₅.but (Vu hDI) gI₅ kk₆) λAI₆ gI₆=>?_;have AD₆:Asd W (ao fs) B h₆ D:=AD₅.self gD₆ (vJ _ _);exact⟨k,Un _,mk (by rw[he₅]) (S₅.but AD₅ kk₆) (G₅.but hD0 kk₆) (LocR.but L₅ AD₅ (Vu hDC) kk₆) AI₆ (x₅.map (λo e=>by rw[gI₅]at e;injection e with e;rw[<-e];exact gI₆) (λV v z=>VR.but AD₅.sd kk₆ z) (Uk _)) AD₆ gD₆ ((VRs.but AD₅.sd kk₆ za₅).append (.cons (VR.but AD₅.sd kk₆ z₅) .nil)) (by rw[TT,List.length_singleton];exact Ln hn) p⟩
     have:=Ec (Er:=notedBy (model W.prog W.w) A cE λe s'=>R (.error e) s') hh hif ev tst (s:= {s with heap:=h',toks:=tk}) S₁ L₁ zu (Qt:=λb C=>C= {s₀ with heap:=C.heap,toks:=C.toks}/\ ∃B,W.St (ao fs) B σ₅ C.heap/\Go (ao fs) [cE.locals] φ B h' C.heap/\Eb W cE cc B C.heap q b) (by
      rw[hq];exact λb h₅ tk₅ B S₅ U z₅=>⟨by rw[he],B,S₅,U,z₅⟩)
     refine gH<|Vp this (λZ s₂ h₂=>Vp h₂ (λok s₃ h₃=>?_) λZ Z e=>e) λZ Z e=>e;refine aB λgP gH=>?_;induction ok using VA with
     |true=>
      refine gH ?_;rw[Vw rfl]at h₃ ⊢;exact Vp h₃ (λy s₄ h₄=>by
       obtain⟨e₄,B,S₅,U,z₅⟩:=h₄;exact cb (some y) s₄ B e₄ S₅ U z₅ _) λZ Z e=>e
     |false=>
      refine gH ?_;rw[Vv (by simp)]at h₃ ⊢;obtain⟨e₄,B,S₅,U,z₅⟩:=h₃;refine cb none s₃ B e₄ S₅ U z₅ (λZ Z=>True)
end
section
variable {W:Wd} {A:Around} {fs:List Env} {X Y:List Addr} {E:Env} {c:Cx} {l:Loc}
variable {F:List Addr} {φ φ' φ'':al} {σ:List O} {h h' h'' h₀:Heap} {a I:Addr} {it:It} {i:Nat}
theorem vL(Wk:WdOk5 W)(hh:A.handled=none){pos p2:Pos}{use:Option (Value->Sem Unit)}{Q₁:Value->Shared->Prop}{α β:Type}{RV:al->Heap->α->β->Prop}{s:Shared}{φ:al}{σ:List O}{g:List V->M α}{Q:β->Shared->Prop}
  (hwf:wf<=2^20)(ev:∀ {E c} l e,aI W A fs E c l VR (eval e E) (It0.ev c l e))(tst:∀ {E c} l e,aI W A fs E c l BB (isTrue e E (eval e E)) (It0.tst c l e))
  (S:W.St (ao fs) φ σ s.heap)(L:W.Loc E c l φ s.heap)(p:aj W fs X RV (mq (uc It0 wf c l elt t iter ifs sc (jT It0)) g σ) s φ Q Er)
  (cb:∀D C f j N acc accU kD,f= {s with heap:=f.heap,toks:=f.toks}->W.St (ao fs) j N f.heap->Go (ao fs) [] φ j s.heap f.heap->W.Loc E c l j f.heap->Asd W (ao fs) j f.heap D->f.heap.get? D=some (listOf accU.toArray kD)->VRs j f.heap acc accU->s.heap.get? D=none->
   Asd W (ao fs) j f.heap C->(∃m,f.heap.Ns C m)->s.heap.get? C=none->D≠C->aj W fs X RV (g acc N) s φ Q Er->
   Ea (model W.prog W.w) A use Q₁ Er C (.ref D) f):
  wpAny (model W.prog W.w) A (comprehension (.ListComp elt [⟨t,iter,ifs,0⟩] sc pos) sc E p2 (newList []) false (eval iter E) use) Q₁ Er s:=by
 unfold uc at p
 split at p
 ·exact p.elim
 rename_i hc
 simp only[Bool.or_eq_true,not_or,T5,Ua,Nat.not_lt]at hc;refine af (hc) λgy0 c4=>?_;obtain⟨c2,hok⟩:=gy0;have c2':bZ t=true:=by simpa using c2
 have hok:fH c sc=true:=by simpa using hok
 rw[mx]at p;refine fD (ip hok) λk1 k2 k3 k4=>?_;have Zz:=rf (k:=λitv d=>wpAny (model W.prog W.w) A (newList []) (λacc s₃=>wpAny (model W.prog W.w) A (newFunctionEnv sc E.globals (fm E sc.names []) [] E.qual none .none (some E)) (λcenv s₄=>
    codeAny (model W.prog W.w) A (.compStart (.ListComp elt [⟨t,iter,ifs,0⟩] sc pos) 0 itv acc {cenv with scope:=relabel sc E}) (pc (model W.prog W.w) A use Q₁ Er cenv.locals acc) s₄) Er s₃) Er d) Wk (ev (E:=E) (c:=c) l) S L p ?_
 ·exact xM rfl Zz.2 (pb L hok) k1 k3 Zz.1
 intro it I d H σ₂ he U G₂ L₂ AI x hI q
 split at q
 ·exact q.elim
 rename_i c1
 have c1':b6 it t=true:=by simpa using c1
 refine aa (x.at_) λoI gI sI=>wpAny_newObj_type (hd:=by size_fits) (wpAny_newFunctionEnv k2 (by intro y hy;simp at hy) (λB G J=>?_) k1);dsimp only at G J ⊢;generalize hH1:d.heap.push {cls:=.type "list",dict:=none,data:=.seq ([]:List Value).toArray}=P at G J ⊢;have hD2:d.heap.get? d.heap.objs.size=none:=bK;have hC2:P.get? P.objs.size=none:=bK;have k₁:∀b o,d.heap.get? b=some o->P.get? b=some o:=λb o e=>hH1▸Tk _ e;have k₂:∀b o,P.get? b=some o->B.get? b=some o:=λb o e=>by
  have hb:b≠P.objs.size:=λq=>by rw[q,hC2]at e;cases e
  rw[J.2 b hb];exact Tk _ e
 have hC2':d.heap.get? P.objs.size=none:=by
  induction e:d.heap.get? P.objs.size using Vx with
  |none=>rfl
  |some o=>have:=k₁ _ _ e;rw[hC2]at this;cases this
 refine af (U.grow (h':=B) λb o e=>k₂ b o (k₁ b o e)) λS₄ g₄=>?_;have G₄:=Go.trans au G₂ g₄;have gDH:P.get? d.heap.objs.size=some (listOf ([]:List Value).toArray 0):=by rw[<-hH1];exact TH _ rfl
 have gD:B.get? d.heap.objs.size=some (listOf ([]:List Value).toArray 0):=k₂ _ _ gDH;have AD:Asd W (ao fs) H B d.heap.objs.size:=Asd.new U hD2 λo e=>by rw[gD]at e;injection e with e;rw[<-e];exact vJ _ _
 have AC:Asd W (ao fs) H B P.objs.size:=Asd.new U hC2' λo e=>by
  refine bw (G) λo' es ep e' d' Z=>?_;rw[e']at e;injection e with e;rw[<-e];exact bP d'
 refine af (AI.go (by simp) gI g₄) λAI₄ gI₄=>?_;have x₄:ItR H B it 0 I:=x.map (λo e=>by rw[gI]at e;injection e with e;rw[<-e];exact gI₄) (λV v z=>VR.go U au g₄ z) (Uk _);have hD0:s.heap.get? d.heap.objs.size=none:=by
  by_cases hφ:d.heap.objs.size∈aU φ
  ·exact absurd (dO G₄.pre _ hφ) AD.phi
  ·exact dP au G₂ hφ hD2
 have hC0:s.heap.get? P.objs.size=none:=by
  by_cases hφ:P.objs.size∈aU φ
  ·exact absurd (dO G₄.pre _ hφ) AC.phi
  ·exact dP au G₂ hφ hC2'
 have hDI:d.heap.objs.size≠I:=λq=>by rw[q]at hD2;rw[gI]at hD2;cases hD2
 have hDC:d.heap.objs.size≠P.objs.size:=λq=>by rw[q]at gDH;rw[hC2]at gDH;cases gDH
 have hIC:I≠P.objs.size:=λq=>by rw[q]at gI;rw[hC2']at gI;cases gI
 have cL:W.Loc (compEnvC sc (fm E sc.names []) P.objs.size E) (cr c sc) [] H B:=A0 (L₂.go U g₄) hok AC ⟨_,G⟩;have loop:∀tk,codeAny (model W.prog W.w) A (.compLoop (.ListComp elt [⟨t,iter,ifs,0⟩] sc pos) 0 (.ref I) (.ref d.heap.objs.size) (compEnvC sc (fm E sc.names []) P.objs.size E)) (pc (model W.prog W.w) A use Q₁ Er P.objs.size (.ref d.heap.objs.size)) {d with heap:=B,toks:=tk}:=λtk=>
  Ed (cc:=cr c sc) (s₀:=s) (φ₀:=φ) (s:= {d with heap:=B,toks:=tk}) hh hwf c4 c1' c2' hDI hDC hIC hI hD0 hC0 ev tst
   (λf j N acc accU kD he₅ S₅ G₅ L₅ AD₅ gD₅ za₅ q₅=>cb _ P.objs.size f j N acc accU kD he₅ S₅ G₅ (L.go S G₅) AD₅ gD₅ za₅ hD0 ⟨L₅.off,AC.fr,L₅.offB,λo e=>by
     refine aa (L₅.ns) λm gy1 Z=>?_;obtain⟨o',es,ep,e',d',_⟩:=gy1;have e'':f.heap.get? P.objs.size=some o':=e';rw[e'']at e;injection e with e;rw[<-e];exact bP d'⟩ (let⟨m,hm,_⟩:=L₅.ns;⟨m,hm⟩) hC0 hDC q₅)
   wf (by rw[he]) S₄ G₄ cL AI₄ x₄ AD gD .nil (by simp) q
 exact codeAny_compStart_list (loop _) (vK (φ:=H) (it:=it) (i:=0) (t:=t) c1' c2' x₄ (loop _))
end
section
variable {W:Wd} {A:Around} {fs:List Env} {X Y:List Addr} {E:Env} {c:Cx} {l:Loc}
variable {F:List Addr} {φ φ' φ'':al} {σ:List O} {h h' h'' h₀:Heap} {a I:Addr} {it:It} {i:Nat}
theorem pe(Wk:WdOk5 W)(hh:A.handled=none)(B:wf<=2^20)
  (ev:∀ {E c} l e,aI W A fs E c l VR (eval e E) (It0.ev c l e))(G:∀ {E c} l e,aI W A fs E c l BB (isTrue e E (eval e E)) (It0.tst c l e)):
  aI W A fs E c l VR (eval (.ListComp elt [⟨t,iter,ifs,0⟩] sc pos) E) (mq (uc It0 wf c l elt t iter ifs sc (jT It0)) λvs=>aC (.list vs)):=λs φ σ Q Er S L p=>by
 rw[eval_ListComp];refine vL (use:=none) Wk hh B ev G S L p λD C f g U N accU kD he d j L₅ AD gD za P AC hC H z q=>?_;obtain⟨m,hm⟩:=hC;refine⟨m,hm,λh' sb=>?_⟩;have w:∀b o,b≠C->f.heap.get? b=some o->h'.get? b=some o:=λb o hb e=>(sb.2 b hb).trans e;refine af (AD.but z gD w) λZ J=>?_;have S':=(d.but AC w).adopt (ax:=.none) Z rfl (.list (l:=N) J (VRs.but AC.sd w za));have:=q (.ref D) h' f.toks (g++ [(D,.none)]) S' (Go.adopt rfl (j.but H w) P) (.ref (p:=(D,.none)) (by rw[<-d.len,SW (Vi _),Vb];rfl));rw[he];exact this
theorem jX {m:M V}(U:swapsWith e (some (.Name x px)) pos.line E=pure false)(y:aI W A fs E c l VR (eval e E) m):
  bT W A fs E c l (exec (.Assign [.Name x px] e pos) E) (mq m λv=>mq (target c (.Name x px) v l) λN=>mr (.next,N)):=λs φ σ Q Er S L p=>by
 refine wpAny_Assign_Name (y.afterX S L p λv u s₁ H σ₁ C d z g q=>?_) U;exact p9 C d z (aj.bind d.offL q λN Z J w tk G j P f B=>B.ret0 (s:= {s₁ with heap:=w,toks:=tk}) (tk:=tk) j ⟨f,rfl⟩)
theorem rg(Wk:WdOk5 W)(hh:A.handled=none)(hwf:wf<=2^20)
  (ev:∀ {E c} l e,aI W A fs E c l VR (eval e E) (It0.ev c l e))(tst:∀ {E c} l e,aI W A fs E c l BB (isTrue e E (eval e E)) (It0.tst c l e)):
  bT W A fs E c l (exec (.Assign [.Name x px] (.ListComp elt [⟨t,iter,ifs,0⟩] sc p2) pos) E) (mq (mq (uc It0 wf c l elt t iter ifs sc (jT It0)) λvs=>aC (.list vs)) λv=>mq (target c (.Name x px) v l) λl'=>mr (.next,l')):=λs φ σ Q Er S L p=>by
 have hb:∃b,swapsWith (.ListComp elt [⟨t,iter,ifs,0⟩] sc p2) (some (.Name x px)) pos.line E=pure b:=⟨_,rfl⟩;refine am (hb) λb hb=>?_;induction b using VA with
 |false=>exact jX hb (pe Wk hh hwf ev tst) s φ σ Q Er S L p
 |true=>
  rw[exec_Assign_Name_used _ _ _ _ hb];refine Vn (UU (Vn ?_));show wpAny _ A (do let _ <-comprehension (.ListComp elt [⟨t,iter,ifs,0⟩] sc p2) sc E iter.pos (newList []) false (eval iter E) (some (assign (.Name x px) E))) _ _ s;rw[mx]at p;refine Vn (Vp (vL (use:=some (assign (.Name x px) E)) (Q₁:=λZ s'=>Q .next s') Wk hh hwf ev tst S L p λD C g f d U accU kD he B G₅ L₅ AD gD za hD0 AC hC J hDC q=>?_) (λZ s' hq=>Vq (Vq hq)) λZ Z e=>e);obtain⟨m,hm⟩:=hC;have S':=B.adopt (ax:=.none) AD rfl (.list (l:=U) gD za);have G':Go (ao fs) [] φ (f++ [(D,.none)]) s.heap g.heap:=Go.adopt rfl G₅ hD0;have L':W.Loc E c l (f++ [(D,.none)]) g.heap:=L.go S G';have zD:VR (f++ [(D,.none)]) g.heap (.ref d.length) (.ref D):=.ref (p:=(D,.none)) (by rw[<-B.len,SW (Vi _),Vb];rfl);have AC':Asd W (ao fs) (f++ [(D,.none)]) g.heap C:=⟨λq=>by
   rw[fk]at q;rcases Uy.mp q with r|r
   ·exact AC.phi r
   ·have:C=D:=by simpa [Aux.toList]using r
    exact hDC this.symm,AC.fr,AC.base,AC.sd⟩
  have hCL:C≠E.locals:=λq=>by
   refine aa (L.ns) λm' gy1 Z=>?_;obtain⟨o,es,ep,e,_⟩:=gy1;rw[q,e]at J;cases J
  have P:aj W fs [E.locals] (FR W E c) (mq (target c (.Name x px) (.ref d.length) l) (λl'=>mr (.next,l')) (d++ [.list U])) s φ Q Er:=q;refine jl hh S' L' zD ?_;obtain⟨oC,eC⟩:∃oC,g.heap.get? C=some oC:=let⟨o,es,ep,e,_⟩:=hm;⟨o,e⟩;unfold mq at P;induction hT:target c (.Name x px) (.ref d.length) l (d++ [.list U])using VD with
  |bad=>rw[hT]at P;exact P.elim
  |exc e σ'=>rw[hT]at P;exact λe' h' tk φ' x=>by rw[he];exact P e' h' tk φ' (x.before L.offL (G'.more L.offL))
  |ok l₂ σ₂=>
   rw[hT]at P;intro b H tk j S₆ G L₆;refine af (AC'.go (by simpa using hCL) eC G) λw N=>⟨m, ?_,λz sb=>?_⟩
   ·refine dK (hm) λo es ep e r=>?_
    have e6:H.get? C=some o:=by rw[eC]at e;injection e with e;rw[<-e];exact N
    exact⟨o,es,ep,e6,r⟩
   ·have kk:∀b o,b≠C->H.get? b=some o->z.get? b=some o:=λb o hb e=>(sb.2 b hb).trans e
    have L₇:=LocR.but L₆ w (Vu hCL) kk;have G₇:Go (ao fs) [E.locals] φ j s.heap z:=(Go.trans L.offL (G'.more L.offL) G).but J kk;have:=P .next z tk j (S₆.but w kk) G₇ ⟨L₇,rfl⟩;rw[he];exact this
theorem Gi(Wk:WdOk5 W)(hh:A.handled=none){b:List Stmt}{mb:Loc->M (Fl×Loc)}
  (ev:∀l e,aI W A fs E c l VR (eval e E) (It0.ev c l e))(y:∀l,bT W A fs E c l (execs b E) (mb l)):
  bT W A fs E c l (exec (.For t iter b [] pos) E) (mq (jT It0 c l iter) λit=>if b6 it t=false then bad else ij (λv l=>mq (target c t v l) λN=>mb N) it wf 0 l):=λs₀ φ₀ σ Q Er S L p=>by
 have Zz:=rf (k:=λitv s₂=>codeAny (model W.prog W.w) A (.forLoop t itv b [] E) (λr s'=>match r with|.ok f=>Q f s'|.error e=>cameBackBy (model W.prog W.w) A E Er e s') s₂) Wk (ev l) S L p ?_
 ·exact wpAny_For Zz.1 Zz.2
 clear p S
 intro it I s φ σ he S G L' AI x hI p;refine aB λgP J=>?_
 split at p
 ·exact p.elim
 rename_i ht
 have ht':b6 it t=true:=by simpa using ht
 refine aa (L.ns) λmL nL Z=>?_;have hIL:I≠E.locals:=λq=>by
  refine aB λgP J=>dK (nL) λo es ep e Z=>J ?_;rw[q,e]at hI;cases hI
 refine J ?_;refine codeAny_forLoop_any (λn s=>∃i φ σ l,s= {s₀ with heap:=s.heap,toks:=s.toks}/\W.St (ao fs) φ σ s.heap/\Go (ao fs) [E.locals] φ₀ φ s₀.heap s.heap/\W.Loc E c l φ s.heap/\Asd W (ao fs) φ s.heap I/\ItR φ s.heap it i I/\
  aj W fs [E.locals] (FR W E c) (ij (λv l=>mq (target c t v l) λN=>mb N) it n i l σ) s₀ φ₀ Q Er) (λn s hJ=>?_) wf ⟨0,φ,σ,l,he,S,G.more L.offL,L',AI,x,p⟩
 have O₀:=L.offL
 clear p x AI L' G S he L nL
 refine aB λgP J=>Oy (hJ) λi φ σ l he S G L AI x p=>?_;induction n using Nat.casesAuxOn with
 |zero=>exact p.elim
 |succ k=>
  rw[ij]at p;induction hr:ci it i σ using VD with
  |bad=>refine J ?_;rw[mu hr]at p;exact p.elim
  |exc e σ'=>exact(nK hr).elim
  |ok r σ'=>
   have:=lV hr;subst this;rw[mz hr]at p;induction r using Vx with
   |none=>
    refine J<|pa hh S x hr λh' kk=>wpAny_execs_nil ?_;have:=p .next h' s.toks φ (S.but AI kk) (G.but hI kk) ⟨LocR.but L AI (Vu hIL) kk,rfl⟩;rw[he];exact this
   |some v=>
    dsimp only at p;by_cases hq:∃q B,(mq (target c t v l) λN=>mb N) σ'=.ok q B
    case neg=>
     rw[mu (ut λa b z=>hq ⟨a,b,z⟩)]at p;exact p.elim
    case pos=>
     refine cI (hq) λq B hq=>?_;rw[mz (xN hq)]at p;refine J<|Vp (o7 (Er:=notedBy (model W.prog W.w) A E λe s'=>cameBackBy (model W.prog W.w) A E Er e s') (Q:=λu s₁=>∃h' tk,s₁= {s with heap:=h',toks:=tk}/\(∀b o,b≠I->s.heap.get? b=some o->h'.get? b=some o)/\ItR φ h' it (i+1) I/\VR φ h' v u) S AI ht' x hr λu h' tk kk x' zu=>aV h' tk ⟨rfl,kk,x',zu⟩) (λr s₁ hr'=>?_) λZ Z e=>e;obtain⟨u,rfl,hr'⟩:=hr';refine Vp hr' (λZ s₁ hr'=>?_) λZ Z e=>e;refine aB λgP J=>bM (hr') λh' tk gz2 kk x' zu=>?_;subst gz2;have S₁:=S.but AI kk;refine aa (x'.at_) λoI gI sI=>?_;have AI':Asd W (ao fs) φ h' I:=AI.self gI sI;have U:=LocR.but L AI (Vu hIL) kk;have G₁:=G.but hI kk;have P₁:aj W fs [E.locals] (FR W E c) ((mq (target c t v l) λN=>mb N) σ') {s with heap:=h',toks:=tk} φ (λf d=>match f with
       |.next|.cont=>∃m,m<k+1/\ ∃i φ σ l,d= {s₀ with heap:=d.heap,toks:=d.toks}/\W.St (ao fs) φ σ d.heap/\Go (ao fs) [E.locals] φ₀ φ s₀.heap d.heap/\W.Loc E c l φ d.heap/\Asd W (ao fs) φ d.heap I/\ItR φ d.heap it i I/\
         aj W fs [E.locals] (FR W E c) (ij (λv l=>mq (target c t v l) λN=>mb N) it m i l σ) s₀ φ₀ Q Er
       |.brk=>Q .next d
       |.ret v=>Q (.ret v) d) (notedBy (model W.prog W.w) A E λe s'=>cameBackBy (model W.prog W.w) A E Er e s'):=by
      rw[hq];intro f h₅ tk₅ j P H g;have hCI:I∉ [E.locals]:=by simpa using hIL
      refine aB λgP J=>af (AI'.go hCI gI H) λAI₅ gI₅=>?_;have G₅:Go (ao fs) [E.locals] φ₀ j s₀.heap h₅:=Go.trans O₀ G₁ H;have x₅:ItR j h₅ it (i+1) I:=x'.map (λo e=>by rw[gI]at e;injection e with e;rw[<-e];exact gI₅) (λV v z=>VR.go S₁ U.offL H z) H.pre;obtain⟨fl,l₂⟩:=q;obtain⟨C,g⟩:=g;dsimp only at g C p;induction fl using Mine.Fl.casesOn with
      |next=>refine J ?_;subst g;exact⟨k,Un _,i+1,j,B,l₂,by rw[he],P,G₅,C,AI₅,x₅,p⟩
      |cont=>refine J ?_;subst g;exact⟨k,Un _,i+1,j,B,l₂,by rw[he],P,G₅,C,AI₅,x₅,p⟩
      |ret v=>
       obtain⟨w,rfl,g⟩:=g;have:=p (.ret w) h₅ tk₅ j P G₅ ⟨C,w,rfl,g⟩;refine J ?_;show Q (.ret w) _;rw[he];exact this
     refine J<|jl hh (s:= {s with heap:=h',toks:=tk}) S₁ U zu (aj.bind U.offL P₁ λN Z σ₂ h₂ tk₂ φ₂ S₂ g₂ L₂ q₂=>?_);exact y N {s with heap:=h₂,toks:=tk₂} φ₂ σ₂ _ _ S₂ L₂ q₂
end
section
variable {W:Wd} {A:Around} {fs:List Env} {X Y:List Addr} {E:Env} {c:Cx} {l:Loc}
variable {F:List Addr} {φ φ' φ'':al} {σ:List O} {h h' h'' h₀:Heap} {a I:Addr} {it:It} {i:Nat}
theorem sq:∀(kvs:List (Str×Value)) (k:Str) (v:Value),(kvs.map (·.1)).Nodup->stored kvs k v=put k v kvs
 | [],k,v,_=>rfl
 |(y,w)::r,k,v,hn=>by
  rw[UQ,Uz]at hn;have j:=sq r k v hn.2;unfold stored at j ⊢;unfold put;rw[UO];by_cases f:k=y
  ·subst f
   rw[Vw rfl];simp only[decide_true,Bool.true_or,if_true,UQ]
   congr 1
   have:∀d∈r,(if d.1=k then(d.1,v)else d)=d:=λd g=>by
    rw[Vv];intro e;exact hn.1 (U3.mpr ⟨d,g,e⟩)
   rw[List.map_congr_left this];simp
  ·rw[Vv f,<-j]
   have hd:decide (y=k)=false:=by simpa using λe=>f e.symm
   simp only[hd,Bool.false_or]
   split
   ·simp only[UQ]
    rw[Vv (λe=>f e.symm)]
   ·rfl
theorem xO {d:Type}{k:Str}{v w:d}{r:List (Str×d)}:Mine.put k v ((y,w)::r)=if k=y then(y,v)::r else(y,w)::Mine.put k v r:=rfl
theorem PR.put {k:Str}{V:V}{v:Value}(z:VR φ h V v){l:List (Str×Mine.V)}{es:List (Str×Value)}(x:PR φ h l es):PR φ h (Mine.put k V l) (Mine.put k v es):=
 PR.ind (Q:=λl es=>PR φ h (Mine.put k V l) (Mine.put k v es)) (.cons z .nil) (λ{y _ _ _ _} a r ih=>by
  rw[xO,xO];by_cases d:k=y
  ·rw[Vw d,Vw d];exact .cons z r
  ·rw[Vv d,Vv d];exact .cons a ih) x
theorem jY {d:Addr}{k:Str}{t:Tok}{v:Value}{s:Shared}{Q:Unit->Shared->Prop}{Er:Value->Shared->Prop}(U:cj W.prog W.w s.heap d kvs b)(J:kvs.length<=sizeLine)
  (L:∀h' tk,cj W.prog W.w h' d (put k v kvs) b->Heap.SameBut d s.heap h'->Q () {s with heap:=h',toks:=tk}):wpAny (model W.prog W.w) A (dictSet d (.str k t) v) Q Er s:=by
 refine aa (U) λep N p=>?_;obtain⟨o,es,q,S,hd,H,G,C⟩:=N;have g:(strKind W.prog W.w).is k (.str k t)=true:=by simp[strKind,Value.isStrOf]
 have B:es.size=kvs.length:=by rw[<-G.length];simp
 rw[<-sq kvs k v C]at L;unfold dictSet
 try with_reducible refine UT ?_
 refine Vn ((strKind W.prog W.w).pyHash g ?_);unfold dictSetHashed
 try with_reducible refine UT ?_
 refine Vn (wpAny_dictFind_of (s:= {s with toks:=s.toks+1}) g q hd H ?_);have m:(es.findIdx? λe=>(strKind W.prog W.w).is k e.key)=kvs.findIdx? λz=>decide (z.1=k):=by
  rw[<-G.findIdx k];obtain⟨l⟩:=es;simp
 induction hi:es.findIdx? λe=>(strKind W.prog W.w).is k e.key using Vx with
 |some i=>
  have f:=any_of_findIdx_some (m▸hi);refine Vn (wpAny_rule (Vn (wpAny_updateDict (s:= {s with toks:=s.toks+1}) q hd (wpAny_point (L _ _ ⟨ep,⟨_,_,To _ q (Obj.isFreed_of_dict (Obj.data_mapDict hd _)),
   S.mapDict _,Obj.data_mapDict hd _,H.modify _ _, ?_, ?_⟩, ?_⟩ (TG ..))))))
  ·rw[stored,Vw f]
   have hl:(es.toList.findIdx? λe=>(strKind W.prog W.w).is k e.key)=some i:=by rw[<-hi];obtain⟨l⟩:=es;simp
   have:=G.modify C hl v;obtain⟨l⟩:=es;simpa using this
  ·rw[stored,Vw f,keys_map_store];exact C
  ·rw[stored,Vw f,Uw];exact p
 |none=>
  have j:k∉kvs.map (·.1):=not_mem_of_findIdx_none (m▸hi);have f:¬(kvs.any λz=>decide (z.1=k))=true:=by
   rw[List.any_eq_true];rintro⟨z,P,he⟩;exact j (U3.mpr ⟨z,P,Ub he⟩)
  refine Vn (wpAny_rule (wpAny_updateDictKeys (hz:=by rw[B];exact J) (s:= {s with toks:=s.toks+1}) q hd (L _ _ ⟨ep+1,⟨_,_,To _ q (Obj.isFreed_of_dict (Obj.data_mapDictKeys hd _)),
   S.mapDictKeys _,Obj.data_mapDictKeys hd _,H.push g _, ?_, ?_⟩, ?_⟩ (TG ..))))
  ·rw[stored,Vv f]
   have:=G.append g ((strKind W.prog W.w).hash k) v;obtain⟨l⟩:=es;simpa using this
  ·rw[stored,Vv f,Ux,T7]
   refine⟨C,by simp, ?_⟩;intro a Z b p;simp only[UQ,List.map_nil,TW]at p;subst p;exact λe=>j (e▸Z)
  ·rw[stored,Vv f,TT,List.length_singleton];exact(Vs (· +1) p).trans (Int.add_assoc _ _ 1)
theorem Jv(Wk:WdOk5 W){o i v:V}{w x:Value}{s:Shared}{φ:al}{σ:List O}{Q:Unit->Shared->Prop}(S:W.St (ao fs) φ σ s.heap)(B:VR φ s.heap o u)(q:VR φ s.heap i w)(hv:VR φ s.heap v x)
  (p:aj W fs [] (λ_ _ (_ _:Unit)=>True) (cH o i v σ) s φ Q Er):wpAny (model W.prog W.w) A (setItem u w x) Q Er s:=by
 refine aa p.el λn L p=>aa p.el λz P p=>aa p.el λxs Z p=>af p.it λf p=>?_;rw[cS L]at B;rw[gJ P]at q;refine aa B.ref' λm J C=>am q.str' λt G=>?_;rw[J,G];refine aW (sg S C (fy Z)) λes e' U d r=>?_;have j:=d.of;unfold setItem
 try with_reducible refine UT ?_
 refine Vn (wpAny_sequenceKey j.typeIs (by decide) ?_);refine Vn (wpAny_callSpecial?_slot (name:=Str.ofString "__setitem__") j.typeIs slot_dict_setitem
  (wpAny_call_entry slot_dict_setitem j.typeIs entry_dict_setitem ?_ (args_dict_setitem _ _ _)))
 show wpAny _ _ (Builtin.Dict.notOrdered "__setitem__" ⟨[.ref m.1,.str z t,x],[]⟩>>=_) _ _ s;refine Vn (wpAny_notOrdered_dict j.typeIs ?_);show wpAny _ _ (dictSet m.1 (.str z t) x>>=_) _ _ s;refine Vn (jY d (by rw[r.length];exact U7 f (by decide)) λh' tk H sb=>Vq ⟨.none,rfl,Vq ?_⟩);refine af (zL (xs:=xs) S C U sb H (r.put hv)) λN g=>p () h' tk φ N g trivial
theorem jd {f:Option Expr}(d:im e=false):swapsWith e f n E=pure false:=by
 induction e using Vy with
 |ListComp=>exact ff d.symm
 |SetComp=>exact ff d.symm
 |DictComp=>exact ff d.symm
 |_=>rfl
theorem Ee {m:M V}(w:im e=false)(y:aI W A fs E c l VR (eval e E) m):bT W A fs E c l (exec (.Expr e pos) E) (mq m λZ=>mr (.next,l)):=λs φ σ Q Er S L p=>by
 rw[exec_Expr E e pos (by unfold interactive;rw[L.kind];rfl) (jd w)];refine Vn (UU (Vn (y.afterX S L p λv u s₁ j σ₁ f d z g q=>?_)));exact wpAny_dropValue (q.ret0 (tk:=s₁.toks) f ⟨d,rfl⟩)
theorem rh(Wk:WdOk5 W){o:Expr}{a:Str}{m d:M V}(y:aI W A fs E c l VR (eval e E) m)(G:aI W A fs E c l VR (eval o E) d):
  bT W A fs E c l (exec (.Assign [.Attribute o a p'] e pos) E) (mq m λv=>mq d λx=>mq (dF x a v) λZ=>mr (.next,l)):=λs φ σ Q Er S L p=>by
 refine plainObj_wpAny_Assign_Attribute (y.afterX S L p λv u s₁ φ₁ σ₁ B C z g q=>?_) (by
  induction e using Vy with
  |_=>rfl)
 refine G.afterX B C q λx w s₂ φ₂ σ₂ j f H J N=>Jd Wk.toWdOk3 j H (VR.go B au J z) (aj.bindX f.offL N λZ Z σ₃ P tk φ₃ U g₃ Z q₃=>q₃.ret0 (s:= {s₂ with heap:=P,toks:=tk}) (tk:=tk) U ⟨f.go j g₃,rfl⟩)
theorem sr(Wk:WdOk5 W){o i e:Expr}{m j f:M V}(y:aI W A fs E c l VR (eval e E) m)(y₂:aI W A fs E c l VR (eval o E) j)(y₃:aI W A fs E c l VR (eval i E) f):
  bT W A fs E c l (exec (.Assign [.Subscript o i p'] e pos) E) (mq m λv=>mq j λx=>mq f λk=>mq (cH x k v) λZ=>mr (.next,l)):=λs φ σ Q Er S L p=>by
 refine wpAny_Assign_Subscript (y.afterX S L p λv u s₁ φ₁ σ₁ C N z g q=>?_) (by
  induction e using Vy with
  |_=>rfl)
 refine y₂.afterX C N q λx w s₂ φ₂ σ₂ d J z₂ g₂ q₂=>y₃.afterX d J q₂ λk w₃ s₃ φ₃ σ₃ B H z₃ G q₃=>Jv Wk B (VR.go d au G z₂) z₃ (VR.go d au G (VR.go C au g₂ z)) (aj.bindX H.offL q₃ λZ Z σ₄ P tk φ₄ S₄ U Z q₄=>q₄.ret0 (s:= {s₃ with heap:=P,toks:=tk}) (tk:=tk) S₄ ⟨H.go B U,rfl⟩)
theorem LocR.congr {E:Env}{l d:Loc}(L:W.Loc E c l φ h)(e:∀z,look z d=look z l):W.Loc E c d φ h:=
 ⟨L.scope,L.kind,L.glob,L.blt,aa L.ns λm g f=>⟨m,g,λx V q=>f x V (by rw[<-e];exact q)⟩,L.off,L.offB,L.cells,L.code⟩
def xP(E:Env)(x y:Str)(t:Sem (Option (List Str))):Prop:=∃r,t=pure r/\(r=none\/(r=some [x,y]/\E.kindOf x=some .local/\E.kindOf y=some .local))
theorem ss {d:Type}{P:d->Prop}{c:Prop}[Decidable c]{a b:d}(g:c->P a)(f:¬c->P b):P (if c then a else b):=by
 by_cases h:c
 ·rw[Vw h];exact g h
 ·rw[Vv h];exact f h
theorem ON {f:Expr->Option Str}{a b:Expr}{x y:Str}{cx d:Bool}(j:f a=if cx=true then some x else none)(g:f b=if d=true then some y else none)(h:([a,b].filterMap f).length=2): [a,b].filterMap f= [x,y]/\cx=true/\d=true:=by
 rw[TJ,TJ,List.filterMap_nil,j,g]at h ⊢;cases cx with
 |false=>cases d<;>cases h
 |true=>cases d with
  |false=>cases h
  |true=>exact⟨rfl,rfl,rfl⟩
theorem xP.no {E:Env}:xP E x y (pure none):=⟨none,rfl,.inl rfl⟩
theorem Gj {x y:Str}{p q p₁ p₂:Pos}{k k₂:Nat}{vs:List Expr}(g:vs.all (constantsAlone 8)=false):xP E x y (swappedStores [.Tuple [.Name x p,.Name y q] k p₁] (.Tuple vs k₂ p₂) E):=by
 unfold swappedStores;dsimp only;refine ss (λZ=>xP.no) λZ=>ss (λZ=>xP.no) λZ=>ss (λZ=>xP.no) λj=>ss (λZ=>xP.no) λZ=>ss (λz=>absurd (g.symm.trans z) (by decide)) λZ=>?_;have f:=(Tv.mp (T4.mpr j)).1;have d:=ON (x:=x) (y:=y) rfl rfl (bne_eq_false_iff_eq.mp f);exact⟨_,rfl,.inr ⟨Vs some d.1,by have:=d.2.1;rw[Uc]at this;exact Vl.mp this.1,by have:=d.2.2;rw[Uc]at this;exact Vl.mp this.1⟩⟩
theorem Jw {z:Str}{a b:V}{l:Loc}(h:x≠y):look z (put y b (put x a l))=look z (put x a (put y b l)):=by
 rw[gN,gN,gN,gN];by_cases d:z=y
 ·rw[Vw d,Vv (λf=>h (f.symm.trans d)),Vw d]
 ·rw[Vv d,Vv d]
theorem MZ {d:List V}(h: [x,y].length=d.length):∃a b,d= [a,b]:=by
 induction d using Vz with
 |nil=>exact nomatch h
 |cons a r=>induction r using Vz with
  |nil=>exact nomatch h
  |cons b r=>induction r using Vz with
   |nil=>exact aV a b rfl
   |cons=>exact nomatch h
theorem H8 {z:Str}{l:Loc}{σ:List O}(hz:c.scope.names.lookup z=some .local):wr c z v l σ=.ok (put z v l) σ:=by unfold wr;rw[hz];rfl
theorem Jx {d:Pos}{a b:V}{l:Loc}{σ:List O}(f:c.scope.names.lookup x=some .local)(g:c.scope.names.lookup y=some .local):target c (.Tuple [.Name x px,.Name y d] k p') (.tup [a,b]) l σ=.ok (put y b (put x a l)) σ:=by
 show eG c [x,y] [a,b] l σ=_;rw[ng,my (H8 f),ng,my (H8 g)];rfl
theorem Jy {d:List Expr}{xs:List Str}{l:Loc}{σ:List O}(f:names? d=some xs)(h:∀vs,v=.tup vs-> ¬xs.length=vs.length):target c (.Tuple d k p') v l σ=.bad:=by
 show(names? d).elim _ _=_
 rw[f]
 show(jB v).elim _ _=_
 induction hv:jB v using Vx with
 |none=>rfl
 |some vs=>exact Vv (h vs (xC hv))
theorem Gk(hh:A.handled=none){va vb:V}{s:Shared}{φ:al}{σ:List O}{Q:Flow->Shared->Prop}(hxy:x≠y)(hx:c.scope.names.lookup x=some .local)(hy:c.scope.names.lookup y=some .local)(S:W.St (ao fs) φ σ s.heap)(L:W.Loc E c l φ s.heap)(z:VR φ s.heap (.tup [va,vb]) u)
  (q:aj W fs [E.locals] (FR W E c) (.ok (.next,put y vb (put x va l)) σ) s φ Q Er):wpAny (model W.prog W.w) A (unpackItems u ([x,y]:List Str).length none>>=λitems=>assignInOrder ([bindName E y,bindName E x]) items.reverse>>=λZ=>pure .next) Q Er s:=by
 refine jz z.tup' λad ob us nn zz et ct dt rt=>?_;rw[zz];refine aW rt.cons' λua us1 e1 za B=>aW B.cons' λub us2 e2 zb G=>?_;have g:us.toList= [ua,ub]:=by rw[e1,e2,G.nil']
 rw[show([x,y]:List Str).length=us.toList.toArray.size by rw[g];rfl];refine Vn (wpAny_unpackItems_tuple hh ⟨ob,et,ct,nn,dt⟩ λh' sb=>?_);rw[show us.toList.toArray.toList.reverse= [ub,ua] by rw[g];rfl];have kk:∀b o,s.heap.get? b=some o->h'.get? b=some o:=λb o e=>sb b o (Va (UV e)) e
 clear zz g e1 e2 rt B G et ct dt
 refine af (S.grow kk) λS' g'=>?_;have L':=L.go S g';refine Vn (IO (wpAny_bindName (p9 (l:=l) (s:= {s with heap:=h'}) S' L' (VR.go S au g' zb) ?_)));rw[H8 hy];intro _ H m φ₂ C d p;refine IO (wpAny_bindName (p9 (l:=put y vb l) (s:= {s with heap:=H,toks:=m}) C p (VR.go S' L'.offL d (VR.go S au g' za)) ?_));rw[H8 hx];intro _ N j f J P U;refine PyProof.Rows.assignInOrder_nil (Vq ?_);exact q .next N j f J (Go.trans L.offL (g'.more L.offL) (Go.trans L'.offL d P)) ⟨LocR.congr U λz=>Jw hxy,rfl⟩
theorem zP(hh:A.handled=none){j:Pos}{k2:Nat}{vs:List Expr}{m:M V}{l:Loc}(H:x≠y)(w:E.kindOf x=some .local)(B:E.kindOf y=some .local)(J:swappedStores [.Tuple [.Name x px,.Name y j] k p'] (.Tuple vs k2 p2) E=pure (some [x,y]))(Z:aI W A fs E c l VR (eval (.Tuple vs k2 p2) E) m):
  bT W A fs E c l (exec (.Assign [.Tuple [.Name x px,.Name y j] k p'] (.Tuple vs k2 p2) pos) E) (mq m λv=>mq (target c (.Tuple [.Name x px,.Name y j] k p') v l) λl'=>mr (.next,l')):=λs φ σ Q Er S L p=>by
 rw[exec_Assign_arm];have U:swapsWithSole [.Tuple [.Name x px,.Name y j] k p'] (.Tuple vs k2 p2) pos.line E=pure false:=by unfold swapsWithSole;exact jd rfl
 rw[U,J];refine Vn (UU (Vn (Vq ?_)));show wpAny _ A (eval (.Tuple vs k2 p2) E>>=_) _ _ _;refine Vn (Z.afterX S L p λv u s₁ G σ₁ f d z g q=>Vn (Vq ?_));refine Vn (wpAny_rule ?_)
 clear Z U J p
 replace w:c.scope.names.lookup x=some .local:=(jk d x).symm.trans w
 replace B:c.scope.names.lookup y=some .local:=(jk d y).symm.trans B
 by_cases C:∃P N,v=.tup [P,N]
 ·refine cI C λP N C=>?_
  rw[C]at z q;rw[my (Jx w B)]at q;exact Gk hh H w B f d z q
 ·rw[mu (Jy (xs:= [x,y]) rfl λvs e hl=>cI (MZ hl) λa b e2=>C ⟨a,b,by rw[e,e2]⟩)]at q
  exact q.elim
theorem sw(hh:A.handled=none){j:List Expr}{m:M V}(hc:im e=false)(d:oQ j e=true)(y:aI W A fs E c l VR (eval e E) m):
  bT W A fs E c l (exec (.Assign [.Tuple j k p'] e pos) E) (mq m λv=>mq (target c (.Tuple j k p') v l) λl'=>mr (.next,l')):=λs φ σ Q Er S L p=>by
 have plain:swappedStores [.Tuple j k p'] e E=pure none->wpAny (model W.prog W.w) A (exec (.Assign [.Tuple j k p'] e pos) E) Q Er s:=λhw=>by
  refine wpAny_Assign_stores (y.afterX S L p λv u s₁ P σ₁ J f z g q=>?_) (by unfold swapsWithSole;exact jd hc) hw;show wpAny _ A (assignAll u [assign (.Tuple j k p') E]) _ _ _;rw[assignAll];exact jl hh J f z (aj.bind f.offL q λl' Z σ₂ G tk N C g₂ B H=>H.ret0 (s:= {s₁ with heap:=G,toks:=tk}) (tk:=tk) C ⟨B,rfl⟩)
 induction e using Vy with
 |Tuple vs k2 p2=>
  induction hq:MA j using Vx with
  |none=>unfold oQ at d;rw[hq]at d;exact ff d
  |some q=>
   refine cI (MB hq) λpx py hts=>?_;have d:=Tu.mp (show(decide (q.1≠q.2)&& !(vs.all (constantsAlone 8)))=true by unfold oQ at d;rw[hq]at d;exact d);rw[hts]at plain p ⊢;refine aa (Gj (E:=E) (x:=q.1) (y:=q.2) (p:=px) (q:=py) (p₁:=p') (p₂:=p2) (k:=k) (k₂:=k2) (vs:=vs) (T5 _▸d.2)) λr hr U=>U.elim (λz=>plain (z▸hr)) λz=>zP hh (Ub d.1) z.2.1 z.2.2 (z.1▸hr) y s φ σ Q Er S L p
 |_=>exact plain rfl
end
section
variable {W:Wd} {A:Around} {fs:List Env} {X Y:List Addr} {E:Env} {c:Cx} {l:Loc}
variable {F:List Addr} {φ φ' φ'':al} {σ:List O} {h h' h'' h₀:Heap} {a I:Addr} {it:It} {i:Nat}
def M0(W:Wd)(E:Env)(c:Cx):al->Heap->Option V->Value×Value->Prop:=λφ h q b=>W.Loc E c [] φ h/\ ∃k t v,q=some (.tup [.str k,v])/\b.1=.str k t/\VR φ h v b.2
theorem Cf(hh:A.handled=none){s:Shared}{φ:al}{σ:List O}{Qt:Value×Value->Shared->Prop}{Qn:Shared->Prop}{Er:Value->Shared->Prop}
  (ev:∀l e,aI W A fs E c l VR (eval e E) (It0.ev c l e))
  (S:W.St (ao fs) φ σ s.heap)(L:W.Loc E c [] φ s.heap)(z:VR φ s.heap v u)
  (p:aj W fs [E.locals] (M0 W E c) (eQ It0 c t kx vx v σ) s φ Qt Er):
  wpAny (model W.prog W.w) A (assign t E u) (λZ m=>wpAny (model W.prog W.w) A (forIn ([]:List Expr) true λc r=>if r=true then do let ok <-isTrue c E (eval c E);pure (ForInStep.yield ok)else pure (ForInStep.yield r)) (λok d=>
   if ok=true then wpAny (model W.prog W.w) A (eval kx E) (λkv C=>wpAny (model W.prog W.w) A (eval vx E) (λvv J=>Qt (kv,vv) J) Er C) Er d else Qn d) Er m) Er s:=by
 unfold eQ at p;refine jl hh S L z (aj.bind L.offL p λl' Z σ₁ G tk φ₁ S₁ g j q=>?_);refine wpAny_tests_nil ?_;rw[Vw rfl];refine(ev l' kx).afterG (s:= {s with heap:=G,toks:=tk}) j.offL S₁ j q λk w m φ₂ σ₂ H f N g₂ P=>(ev l' vx).afterG f.offL H f P λy w' d φ₃ σ₃ U L₃ z₃ g₃ B=>?_;cases N with
 |str x tk'=>exact B.ret0 (tk:=d.toks) U ⟨L₃.drop,x,tk',y,rfl,rfl,z₃⟩
 |_=>exact B.elim
theorem Cg(ps:List V)(k:Str)(v:V):bR (ps++ [.tup [.str k,v]])=put k v (bR ps):=by
 unfold bR;rw[List.foldl_append];rfl
theorem qa {d:Type}(x:Str)(v:d)(l:List (Str×d)):(put x v l).length<=l.length+1:=by
 rw[si];split<;>omega
theorem Ef:∀ps:List V,(bR ps).length<=ps.length:=by
 intro ps;unfold bR;have:∀(ps:List V) (a:List (Str×V)),(ps.foldl (λl p=>MC l (mi p)) a).length<=a.length+ps.length:=by
  intro ps;induction ps with
  |nil=>intro a;simp
  |cons p r ih=>
   intro a;rw[List.foldl_cons];refine U7 (ih _) ?_;have:=qa (mi p).1 (mi p).2 a
   show(put (mi p).1 (mi p).2 a).length+r.length<=_
   rw[Ug];exact tt (TD this _) (U5 (TZ _ 1 _))
 simpa using this ps []
theorem cj.stays(x:cj W.prog W.w h D kvs b)(k:∀o,h.get? D=some o->h'.get? D=some o):cj W.prog W.w h' D kvs b:=oY x k
theorem cj.at_(x:cj W.prog W.w h D kvs b):∃o,h.get? D=some o/\side o:=by
 refine aa (x) λep d Z=>?_;obtain⟨o,es,e,f,hd,r⟩:=d;refine⟨o,e,bP hd⟩
theorem Ch(hh:A.handled=none){cE:Env}{cc:Cx}{kx vx iter:Expr}{sc:Scope}{pos:Pos}{b:Int}{α β:Type}{RV:al->Heap->α->β->Prop}{s₀:Shared}{φ₀:al}{g:List V->M α}{Q:β->Shared->Prop}{Er:Value->Shared->Prop}{R:Result->Shared->Prop}
  (hwf:wf<=2^20)(ht:b6 it t=true)(htn:bZ t=true)(hDI:D≠I)(hDC:D≠cE.locals)(hIC:I≠cE.locals)(hI0:s₀.heap.get? I=none)(hD0:s₀.heap.get? D=none)(hC0:s₀.heap.get? cE.locals=none)
  (ev:∀l e,aI W A fs cE cc l VR (eval e cE) (It0.ev cc l e))
  (done:∀s φ σ N H,s= {s₀ with heap:=s.heap,toks:=s.toks}->W.St (ao fs) φ σ s.heap->Go (ao fs) [] φ₀ φ s₀.heap s.heap->W.Loc cE cc [] φ s.heap->Asd W (ao fs) φ s.heap D->cj W.prog W.w s.heap D H b->PR φ s.heap (bR N) H->aj W fs X RV (g N σ) s₀ φ₀ Q Er->R (.ok .next) s)
  (n:Nat){s:Shared}{φ:al}{σ:List O}{N:List V}{H:List (Str×Value)}{i:Nat}(he:s= {s₀ with heap:=s.heap,toks:=s.toks})(S:W.St (ao fs) φ σ s.heap)(G:Go (ao fs) [] φ₀ φ s₀.heap s.heap)(L:W.Loc cE cc [] φ s.heap)(AI:Asd W (ao fs) φ s.heap I)(x:ItR φ s.heap it i I)
  (AD:Asd W (ao fs) φ s.heap D)(gD:cj W.prog W.w s.heap D H b)(za:PR φ s.heap (bR N) H)(hn:N.length+n<=wf)
  (p:aj W fs X RV (mq (cz (eQ It0 cc t kx vx) it n i N) g σ) s₀ φ₀ Q Er):
  codeAny (model W.prog W.w) A (.compLoop (.DictComp kx vx [⟨t,iter,[],0⟩] sc pos) 0 (.ref I) (.ref D) cE) R s:=by
 have htq:Cd t:=jU htn;obtain⟨J,mk,el⟩:∃J:Nat->Shared->Prop,(∀ {n s i φ σ N H},s= {s₀ with heap:=s.heap,toks:=s.toks}->W.St (ao fs) φ σ s.heap->Go (ao fs) [] φ₀ φ s₀.heap s.heap->W.Loc cE cc [] φ s.heap->Asd W (ao fs) φ s.heap I->ItR φ s.heap it i I->Asd W (ao fs) φ s.heap D->cj W.prog W.w s.heap D H b->PR φ s.heap (bR N) H->N.length+n<=wf->aj W fs X RV (mq (cz (eQ It0 cc t kx vx) it n i N) g σ) s₀ φ₀ Q Er->J n s)/\ ∀ {n s} {P:Prop},J n s->(∀i φ σ N H,s= {s₀ with heap:=s.heap,toks:=s.toks}->W.St (ao fs) φ σ s.heap->Go (ao fs) [] φ₀ φ s₀.heap s.heap->W.Loc cE cc [] φ s.heap->Asd W (ao fs) φ s.heap I->ItR φ s.heap it i I->Asd W (ao fs) φ s.heap D->cj W.prog W.w s.heap D H b->PR φ s.heap (bR N) H->N.length+n<=wf->aj W fs X RV (mq (cz (eQ It0 cc t kx vx) it n i N) g σ) s₀ φ₀ Q Er->P)->P:=
  ⟨λn s=>∀P:Prop,(∀i φ σ N H,s= {s₀ with heap:=s.heap,toks:=s.toks}->W.St (ao fs) φ σ s.heap->Go (ao fs) [] φ₀ φ s₀.heap s.heap->W.Loc cE cc [] φ s.heap->Asd W (ao fs) φ s.heap I->ItR φ s.heap it i I->Asd W (ao fs) φ s.heap D->cj W.prog W.w s.heap D H b->PR φ s.heap (bR N) H->N.length+n<=wf->aj W fs X RV (mq (cz (eQ It0 cc t kx vx) it n i N) g σ) s₀ φ₀ Q Er->P)->P,λa b c d e f g h i j k Z z=>z _ _ _ _ _ a b c d e f g h i j k,λj z=>j _ z⟩
 refine codeAny_compLoop_testsD J (λn s hI=>?_) n (mk he S G L AI x AD gD za hn p) (λv=>htq _ _)
 clear p hn za gD AD x AI L G S he
 refine aB λgP gH=>el hI λi φ σ N H he S G L AI x AD gD za hn p=>?_;induction n using Nat.casesAuxOn with
 |zero=>exact p.elim
 |succ k=>
  rw[cz]at p;rw[mx]at p;induction hr:ci it i σ using VD with
  |bad=>refine gH ?_;rw[mu hr]at p;exact p.elim
  |exc e σ'=>exact(nK hr).elim
  |ok r σ'=>
   have:=lV hr;subst this;rw[mz hr]at p;refine aa (gD.at_) λoD eD sD=>?_;induction r using Vx with
   |none=>
    refine gH<|pa hh S x hr λh' kk=>af (AD.but hDI eD kk) λAD' gD'=>done {s with heap:=h'} φ σ' N H (by rw[he]) (S.but AI kk) (G.but hI0 kk) (LocR.but L AI (Vu hIC) kk) AD' (gD.stays λo e=>kk _ _ hDI e) (PR.but AI.sd kk za) p
   |some v=>
    dsimp only at p;rw[mx]at p;by_cases hq:∃q σ₅,eQ It0 cc t kx vx v σ'=.ok q σ₅
    case neg=>
     rw[mu (ut λa b z=>hq ⟨a,b,z⟩)]at p;exact p.elim
    case pos=>
     refine cI (hq) λq σ₅ hq=>?_;rw[mz (xN hq)]at p;refine gH<|Vp (o7 (Q:=λu s₁=>∃h' tk,s₁= {s with heap:=h',toks:=tk}/\(∀b o,b≠I->s.heap.get? b=some o->h'.get? b=some o)/\ItR φ h' it (i+1) I/\VR φ h' v u) S AI ht x hr λu h' tk kk x' zu=>aV h' tk ⟨rfl,kk,x',zu⟩) (λr s₁ hr'=>?_) λZ Z e=>e;obtain⟨u,rfl,hr'⟩:=hr';rw[htq]at hr';refine vI (Vp hr' (λZ s₁ hr'=>?_) λZ Z e=>e);refine aB λgP gH=>bM (hr') λh' tk gz2 kk x' zu=>?_;subst gz2;have S₁:=S.but AI kk;refine aa (x'.at_) λoI gI sI=>?_;have AI':Asd W (ao fs) φ h' I:=AI.self gI sI;refine af (AD.but hDI eD kk) λAD' eD'=>?_;have L₁:=LocR.but L AI (Vu hIC) kk;have G₁:=G.but hI0 kk;have za₁:PR φ h' (bR N) H:=PR.but AI.sd kk za;have gD₁:cj W.prog W.w h' D H b:=gD.stays λo e=>kk _ _ hDI e;have cb:∀(y:Value×Value) (B:Shared) (C:al),B= {s₀ with heap:=B.heap,toks:=B.toks}->W.St (ao fs) C σ₅ B.heap->Go (ao fs) [cE.locals] φ C h' B.heap->M0 W cE cc C B.heap q y-> ∀Er':Value->Shared->Prop,
       wpAny (model W.prog W.w) A (dictSet D y.1 y.2) (λZ s₆=>∃m,m<k+1/\J m s₆) Er' B:=by
      intro y B C he₅ S₅ U z₅ Er';have hCI:I∉ [cE.locals]:=by simpa using hIC
      have hCD:D∉ [cE.locals]:=by simpa using hDC
      refine aB λgP gH=>af (AI'.go hCI gI U) λAI₅ gI₅=>af (AD'.go hCD eD' U) λAD₅ eD₅=>?_;have gD₅:cj W.prog W.w B.heap D H b:=gD₁.stays λo e=>by rw[eD']at e;injection e with e;rw[<-e];exact eD₅
      have G₅:Go (ao fs) [] φ₀ C s₀.heap B.heap:=Go.transN au G₁ U λa ha=>.inr (by rw[TW.mp ha];exact hC0);obtain⟨L₅,ky,tt,vy,rfl,hk,z₅⟩:=z₅;obtain⟨y1,y2⟩:=y;refine gH ?_;dsimp only at hk z₅ ⊢;subst hk;have x₅:ItR C B.heap it (i+1) I:=x'.map (λo e=>by rw[gI]at e;injection e with e;rw[<-e];exact gI₅) (λV v z=>VR.go S₁ L₁.offL U z) U.pre;have za₅:PR C B.heap (bR N) H:=PR.go S₁ L₁.offL U za₁;refine jY gD₅ (by
       rw[za₅.length];have:=Ef N;have:sizeLine=16777216:=sizeLine_eq;omega) λh₆ tk₆ gD₆ sb=>?_
      have kk₆:∀b o,b≠D->B.heap.get? b=some o->h₆.get? b=some o:=λb o hb e=>(sb.2 b hb).trans e;refine af (AI₅.but (Vu hDI) gI₅ kk₆) λAI₆ gI₆=>aa (gD₆.at_) λoD₆ eD₆ sD₆=>?_;have AD₆:Asd W (ao fs) C h₆ D:=AD₅.self eD₆ sD₆;refine⟨k,Un _,mk (by rw[he₅]) (S₅.but AD₅ kk₆) (G₅.but hD0 kk₆) (LocR.but L₅ AD₅ (Vu hDC) kk₆) AI₆ (x₅.map (λo e=>by rw[gI₅]at e;injection e with e;rw[<-e];exact gI₆) (λV v z=>VR.but AD₅.sd kk₆ z) (Uk _)) AD₆ gD₆ (by rw[Cg];exact(PR.but AD₅.sd kk₆ za₅).put (VR.but AD₅.sd kk₆ z₅)) (by rw[TT,List.length_singleton];exact Ln hn) p⟩
     have:=Cf (Er:=notedBy (model W.prog W.w) A cE λe s'=>R (.error e) s') (Qn:=λZ=>False) hh ev (s:= {s with heap:=h',toks:=tk}) S₁ L₁ zu (Qt:=λb B=>B= {s₀ with heap:=B.heap,toks:=B.toks}/\ ∃C,W.St (ao fs) C σ₅ B.heap/\Go (ao fs) [cE.locals] φ C h' B.heap/\M0 W cE cc C B.heap q b) (by
      rw[hq];exact λb h₅ tk₅ C S₅ U z₅=>⟨by rw[he],C,S₅,U,z₅⟩)
     refine gH<|Vp this (λZ s₂ h₂=>Vp h₂ (λok s₃ h₃=>?_) λZ Z e=>e) λZ Z e=>e;induction ok using VA with
     |true=>
      rw[Vw rfl]at h₃ ⊢;exact Vp h₃ (λy s₄ h₄=>Vp h₄ (λy' B h₅=>by
       obtain⟨e₄,C,S₅,U,z₅⟩:=h₅;exact cb (y,y') B C e₄ S₅ U z₅ _) λZ Z e=>e) λZ Z e=>e
     |false=>
      rw[Vv (by simp)]at h₃;exact h₃.elim
end
section
variable {W:Wd} {A:Around} {fs:List Env} {X Y:List Addr} {E:Env} {c:Cx} {l:Loc}
variable {F:List Addr} {φ φ' φ'':al} {σ:List O} {h h' h'' h₀:Heap} {a I:Addr} {it:It} {i:Nat}
theorem pf(h:Heap):∃b,cj W.prog W.w (h.push {cls:=.type "dict",data:=.dict #[] }) h.objs.size [] b:=by
 obtain⟨ep,d⟩:=(Heap.DictOf.new (knd:=strKind W.prog W.w) h).dictAt;exact⟨(ep:Int),ep,d,by simp⟩
theorem xQ(Wk:WdOk5 W)(hh:A.handled=none)(hwf:wf<=2^20)
  (ev:∀ {E c} l e,aI W A fs E c l VR (eval e E) (It0.ev c l e)):
  aI W A fs E c l VR (eval (.DictComp kx vx [⟨t,iter,[],0⟩] sc pos) E) (if !bZ t|| !fH c sc then bad else mq (jT It0 c l iter) λit=>if b6 it t=false then bad else
     mq (cz (eQ It0 (cr c sc) t kx vx) it wf 0 []) λps=>aC (.dict (bR ps))):=λs φ σ Q Er S L p=>by
 refine aB λgP gH=>?_
 split at p
 ·exact p.elim
 rename_i hc
 simp only[Bool.or_eq_true,not_or,T5]at hc;refine af (hc) λc2 hok=>?_;have c2':bZ t=true:=by simpa using c2
 have hok:fH c sc=true:=by simpa using hok
 refine fD (ip hok) λk1 k2 k3 k4=>gH ?_;rw[arm_eval_DictComp];have Zz:=rf (k:=λitv d=>wpAny (model W.prog W.w) A newDict (λacc s₃=>wpAny (model W.prog W.w) A (newFunctionEnv sc E.globals (fm E sc.names []) [] E.qual none .none (some E)) (λcenv s₄=>
    codeAny (model W.prog W.w) A (.compStart (.DictComp kx vx [⟨t,iter,[],0⟩] sc pos) 0 itv acc {cenv with scope:=relabel sc E}) (pc (model W.prog W.w) A none Q Er cenv.locals acc) s₄) Er s₃) Er d) Wk (ev (E:=E) (c:=c) l) S L p ?_
 ·exact xM (use:=none) rfl Zz.2 (pb L hok) k1 k3 Zz.1
 intro it I d j σ₂ he G P L₂ AI x hI q
 split at q
 ·exact q.elim
 rename_i c1
 have c1':b6 it t=true:=by simpa using c1
 refine aa (x.at_) λoI gI sI=>wpAny_newObj_type (wpAny_newFunctionEnv k2 (by intro y hy;simp at hy) (λf g B=>?_) k1);dsimp only at g B ⊢;obtain⟨b0,hnew⟩:=pf (W:=W) d.heap;generalize hH1:d.heap.push {cls:=.type "dict",dict:=none,data:=.dict #[] }=C at g B hnew ⊢;have hD2:d.heap.get? d.heap.objs.size=none:=bK;have hC2:C.get? C.objs.size=none:=bK;have k₁:∀b o,d.heap.get? b=some o->C.get? b=some o:=λb o e=>hH1▸Tk _ e;have k₂:∀b o,C.get? b=some o->f.get? b=some o:=λb o e=>by
  have hb:b≠C.objs.size:=λq=>by rw[q,hC2]at e;cases e
  rw[B.2 b hb];exact Tk _ e
 have hC2':d.heap.get? C.objs.size=none:=by
  induction e:d.heap.get? C.objs.size using Vx with
  |none=>rfl
  |some o=>have:=k₁ _ _ e;rw[hC2]at this;cases this
 refine aB λgP gH=>af (G.grow (h':=f) λb o e=>k₂ b o (k₁ b o e)) λS₄ H=>?_;have G₄:=Go.trans au P H;have gD:cj W.prog W.w f d.heap.objs.size [] b0:=hnew.stays λo e=>k₂ _ _ e;refine aa (hnew.at_) λoD eDH Z=>aa (gD.at_) λoD' eD sD=>?_;have AD:Asd W (ao fs) j f d.heap.objs.size:=Asd.new G hD2 λo e=>by rw[eD]at e;injection e with e;rw[<-e];exact sD
 have AC:Asd W (ao fs) j f C.objs.size:=Asd.new G hC2' λo e=>by
  refine aB λgP gH=>bw (g) λo' es ep e' d' Z=>gH ?_;rw[e']at e;injection e with e;rw[<-e];exact bP d'
 refine af (AI.go (by simp) gI H) λAI₄ gI₄=>?_;have x₄:ItR j f it 0 I:=x.map (λo e=>by rw[gI]at e;injection e with e;rw[<-e];exact gI₄) (λV v z=>VR.go G au H z) (Uk _);have hD0:s.heap.get? d.heap.objs.size=none:=by
  by_cases hφ:d.heap.objs.size∈aU φ
  ·exact absurd (dO G₄.pre _ hφ) AD.phi
  ·refine dP au P hφ hD2
 have hC0:s.heap.get? C.objs.size=none:=by
  by_cases hφ:C.objs.size∈aU φ
  ·exact absurd (dO G₄.pre _ hφ) AC.phi
  ·refine dP au P hφ hC2'
 have hDI:d.heap.objs.size≠I:=λq=>by rw[q]at hD2;rw[gI]at hD2;cases hD2
 have hDC:d.heap.objs.size≠C.objs.size:=λq=>by rw[q]at eDH;rw[hC2]at eDH;cases eDH
 have hIC:I≠C.objs.size:=λq=>by rw[q]at gI;rw[hC2']at gI;cases gI
 have cL:W.Loc (compEnvC sc (fm E sc.names []) C.objs.size E) (cr c sc) [] j f:=A0 (L₂.go G H) hok AC ⟨_,g⟩;have loop:∀tk,codeAny (model W.prog W.w) A (.compLoop (.DictComp kx vx [⟨t,iter,[],0⟩] sc pos) 0 (.ref I) (.ref d.heap.objs.size) (compEnvC sc (fm E sc.names []) C.objs.size E)) (pc (model W.prog W.w) A none Q Er C.objs.size (.ref d.heap.objs.size)) {d with heap:=f,toks:=tk}:=λtk=>
  Ch (cc:=cr c sc) (s₀:=s) (φ₀:=φ) (s:= {d with heap:=f,toks:=tk}) hh hwf c1' c2' hDI hDC hIC hI hD0 hC0 ev
   (λJ N σ₅ acc accU he₅ S₅ G₅ U AD₅ gD₅ za₅ q₅=>by
    refine aa (U.ns) λm hm Z=>bw (id hm) λoC esC epC eC dC Z=>?_;have eC':J.heap.get? C.objs.size=some oC:=eC;have AC₅:Asd W (ao fs) N J.heap C.objs.size:=⟨U.off,AC.fr,U.offB,λo e=>by rw[eC']at e;injection e with e;rw[<-e];exact bP dC⟩;refine⟨m,hm,λh' sb=>?_⟩;have kk:∀b o,b≠C.objs.size->J.heap.get? b=some o->h'.get? b=some o:=λb o hb e=>(sb.2 b hb).trans e;refine aa (gD₅.at_) λoD₅ eD₅ Z=>af (AD₅.but hDC eD₅ kk) λAD' eD'=>?_;have S':=(S₅.but AC₅ kk).adopt (ax:=.base b0) AD' rfl (.dict (l:=bR acc) (gD₅.stays λo e=>kk _ _ hDC e) (PR.but AC₅.sd kk za₅));have:=q₅ (.ref d.heap.objs.size) h' J.toks (N++ [(d.heap.objs.size,.base b0)]) S' (Go.adopt rfl (G₅.but hC0 kk) hD0) (.ref (p:=(d.heap.objs.size,.base b0)) (by rw[<-S₅.len,SW (Vi _),Vb];rfl));rw[he₅];exact this)
   wf (by rw[he]) S₄ G₄ cL AI₄ x₄ AD gD .nil (by simp) q
 refine gH<|codeAny_compStart_dict (loop _) (vK (φ:=j) (it:=it) (i:=0) (t:=t) c1' c2' x₄ (loop _))
theorem Eg:aI W A fs E c l VR (eval (.Dict [] [] pos) E) (aC (.dict [])):=λs φ σ Q Er S L p=>by
 refine wpAny_Dict_empty ?_;obtain⟨b,d⟩:=pf (W:=W) s.heap;have k:∀b o,s.heap.get? b=some o->(s.heap.push {cls:=.type "dict",data:=.dict #[] }).get? b=some o:=λb o e=>Tk _ e;refine af (S.grow k) λm g=>aa (d.at_) λw j q=>?_;have f:Asd W (ao fs) φ (s.heap.push {cls:=.type "dict",data:=.dict #[] }) s.heap.objs.size:=Asd.new S bK λo e=>by rw[j]at e;injection e with e;rw[<-e];exact q
 exact p (.ref s.heap.objs.size) _ s.toks (φ++ [(s.heap.objs.size,.base b)]) (m.adopt (ax:=.base b) f rfl (.dict (l:= []) d .nil)) (Go.adopt rfl g bK) (.ref (p:=(s.heap.objs.size,.base b)) (by rw[<-S.len,SW (Vi _),Vb];rfl))
theorem aI.afterS {H B β q:Type}{RV:al->Heap->H->β->Prop}{RV':al->Heap->B->q->Prop}{t:Sem β}{m:M H}{f:H->M B}(x:aI W A fs E c l RV t m)
  {s₀ s:Shared}{φ₀ φ:al}{σ:List O}{Q:q->Shared->Prop}{Q₁:β->Shared->Prop}{Er:Value->Shared->Prop}(O:eS X φ₀ s₀.heap)(J:s= {s₀ with heap:=s.heap,toks:=s.toks})(S:W.St (ao fs) φ σ s.heap)(L:W.Loc E c l φ s.heap)
  (G:Go (ao fs) [] φ₀ φ s₀.heap s.heap)(p:aj W fs X RV' (mq m f σ) s₀ φ₀ Q Er)
  (k:∀a b s₁ d σ₁,s₁= {s₀ with heap:=s₁.heap,toks:=s₁.toks}->W.St (ao fs) d σ₁ s₁.heap->W.Loc E c l d s₁.heap->RV d s₁.heap a b->Go (ao fs) [] φ d s.heap s₁.heap->aj W fs X RV' (f a σ₁) s₀ φ₀ Q Er->Q₁ b s₁):wpAny (model W.prog W.w) A t Q₁ Er s:=by
 refine x s φ σ _ _ S L ?_;unfold mq at p;induction hm:m σ using VD with
 |ok a σ₁=>
  rw[hm]at p;exact λb C tk d j g z=>k a b {s with heap:=C,toks:=tk} d σ₁ (by rw[J]) j (L.go S g) z g p
 |exc e σ₁=>rw[hm]at p;exact λN h' tk φ' x=>by rw[J];exact p N h' tk φ' (ErrR.more (x.before au G))
 |bad=>rw[hm]at p;exact p.elim
theorem Eh {k1 k2 k3:Str}{c1 c2 c3:Nat}{p1 p3:Pos}{e1 e2 e3:Expr}{m1 m2 m3:M V}(x1:aI W A fs E c l VR (eval e1 E) m1)(x2:aI W A fs E c l VR (eval e2 E) m2)(x3:aI W A fs E c l VR (eval e3 E) m3):
  aI W A fs E c l VR (eval (.Dict [some (.Constant (.str k1) c1 p1),some (.Constant (.str k2) c2 p2),some (.Constant (.str k3) c3 p3)] [e1,e2,e3] pos) E)
   (mq m1 λv1=>mq m2 λv2=>mq m3 λv3=>aC (.dict (put k3 v3 (put k2 v2 (put k1 v1 []))))):=λs φ σ Q Er S L p=>by
 refine wpAny_Dict_any rfl rfl (by simp) (by simp)<|aB λgP gH=>?_;obtain⟨b,d⟩:=pf (W:=W) s.heap;have k:∀b o,s.heap.get? b=some o->(s.heap.push {cls:=.type "dict",data:=.dict #[] }).get? b=some o:=λb o e=>Tk _ e;refine af (S.grow k) λS' g=>aa (d.at_) λoD eD sD=>?_;have AD:Asd W (ao fs) φ (s.heap.push {cls:=.type "dict",data:=.dict #[] }) s.heap.objs.size:=Asd.new S bK λo e=>by rw[eD]at e;injection e with e;rw[<-e];exact sD
 have L':=L.go S g;refine gH ?_;unfold pairTrees pairTrees pairTrees pairTrees;have key:∀ {U:Str} {cc:Nat} {pp:Pos} {s':Shared} {Q':Value->Shared->Prop},(∀t tk,Q' (.str U t) {s' with toks:=tk})->wpAny (model W.prog W.w) A (eval (.Constant (.str U) cc pp) E) Q' Er s':=λhq=>PySem.Calls.Constant_str (hq _ _);refine evalPairs_cons (key λt1 tk1=>Vn ?_);refine x1.afterS (s:= {s with heap:=s.heap.push {cls:=.type "dict",data:=.dict #[] },toks:=tk1}) au rfl S' L' g p λv1 u1 s₁ φ₁ σ₁ he₁ N L₁ z₁ J q₁=>Vn (UU (Vq ?_));refine af (AD.go (by simp) eD J) λAD₁ eD₁=>evalPairs_cons (key λt2 tk2=>Vn ?_);have G:=Go.trans au g J;refine x2.afterS (s:= {s₁ with toks:=tk2}) au (by rw[he₁]) N L₁ G q₁ λv2 u2 s₂ φ₂ σ₂ he₂ C L₂ z₂ B q₂=>Vn (UU (Vq ?_));refine af (AD₁.go (by simp) eD₁ B) λAD₂ eD₂=>evalPairs_cons (key λt3 tk3=>Vn ?_);have H:=Go.trans au G B;refine x3.afterS (s:= {s₂ with toks:=tk3}) au (by rw[he₂]) C L₂ H q₂ λv3 u3 q j σ₃ he₃ P L₃ z₃ m q₃=>Vn (UU (Vq ?_));refine af (AD₂.go (by simp) eD₂ m) λf eD₃=>?_;have G₃:=Go.trans au H m;refine evalPairs_nil ?_;unfold storeAll;have d₃:cj W.prog W.w q.heap s.heap.objs.size [] b:=d.stays λo e=>by rw[eD]at e;injection e with e;rw[<-e];exact eD₃
 have zz₁:=VR.go C au m (VR.go N au B z₁);have zz₂:=VR.go C au m z₂;rw[Uv];refine Vn (Vn (jY d₃ (by simp) λh₄ tk₄ d₄ sb₄=>Vq ?_));dsimp only;rw[Uv];refine Vn (Vn (jY (s:= {q with heap:=h₄,toks:=tk₄}) d₄ (by rw[sizeLine_eq];have:=qa k1 u1 [];simp at this ⊢;exact Rd this) λh₅ tk₅ d₅ sb₅=>Vq ?_));dsimp only;rw[Uv];refine Vn (Vn (jY (s:= {q with heap:=h₅,toks:=tk₅}) d₅ (by rw[sizeLine_eq];have:=qa k1 u1 [];have:=qa k2 u2 (put k1 u1 []);simp at*;omega) λz tk₆ Z sb₆=>Vq ?_));dsimp only;rw[List.forIn_nil];refine Vq ?_;have U:∀b o,b≠s.heap.objs.size->q.heap.get? b=some o->z.get? b=some o:=λb o hb e=>(sb₆.2 b hb).trans ((sb₅.2 b hb).trans ((sb₄.2 b hb).trans e));refine aa (Z.at_) λo₆ e₆ s₆=>?_;have AD₆:Asd W (ao fs) j z s.heap.objs.size:=f.self e₆ s₆;have PR₆:PR j z (put k3 v3 (put k2 v2 (put k1 v1 []))) (put k3 u3 (put k2 u2 (put k1 u1 []))):=((PR.put (VR.but f.sd U zz₁) .nil).put (VR.but f.sd U zz₂)).put (VR.but f.sd U z₃);have:=q₃ (.ref s.heap.objs.size) z tk₆ (j++ [(s.heap.objs.size,.base b)]) ((P.but f U).adopt (ax:=.base b) AD₆ rfl (.dict Z PR₆)) (Go.adopt rfl (G₃.but bK U) bK) (.ref (p:=(s.heap.objs.size,.base b)) (by rw[<-P.len,SW (Vi _),Vb];rfl));rw[he₃];exact this
end
end Mine
end
noncomputable section
open PySem PySem.W PySem.Calls
set_option exponentiation.threshold 3000
namespace Mine
structure IsiOk (K:Frag) (C:Addr):Prop where
 notStr:kin_notT K C "str"=true
 get:plainGet K C "__class__"=true
 dct:hasDictIn K C=true
 cls:findIn K (.ref C) "__class__"=some (some (.builtin "object.__class__"))
 spc:specialIn K (.builtin "object.__class__") "__get__"=some (some (.builtin "getset_descriptor.__get__"))
 tak:takesIn K (.builtin "object.__class__")=some true
 mro:mroIn K C (.type "object")=some true
structure WdOk6 (W:Wd):Prop extends WdOk5 W where
 isi:W.mg "isinstance"=none/\W.mb "isinstance"=some (.builtin "isinstance")
 strT:W.mg "str"=none/\W.mb "str"=some (.type "str")
 vec:∃C,W.cl.at_ "Vector"=some C/\W.mg "Vector"=some (.ref C)/\IsiOk W.K C
 code:CodeHd W.B W.cl.code W.cl.tab
 blt':W.B.BuiltinsAt W.mg W.cl.tab
 gtab:mainGlobals≠W.cl.tab
section
variable {W:Wd} {A:Around} {fs:List Env} {X Y:List Addr} {E:Env} {c:Cx} {l:Loc}
variable {F:List Addr} {φ φ' φ'':al} {σ:List O} {h h' h'' h₀:Heap} {a I:Addr} {it:It} {i:Nat}
theorem Ci {i:Int}{n:Nat}(h:i.natAbs<2^n)(b:n<=1920):i.natAbs.log2<1920:=by
 by_cases hz:i.natAbs=0
 ·rw[hz];decide
 ·exact T2 ((Nat.log2_lt hz).mpr h) b
theorem Ei {f:Expr->M V}(C:∀e,aI W A fs E c l VR (eval e E) (f e))(x:List Expr):∀(b:Str) {s:Shared} {φ:al} {σ:List O} {Q:Value->Shared->Prop} {Er:Value->Shared->Prop},W.St (ao fs) φ σ s.heap->W.Loc E c l φ s.heap->b.length<=line->
  aj W fs [] VR (mq (ej f x b) (λs=>mr (V.str s)) σ) s φ Q Er->wpAny (model W.prog W.w) A (joinParts b (evalEach x E)) Q Er s:=by
 induction x using List.rec with
 |nil=>
  intro b s φ σ Q Er S L B p;exact PyProof.Rows.joinParts_nil (p.ret0 (tk:=s.toks+1) S (.str _ _)) (U7 B (by decide))
 |cons e r ihr=>
  intro b s φ σ Q Er S L B p;show wpAny _ A (joinParts b (eval e E::evalEach r E)) Q Er s;rw[ej]at p;induction hq:nh e using Vx with
  |none=>rw[hq]at p;exact p.elim
  |some q=>
   rw[hq]at p;induction q using Sum.casesOn with
   |inl st=>
    refine cI (DK hq) λk D y=>?_;rw[y]
    replace p:aj W fs [] VR (mq (if b.length+st.length<=line then ej f r (b++st)else bad) (λs=>mr (V.str s)) σ) s φ Q Er:=p
    refine PyProof.Rows.joinParts_cons (PySem.Calls.Constant_str ?_);by_cases d:b.length+st.length<=line
    ·rw[Vw d]at p
     exact⟨by rw[strLen_append];exact U7 d (by decide),ihr _ (s:= {s with toks:=s.toks+1}) S L (by rw[strLen_append];exact d) (p.after (tk:=s.toks+1) au (Go.refl _ _ _ _))⟩
    ·rw[Vv d]at p;exact p.elim
   |inr e'=>
    refine am (DL hq) λD y=>?_;rw[y]
    replace p:aj W fs [] VR (mq (mq (f e') λv=>mq (part b v) λa=>ej f r a) (λs=>mr (V.str s)) σ) s φ Q Er:=p
    rw[mx]at p;refine PyProof.Rows.joinParts_cons (PyProof.Rows.FormattedValue_plain ((C e').after S L p λv u s₁ j m o n z g q=>?_));rw[mx]at q;induction hi:eE v using Vx with
    |none=>rw[show part b v=bad by unfold part;rw[hi];rfl]at q;exact q.elim
    |some i=>
     rw[gK hi]at z q;refine am z.int' λt G=>?_;rw[G];by_cases d:i.natAbs<2^1000/\b.length+(Str.ofString (toString i)).length<=line
     ·rw[show part b (.int i)=mr (b++Str.ofString (toString i)) from Vw d]at q
      replace q:aj W fs [] VR (mq (ej f r (b++Str.ofString (toString i))) (λs=>mr (V.str s)) m) s₁ j Q Er:=q
      refine PyProof.Rows.formatField_int_small (Ci d.1 (by decide))<|⟨by rw[strLen_append];exact U7 d.2 (by decide),ihr _ (s:= {s₁ with toks:=s₁.toks+1+1}) o n (by rw[strLen_append];exact d.2) (q.after (tk:=s₁.toks+1+1) au (Go.refl _ _ _ _))⟩
     ·rw[show part b (.int i)=bad from Vv d]at q;exact q.elim
theorem Cj {f:Expr->M V}{d b:Expr}{r:List Expr}{pos:Pos}(g:∀e,aI W A fs E c l VR (eval e E) (f e)):
  aI W A fs E c l VR (eval (.JoinedStr (d::b::r) pos) E) (mq (ej f (d::b::r) Str.empty) λs=>mr (.str s)):=λs φ σ Q Er S L p=>
 PyProof.Rows.JoinedStr_many (Ei g (d::b::r) Str.empty S L (by decide) p)
theorem Jz {F:List Addr}(S:W.St F φ σ h){n:Nat}{g:Str}{xs:List (Str×V)}{p:Addr×Aux}(k:φ[n]?=some p)(o:σ[n]?=some (.inst g xs)):∃C d e,W.cl.at_ g=some C/\h.get? p.1=some (instObj C d)/\InstAt h p.1 (instObj C d) C (some e):=by
 refine aB λt j=>jc (kQ S k o) λC d m q hd f b r=>aa (lT f b.ns) λe I Z=>j<|bJ C d e ⟨q,f,I⟩
theorem Gl(S:W.St F φ σ h){v:V}{u:Value}{f:Str}(z:VR φ h v u)(e:nC σ v=some f):∃a C d b,u=.ref a/\W.cl.at_ f=some C/\h.get? a=some (instObj C d)/\InstAt h a (instObj C d) C (some b):=by
 refine aa (Tn.mp e) λq e m=>aa (Th.mp e) λn r j=>?_;rw[cS r]at z;refine aa z.ref' λk t o=>bw (Jz S o (rT j)) λC d b w p g=>vt k.1 C d b ⟨t, ?_,p,g⟩;rw[<-m];exact w
theorem xR(S:W.St F φ σ h){v:V}{u:Value}{f:Str}{C:Addr}(k:W.cl.at_ "Vector"=some C)(z:VR φ h v u)(e:nC σ v=some f)(m:f= "Vector"):∃a d b,u=.ref a/\InstAt h a (instObj C d) C (some b):=by
 rw[m]at e;refine mZ (Gl S z e) λa n d b j g Z I=>bJ a d b ⟨j, ?_⟩;rw[UB (k.symm.trans g)];exact I
theorem uu(r:WdOk6 W){e:Expr}{k:Str}{np G pos:Pos}{m:M V}(hk:c.scope.names.lookup ("isinstance":Str)=some .globalImplicit)(P:bI e=false)(x:aI W A fs E c l VR (eval e E) m):
  aI W A fs E c l VR (eval (.Call (.Name "isinstance" np) [e,.Name k G] [] pos) E) (if c.scope.names.lookup k=some .globalImplicit then mq m (isV k)else bad):=λs φ σ Q Er S L p=>by
 by_cases f:c.scope.names.lookup k=some .globalImplicit
 case neg=>rw[Vv f]at p;exact p.elim
 rw[Vw f]at p;refine Us<|dR r.toWdOk hk (by decide+kernel) S L (.inr r.isi)<|js (first:= []) (as:= [e,.Name k G]) (by rw[UO,P];rfl) (Ut (x.after S L p λv u s₁ w j b n z g q=>?_) (cN P));refine aQ (r.vec) λC U J y=>?_;have KI:=vF r.toWdOk b;unfold isV at q;by_cases D:k= "Vector"
 ·rw[Vw D]at q
  rw[D]at f ⊢;refine Ut (e:=.Name "Vector" G) (dR r.toWdOk f (by decide+kernel) b n (.inl J) (UD ?_)) rfl;refine aa q.el λN H q=>af q.it λo q=>dK (xR b U z H o) λa d Z B I=>?_;rw[B];exact isi_call KI (λM=>I.type (M:=M)) (by unfold isIn;simp) (by simp) (q.ret0 (tk:=s₁.toks) b (.bool true))
 rw[Vv D]at q;refine af q.it λD q=>?_;rw[D]at f ⊢;refine Ut (e:=.Name "str" G) (dR r.toWdOk f (by decide+kernel) b n (.inr r.strT) (UD ?_)) rfl;induction hst:ie v using Vx with
 |some x=>
  rw[hst]at q;rw[gJ hst]at z;refine am z.str' λt B=>?_;rw[B];exact call_isinstance (isinstance_true PySem.F.isi_meta_str PySem.F.isi_self_str) ⟨typeIs_str _ _ _,q.ret0 (tk:=s₁.toks) b (.bool true)⟩
 |none=>
  rw[hst]at q
  replace q:aj W fs [] VR ((nC j v).elim .bad λN=>if N= "Vector" then .ok (.bool false) j else .bad) s₁ w Q Er:=q
  refine aa q.el λN H q=>af q.it λo q=>dK (xR b U z H o) λa d Z B I=>?_;rw[B];exact kin_callT KI I y.notStr PySem.F.isi_meta_str y.get y.dct y.cls y.spc y.tak y.mro (q.ret0 (tk:=s₁.toks+1) b (.bool false))
end
end Mine
end
noncomputable section
open PySem PySem.W PySem.Calls
namespace Mine
variable {pos:Pos} {sc:Scope} {base:Heap} {env:Env} {outer:List Env} {L e C b L':Addr} {a0:Value} {fd:FuncData} {us:List Value} {f:Fn} {n:Nat} {x:Str} {Er:Value->Shared->Prop} {I0:Itp}
section
variable {W:Wd} {A:Around} {fs:List Env} {X Y:List Addr} {E:Env} {c:Cx} {l:Loc}
variable {F:List Addr} {φ φ' φ'':al} {σ:List O} {h h' h'' h₀:Heap} {a I:Addr} {it:It} {i:Nat}
theorem wo {a b:Int}{c d:Value}(l:List Value)(h:TriplesOk l)(e:codeAmong pos (l++ [rawInt a,rawInt b,c])=some d):codeAmong pos l=some d\/d=c:=by
 fun_induction TriplesOk l with
 |case1=>
  simp only[List.nil_append,codeAmong,rawInt]at e
  split at e
  ·injection e with e;exact .inr e.symm
  ·cases e
 |case2 a' t b' u x rest ih=>
  simp only[List.cons_append,codeAmong]at e ⊢
  split at e
  ·rename_i hc;rw[Vw hc];exact .inl e
  ·rename_i hc;rw[Vv hc];exact ih h e
 |case3 l h1 h2=>exact h.elim
theorem zQ(h:pQ c sc=true):c.name= "law"/\sc.kind=.function/\sc.isGenerator=false/\sc.isCoroutine=false/\(∀x∈sc.names,x.2≠ .cell/\x.2≠ .local)/\ ∀x∈sc.names,x.2=.free-> ∃n,look x.1 c.cells=some n:=by
 unfold pQ at h;simp only[Uc,Ua,Vl,Ud]at h;refine aB λt k=>?_;obtain⟨⟨⟨⟨p,o⟩,j⟩,m⟩,g⟩:=h;refine k<|⟨p,o,j,m,λx d=>?_,λx d r=>?_⟩
 ·have:=g x d;simp at this;exact⟨this.1.1,this.1.2⟩
 ·have:=g x d;simp at this
  exact Td.mp (this.2.resolve_left λq=>q r)
theorem xS {W:Wd}(S:W.St F φ σ h)(L:W.Loc E c l φ h){body:Expr}(ok:pQ c sc=true){d:Str}{pm:Value}{k ctv:Value}(z:d=q8)(g:h.CodeRec k q8):
  W.St F (φ++ [(h.objs.size,Aux.none)]) (σ++ [.clo body sc (cq c sc)]) (h.push {cls:=.type "function",data:=.func (kla_fn "<lambda>" d ⟨[],[],none,[],[],none,[]⟩ body sc (fm E sc.names []) pm k ctv) })/\
   Go F [] φ (φ++ [(h.objs.size,Aux.none)]) h (h.push {cls:=.type "function",data:=.func (kla_fn "<lambda>" d ⟨[],[],none,[],[],none,[]⟩ body sc (fm E sc.names []) pm k ctv) }):=by
 refine B4 S (.clo (TH _ rfl) ⟨rfl,_,rfl,rfl,rfl,rfl,rfl,rfl,rfl,rfl,rfl, ?_,λx n G=>?_⟩)
 ·refine aB λu j=>mZ (g) λJ o vs t D m r H=>j<|⟨J,o,vs,t,D,Tk _ m,r,by rw[H];rw[z]⟩
 ·refine aB λu j=>af (qJ G) λv B=>aa (L.cells x n B) λa w p=>j<|⟨a,gq w _ _ (.inl v) (λy b q=>nomatch q),dq (TX _ _) p⟩
theorem Ck(Wk:WdOk6 W){body:Expr}:
  aI W A fs E c l VR (eval (.Lambda ⟨[],[],none,[],[],none,[]⟩ body sc pos) E) (if pQ c sc then B2 c body sc else bad):=λs φ σ Q Er S L p=>by
 by_cases ok:pQ c sc=true
 case neg=>rw[Vv ok]at p;exact p.elim
 rw[Vw ok]at p;refine BM (zQ ok) λk1 k2 k3 k4 k5 k6=>af (L.code k1) λj y=>af p.bi λz p=>?_;have z:=FJ z;have hlt:0<φ.length:=by rw[S.len];exact(S6.mp z).1
 refine am (show ∃pr,φ[0]?=some pr from⟨_,Ta hlt⟩) λpr v=>?_;have hq:E.qual++("<lambda>":Str)=q8:=by rw[y];decide+kernel
 have H:closureFor sc E=pure (fm E sc.names []):=om λx hx D=>by
  refine aB λgP u=>am (k6 x hx D) λn hn=>aa (L.cells x.1 n hn) λa h1 Z=>u<|⟨a,h1⟩
 refine w3 (S.obj 0 _ _ v z).tab' λP ps ep ea em hP ht U=>?_;rw[ep]at v;rw[ea]at hP v;have C:=Wk.code.keeps S.base;have hg:=Wk.g.keeps S.base;have hb:s.heap.BuiltinsAt W.mg W.cl.tab:=by
  refine aB λgP u=>w3 (Wk.blt') λbm o r1 r2 r3 r4 r5 r=>u<|⟨bm,o,r1,r2,r3,r4,S.base _ _ r5,r⟩
 refine kla_eval rfl<|aB λgP u=>?_;induction D:codeAmong pos ps.toList using Vx with
 |some cv=>
  refine u<|kla_makeFunctionHit H L.glob hg j C hP ht D hb λctv h' tk k Z=>aB λgP u=>af (S.grow k) λS' g=>?_;have L':=L.go S g;have hcd:h'.CodeRec cv q8:=(U pos cv D).keeps k;refine af (xS (pm:=(W.mg "__name__").getD .none) (ctv:=ctv) (body:=body) S' L' ok hq hcd) λm d=>u<|p _ _ tk _ m (Go.trans au g d) (.ref (p:=(h'.objs.size,Aux.none)) ?_);rw[<-S.len,SW (Vi _),Vb];rfl
 |none=>
  refine u<|kla_makeFunction H L.glob hg j C hP ht D Wk.gtab hb λN ctv h' tk hx hge hlt w J=>?_
  have⟨S',g⟩:=St.upd (o:=.tab) (h':=h') S v (λb ob e hb=>hx b ob (λq=>hb (by rw[q];simp)) e) λg=>.tab rfl (let⟨more,em⟩:=em;⟨more++ #[rawInt pos.line,rawInt pos.col,Value.ref N],by rw[em,Array.append_assoc]⟩) J (by
   have:(ps++ #[rawInt pos.line,rawInt pos.col,Value.ref N]).toList=ps.toList++ [rawInt pos.line,rawInt pos.col,Value.ref N]:=by simp
   rw[this];exact TriplesOk_snoc _ _ _ _ ht) λB cv e=>by
   have:(ps++ #[rawInt pos.line,rawInt pos.col,Value.ref N]).toList=ps.toList++ [rawInt pos.line,rawInt pos.col,Value.ref N]:=by simp
   rw[this]at e;rcases wo _ ht e with e|e
   ·refine aB λgP u=>mZ (U B cv e) λc'' o vs t e1 G e3 e4=>u<|⟨c'',o,vs,t,e1,hx _ _ (λq=>?_) G,e3,e4⟩
    rw[q,hP]at G;injection G with G;subst G;injection e3 with e3;subst e3;exact AN ht e4
   ·rw[e];rw[<-hq];exact w
  have hs:σ.set 0 O.tab=σ:=by
   apply List.ext_getElem?;intro i;rw[List.getElem?_set]
   split
   ·rename_i h0;subst h0
    rw[z]
    split
    ·rfl
    ·rename_i hn;exact absurd (S6.mp z).1 hn
   ·rfl
  rw[hs]at S';have L':=L.go S g;refine af (xS (pm:=(W.mg "__name__").getD .none) (ctv:=ctv) (body:=body) S' L' ok hq (by rw[<-hq];exact w)) λm d=>p _ _ tk _ m (Go.trans au g d) (.ref (p:=(h'.objs.size,Aux.none)) ?_);rw[<-S.len,SW (Vi _),Vb];rfl
end
section
variable {M:Model} {A:Around} {E:Value->Shared->Prop} {s:Shared}
theorem uv(f:Array Value->Array Value)(o:Obj):(o.mapFields f).dict=o.dict:=by
 unfold Obj.mapFields;split<;>rfl
theorem A2 {p:Obj}{vs:Array Value}{i:Value}{j:Bool}{Q:Unit->Shared->Prop}
  (J:A.frames=some (env::outer))(D:s.heap.FunFrames base (env::outer))(hf:env.frame=some L)
  (S:s.heap.get? e=some p)(F:base.StaysIn s.heap)(P:base.get? e=none)(hd:p.data=.fields vs)(l:1<vs.size)(h0:vs[0]?=some a0)
  (h:∀h' oe',Heap.LeftW base (env::outer) e p.cls a0 s.heap h'->h'.get? e=some oe'->oe'.dict=p.dict->Q () {s with heap:=h'}):
  wpAny M A (do let a <-frameOf env;let t <-entryPlaceOf L j;let b <-EntryCells.newEntry i a .none (rawInt L) .none t;setField (.ref e) 1 b) (λZ s'=>wpAny M A (setFlight (.ref e) none) Q E s') E s:=by
 have eF:e∉(env::outer).filterMap (·.frame):=λG=>by
  obtain⟨_,o,B,N⟩:=D.mem G;rw[S]at B;injection B with B;subst B;exact N vs hd
 refine Vn (wpAny_frameOf_fun J D hf λc y=>?_);refine Vn (wpAny_entryPlaceOf λt v=>?_);unfold EntryCells.newEntry newFields;refine Vn (wpAny_newObj_type ?_ (v.sizeOk5 _ _ _ _ _));have X:c.get? e=some p:=(y.2.1 e eF).trans S;have w:base.StaysIn c:=λb o q=>(y.2.1 b λG=>by rw[(D.mem G).1]at q;cases q).trans (F b o q);generalize I:({cls:=.type "traceback",dict:=none,data:=.fields ([i,.ref L,.none,rawInt L,.none]++(if t.isEmpty then List.replicate 6 Value.none else t)).toArray}:Obj)=r;have k:r.data=.fields ([i,.ref L,.none,rawInt L,.none]++(if t.isEmpty then List.replicate 6 Value.none else t)).toArray:=by rw[<-I]
 have U:(c.push r).get? e=some p:=Tk r X;have m:c.objs.size≠e:=U9 (UV X);refine wpAny_setField U hd l ?_;have d3:=Obj.data_mapFields hd (·.setIfInBounds 1 (Value.ref c.objs.size));have W:=To (Obj.mapFields (·.setIfInBounds 1 (Value.ref c.objs.size))) U (Obj.isFreed_of_fields d3);have t3:=(Tl (c.push r) (Obj.mapFields (·.setIfInBounds 1 (Value.ref c.objs.size))) (Vu m)).trans (TH c (Obj.isFreed_of_fields k));refine Vn (wpAny_field W d3 (x:=.ref c.objs.size) (by simp[l]) ?_);rw[Vw (show(Value.ref c.objs.size !=Value.none)=true from by simp)];refine wpAny_setField t3 k (by simp only[T8,TT,Ug,List.length_nil]<;>exact QN) ?_;have e4:=(Tl ((c.push r).update e (Obj.mapFields (·.setIfInBounds 1 (Value.ref c.objs.size)))) (Obj.mapFields (·.setIfInBounds 3 ((none:Option Addr).elim Value.none λf=>rawInt f))) m).trans W;have g:∀b o,b≠e->c.get? b=some o->(((c.push r).update e (Obj.mapFields (·.setIfInBounds 1 (Value.ref c.objs.size)))).update c.objs.size (Obj.mapFields (·.setIfInBounds 3 ((none:Option Addr).elim Value.none λf=>rawInt f)))).get? b=some o:=λb o nb d=>by
  have nT:c.objs.size≠b:=U9 (UV d);rw[Tl _ _ nT,Tl _ _ (Vu nb)];exact Tk _ d
 have plain:∀b o,s.heap.get? b=some o->(∀vs,o.data≠ .fields vs)->b≠e:=λb o d u q=>by
  rw[q,S]at d;injection d with d;subst d;exact u vs hd
 refine h _ _ ⟨λb o q=>g b o (λz=>by rw[z,P]at q;cases q) (w b o q),D.of_keeps λb o d u=>?_, ?_,λb o d u=>?_⟩ e4 (uv _ _)
 ·refine am (y.2.2 b o d) λx H=>⟨_,g b _ (plain b o d u) H,rfl⟩
 ·have Y:=Obj.data_mapFields k (·.setIfInBounds 3 ((none:Option Addr).elim Value.none λf=>rawInt f))
  refine⟨_,_,c.objs.size,_,_,e4,⟨Obj.cls_mapFields _ _,by rw[Array.getElem?_setIfInBounds_ne (by decide)];exact h0⟩,d3,by simp[l],w.fresh,m,To _ t3 (Obj.isFreed_of_fields Y),Y, ?_⟩
  first|(simp;done)|(rcases v with rfl|⟨_,_,_,_,_,_,_,rfl⟩<;>simp)
 ·refine am (y.2.2 b o d) λx H=>⟨x,g b _ (plain b o d u) H⟩
noncomputable def M1(base:Heap)(e C:Addr)(a0:Value)(h:Heap):Prop:=
 (∃oe vs,h.get? e=some oe/\oe.cls=.ref C/\oe.data=.fields vs/\vs[1]?=some .none/\vs[0]?=some a0)\/h.TracedW base e (.ref C) a0
theorem sx {Q:Unit->Shared->Prop}
  (p:A.frames=some (env::outer))(I:s.heap.FunFrames base (env::outer))(B:env.frame=some L)
  (k:base.StaysIn s.heap)(r:base.get? e=none)(J:M1 base e C a0 s.heap)
  (h:∀h',Heap.LeftW base (env::outer) e (.ref C) a0 s.heap h'->(∀t,s.heap.get? e=some t-> ∃c,h'.get? e=some c/\c.dict=t.dict)->Q () {s with heap:=h'}):wpAny M A (noteFrame (.ref e) env) (λZ m=>wpAny M A (setFlight (.ref e) none) Q E m) E s:=by
 unfold noteFrame;simp only[B];refine aB λP H=>?_;rcases J with⟨t,vs,i,u,hd,l,D⟩|⟨t,vs,T,S,N,i,⟨u,D⟩,hd,l,y,F,v,g,G⟩
 ·refine H<|Vn (wpAny_field i hd l ?_)
  rw[Vv (by decide)];refine A2 p I B i k r hd (SS.mp l).1 D λh' c x w q=>h h' (u▸x) λo z=>?_;rw[i]at z;injection z with z;subst z;exact⟨c,w,q⟩
 ·refine H<|Vn (wpAny_field i hd l ?_)
  rw[Vw (show(Value.ref T !=Value.none)=true from by simp)];refine Vn (wpAny_field v g G ?_);rw[Vv (show ¬((Value.none==rawInt L)=true) from by simp[rawInt])];refine Vn (wpAny_setField v g (SS.mp G).1 ?_);have a:∀b,b≠T->(s.heap.update T (Obj.mapFields (·.setIfInBounds 3 Value.none))).get? b=s.heap.get? b:=λb d=>Tl _ _ (Vu d);have plain:∀b o,s.heap.get? b=some o->(∀vs,o.data≠ .fields vs)->b≠T:=λb o d j q=>by
   rw[q,v]at d;injection d with d;subst d;exact j N g
  refine A2 (s:= {s with heap:=s.heap.update T (Obj.mapFields (·.setIfInBounds 3 Value.none)) }) p (I.of_keeps λb o d j=>⟨o,(a b (plain b o d j)).trans d,rfl⟩) B ((a e (Vu F)).trans i)
   (λb o q=>(a b λz=>by rw[z,y]at q;cases q).trans (k b o q)) r hd (SS.mp l).1 D
   λh' c x w q=>h h' (u▸⟨x.1,x.2.1,x.2.2.1,λb o d j=>x.2.2.2 b o ((a b (plain b o d j)).trans d) j⟩) λo z=>?_
  rw[i]at z;injection z with z;subst z;exact⟨c,w,q⟩
theorem Ej {Q:Unit->Shared->Prop}
  (c:A.frames=some (env::outer))(j:s.heap.FunFrames base (env::outer))(i:env.frame=some L)
  (a:base.StaysIn s.heap)(d:base.get? e=none)(g:M1 base e C a0 s.heap)
  (h:∀h',Heap.LeftW base (env::outer) e (.ref C) a0 s.heap h'->(∀oe,s.heap.get? e=some oe-> ∃oe',h'.get? e=some oe'/\oe'.dict=oe.dict)->Q () {s with heap:=h'}):wpAny M A (leaving env (.ref e)) Q E s:=Vn (sx c j i a d g h)
end
section
variable {M:Model} {A:Around} {E:Value->Shared->Prop} {s:Shared}
theorem sy:∀ {xs:List Str} {us:List Value},us.length=xs.length->xs.Nodup->(xs.filterMap λn=>((xs.zip us).lookup n).map (n,·))=xs.zip us:=by
 intro xs us c d;have key:∀(xs:List Str) (us:List Value) (l:List (Str×Value)),us.length=xs.length->xs.Nodup->(∀p∈xs.zip us,l.lookup p.1=some p.2)->(xs.filterMap λn=>(l.lookup n).map (n,·))=xs.zip us:=by
  intro xs;induction xs with
  |nil=>intro us l _ _ _;simp
  |cons x r ih=>
   intro us l c d a;induction us using Vz with
   |nil=>cases c
   |cons u ur=>
    have h:=a (x,u) (by simp);rw[TJ,h];simp only[Option.map_some,TY,List.cons.injEq,true_and];exact ih ur l (by simpa using c) (Uz.mp d).2 λp g=>a p (by simp[g])
 refine key xs us _ c d ?_
 clear key
 induction xs generalizing us with
 |nil=>intro p a;simp at a
 |cons x r ih=>
  induction us using Vz with
  |nil=>cases c
  |cons u ur=>
   intro p a;rw[TY]at a ⊢;rw[Uh];rcases UR.mp a with rfl|a
   ·simp
   ·have i:p.1∈r:=(List.of_mem_zip a).1
    have:(p.1==x)=false:=by
     rw[TP];intro q;exact(Uz.mp d).1 (q▸i)
    rw[this];exact ih (by simpa using c) (Uz.mp d).2 p a
theorem gF {x:Str}:∀ {xs:List Str} {us:List Value},us.length=xs.length->x∈xs->((xs.zip us).lookup x).isSome=true
 | [],_,_,h=>nomatch h
 |y::r,[],h,_=>by cases h
 |y::r,u::ur,h,hx=>by
  rw[TY,Uh];induction hb:x==y using VA with
  |true=>rfl
  |false=>
   refine gF (by simpa using h) ?_;rcases UR.mp hx with q|q
   ·rw[q]at hb;simp at hb
   ·exact q
theorem on {x:Str}:∀ {xs:List Str} {us:List Value},x∉xs->(xs.zip us).lookup x=none
 | [],_,_=>by simp
 |y::r,[],_=>by simp
 |y::r,u::ur,hx=>by
  rw[TY,Uh];have:(x==y)=false:=by rw[TP];intro q;exact hx (by simp[q])
  rw[this];exact on λq=>hx (by simp[q])
noncomputable def nM(xs:List Str)(us:List Value)(c a:Option (Array Value)->Sem (List (Str×Value)))(r:Option (Array Value)):Sem (List (Str×Value)):=
 if(decide (us.length>xs.length)&&true)=true then c r else
  let d:=(r.getD #[]).toList.drop ((r.getD #[]).toList.length-xs.length)
  if(!((xs.take (xs.length-d.length)).filter λn=>((xs.zip us).lookup n).isNone).isEmpty)=true then a r else
   (forIn ((xs.drop (xs.length-d.length)).zip d) (xs.zip us) λp s=>if(s.lookup p.1).isNone=true then pure (ForInStep.yield (s++ [(p.1,p.2)]))else pure (ForInStep.yield s))>>=λs=>pure ((xs++ []).filterMap λn=>(s.lookup n).map (n,·))
theorem sA {ps:List Arg}{ds:List Expr}{us:List Value}(a:fd.params=⟨[],ps,none,[],[],none,ds⟩):
  ∃X1 X2,bindArgs fd ⟨us,[]⟩=seqItems? fd.defaults>>=λr=>nM (ps.map (·.arg)) us X1 X2 r:=by
 obtain⟨k,o,p,u,l,v,q,t,m,j,g,i,c,h,d⟩:=fd;dsimp only at a;subst a;refine aV ?_ ?_ ?_
 rotate_left 2
 ·unfold bindArgs nM
  dsimp only[List.map_nil,List.nil_append,List.forIn_nil,Uu];rfl
theorem kR {ps:List Arg}{ds:List Expr}{Q:List (Str×Value)->Shared->Prop}{dv:List Value}(g:fd.params=⟨[],ps,none,[],[],none,ds⟩)(t:us.length=ps.length)(k:(ps.map (·.arg)).Nodup)
  (hd:∀Q':Option (Array Value)->Shared->Prop,(∀r,(r.getD #[]).toList=dv->Q' r s)->wpAny M A (seqItems? fd.defaults) Q' E s)(u:dv= []\/ ∃d,dv= [d]/\ps≠ [])(h:Q ((ps.map (·.arg)).zip us) s):wpAny M A (bindArgs fd ⟨us,[]⟩) Q E s:=by
 obtain⟨w,v,e⟩:=sA (us:=us) g;rw[e];refine Vn (hd _ λr l=>?_)
 clear e hd
 have a:us.length=(ps.map (·.arg)).length:=by simp[t]
 generalize ps.map (·.arg)=xs at a k h ⊢;have c:∀(L:List (Str×Value)),(∀p∈L,p.1∈xs)->(forIn L (xs.zip us) λp s=>if(s.lookup p.1).isNone=true then pure (ForInStep.yield (s++ [(p.1,p.2)]))else pure (ForInStep.yield s):Sem (List (Str×Value)))=pure (xs.zip us):=by
  intro L;induction L with
  |nil=>intro _;rfl
  |cons p r ih=>
   intro j;rw[Uv];have:=gF a (j p (by simp));rw[Vv (by rw[S8];intro q;rw[q]at this;cases this),pure_bind];exact ih λm i=>j m (by simp[i])
 unfold nM;rw[l];refine wpAny_ite_false (by simp[a]) (wpAny_ite_false (UC λq=>?_) ?_)
 ·rw[T5,List.isEmpty_eq_false_iff,ne_eq,List.filter_eq_nil_iff]at q
  refine q λx o=>?_;have:=gF a (TC o);rw[S8];intro q;rw[q]at this;cases this
 ·rw[c _ λp g=>List.mem_of_mem_drop (List.of_mem_zip g).1,pure_bind,Uu]
  refine Vq ?_;rw[sy a k];exact h
theorem Ek {ps:List Arg}{ds:List Expr}{Q:List (Str×Value)->Shared->Prop}{d:Value}(u:fd.params=⟨[],ps,none,[],[],none,ds⟩)(B:us.length+1=ps.length)(i:(ps.map (·.arg)).Nodup)
  (hd:∀Q':Option (Array Value)->Shared->Prop,(∀r,(r.getD #[]).toList= [d]->Q' r s)->wpAny M A (seqItems? fd.defaults) Q' E s)(h:Q ((ps.map (·.arg)).zip (us++ [d])) s):wpAny M A (bindArgs fd ⟨us,[]⟩) Q E s:=by
 obtain⟨F,D,e⟩:=sA (us:=us) u;rw[e];refine Vn (hd _ λr k=>?_)
 clear e hd
 have c:us.length+1=(ps.map (·.arg)).length:=by simp[B]
 generalize ps.map (·.arg)=xs at c i h ⊢;obtain⟨a,y,rfl⟩:∃a y,xs=a++ [y]:=aV xs.dropLast (xs.getLast (by intro q;rw[q]at c;simp at c)) ((List.dropLast_concat_getLast _).symm);have g:us.length=a.length:=by simpa using c
 have hz:(a++ [y]).zip us=a.zip us:=by
  rw[<-Uu us,List.zip_append g.symm];simp
 rw[T7]at i;have j:y∉a:=λq=>i.2.2 y q y (by simp) rfl;have v:(List.drop (([d]:List Value).length-(a++ [y]).length) [d])= [d]:=by
  have:([d]:List Value).length-(a++ [y]).length=0:=by simp
  rw[this];rfl
 have m:(a++ [y]).length-([d]:List Value).length=a.length:=by simp
 have o:(a++ [y]).take a.length=a:=by simp
 have z:(a++ [y]).drop a.length= [y]:=by simp
 unfold nM;rw[k];refine wpAny_ite_false (by simp[g]) ?_;dsimp only;rw[v,m,hz,o,z];refine wpAny_ite_false (UC λq=>?_) ?_
 ·rw[T5,List.isEmpty_eq_false_iff,ne_eq,List.filter_eq_nil_iff]at q
  refine q λx w=>?_;have:=gF g w;rw[S8];intro q;rw[q]at this;cases this
 ·have t:(forIn ([y].zip [d]) (a.zip us) λp s=>if(s.lookup p.1).isNone=true then pure (ForInStep.yield (s++ [(p.1,p.2)]))else pure (ForInStep.yield s):Sem (List (Str×Value)))=pure (a.zip us++ [(y,d)]):=by
   rw[show [y].zip [d]= [(y,d)] from rfl,Uv,Vw (by rw[on j];rfl)];rfl
  rw[t,pure_bind,Uu];refine Vq ?_;have l:a.zip us++ [(y,d)]=(a++ [y]).zip (us++ [d]):=by rw[List.zip_append g.symm];rfl
  rw[l,sy (by simp[g]) (by rw[T7];exact i)];exact h
end
structure FuncOk (W:Wd) (name:Str) (f:Fn) (a:Addr):Prop where
 ex:∃o fd,W.B.get? a=some o/\o.data=.func fd/\fd.body=.stmts f.body/\fd.scope=f.scope/\fd.globals=mainGlobals/\fd.builtins=builtinsNs/\fd.closure= []/\W.B.CodeRec fd.code fd.qualname/\
  fd.params=⟨[],f.params.args,none,[],[],none,f.params.defaults⟩/\(name= "law"->fd.code=.ref W.cl.code/\fd.qualname= "law")/\
  ((f.params.defaults= []/\fd.defaults=.none)\/(∃k p T oT n,f.params.defaults= [.Constant .none k p]/\f.params.args≠ []/\fd.defaults=.ref T/\W.B.get? T=some oT/\oT.data=.seq #[.none] n))
 kind:f.scope.kind=.function
 gen:f.scope.isGenerator=false
 cor:f.scope.isCoroutine=false
 nodup:(f.scope.names.map (·.1)).Nodup
 pnodup:(f.params.args.map (·.arg)).Nodup
structure Top (E:Env) (fs:List Env):Prop where
 hd:∃r,fs=E::r
 fr:E.frame=some E.locals
section
variable {W:Wd} {A:Around} {fs:List Env} {X Y:List Addr} {E:Env} {c:Cx} {l:Loc}
variable {F:List Addr} {φ φ' φ'':al} {σ:List O} {h h' h'' h₀:Heap} {a I:Addr} {it:It} {i:Nat}
theorem Gm {W:Wd}{name:Str}{M:Model}{vs:List V}{bs:List (Str×V)}{s:Shared}{E:Value->Shared->Prop}{Q:List (Str×Value)->Shared->Prop}(K:FuncOk W name f b)(Z:W.B.StaysIn s.heap)
  (U:fd.params=⟨[],f.params.args,none,[],[],none,f.params.defaults⟩)
  (hd:(f.params.defaults= []/\fd.defaults=.none)\/(∃k p T w n,f.params.defaults= [.Constant .none k p]/\f.params.args≠ []/\fd.defaults=.ref T/\W.B.get? T=some w/\w.data=.seq #[.none] n))
  (z:VRs φ s.heap vs us)(g:pS f.params.args f.params.defaults vs=some bs)
  (k:∀us',VRs φ s.heap (bs.map (·.2)) us'->us'.length=bs.length->Q ((bs.map (·.1)).zip us') s):wpAny M A (bindArgs fd ⟨us,[]⟩) Q E s:=by
 have S:=K.pnodup;have j:=z.length;have names:∀o:List V,o.length=f.params.args.length->((f.params.args.map (·.arg)).zip o).map (·.1)=f.params.args.map (·.arg)/\((f.params.args.map (·.arg)).zip o).map (·.2)=o:=λo G=>by
  constructor
  ·rw[List.map_fst_zip];simp[G]
  ·rw[List.map_snd_zip];simp[G]
 unfold pS at g;refine aB λgP N=>?_;by_cases q:vs.length=f.params.args.length
 ·rw[Vw q]at g
  injection g with g;refine af (names vs q) λD y=>?_;rcases hd with⟨t,r⟩|⟨kk,p,T,w,n,t,v,r,J,H⟩
  ·refine N<|kR (dv:= []) U (L6 j q) S (λP u=>?_) (.inl rfl) ?_
   ·rw[r]
    show wpAny M A (do notAStandIn .none;pure none) P E s;exact Vn (Vq (Vq (u _ rfl)))
   ·have:=k us (by rw[<-g,y];exact z) (by rw[j,<-g];simp[q])
    rw[<-g,D]at this;exact this
  ·refine N<|kR (dv:= [.none]) U (L6 j q) S (λP u=>?_) (.inr ⟨_,rfl,v⟩) ?_
   ·rw[r];exact wpAny_seqItems (Z _ _ J) H (u _ rfl)
   ·have:=k us (by rw[<-g,y];exact z) (by rw[j,<-g];simp[q])
    rw[<-g,D]at this;exact this
 ·rw[Vv q]at g
  rcases hd with⟨t,r⟩|⟨kk,p,T,w,n,t,v,r,J,H⟩
  ·rw[t]at g;exact ns g
  ·rw[t]at g
   replace g:(if vs.length+1=f.params.args.length then some ((f.params.args.map (·.arg)).zip (vs++ [V.none]))else none)=some bs:=g
   by_cases m:vs.length+1=f.params.args.length
   ·rw[Vw m]at g
    injection g with g;have G:(vs++ [V.none]).length=f.params.args.length:=by simpa using m
    refine af (names _ G) λD y=>N<|Ek (d:=.none) U (RH j m) S (λP u=>?_) ?_
    ·rw[r];exact wpAny_seqItems (Z _ _ J) H (u _ rfl)
    ·have:=k (us++ [.none]) (by rw[<-g,y];exact z.append (.cons .none .nil)) (by rw[<-g];simp;exact Rs j m)
     rw[<-g,D]at this;exact this
   ·rw[Vv m]at g;cases g
theorem A3 {k:NameKind}(h:k≠ .cell):(k==NameKind.cell)=false:=TP.mpr h
theorem ml {y:Str}{r:List (Str×NameKind)}{d:List (Str×Addr)}:cellsFrom n ((y,.cell)::r) d=cellsFrom (n+1) r ((y,n)::d):=rfl
theorem ph {y:Str}{k:NameKind}{r:List (Str×NameKind)}{d:List (Str×Addr)}(h:k≠ .cell):cellsFrom n ((y,k)::r) d=cellsFrom n r d:=by rw[cellsFrom,A3 h];rfl
theorem sB(names:List (Str×NameKind)):∀(n:Nat) (d:List (Str×Addr)),x∉names.map (·.1)->(cellsFrom n names d).lookup x=d.lookup x:=by
 induction names using List.rec with
 |nil=>exact λZ Z Z=>rfl
 |cons p r ih=>
  intro n d h;obtain⟨y,k⟩:=p;rw[UQ,UR,not_or]at h;by_cases g:k=.cell
  ·rw[g,ml,ih _ _ h.2,Uh,TP.mpr h.1]
  ·rw[ph g];exact ih _ _ h.2
def M2(φ':al)(g:List (Str×Nat))(names:List (Str×NameKind))(n:Nat)(d:List (Str×Addr)):Prop:=∀x i,look x g=some i->x∈names.map (·.1)/\ ∃a,(cellsFrom n names d).lookup x=some a/\φ'[i]?=some (a,Aux.none)
theorem Gn(names:List (Str×NameKind)):∀(g:List (Str×Addr)) {h:Heap} {φ:al} {σ:List O},(names.map (·.1)).Nodup->W.St F φ σ h->
  ∃φ' d t,hj.go names σ=.ok t d/\W.St F φ' d (pushCells h names)/\Go F [] φ φ' h (pushCells h names)/\M2 φ' t names h.objs.size g:=by
 induction names using List.rec with
 |nil=>exact λg h φ σ v S=>bJ φ σ [] ⟨rfl,S,Go.refl _ _ _ _,λx n e=>ns e⟩
 |cons p r ih=>
  intro g h φ σ v S;obtain⟨y,k⟩:=p;rw[UQ,Uz]at v;by_cases B:k=.cell
  ·rw[B]
   refine af (B4 (o:= {cls:=.type "cell",data:=.cell none}) (ob:=.cell Option.none) S (.cellN (TH _ rfl))) λw u=>?_;refine kH (ih ((y,h.objs.size)::g) v.2 w) λφ' d t e H z D=>bJ φ' d ((y,σ.length)::t) ⟨my e,H,Go.trans au u z,λx n j=>?_⟩;rw[kP]at j;rw[ml];by_cases m:x=y
   ·rw[Vw m]at j
    rw[m,<-UB j,sB r _ _ v.1,Uh,beq_self_eq_true];exact⟨TU ..,h.objs.size,rfl,dq z.pre (by rw[<-S.len,SW (Vi _),Vb];rfl)⟩
   ·rw[Vv m]at j
    refine af (D x n j) λG q=>aa q λa J N=>⟨TA _ G,a, ?_,N⟩;rw[UI]at J;exact J
  ·refine kH (ih g v.2 S) λφ' d t e H z D=>?_
   rw[show pushCells h ((y,k)::r)=pushCells h r by rw[pushCells,A3 B];rfl];refine bJ φ' d t ⟨?_,H,z,λx n j=>?_⟩
   ·induction k using NameKind.casesOn with
    |cell=>exact absurd rfl B
    |_=>exact e
   ·rw[ph B]
    exact af (D x n j) λG q=>⟨TA _ G,q⟩
theorem Gp(xs:List Str):∀ {vs:List V} {us:List Value} {l:Loc} {s:Shared} {φ:al} {σ:List O} {Q:PUnit->Shared->Prop} {Er:Value->Shared->Prop} (f:Str×Value->PUnit->Sem (ForInStep PUnit)),(∀n v u,f (n,v) u=(do storeName E n v;pure (.yield ⟨⟩)))->
  W.St (ao fs) φ σ s.heap->W.Loc E c l φ s.heap->VRs φ s.heap vs us->
  aj W fs [E.locals] (λφ h l (_:PUnit)=>W.Loc E c l φ h) (eG c xs vs l σ) s φ Q Er->wpAny (model W.prog W.w) A (forIn (xs.zip us) ⟨⟩ f) Q Er s:=by
 induction xs using List.rec with
 |nil=>
  intro vs us l s φ σ Q Er f r S L z p;induction vs using Vz with
  |nil=>
   rw[List.zip_nil_left,List.forIn_nil];exact Vq (p.ret0 (tk:=s.toks) S L)
  |cons=>exact p.elim
 |cons x xs ih=>
  intro vs us l s φ σ Q Er f r S L z p;induction vs using Vz with
  |nil=>exact p.elim
  |cons v vs=>
   refine aW z.cons' λu t y a b=>?_;rw[y,TY,Uv,r];refine Vn (Vn (p9 S L a ?_));exact aj.bind L.offL p λB Z o j tk m k g d q=>Vq (ih (s:= {s with heap:=j,toks:=tk}) f r k d (VRs.go S L.offL g b) q)
theorem El {j g:Type}{o:Option g}{f:g->R j}{e:V}{d:List O}(h:∀x,f x≠ .exc e d):o.elim .bad f≠ .exc e d:=by
 induction o using Vx with
 |none=>exact λz=>nomatch z
 |some x=>exact h x
theorem M3 {v:V}{l:Loc}{e:V}{σ d:List O}:wr c x v l σ≠ .exc e d:=by
 refine El λk=>?_;induction k using NameKind.casesOn with
 |«local»=>exact λz=>nomatch z
 |cell=>
  refine El (o:=look x c.cells) λn=>?_;induction jA σ[n]? using VA with
  |false=>exact λz=>nomatch z
  |true=>exact λz=>nomatch z
 |_=>exact λz=>nomatch z
theorem vM:∀ {xs:List Str} {vs:List V} {l:Loc} {e:V} {σ σ':List O},eG c xs vs l σ≠ .exc e σ'
 | [],[],_,_,_,_=>λh=>by injection h
 | [],_::_,_,_,_,_=>λh=>by injection h
 |_::_,[],_,_,_,_=>λh=>by injection h
 |x::xs,v::vs,l,e,σ,σ'=>by
  rw[ng];unfold mq;induction h:wr c x v l σ using VD with
  |ok a σ₁=>exact vM
  |exc m σ₁=>exact absurd h M3
  |bad=>simp
theorem Go.dropF {L:Addr}(x:Go (L::F) X φ φ' h h')(j:L∈X):Go F X φ φ' h h':=
 ⟨x.pre,x.new,λb o e d=>by
  refine af (x.kp b o e d) λk1 k2=>?_;exact⟨λg=>k1 λq=>by
   rcases UR.mp q with q|q
   ·exact d (Tz _ (q▸j))
   ·exact g q,k2⟩,x.xs⟩
theorem Cl {xs:List Str}{vs:List V}{m x:Str}{b:Addr}{d:Value}{s:Shared}{φ:al}{σ:List O}{α β:Type}{RV:al->Heap->α->β->Prop}{f:List (Str×Nat)->Loc->M α}{Q0:β->Shared->Prop}{Er0 Er:Value->Shared->Prop}{Q:Env->Shared->Prop}
  (hk:sc.kind=.function)(hn:(sc.names.map (·.1)).Nodup)(N:x= "law"->d=.ref W.cl.code/\m= "law.<locals>.")(S:W.St (ao fs) φ σ s.heap)(z:VRs φ s.heap vs us)
  (p:aj W fs X RV (mq (hj sc) (λB=>mq (eG ⟨x,sc,B⟩ xs vs []) (f B)) σ) s φ Q0 Er0)
  (k:∀E' h' tk φ' σ' B l',E'.scope=sc->E'.frame=some E'.locals->E'.code=d->s.heap.get? E'.locals=none->W.St (E'.locals::ao fs) φ' σ' h'->W.Loc E' ⟨x,sc,B⟩ l' φ' h'->Go (ao fs) [] φ φ' s.heap h'->
   aj W fs X RV (f B l' σ') s φ Q0 Er0->Q E' {s with heap:=h',toks:=tk}):
  wpAny (model W.prog W.w) A (newFunctionEnv sc mainGlobals [] ((xs.zip us)) m (some b) d none builtinsNs) Q Er s:=by
 simp only[newFunctionEnv,Option.isSome_none,TQ,Vt];refine Vn (wpAny_alloc ?_);refine Vn (wpAny_layCells _ (λname kind cells=>by cases hkc:kind==NameKind.cell<;>simp[hkc]) _ _ _ _ ?_);have k1:∀b o,s.heap.get? b=some o->(s.heap.push {cls:=.type "frame",data:=.dict #[] }).get? b=some o:=λb o e=>Tk _ e;refine af (S.grow k1) λj g₀=>?_;have D:s.heap.get? s.heap.objs.size=none:=bK;have gL:(s.heap.push {cls:=.type "frame",data:=.dict #[] }).get? s.heap.objs.size=some {cls:=.type "frame",data:=.dict #[] }:=TH _ rfl;have As:=Asd.new (h':=s.heap.push {cls:=.type "frame",data:=.dict #[] }) S D (λo e=>by rw[gL]at e;injection e with e;rw[<-e];exact bP rfl);have S₁:W.St (s.heap.objs.size::ao fs) φ σ (s.heap.push {cls:=.type "frame",data:=.dict #[] }):=⟨j.base,j.nodup,j.fresh,j.len,j.obj,λg hg=>by
  rcases UR.mp hg with q|q
  ·rw[q];exact⟨⟨_,_,_,gL,rfl⟩,As.phi,As.base⟩
  ·exact j.frames g q⟩
 refine kH (Gn sc.names [] hn S₁) λt v B hcs S₂ H hc=>?_;rw[show({s with heap:=s.heap.push {cls:=.type "frame",data:=.dict #[] } }:Shared).heap.objs.size=(s.heap.push {cls:=.type "frame",data:=.dict #[] }).objs.size from rfl];have hmk:hj sc σ=.ok B v:=hcs;unfold mq at p;rw[hmk]at p;dsimp only at p;have sz:(s.heap.push {cls:=.type "frame",data:=.dict #[] }).objs.size=s.heap.objs.size+1:=UI ..;have U:W.Loc (newEnv sc s.heap.objs.size mainGlobals (cellsFrom (s.heap.push {cls:=.type "frame",data:=.dict #[] }).objs.size sc.names []) m (some b) d none builtinsNs) ⟨x,sc,B⟩ [] t (pushCells (s.heap.push {cls:=.type "frame",data:=.dict #[] }) sc.names):=by
  refine⟨rfl,hk,rfl,rfl,⟨_,(Heap.Ns.new s.heap (.type "frame")).keeps (pushCells_keeps _ _),λx V e=>nomatch e⟩, ?_,As.base,λy n hy=>?_,λq=>?_⟩
  ·intro q
   rcases H.new _ q with r|r
   ·exact As.phi r
   ·have r':(s.heap.push {cls:=.type "frame",data:=.dict #[] }).get? s.heap.objs.size=none:=r
    rw[gL]at r';cases r'
  ·obtain⟨_,a,h2,h3⟩:=hc y n hy;exact⟨a,h2,h3⟩
  ·exact N q
 induction hw:eG ⟨x,sc,B⟩ xs vs [] v using VD with
 |bad=>rw[hw]at p;exact p.elim
 |exc e σ'=>exact absurd hw vM
 |ok l' σ₂=>
  rw[hw]at p;have G:Go (ao fs) [] φ t s.heap (pushCells (s.heap.push {cls:=.type "frame",data:=.dict #[] }) sc.names):=by
   have P:Go (ao fs) [s.heap.objs.size] φ t _ _:=(Go.more (X:= [s.heap.objs.size]) (λa ha=>by
    rw[TW.mp ha];exact⟨As.phi,_,gL,bP rfl⟩) H).dropF (by simp)
   exact Go.transN au g₀ P λa ha=>.inr (by rw[TW.mp ha];exact D)
  refine Vn (Gp (E:=newEnv sc s.heap.objs.size mainGlobals (cellsFrom (s.heap.push {cls:=.type "frame",data:=.dict #[] }).objs.size sc.names []) m (some b) d none builtinsNs) (c:=⟨x,sc,B⟩) (l:= []) (vs:=vs)
   (fs:=newEnv sc s.heap.objs.size mainGlobals (cellsFrom (s.heap.push {cls:=.type "frame",data:=.dict #[] }).objs.size sc.names []) m (some b) d none builtinsNs::fs)
   (s:= {s with heap:=pushCells (s.heap.push {cls:=.type "frame",data:=.dict #[] }) sc.names}) _ _ (λZ Z Z=>rfl) S₂ U (VRs.go S au G z) ?_)
  rw[hw];intro u h₃ tk J S₃ g₃ L₃;refine Vq<|k (newEnv sc s.heap.objs.size mainGlobals (cellsFrom (s.heap.push {cls:=.type "frame",data:=.dict #[] }).objs.size sc.names []) m (some b) d none builtinsNs) h₃ tk J σ₂ B l' rfl rfl rfl D S₃ L₃ ?_ p;exact Go.transN au G (Go.dropF (L:=s.heap.objs.size) g₃ (by simp[newEnv])) λa ha=>.inr (by rw[TW.mp ha];exact D)
end
section
variable {W:Wd} {A:Around} {fs:List Env} {X Y:List Addr} {E:Env} {c:Cx} {l:Loc}
variable {F:List Addr} {φ φ' φ'':al} {σ:List O} {h h' h'' h₀:Heap} {a I:Addr} {it:It} {i:Nat}
theorem nN {E':Env}(d:E'.frame=some L'):ao (E'::fs)=L'::ao fs:=by unfold ao;rw[TJ,d]
theorem rZ.air {Y:Heap}{h:Heap}(x:rZ Y fs e C h):Y.StaysIn h/\Y.get? e=none/\h.FunFrames Y fs/\ ∃a0,M1 Y e C a0 h:=x
theorem ErrR.leave {E':Env}(hf:E'.frame=some L')(hfr:A.frames=some (E'::fs)){φ p φ':al}{h y:Heap}{D:List O}{m:V}{s':Shared}{Q:Unit->Shared->Prop}{Er:Value->Shared->Prop}
  (g:Go (ao fs) [] φ p h y)(U:h.get? L'=none)(x:ErrR W (E'::fs) [L'] p y φ' D m e s'.heap)
  (k:∀h'',ErrR W fs [] φ h φ' D m e h''->Q () {s' with heap:=h''}):wpAny (model W.prog W.w) A (leaving E' (.ref e)) Q Er s':=by
 refine aB λB j=>?_;obtain⟨pre,new,Y,st,kp,fr,air,ms⟩:=x;obtain⟨a1,a2,a3,a0,a4⟩:=rZ.air air;rw[nN hf]at kp fr;refine j<|Ej hfr a3 hf a1 a2 a4 λh'' lf dd=>k h''<|aB λB j=>fD (lf) λb1 b2 b3 b4=>j<|⟨g.pre.trans pre,λa ha=>?_,Y,st,λb o t hb Z hF=>?_,λf P=>?_,⟨b1,a2,b2.2.2,a0,.inr b3⟩, ?_⟩
 ·rcases new a ha with q|q
  ·exact g.new a q
  ·refine aB λB j=>?_
   by_cases u:a∈aU φ
   ·refine j<|.inl u
   ·refine j<|.inr (dP au g u q)
 ·have G:=(g.kp b o t (by simpa using hb)).1 hF
  refine kp b o G (λq=>(g.new b q).elim hb λr=>by rw[t]at r;cases r) (λq=>?_) λq=>?_
  ·rw[TW.mp q,U]at t;cases t
  ·rcases UR.mp q with r|r
   ·rw[r,U]at t;cases t
   ·exact hF r
 ·refine aB λB j=>fD (fr f (TA _ P)) λc1 c2 S c5=>?_;obtain⟨o,es,n,H,c4⟩:=S
  obtain⟨sl,d1⟩:=b4 f o H λvs q=>by rw[c4]at q;cases q
  refine j<|⟨c1,c2,⟨_,es,n,d1,c4⟩,λZ o' t=>?_⟩;have u:f∉aU φ:=λz=>c2 (dO (g.pre.trans pre) f z);refine aB λB j=>?_;obtain⟨_,sl1,G⟩:=g.kp f o' t (by simpa using u);refine am (c5 (λq=>by rw[TW.mp q,U]at t;cases t) _ G) λsl2 J=>j ?_;rw[J]at H;injection H with H;subst H;exact⟨sl,d1⟩
 ·refine aB λB j=>?_
  obtain⟨oe,d,mm,v,m1,m2,m3,m4,m5⟩:=ms;refine aa (dd oe m1) λN G J=>j<|⟨N,d,mm,v,G,J.trans m2,m3,m4,m5⟩
structure Room (A:Around) (fs:List Env) (n:Nat):Prop where
 frames:A.frames=some fs
 depth:A.depth+1+2*n+20<=recursionLimit
 units:A.units+3+12*n+300<=cLine
 handled:A.handled=none
 envs:∀e∈fs,e.scope.kind≠ .module/\ ∃L,e.frame=some L
theorem Room.deeper {n:Nat}(d:Room A fs n){E':Env}{L':Addr}(g:E'.scope.kind≠ .module)(k:E'.frame=some L'):At (A.deeper E') (E'::fs) n:=
 ⟨Around.frames_deeper d.frames,d.depth,by have:=d.units;rw[Around.deeper_units];exact Qs this,d.handled,λe j=>by
  rcases UR.mp j with q|q
  ·rw[q];exact⟨g,L',k⟩
  ·exact d.envs e q⟩
theorem At.room(d:At A fs (n+1)):Room A fs n:=
 ⟨d.frames,by have:=d.depth;exact tt (TD (tt (U5 (TZ _ 1 (2*_))) (Nat.le_succ _)) 20) this,by have:=d.units;exact gj (by decide) this,d.handled,d.envs⟩
theorem St.pop(S:W.St (L'::F) φ σ h):W.St F φ σ h:=S.drop λf d=>TA _ d
theorem vN(Wk:WdOk6 W)(hA:Room A fs n)(K:FuncOk W x f b)
  (ex:∀ {A fs E c},At A fs n->Top E fs-> ∀l st,bT W A fs E c l (exec st E) (I0.ex c l st))
  {vs:List V}{us:List Value}{s:Shared}{φ:al}{σ:List O}{R:Result->Shared->Prop}(S:W.St (ao fs) φ σ s.heap)(z:VRs φ s.heap vs us)
  (p:aj W fs [] VR (fj I0 x f vs σ) s φ (λv y=>R (.ok (.ret v)) y) (λe y=>R (.error e) y)):codeAny (model W.prog W.w) A (.call (.ref b) ⟨us,[]⟩) R s:=by
 refine aB λgP D=>?_;obtain⟨o,fd,e1,e2,e3,e4,e5,e6,e7,e8,e9,e10,e11⟩:=K.ex;have B:=hA.depth;have hrl:recursionLimit=1000:=rfl;unfold fj at p;refine D ?_;induction hb:pS f.params.args f.params.defaults vs using Vx with
 |none=>rw[hb]at p;exact p.elim
 |some bs=>
  rw[hb]at p;dsimp only at p;refine codeAny_call_function (tt (tt (Ul (_+1) (2*_)) (Ul _ 20)) B) (S.base _ _ e1) e2 (by rw[e4];exact K.cor) (by rw[e4];exact K.gen) e3 (e8.keeps S.base)<|Gm K S.base e9 e11 z hb λus' z' hl=>?_;rw[e4,e5,e6,e7];refine Cl (x:=x) (fs:=fs) K.kind K.nodup (λq=>?_) S z' p λE' h' tk φ' t cs l' h1 h2 h3 h4 S' L' g q=>?_
  ·obtain⟨q1,q2⟩:=e10 q
   exact⟨q1,by rw[q2];decide+kernel⟩
  ·refine⟨Wk.lim.keeps S'.base,codeAny_func ?_⟩
   have hkm:E'.scope.kind≠ .module:=by rw[h1,K.kind];decide
   have hA':=hA.deeper hkm h2;have P:ao (E'::fs)=E'.locals::ao fs:=nN h2;have H:aj W (E'::fs) [E'.locals] (FR W E' ⟨x,f.scope,cs⟩) (db (I0.ex ⟨x,f.scope,cs⟩) f.body l' t) {s with heap:=h',toks:=tk} φ'
     (λfl y=>R (.ok (.ret (match fl with|.ret v=>v|_=>.none))) y)
     (λe y=>wpAny (model W.prog W.w) (A.deeper E') (leaving E' e) (λZ r=>R (.error e) r) (λe' r=>R (.error e') r) y):=by
    unfold mq at q;induction hm:db (I0.ex ⟨x,f.scope,cs⟩) f.body l' t using VD with
    |bad=>rw[hm]at q;exact q.elim
    |exc m σ₂=>
     rw[hm]at q;intro e h'' d φ'' xe;exact ErrR.leave h2 hA'.frames g h4 xe λN xe'=>q e N d φ'' xe'
    |ok a σ₂=>
     rw[hm]at q;intro fl h'' d φ'' k J j;refine aB λgP D=>?_;obtain⟨fl0,l''⟩:=a;obtain⟨L'',j⟩:=j;rw[P]at k J;have G:Go (ao fs) [] φ φ'' s.heap h'':=Go.transN au g (J.dropF (by simp)) λa ha=>.inr (by rw[TW.mp ha];exact h4);induction fl0 using Mine.Fl.casesOn with
     |next=>refine D ?_;have U:fl=.next:=j;rw[U];exact q .none h'' d φ'' k.pop G .none
     |cont=>refine D ?_;have U:fl=.cont:=j;rw[U];exact q .none h'' d φ'' k.pop G .none
     |ret v=>refine D ?_;obtain⟨u,U,z4⟩:=j;rw[U];exact q u h'' d φ'' k.pop G z4
   exact hO (λl st=>ex hA' ⟨⟨fs,rfl⟩,h2⟩ l st) f.body l' {s with heap:=h',toks:=tk} φ' t _ _ (by rw[P];exact S') L' H
end
structure MakeOk (W:Wd) (C:Addr) (b:Addr):Prop where
 makes:makesIn W.K C=true
 keep:keepIn W.K (.ref C)=true
 init:findIn W.K (.ref C) "__init__"=some (some (.ref b))
 fn:typeIn W.K (.ref b)=some (.type "function")
structure WdOk7 (W:Wd):Prop extends WdOk6 W where
 defs:∀x f,W.P.fn x=some f-> ∃b,W.mg x=some (.ref b)/\FuncOk W x f b
 clss:∀x f,W.P.init x=some f-> ∃C b,W.cl.at_ x=some C/\W.mg x=some (.ref C)/\MakeOk W C b/\FuncOk W "__init__" f b
 names:∀x f,(W.P.fn x=some f\/W.P.init x=some f)->(x==("__debug__":Str))=false
section
variable {W:Wd} {A:Around} {fs:List Env} {X Y:List Addr} {E:Env} {c:Cx} {l:Loc}
variable {F:List Addr} {φ φ' φ'':al} {σ:List O} {h h' h'' h₀:Heap} {a I:Addr} {it:It} {i:Nat}
theorem xT(A:Around)(d:Args):A.under (.builtin "type.__call__" d)= {A with depth:=A.depth+(Code.builtin "type.__call__" d).weight,units:=A.units+(Code.builtin "type.__call__" d).cUnits}:=rfl
theorem At.roomTc(j:At A fs (n+1))(d:Args):Room (A.under (.builtin "type.__call__" d)) fs n:=by
 have w:(Code.builtin "type.__call__" d).weight<=1:=by
  have f:(Code.builtin "type.__call__" d).frames=0:=by kernel_rfl
  have g:(Code.builtin "type.__call__" d).isGuard=false:=by kernel_rfl
  have c:(Code.builtin "type.__call__" d).isCaller=false:=by kernel_rfl
  unfold Code.weight;rw[f,g,c]
  split<;>simp
 have u:(Code.builtin "type.__call__" d).cUnits=1:=by kernel_rfl
 rw[xT,u];exact⟨j.frames,by have:=j.depth;show A.depth+_+1+2*n+20<=_;exact tt (TD (tt (TD (TL (Uo w) _) (2*_)) (U5 (TZ _ 2 (2*_)))) 20) this,by have:=j.units;show A.units+1+3+12*n+300<=_;exact Qd this,j.handled,j.envs⟩
theorem Cm(Wk:WdOk7 W)(hA:At A fs (n+1))(hx:W.P.init x=some f)
  (ex:∀ {A fs E c},At A fs n->Top E fs-> ∀l st,bT W A fs E c l (exec st E) (I0.ex c l st))
  {vs:List V}{us:List Value}{s:Shared}{φ:al}{σ:List O}{Q:Value->Shared->Prop}{Er:Value->Shared->Prop}{C b:Addr}(hC:W.cl.at_ x=some C)(K:MakeOk W C b)(KF:FuncOk W "__init__" f b)(S:W.St (ao fs) φ σ s.heap)(z:VRs φ s.heap vs us)
  (p:aj W fs [] VR (mq (aC (.inst x [])) (λo=>mq (fj I0 "__init__" f (o::vs)) λr=>match r with|.none=>mr o|_=>bad) σ) s φ Q Er):wpAny (model W.prog W.w) A (call (.ref C) us) Q Er s:=by
 obtain⟨j,g,d,t,U⟩:=s;have X:=vF Wk.toWdOk S;refine Vo (make_core (makes_of X K.makes) (Ve X K.init) (λself=>bind_fn X self K.fn) (.inl rfl) ?_);have k:∀b o,j.get? b=some o->((j.push emptyDict).push (instObj C j.objs.size)).get? b=some o:=λb o e=>Tk _ (Tk _ e);have sz:(j.push emptyDict).objs.size=j.objs.size+1:=UI ..;have gx:((j.push emptyDict).push (instObj C j.objs.size)).get? (j.objs.size+1)=some (instObj C j.objs.size):=by rw[<-sz];exact TH _ rfl
 have gd:((j.push emptyDict).push (instObj C j.objs.size)).get? j.objs.size=some emptyDict:=Tk _ (TH _ rfl);have S2:=St.push (p:=(j.objs.size+1,Aux.some j.objs.size)) (o:=.inst x []) (h':=(j.push emptyDict).push (instObj C j.objs.size)) S k (λa ha=>by
  have:a=j.objs.size+1\/a=j.objs.size:=by simpa [Aux.toList]using ha
  rcases this with q|q<;>rw[q]<;>exact SX (by show j.objs.size<=_;omega)) (by simp[Aux.toList])
  (.inst hC gx ⟨emptyDict, #[],0,gd,rfl,by intro e he;simp at he,λname=>rfl,rfl⟩ (λy=>by
   show(none:Option Value).isSome=(look y ([]:List (Str×V))).isSome;rfl) (λy V e=>nomatch e))
 refine af (S2) λm B=>?_;have zr:VR (φ++ [(j.objs.size+1,Aux.some j.objs.size)]) ((j.push emptyDict).push (instObj C j.objs.size)) (.ref σ.length) (.ref (j.objs.size+1)):=
  .ref (p:=(j.objs.size+1,Aux.some j.objs.size)) (by rw[<-S.len,SW (Vi _),Vb];rfl)
 have G:=VRs.go S au B z;have p₂:aj W fs [] VR (mq (fj I0 "__init__" f (.ref σ.length::vs)) (λr=>match r with|.none=>mr (.ref σ.length)|_=>bad) (σ++ [.inst x []])) ⟨(j.push emptyDict).push (instObj C j.objs.size),g,d,t,U⟩ (φ++ [(j.objs.size+1,Aux.some j.objs.size)]) Q Er:=
  aj.after (s:=⟨j,g,d,t,U⟩) (tk:=t) au B p
 refine vN (s:=⟨(j.push emptyDict).push (instObj C j.objs.size),g,d,t,U⟩) Wk.toWdOk6 (hA.roomTc _) KF ex (us:=.ref (j.objs.size+1)::us) m (.cons zr G) ?_;have:=aj.bind (RV:=VR) (Q₁:=λv Z=>InitBack (j.objs.size+1) (λr Z=>match r with|.ok (.ret v)=>Q v Z|.ok _=>False|.error e=>Er e Z) (.ok (.ret v)) Z) au p₂ λr u σ₃ J tk φ₃ H N D q=>by
  cases D with
  |none=>
   refine⟨rfl, ?_⟩;exact q.ret0 (s:=⟨J,g,d,tk,U⟩) (tk:=tk) H (VR.go m au N zr)
  |_=>exact q.elim
 exact this
end
section
variable {W:Wd} {A:Around} {fs:List Env} {X Y:List Addr} {E:Env} {c:Cx} {l:Loc}
variable {F:List Addr} {φ φ' φ'':al} {σ:List O} {h h' h'' h₀:Heap} {a I:Addr} {it:It} {i:Nat}
def Cn(W:Wd)(A:Around)(fs:List Env)(d:Str->List V->M V):Prop:=
 ∀(x:Str) (v:Value) (vs:List V) (us:List Value) (s:Shared) (φ:al) (σ:List O) (Q:Value->Shared->Prop) (Er:Value->Shared->Prop),nq W.P x=true->W.mg x=some v->
  W.St (ao fs) φ σ s.heap->VRs φ s.heap vs us->aj W fs [] VR (d x vs σ) s φ Q Er->wpAny (model W.prog W.w) A (call v us) Q Er s
theorem qK(m:WdOk7 W)(g:nq W.P x=true):(∃f b,W.P.fn x=some f/\W.mg x=some (.ref b)/\FuncOk W x f b)\/(W.P.fn x=none/\ ∃f C b,W.P.init x=some f/\W.cl.at_ x=some C/\W.mg x=some (.ref C)/\MakeOk W C b/\FuncOk W "__init__" f b):=by
 induction h:W.P.fn x using Vx with
 |some f=>refine aa (m.defs x f h) λb j d=>?_;exact .inl ⟨f,b,rfl,j,d⟩
 |none=>
  unfold nq at g;rw[h]at g;refine am (Td.mp (show(W.P.init x).isSome=true by simpa using g)) λf k=>?_;refine bM (m.clss x f k) λC b j d o p=>.inr ⟨rfl,f,C,b,k,j,d,o,p⟩
theorem Co(j:WdOk7 W)(t:At A fs (n+1)){wf:Nat}
  (u:∀ {A fs E c},At A fs n->Top E fs-> ∀l st,bT W A fs E c l (exec st E) (I0.ex c l st)):Cn W A fs (AM W.P wf I0).call:=λx v vs us s φ σ Q Er B d S z p=>by
 rcases qK j B with⟨f,b,g,q,m⟩|⟨D,f,C,b,g,q,m,w,y⟩
 ·rw[q]at d;injection d with d;subst d
  have k:aj W fs [] VR (fj I0 x f vs σ) s φ Q Er:=by
   have e:(AM W.P wf I0).call x vs=fj I0 x f vs:=by show(match W.P.fn x with|some fn=>_|none=>_)=_;rw[g]
   rw[e]at p;exact p
  exact Vo (vN j.toWdOk6 t.room m u S z k)
 ·rw[m]at d;injection d with d;subst d
  have k:aj W fs [] VR (mq (aC (.inst x [])) (λo=>mq (fj I0 "__init__" f (o::vs)) λr=>match r with|.none=>mr o|_=>bad) σ) s φ Q Er:=by
   have e:(AM W.P wf I0).call x vs=mq (aC (.inst x [])) (λo=>mq (fj I0 "__init__" f (o::vs)) λr=>match r with|.none=>mr o|_=>bad):=by
    show(match W.P.fn x with|some fn=>_|none=>match W.P.init x with|some fn=>_|none=>_)=_;rw[D,g]<;>rfl
   rw[e]at p;exact p
  exact Cm j t g u q w y S z k
theorem vO {M:Model}{h:Heap}{o:Obj}(e:h.get? b=some o)(d:o.data=.func fd):∃k,(k=Keeper.frame\/k=Keeper.machine\/k=Keeper.boundFrame)/\Looks M h (keeperOf (.ref b)) k:=
 ⟨.frame,.inl rfl,by
  obtain⟨p,q,g,m⟩:=o;have j:g=.func fd:=d;subst j;exact(Looks.ld (part:=none) e).andThen .now⟩
theorem wq {f:Value}{d:Pos}{s:Shared}{Q:Args->Shared->Prop}{M:Model}(h:Q ⟨[],[]⟩ s):wpAny M A (evalArgs f true (backTo d (starEach [] E)) []) Q Er s:=PyProof.Rows.evalArgs_nil3 h
theorem ix {P:Heap->Prop}{f:Value}{as:List Expr}{g:Pos}{s:Shared}{Q:Value->Shared->Prop}{M:Model}(j:as.any bI=false)
  (q:∀h,P h-> ∃k,(k=Keeper.frame\/k=Keeper.machine\/k=Keeper.boundFrame)/\Looks M h (keeperOf f) k)(t:P s.heap)
  (h:wpAny M A (spliced (backTo g (starEach as E))) (λvs s₁=>P s₁.heap/\wpAny M A (call f vs) Q Er s₁) Er s):wpAny M A (callWith pos f [] (backTo g (starEach as E)) []) Q Er s:=by
 have o:((backTo g (starEach as E)).any (·.1)||([]:List (Option Str×Sem Value)).any (·.1.isNone))=false:=by rw[(jj as j g).1];rfl
 refine callWith_of o q ?_;induction as using Vz with
 |nil=>
  refine wq ⟨t, ?_⟩;have h':wpAny M A (pure []) (λvs s₁=>wpAny M A (call f vs) Q Er s₁) Er s:=Vp h (λZ Z z=>z.2) λZ Z z=>z;exact λm p d=>by
   have k:=h' m p d;rw[Sem.wp_pure']at k;exact k m p d
 |cons e r=>
  rw[UO,Tv]at j;rw[cN j.1]at h ⊢;exact evalArgs_plain h
theorem Gq(r:WdOk7 W){np:Pos}{as:List Expr}{f:Expr->M V}{m:Str->List V->M V}(J:c.scope.names.lookup x=some .globalImplicit)(N:as.any bI=false)(t:nq W.P x=true)(H:∀e∈as,aI W A fs E c l VR (eval e E) (f e))(G:Cn W A fs m):
  aI W A fs E c l VR (eval (.Call (.Name x np) as [] pos) E) (mq (dN f as) λvs=>m x vs):=λs φ σ Q Er S L p=>by
 refine Us<|aB λgP w=>?_;rcases qK r t with⟨D,b,y,B,v⟩|⟨h0,D,C,b,y,B,v,h4,h5⟩
 ·refine w<|dR r.toWdOk J (r.names x D (.inl y)) S L (.inl B)<|aB λgP w=>aW (v.ex) λo fd U e2 Z=>w<|ix (P:=λh=>h.get? b=some o) N (λh e=>vO e e2) (S.base _ _ U) ((gM as H).after S L p λvs us s₁ j k d u z g q=>⟨d.base _ _ U, ?_⟩)
  exact G x _ vs us s₁ j k Q Er t B d z q
 ·refine w<|dR r.toWdOk J (r.names x D (.inr y)) S L (.inl v)<|ix (P:=λh=>W.K.In h) N (keeps_K h4.keep) (vF r.toWdOk S) ((gM as H).after S L p λvs us s₁ j k d u z g q=>⟨vF r.toWdOk d, ?_⟩)
  exact G x _ vs us s₁ j k Q Er t v d z q
theorem zR(h:jC sc=true):sc.kind=.function/\sc.isGenerator=false/\sc.isCoroutine=false/\(∀x∈sc.names,x.2≠ .cell):=by
 unfold jC at h;simp only[Uc,Vl,Ud]at h;refine af (h) λd m=>?_;obtain⟨⟨k,g⟩,j⟩:=d;exact⟨k,g,j,λx o=>by have:=m x o;simp at this;exact this.1⟩
theorem Gs(Wk:WdOk7 W)(hA:At A fs (n+1))(ev:∀ {A fs E c},At A fs n-> ∀l e,aI W A fs E c l VR (eval e E) (I0.ev c l e))
  {b:Addr}{o:Obj}{body:Expr}{sc:Scope}{k:List (Str×Nat)}{s:Shared}{φ:al}{σ:List O}{Q:Value->Shared->Prop}{Er:Value->Shared->Prop}(S:W.St (ao fs) φ σ s.heap)(ho:s.heap.get? b=some o)(hc:CloR φ s.heap o body sc k)(hl:jC sc=true)
  (p:aj W fs [] VR (I0.ev ⟨Str.empty,sc,k⟩ [] body σ) s φ Q Er):wpAny (model W.prog W.w) A (call (.ref b) []) Q Er s:=by
 refine aB λgP gH=>fD (zR hl) λk1 k2 k3 k4=>?_;obtain⟨c1,fd,d1,d2,d3,d4,d5,d6,d7,d8,d9,d10,d11⟩:=hc;have hR:=hA.room;have hdep:=hA.depth;have hrl:recursionLimit=1000:=rfl;refine gH<|Vo (kla_callFunE (tt (Ul (_+1) (2*_+21)) (tt (U5 (Nat.add_assoc (_+1) (2*_) 21).symm) (tt (U5 (Vs (· +21) (TZ _ 1 (2*_)))) hdep))) ho d1 (by rw[d3];exact k3) (by rw[d3];exact k2) d2 d10 ?_);refine kR (ps:= []) (ds:= []) (dv:= []) (by rw[d6,d7,d8]) rfl (by simp) (λQ' hq=>?_) (.inl rfl) ?_
 ·rw[d9]
  exact Vn (m:=notAStandIn .none) (Vq (Vq (hq _ rfl)))
 rw[d3,d4,d5];refine wpAny_newFunctionEnv k4 (by intro y hy;simp at hy) (λd hns hsb=>?_) k1;have z:s.heap.get? s.heap.objs.size=none:=bK;have kk:∀b o,s.heap.get? b=some o->d.get? b=some o:=λb o e=>hsb.extBut b o (Va (UV e)) (Tk _ e);refine⟨(Wk.lim.keeps (S.grow kk).1.base), ?_⟩;refine aB λgP gH=>af (S.grow kk) λj t=>bw (id hns) λoL esL epL eL dL Z=>?_;have N:=Asd.new (h':=d) S z (λo' e=>by rw[eL]at e;injection e with e;rw[<-e];exact bP dL);have P:W.St (s.heap.objs.size::ao fs) φ σ d:=⟨j.base,j.nodup,j.fresh,j.len,j.obj,λg hg=>by
  rcases UR.mp hg with q|q
  ·rw[q];exact⟨⟨oL,esL,epL,eL,dL⟩,N.phi,N.base⟩
  ·exact j.frames g q⟩
 refine gH ?_;generalize B:newEnv sc s.heap.objs.size mainGlobals fd.closure (fd.qualname++ ".<locals>.") (some b) fd.code none builtinsNs=E';have f1:E'.frame=some s.heap.objs.size:=by rw[<-B];rfl
 have f2:E'.locals=s.heap.objs.size:=by rw[<-B];rfl
 have f3:E'.scope=sc:=by rw[<-B];rfl
 have D:W.Loc E' ⟨Str.empty,sc,k⟩ [] φ d:=by
  refine⟨f3,by rw[f3];exact k1,by rw[<-B];rfl,by rw[<-B];rfl,⟨_,by rw[f2];exact hns,λx V e=>nomatch e⟩,by rw[f2];exact N.phi,by rw[f2];exact N.base,λx n hx=>?_,λq=>absurd (show Str.empty=("law":Str) from q) (by decide+kernel)⟩;refine aB λgP gH=>aa (d11 x n hx) λa r1 r2=>gH<|⟨a,by rw[<-B];exact r1,r2⟩
 have J:=hR.deeper (E':=E') (by rw[f3,k1];decide) f1;have hfs:ao (E'::fs)=s.heap.objs.size::ao fs:=nN f1;refine kla_codeExpr (ev J [] body {s with heap:=d,toks:=s.toks+([]:List (Str×Value)).length} φ σ _ _ (by rw[hfs];exact P) D ?_);induction hm:I0.ev ⟨Str.empty,sc,k⟩ [] body σ using VD with
 |bad=>rw[hm]at p;exact p.elim
 |exc m σ₂=>
  rw[hm]at p;intro e h'' r φ'' xe;exact ErrR.leave f1 J.frames t z xe.more λH xe'=>p e H r φ'' xe'
 |ok v σ₂=>
  rw[hm]at p;intro u h'' r φ'' U G z'';rw[hfs]at U G;have g3:Go (ao fs) [s.heap.objs.size] φ φ'' d h'':=(G.more (X:= [s.heap.objs.size]) (λa ha=>by
   rw[TW.mp ha];exact⟨N.phi,oL,eL,bP dL⟩)).dropF (by simp)
  exact p u h'' r φ'' U.pop (Go.transN au t g3 λa ha=>.inr (by rw[TW.mp ha];exact z)) z''
theorem zS(D:WdOk7 W)(hA:At A fs (n+1))(ev:∀ {A fs E c},At A fs n-> ∀l e,aI W A fs E c l VR (eval e E) (I0.ev c l e)){H:Pos}(hd:(x==("__debug__":Str))=false):
  aI W A fs E c l VR (eval (.Call (.Name x H) [] [] pos) E) (mq (rd c l x) (B0 I0)):=λs φ σ Q Er S L p=>by
 refine Us ?_;have hx:¬x= "__debug__":=by simpa using hd
 have y:=xJ (W:=W) (A:=A) (fs:=fs) (E:=E) (c:=c) (l:=l) D.toWdOk (x:=x) (pos:=H);rw[Vv hx]at y;refine y.after S L p λv u s₁ m w d G z g q=>aa q.el λr J q=>af q.it λB q=>aa (Th.mp J) λk U j=>?_;rw[cS U]at z;refine aa z.ref' λpr ez e1=>aW (d.obj k _ _ e1 (IT j)).clo' λa o ep t j=>?_;rw[ez,ep];refine aa j.ex λfd N Z=>ix (P:=λh=>h.get? _=some _) (as:= []) rfl (λh e=>vO e N) t<|UD ⟨t,Gs D hA ev d t j B q⟩
end
end Mine
end
noncomputable section
open PySem PySem.W PySem.Calls
set_option maxRecDepth 100000
namespace Mine
variable {e:Expr} {u:Value} {Er:Value->Shared->Prop} {b:Bool} {n:Nat} {v:V} {pos p:Pos} {as:List Expr} {c:Cx} {l:Loc}
structure RefOk (W:Wd):Prop where
 glob:W.mg "Refusal"=some (.ref W.CR)
 obj:∃nm q N bs D hdct sn sub ab col dd k0 k1 k2 k3 k5,W.B.get? W.CR=some (excClassObj nm q W.CR N bs [.ref D,.type "Exception",.type "BaseException",.type "object"] hdct sn sub ab col dd k0 k1 k2 k3 k5 "Exception.__new__")
 cls:∃cd D,clsIn W.K W.CR=some cd/\cd.mro= [.ref W.CR,.ref D,.type "Exception",.type "BaseException",.type "object"]/\cd.hasDict=true
 call:specialIn W.K (.ref W.CR) "__call__"=some (some (.builtin "type.__call__"))
 typ:instIn W.K (.ref W.CR) (.type "type")=some true
 keep:keepIn W.K (.ref W.CR)=true
 setattr:findIn W.K (.ref W.CR) "__setattr__"=some (some (.builtin "object.__setattr__"))
 getattribute:findIn W.K (.ref W.CR) "__getattribute__"=some (some (.builtin "BaseException.__getattribute__"))
 getattr:findIn W.K (.ref W.CR) "__getattr__"=some none
 message:findIn W.K (.ref W.CR) "message"=some none
 init:∃b f p1 p2 p3 p4,findIn W.K (.ref W.CR) "__init__"=some (some (.ref b))/\typeIn W.K (.ref b)=some (.type "function")/\FuncOk W "__init__" f b/\f.body= [.Assign [.Attribute (.Name "self" p1) "message" p2] (.Name "message" p3) p4]/\
  f.params.args.map (·.arg)=(["self", "message"]:List Str)/\f.params.defaults= []/\f.scope.names.lookup ("self":Str)=some .local/\f.scope.names.lookup ("message":Str)=some .local/\(∀x∈f.scope.names,x.2≠ .cell)
section
variable {W:Wd} {A:Around} {fs:List Env} {X Y:List Addr} {E:Env} {c:Cx} {l:Loc}
variable {F:List Addr} {φ φ' φ'':al} {σ:List O} {h h' h'' h₀:Heap} {a I:Addr} {it:It} {i:Nat}
theorem JA {k:Program}{w:World}{A:Around}{R:Result->Shared->Prop}{h:Heap}{g:Array GenState}{d:Drawn}{t:Nat}{G:OsState}
  {nm q:Str}{C N D:Addr}{bs:List Value}{hdct:Bool}{sn:List Str}{sub:List Value}{ab:Bool}{col:Option Bool}{dd:Option Addr}{k0 k1 k2 k3 k5:Option Value}{f:List Value}
  (j:h.get? C=some (excClassObj nm q C N bs [.ref D,.type "Exception",.type "BaseException",.type "object"] hdct sn sub ab col dd k0 k1 k2 k3 k5 "Exception.__new__"))
  (H:R (.ok (.ret (.ref (h.objs.size+1)))) ⟨(h.push {cls:=.type "tuple",data:=.seq f.toArray}).push
   {cls:=.ref C,data:=.fields #[.ref h.objs.size,.none,.none,.none,.bool false,.none] },g,d,t,G⟩)(B:f.length<=sizeLine:=by size_fits):
  codeAny (model k w) A (.call (.builtin "Exception.__new__") ⟨.ref C::f,[]⟩) R ⟨h,g,d,t,G⟩:=by
 have F:=PySem.F.excBase_Exception;have x:=F.ends;have m:(Value.ref C:: [.ref D,.type "Exception",.type "BaseException",.type "object"]).contains (.type "Exception")=true:=by simp
 have o:(Value.ref C:: [.ref D,.type "Exception",.type "BaseException",.type "object"]).contains (.type "AttributeError")=false:=by simp
 have r:(Value.ref C:: [.ref D,.type "Exception",.type "BaseException",.type "object"]).contains (.type "NameError")=false:=by simp
 refine codeAny_call_builtin_code (Code.quiet_builtin _ F.quiet) ?_;have z:=F.noStar;simp only[checkBuiltinCall,F.newKind,F.newSplit,F.newRow]
 repeat (first|refine wpAny_loadPart_at j ?_|(refine wpAny_isSubtype_exc j ?_;rw[m])|refine wpAny_staticBase_exc j ?_|refine wpAny_madeBy_exc j ?_|simp only[bne_self_eq_false,TQ,Vt]|wp_step)
 refine codeAny_builtinAt F.entry ?_;unfold Builtin.«BaseException.__new__»;refine wpAt_bind ?_;show wpAt _ _ _ (stack>>=_) _ _ _;refine wpAt_bind (wpAt_stack λp y=>wpAt_of_wpAny ?_)
 wp_walk
 refine wpAt_of_wpAny ?_;rw[F.owner]
 repeat (first|with_reducible refine wpAny_madeHere_exc F.canon j ?_|with_reducible refine wpAny_loadPart_at j ?_|(with_reducible refine wpAny_isSubtype_exc j ?_;first|rw[m]|rw[o]|rw[r])|wp_step)
 show R _ _;rw[UI];exact H
theorem Cp(self:Value)(C D:Addr):refuseLoop self "__setattr__" [.ref C,.ref D,.type "Exception",.type "BaseException",.type "object"]=pure ():=by
 rw[refuseLoop_ref,refuseLoop_ref]
 kernel_rfl
theorem JB(Wk:WdOk W)(N:RefOk W){e:Addr}{k:Obj}{u:Value}{s:Shared}{Q:Unit->Shared->Prop}{Er:Value->Shared->Prop}(hB:W.B.StaysIn s.heap)(q:s.heap.get? e=some k)(z:k.cls=.ref W.CR)(hd:k.dict=none){vs:Array Value}(P:k.data=.fields vs)
  (hQ:∀h' d tk,s.heap.get? d=none->(∀b o,s.heap.get? b=some o->b≠e->h'.get? b=some o)->h'.get? e=some {k with dict:=some d}->(∃mm,h'.Ns d mm/\mm "message"=some u)->Q () {s with heap:=h',toks:=tk}):
  wpAny (model W.prog W.w) A (setAttr (.ref e) "message" u) Q Er s:=by
 have X:W.K.In s.heap:=Wk.K.keeps hB;have I:InstAt s.heap e k W.CR none:=⟨q,z,by unfold notCls;rw[P],by rw[hd];trivial⟩;refine aB λgP C=>aW (N.cls) λcd D g f j=>C<|set_plain X I N.setattr ?_;have x:=PySem.F.store_object;have U:∀M,Looks M s.heap (mroOf (.ref W.CR)) [.ref W.CR,.ref D,.type "Exception",.type "BaseException",.type "object"]:=λM=>f▸(looks_clsIn X g).andThen .now;have sub:Looks (model W.prog W.w) s.heap (isInstance (.ref e) (.type "object")) true:=I.type.andThen (looks_mroIn X (by unfold mroIn;rw[g,Uq,f];rfl));refine codeAny_call_builtin x.slot.plain x.entry (@check_slot (model W.prog W.w) _ _ {s with toks:=s.toks+1} "object.__setattr__" "object" "__setattr__" (.ref e) [.str "message" s.toks,u] [] _ x.kind x.split sub (x.args (.ref e) (.str "message" s.toks) u) ?_);rw[osa_eq,refuse_eq];refine Vn (Vn (Looks.here (s:= {s with toks:=s.toks+1}) I.type (Vn (Looks.here (s:= {s with toks:=s.toks+1}) (U _) ?_))));rw[Cp];refine Vq (Vn (Looks.here (s:= {s with toks:=s.toks+1}) I.type (Vn (Looks.here (s:= {s with toks:=s.toks+1}) (Ve X N.message) (Vn (Vq ?_))))));dsimp only;refine Vn (Vq ?_);refine aB λgP C=>?_;obtain⟨oc,odi,oda,osl⟩:=k;dsimp only at z hd P;subst z hd P;refine C<|Vn (Vn (wpAny_loadPart (s:= {s with toks:=s.toks+1}) q (Vn (Looks.here (s:= {s with toks:=s.toks+1}) (looks_clsIn X g) ?_))));rw[j];refine Vn (wpAny_alloc (Vn ?_));have t:=Tk {cls:=.type "dict",data:=.dict #[] } q;have gd:(s.heap.push {cls:=.type "dict",data:=.dict #[] }).get? s.heap.objs.size=some {cls:=.type "dict",data:=.dict #[] }:=TH _ rfl;have r:e≠s.heap.objs.size:=Va (UV q);refine wpAny_update (s:= {s with heap:=s.heap.push {cls:=.type "dict",data:=.dict #[] },toks:=s.toks+1}) t ?_;have gu:=To (λo:Obj=> {o with dict:=some s.heap.objs.size}) t rfl;have J:=(Tl (s.heap.push {cls:=.type "dict",data:=.dict #[] }) (λo:Obj=> {o with dict:=some s.heap.objs.size}) r).trans gd;refine Vq (a:=some s.heap.objs.size) (Vn (Vq (Vn ?_)));refine AX (n:=0) (m:=λZ=>none) ⟨_,_,_,J,rfl,by intro e q;simp at q,λname=>rfl,rfl⟩ λh' n' sb o' G es ep y L=>?_;refine Vn (wpAny_lookBehind (s:=({s with heap:=h',toks:=s.toks+1+1}:Shared)) G (by
  rw[y];refine pastItsLine_dict ?_;rw[L];have:sizeLine=16777216:=sizeLine_eq
  split<;>omega) (Vq ?_))
 refine hQ h' s.heap.objs.size _ bK (λb o S hb=>?_) ?_ ⟨_,n'.ns,by simp⟩
 ·have H:b≠s.heap.objs.size:=Va (UV S)
  rw[sb.2 b H,Tl _ _ (Vu hb)];exact Tk _ S
 ·rw[sb.2 e r];exact gu
end
section
variable {W:Wd} {A:Around} {fs:List Env} {X Y:List Addr} {E:Env} {c:Cx} {l:Loc}
variable {F:List Addr} {φ φ' φ'':al} {σ:List O} {h h' h'' h₀:Heap} {a I:Addr} {it:It} {i:Nat}
structure Made (W:Wd) (u:Value) (e:Addr) (h':Heap):Prop where
 ex:∃oe t d mm,h'.get? e=some oe/\oe.cls=.ref W.CR/\oe.data=.fields #[.ref t,.none,.none,.none,.bool false,.none]/\oe.dict=some d/\h'.Ns d mm/\mm "message"=some u
theorem Gu(Wk:WdOk7 W)(Rk:RefOk W){b:Addr}{f:Fn}{p1 p2 p3 p4:Pos}(z:FuncOk W "__init__" f b)(t:f.body= [.Assign [.Attribute (.Name "self" p1) "message" p2] (.Name "message" p3) p4])(g:f.params.args.map (·.arg)=(["self", "message"]:List Str))(hdf:f.params.defaults= [])
  (L:f.scope.names.lookup ("self":Str)=some .local)(N:f.scope.names.lookup ("message":Str)=some .local)(y:∀x∈f.scope.names,x.2≠ .cell)(C:A.depth<recursionLimit)
  {e:Addr}{H:Obj}{u:Value}{s:Shared}{R:Result->Shared->Prop}(U:W.B.StaysIn s.heap)(he:s.heap.get? e=some H)(hc:H.cls=.ref W.CR)(hd:H.dict=none){vs:Array Value}(hf:H.data=.fields vs)
  (hQ:∀h' d tk,s.heap.get? d=none->(∀b o,s.heap.get? b=some o->b≠e->h'.get? b=some o)->h'.get? e=some {H with dict:=some d}->(∃mm,h'.Ns d mm/\mm "message"=some u)->R (.ok (.ret .none)) {s with heap:=h',toks:=tk}):
  codeAny (model W.prog W.w) A (.call (.ref b) ⟨[.ref e,u],[]⟩) R s:=by
 refine aB λgP P=>?_;obtain⟨o,fd,e1,e2,e3,r,e5,e6,e7,e8,e9,e10,Z⟩:=z.ex;have D:fd.defaults=.none:=by
  refine aB λgP P=>?_;rcases Z with⟨_,h⟩|⟨k,p,T,oT,n,h,_⟩
  ·refine P<|h
  ·refine P ?_
   rw[hdf]at h;cases h
 have J:f.params.args.length=2:=by
  have:=Vs List.length g;simpa using this
 refine P<|codeAny_call_def (fd:=fd) (body:=f.body) (binds:= [("self",.ref e),("message",u)]) C (U _ _ e1) e2 (Wk.lim.keeps U) (e8.keeps U) e3 (λM A' E' Q' hq=>?_) (by rw[r];exact y) ?_ (λj G S=>?_) (by rw[r];exact z.cor) (by rw[r];exact z.gen) (by rw[r];exact z.kind)
 ·refine kR (ps:=f.params.args) (dv:= []) e9 (by rw[J];rfl) z.pnodup (λQ'' hq'=>?_) (.inl rfl) ?_
  ·rw[D]
   exact Vn (m:=notAStandIn .none) (Vq (Vq (hq' _ rfl)))
  ·rw[g];exact hq
 ·intro x hx
  rw[r];rcases UR.mp hx with q|q
  ·rw[q];exact L
  ·rw[TW.mp q];exact N
 ·rw[t]
  have hk:(callEnv fd s.heap.objs.size b).scope.kind=.function:=by show fd.scope.kind=_;rw[r];exact z.kind
  have hn1:(callEnv fd s.heap.objs.size b).kindOf "self"=some .local:=by show fd.scope.names.lookup _=_;rw[r];exact L
  have hn2:(callEnv fd s.heap.objs.size b).kindOf "message"=some .local:=by show fd.scope.names.lookup _=_;rw[r];exact N
  refine wpAny_execs_cons (plainObj_wpAny_Assign_Attribute (wpAny_Name (TF hk hn2 G (v:=u) (by kernel_rfl) ?_) (by decide+kernel)) (by rfl));refine wpAny_Name (TF hk hn1 G (v:=.ref e) (by kernel_rfl) ?_) (by decide+kernel);refine JB Wk.toWdOk Rk (s:= {s with heap:=j,toks:=s.toks+_}) (λb o q=>S b o (U b o q)) (S _ _ he) hc hd hf λh' d tk hn keep ge gm=>wpAny_execs_nil<|hQ h' d tk ?_ (λb o q hb=>keep b o (S b o q) hb) ge gm;induction q:s.heap.get? d using Vx with
  |none=>rfl
  |some o=>have:=S d o q;have hn':j.get? d=none:=hn;rw[hn']at this;cases this
theorem xU(Wk:WdOk7 W)(C:RefOk W)(S:A.depth+2<recursionLimit){s:Shared}{Q:Value->Shared->Prop}{Er:Value->Shared->Prop}(hB:W.B.StaysIn s.heap)
  (hQ:∀h' e tk,(∀b o,s.heap.get? b=some o->h'.get? b=some o)->s.heap.get? e=none->(∃oe t d U,h'.get? e=some oe/\oe.cls=.ref W.CR/\oe.data=.fields #[.ref t,.none,.none,.none,.bool false,.none]/\oe.dict=some d/\s.heap.get? d=none/\d≠e/\h'.Ns d U/\U "message"=some u)->Q (.ref e) {s with heap:=h',toks:=tk}):
  wpAny (model W.prog W.w) A (call (.ref W.CR) [u]) Q Er s:=by
 refine aB λgP gH=>?_;obtain⟨j,g,d,t,os⟩:=s;have X:W.K.In j:=Wk.K.keeps hB;refine xp (C.obj) λnm q N bs D hdct sn sub ab col dd k0 k1 k2 k3 k5 hCB=>?_;have hC:j.get? W.CR=_:=hB _ _ hCB;refine aW (C.cls) λcd D' J x hdict=>?_;obtain⟨b,f,p1,p2,p3,p4,i1,i2,KF,i4,i5,i6,i7,i8,i9⟩:=C.init;have call:=looks_specialIn (M:=model W.prog W.w) X C.call;have L:=looks_instIn (M:=model W.prog W.w) X C.typ;have G:Looks (model W.prog W.w) j (Bind.madeBy (.ref W.CR)) (some "Exception.__new__"):=by
  intro A' Q' E' s' k z;obtain⟨h1,g1,d1,t1,o1⟩:=s';refine wpAny_madeBy_exc (k _ _ hC) z
 have self:Looks (model W.prog W.w) j (isSubtype (.ref W.CR) (.ref W.CR)) true:=looks_mroIn X (by unfold mroIn;rw[J,Uq,x];simp);have hm:Looks (model W.prog W.w) j (mroOf (.ref W.CR)) cd.mro:=(looks_clsIn X J).andThen .now;have e4:cd.mro.isEmpty=false:=by rw[x];rfl
 have hi:=Ve (M:=model W.prog W.w) X i1;have hb:∀self,Looks (model W.prog W.w) j (bindSpecial (.ref b) self) (.ref b,[self]):=λself=>bind_fn X self i2;refine gH<|Vo (codeAny_of_tree ?_);show wpAny _ _ (callAny (.ref W.CR) _) _ _ _;refine nd_load hC ?_;show wpAny _ _ (callAny.viaDunder (.ref W.CR) _) _ _ _;unfold callAny.viaDunder;refine Vn (call.at ?_);dsimp only;rw[tc_bind];refine Vn (Vq (Vn (Vq ?_)));refine Vq (a:=Fin.again (.call (.builtin "type.__call__") ⟨.ref W.CR:: [u],[]⟩)) (And.intro rfl ?_);refine codeAny_call_builtin_at (Code.quiet_builtin _ (by decide+kernel)) entry_typeCall (PySem.W.check_slot tc_kind tc_split L (tc_args _ _ _) ?_);unfold Builtin.«type.__call__»
 repeat (first|simp only[e4,TQ,Vt]|with_reducible refine Vo ?_|lk)
 refine JA hC ?_ (by size_fits)
 clear hm G call L
 have sz:(j.push {cls:=.type "tuple",data:=.seq [u].toArray}).objs.size=j.objs.size+1:=UI ..;generalize hH:((j.push {cls:=.type "tuple",data:=.seq [u].toArray}).push {cls:=.ref W.CR,data:=.fields #[.ref j.objs.size,.none,.none,.none,.bool false,.none] })=H;have k:∀b o,j.get? b=some o->H.get? b=some o:=λb o e=>hH▸Tk _ (Tk _ e);have hx:H.get? (j.objs.size+1)=some {cls:=.ref W.CR,data:=.fields #[.ref j.objs.size,.none,.none,.none,.bool false,.none] }:=by rw[<-hH,<-sz];exact TH _ rfl
 have t1:Looks (model W.prog W.w) H (typeOf (.ref (j.objs.size+1))) (.ref W.CR):=(Looks.ld hx).andThen .now;have s1:=self.keeps k;have i1':=hi.keeps k;have b1:=(hb (.ref (j.objs.size+1))).keeps k
 clear self hi hb
 unfold isInstance callSpecial? specialOf
 repeat (first|with_reducible refine Vo ?_|lk)
 have y:(A.under (.builtin "type.__call__" ⟨.ref W.CR:: [u],[]⟩)).depth<recursionLimit:=by
  have w:(Code.builtin "type.__call__" ⟨.ref W.CR:: [u],[]⟩).weight<=1:=by
   have f:(Code.builtin "type.__call__" ⟨.ref W.CR:: [u],[]⟩).frames=0:=by kernel_rfl
   have g:(Code.builtin "type.__call__" ⟨.ref W.CR:: [u],[]⟩).isGuard=false:=by kernel_rfl
   have c:(Code.builtin "type.__call__" ⟨.ref W.CR:: [u],[]⟩).isCaller=false:=by kernel_rfl
   unfold Code.weight;rw[f,g,c]
   split<;>simp
  rw[xT];show A.depth+_<_;exact tt (Uo (TL w _)) (tl S)
 refine Gu (s:=⟨H,g,d,t,os⟩) Wk C KF i4 i5 i6 i7 i8 i9 y (λb o q=>k b o (hB b o q)) hx rfl rfl rfl λh' r tk hn keep ge gm=>Vq (Vq ?_);refine aa (gm) λU gm1 Z=>?_;have P:j.get? (j.objs.size+1)=none:=SX (Nat.le_succ _);refine hQ h' (j.objs.size+1) tk (λb o q=>keep b o (k b o q) λz=>by rw[z,P]at q;cases q) P ⟨_,_,r,U,ge,rfl,rfl,rfl, ?_,λz=>?_,gm1,Z⟩
 ·induction q:j.get? r using Vx with
  |none=>rfl
  |some o=>have:=k _ o q;have m:H.get? r=none:=hn;rw[m]at this;cases this
 ·have m:H.get? r=none:=hn
  rw[z,hx]at m;cases m
end
section
variable {W:Wd} {A:Around} {fs:List Env} {X Y:List Addr} {E:Env} {c:Cx} {l:Loc}
variable {F:List Addr} {φ φ' φ'':al} {σ:List O} {h h' h'' h₀:Heap} {a I:Addr} {it:It} {i:Nat}
theorem JC {b a:Addr}{o:Obj}(e:h.get? b=some o)(d:b≠a):(h.hide a).get? b=some o:=hideAll_get [a] e (by simpa using d)
theorem St.hide(as:List Addr):∀ {h:Heap},W.St [] φ σ h->(∀a∈as,Asd W [] φ h a)->W.St [] φ σ (hideAll h as)/\(∀ {V:V} {v:Value},VR φ h V v->VR φ (hideAll h as) V v):=by
 induction as using List.rec with
 |nil=>exact λS Z=>⟨S,λz=>z⟩
 |cons a r ih=>
  intro h S k;have g:=k a (TU ..);have f:∀b o,b≠a->h.get? b=some o->(h.hide a).get? b=some o:=λb o d e=>JC e d;refine af (ih (S.but g f) λb d=>?_) λm j=>⟨m,λz=>j (VR.but g.sd f z)⟩;have q:=k b (TA _ d);exact⟨q.phi,q.fr,q.base,λo e=>q.sd o (Heap.of_hide e)⟩
theorem Em(hA:At A fs n){s:Shared}{φ:al}{σ:List O}(S:W.St (ao fs) φ σ s.heap)(z:VR φ s.heap v u){h':Heap}{e:Addr}(keep:∀b o,s.heap.get? b=some o->h'.get? b=some o)(hn:s.heap.get? e=none)
  {G:Obj}{t d:Addr}{mm:Str->Option Value}(g1:h'.get? e=some G)(g2:G.cls=.ref W.CR)(g3:G.data=.fields #[.ref t,.none,.none,.none,.bool false,.none])(g4:G.dict=some d)(g5:s.heap.get? d=none)(g6:d≠e)(g7:h'.Ns d mm)(g8:mm "message"=some u):
  ErrR W fs X φ s.heap φ σ v e h':=by
 refine aB λH m=>af (S.grow keep) λS' g=>?_;have P:∀f∈ao fs,(∃o C n,s.heap.get? f=some o/\o.data=.dict C n)/\f∉aU φ/\W.B.get? f=none:=S.frames;have Ae:Asd W (ao fs) φ h' e:=Asd.new S hn λo q=>by rw[g1]at q;injection q with q;rw[<-q];exact jM g3 (by simp)
 have aside:∀a∈e::ao fs,Asd W [] φ h' a:=λa ha=>by
  rcases UR.mp ha with q|q
  ·rw[q];exact⟨Ae.phi,by simp,Ae.base,Ae.sd⟩
  ·refine aB λH m=>cQ (P a q) λj J f3=>?_;obtain⟨o,C,k,w,D⟩:=j
   refine m<|⟨J,by simp,f3,λo' N=>by rw[keep _ _ w]at N;injection N with N;rw[<-N];exact bP D⟩
 refine af (St.hide (e::ao fs) (S'.drop (F':= []) (λf U=>nomatch U)) aside) λSY zY=>?_;have hdf:d∉e::ao fs:=λq=>by
  rcases UR.mp q with q|q
  ·exact g6 q
  ·refine aB λH m=>af (P d q) λj Z=>?_;obtain⟨o,C,k,w,D⟩:=j
   refine m ?_;rw[g5]at w;cases w
 refine m<|⟨Uk _,λa ha=>.inl ha,hideAll h' (e::ao fs),SY,λb o hb hφ hX hF=>?_,λf U=>?_,⟨λb o q=>of_hideAll _ q,hideAll_none _ (TU ..), ?_,⟨.ref t,.inl ⟨G,_,g1,g2,g3,rfl,rfl⟩⟩⟩, ?_⟩
 ·refine hideAll_get _ (keep _ _ hb) λq=>?_
  rcases UR.mp q with q|q
  ·rw[q,hn]at hb;cases hb
  ·exact hF q
 ·refine aB λH m=>cQ (P f U) λj J f3=>?_;obtain⟨o,C,k,w,D⟩:=j
  refine m<|⟨hideAll_none _ (TA _ U),J,⟨o,C,k,keep _ _ w,D⟩,λZ o' e'=>⟨o'.slots,keep _ _ e'⟩⟩
 ·have:∀(l:List Env),(∀x∈l,x∈fs)->h'.FunFrames (hideAll h' (e::ao fs)) l:=by
   intro l;induction l with
   |nil=>intro _;trivial
   |cons x r ih=>
    intro hl;obtain⟨k1,L,k2⟩:=hA.envs x (hl x (TU ..));have hm:L∈ao fs:=TV.mpr ⟨x,hl x (TU ..),k2⟩;refine cQ (P L hm) λj J f3=>?_;obtain⟨o,C,k,w,D⟩:=j;exact⟨k1,⟨L,o,k2,hideAll_none _ (TA _ hm),keep _ _ w,λvs q=>by rw[D]at q;cases q⟩,ih λy hy=>hl y (TA _ hy)⟩
  exact this fs λZ h=>h
 ·refine aB λH m=>dK (g7) λo C ep ho r=>m<|⟨G,d,mm,u,g1,g4,⟨o,C,ep,hideAll_get _ ho hdf,r⟩,g8,zY (VR.go S au g z)⟩
theorem wt {M:Model}{o:Env}{nm q:Str}{C N:Addr}{bs bm:List Value}{hdct:Bool}{sn:List Str}{sub:List Value}{ab:Bool}{col:Option Bool}{dd:Option Addr}{k0 k1 k2 k3 k5:Option Value}{newId:String}
  {s:Shared}{x:Sem Value}{Q:Flow->Shared->Prop}{Er:Value->Shared->Prop}(f:bm.contains (.type "BaseException")=true)(G:A.handled=none)
  (h:wpAny M A x (λv s₁=>∃e t oe,v=.ref e/\s₁.heap.get? C=some (excClassObj nm q C N bs bm hdct sn sub ab col dd k0 k1 k2 k3 k5 newId)/\
   s₁.heap.get? e=some oe/\oe.cls=.ref C/\oe.data=.fields #[.ref t,.none,.none,.none,.bool false,.none]/\Er (.ref e) s₁) Er s):
  wpAny M A (raiseStmt o (some x) none) Q Er s:=by
 have r:(Value.ref C::bm).contains (.type "BaseException")=true:=by rw[List.contains_cons,f,Bool.or_true]
 refine Vn (Vp h (λv s₁ j=>?_) λZ Z x=>x);refine aB λP B=>kJ (j) λe t m k y L w z D=>?_;obtain⟨S,U,H,J⟩:=m;subst k;dsimp only at w z;subst w z;obtain⟨hp,g,d,tk,os⟩:=s₁;refine B ?_
 repeat (first|with_reducible refine wpAny_loadPart_at L ?_|with_reducible refine wpAny_loadPart_at y ?_|(with_reducible refine wpAny_isSubtype_exc y ?_;rw[r])|wp_step)
 exact wpAny_raiseNew_none G D
theorem Cq(r:WdOk7 W)(w:RefOk W)(G:At A fs n){np j:Pos}{m:M V}(hk:c.scope.names.lookup ("Refusal":Str)=some .globalImplicit)(Z:bI e=false)(y:aI W A fs E c l VR (eval e E) m):
  bT W A fs E c l (exec (.Raise (some (.Call (.Name "Refusal" np) [e] [] j)) none pos) E) (mq m λv h=>.exc v h):=λs φ σ Q Er S L p=>by
 refine aB λgP gH=>xp (w.obj) λnm q N bs D hdct sn sub ab col dd k0 k1 k2 k3 k5 x=>gH ?_;rw[arm_exec_Raise];refine Vn (UU ?_);show wpAny _ A (raiseStmt E (some (do let v <-eval (.Call (.Name "Refusal" np) [e] [] j) E;standAt pos;pure v)) none) _ _ _;refine wt (C:=W.CR) (bm:= [.ref D,.type "Exception",.type "BaseException",.type "object"]) (nm:=nm) (q:=q) (N:=N) (bs:=bs) (hdct:=hdct) (sn:=sn) (sub:=sub) (ab:=ab) (col:=col) (dd:=dd) (k0:=k0) (k1:=k1) (k2:=k2) (k3:=k3) (k5:=k5) (newId:= "Exception.__new__") (by simp) G.handled (Vn (Us ?_));refine dR r.toWdOk hk (by decide+kernel) S L (.inl w.glob) ?_;have o:=G.depth;have hrl:recursionLimit=1000:=rfl;refine ix (P:=λh=>W.K.In h) (as:= [e]) (by rw[UO,Z];rfl) (keeps_K w.keep) (vF r.toWdOk S) (Ut (y.afterX S L p λv u s₁ k B f H z g q=>UD ⟨vF r.toWdOk f, ?_⟩) (cN Z));refine xU r w (tt (Nat.add_le_add (Ul _ (2*_)) (by decide:3<=20)) o) f.base λh' e' tk keep hn ms=>Oz ms λoe t d mm U g2 J g4 g5 g6 g7 g8=>Vn (UU (Vq ?_));exact bJ e' t oe ⟨rfl,keep _ _ (f.base _ _ x),U,g2,J,q e' h' tk k (Em G f z keep hn U g2 J g4 g5 g6 g7 g8)⟩
end
section
variable {W:Wd} {A:Around} {fs:List Env} {X Y:List Addr} {E:Env} {c:Cx} {l:Loc}
variable {F:List Addr} {φ φ' φ'':al} {σ:List O} {h h' h'' h₀:Heap} {a I:Addr} {it:It} {i:Nat}
theorem JD {d:Program}{w:World}{A:Around}{e C:Addr}{t:Tok}{s:Shared}{R:Result->Shared->Prop}(f:Looks (model d w) s.heap (typeOf (.ref e)) (.ref C))
  (m:Looks (model d w) s.heap (Builtin.ObjectAttr.find (.ref e) (.ref C) "message") (.value u))(sub:Looks (model d w) s.heap (isInstance (.ref e) (.type "BaseException")) true)(o:R (.ok (.ret u)) s):
  codeAny (model d w) A (.call (.builtin "BaseException.__getattribute__") ⟨[.ref e,.str "message" t],[]⟩) R s:=by
 have g:builtinKind "BaseException.__getattribute__"=some .slot:=by decide+kernel
 have k:splitId "BaseException.__getattribute__"=some ("BaseException", "__getattribute__"):=by decide+kernel
 have j:plainId "BaseException.__getattribute__"=true:=PySem.F.excAttr_ValueError.ga.plain;refine codeAny_call_builtin j PySem.F.entry_bexc_ga (@PySem.W.check_slot (model d w) _ _ s "BaseException.__getattribute__" "BaseException" "__getattribute__" (.ref e) [.str "message" t] [] _ g k sub (PySem.F.args_bexc_ga (.ref e) (.str "message" t)) ?_);unfold Builtin.«object.__getattribute__»;refine Vn (Vq ?_);dsimp only;refine Vn (Vq ?_);refine Vn (f.here (Vn (m.here ?_)));exact Vq o
theorem JE(N:WdOk W)(o:RefOk W){e d:Addr}{m:Obj}{H:Str->Option Value}{C:Bool}{s:Shared}{Q:Value->Shared->Prop}{Er:Value->Shared->Prop}(hB:W.B.StaysIn s.heap)(he:s.heap.get? e=some m)(L:m.cls=.ref W.CR){vs:Array Value}(hf:m.data=.fields vs)(hd:m.dict=some d)
  (J:s.heap.Ns d H)(hu:H "message"=some u)(U:handedIn u=true)(hQ:∀tk,Q u {s with toks:=tk}):wpAny (model W.prog W.w) A (getAttr (.ref e) "message" C) Q Er s:=by
 have X:W.K.In s.heap:=N.K.keeps hB;refine aa (vG J) λG P r=>?_;have I:InstAt s.heap e m W.CR (some G):=⟨he,L,by unfold notCls;rw[hf],by rw[hd];exact P⟩;refine aW (o.cls) λcd D k j f=>?_;have z:hasDictIn W.K W.CR=true:=by unfold hasDictIn;rw[k];exact f
 have x:findObj W.K W.CR (some G) "message"=some (.value u):=findObj_own (v:=u) z o.message rfl (by rw[r,hu]);obtain⟨hp,g,dr,t,os⟩:=s;have q:=I.type (M:=model W.prog W.w);have S:=Ve (M:=model W.prog W.w) X o.getattribute;have Z:=Ve (M:=model W.prog W.w) X o.getattr;have L3:=looks_find (M:=model W.prog W.w) X I x;have sub:Looks (model W.prog W.w) hp (isInstance (.ref e) (.type "BaseException")) true:=q.andThen (looks_mroIn X (by unfold mroIn;rw[k,Uq,j];rfl));unfold getAttr getAttrBy;refine Vn (wpAny_mkText (UT (Vn (q.at (Vn (S.at ?_))))));dsimp only;rw[Vv (by simp[onTheHeap])];unfold getAttrByItsOwn hookBefore;refine Vn (Z.at ?_);have y:(C&&onTheHeap (Value.builtin "BaseException.__getattribute__"))=false:=by cases C<;>rfl
 unfold callGetattribute;rw[y];refine Vn (wpAny_attempt (UT ?_));simp only[TQ,Vt];unfold boundAndCalled;rw[PySem.F.excAttr_ValueError.ga.bind];refine Vn (Vq ?_);show wpAny _ _ (call (.builtin "BaseException.__getattribute__") [.ref e,.str "message" t]) _ _ _;refine Vo (JD q L3 sub ?_);show wpAny _ A (handedOut u) Q Er _;rw[handedOut_of U];exact Vq (hQ _)
theorem wu {M:Model}{base:Heap}{e C:Addr}{q:Value}{s:Shared}{Q:Unit->Shared->Prop}{Er:Value->Shared->Prop}(t:s.heap.TracedW base e (.ref C) q)
  (h:∀h' T,T≠e->base.get? T=none->(∃g f,s.heap.get? T=some f/\f.data=.fields g)->(∀b,b≠T->h'.get? b=s.heap.get? b)->Q () {s with heap:=h'}):wpAny M A (setFlight (.ref e) none) Q Er s:=by
 refine aB λB y=>HP (t) λD vs T f g z o hd w j k m d x=>y ?_;refine Vn (wpAny_field z hd w ?_);rw[Vw (show(Value.ref T !=Value.none)=true from by simp)];exact wpAny_setField m d (SS.mp x).1 (h _ T k j ⟨g,f,m,d⟩ λb r=>Tl _ _ (Vu r))
theorem En {G:Prop}{c:Cx}{m:List ExceptHandler}(d:fW c m=true)(k:∀nn o f r g j,m= [.ExceptHandler (some (.Name "Refusal" o)) (some nn) [.Return (some (.Attribute (.Name nn f) "message" r)) g] j]->c.scope.names.lookup ("Refusal":Str)=some .globalImplicit->c.scope.names.lookup nn=some .local->(nn==("__debug__":Str))=false->G):G:=by
 unfold fW at d;induction hq:(fI m).bind MK using Vx with
 |none=>rw[hq]at d;exact ff d
 |some q=>
  rw[hq]at d;have e:=Tu.mp (show(decide (q.1=("Refusal":Str))&&(decide (q.2.1=q.2.2.1)&&(decide (q.2.2.2=("message":Str))&&(decide (c.scope.names.lookup ("Refusal":Str)=some .globalImplicit)&&(decide (c.scope.names.lookup q.2.1=some .local)&& !(q.2.1==("__debug__":Str)))))))=true from d);have w:=Tu.mp e.2;have y:=Tu.mp w.2;have z:=Tu.mp y.2;have t:=Tu.mp z.2;refine aa (Th.mp hq) λx C B=>HO (ML B) λo f r g j D=>k q.2.1 o f r g j (by rw[dp C,D,Ub e.1,<-Ub w.1,Ub y.1]) (Ub z.1) (Ub t.1) (T5 _▸t.2)
theorem Gv(Wk:WdOk7 W)(Rk:RefOk W)(hA:At A fs n)(Tp:Top E fs){rp:Pos}{hs:List ExceptHandler}{m:M V}(hcat:fW c hs=true)(y:aI W A fs E c l VR (eval e E) m):
  bT W A fs E c l (exec (.Try [.Return (some e) rp] hs [] [] pos) E) (xH m l):=λs φ σ Q Er S L p=>by
 refine En hcat λnn p1 p2 p3 p4 p5 hh hg hloc hdb=>?_;rw[hh]
 clear hcat hh
 unfold xH at p;refine aB λgP B=>xp (Rk.obj) λnm q N bs D hdct sn sub ab col dd k0 k1 k2 k3 k5 hCB=>am (Tp.hd) λr gz1=>?_;subst gz1;have hfr:=Tp.fr;refine B<|wpAny_Try_except (wpAny_execs_cons (wpAny_Return_some (y s φ σ _ _ S L ?_)));induction hm:m σ using VD with
 |bad=>rw[hm]at p;exact p.elim
 |ok v σ₁=>
  rw[hm]at p;intro u h₁ tk j S₁ g z;exact p (.ret u) h₁ tk j S₁ (g.more L.offL) ⟨L.go S g,u,rfl,z⟩
 |exc msg σ₁=>
  rw[hm]at p;intro e' h₁ tk j xe;refine aB λgP B=>?_;obtain⟨pre,new,Y,SY,kp,fr,air,ms⟩:=xe;obtain⟨a1,a2,a3,a0,a4⟩:=rZ.air air;refine B<|sx (s:= {s with heap:=h₁,toks:=tk}) hA.frames a3 hfr a1 a2 a4 λt lf dk=>aB λgP B=>fD (lf) λb1 b2 b3 b4=>?_;obtain⟨oe0,dm,mm,um,m1,m2,m3,m4,m5⟩:=ms;refine aa (dk oe0 m1) λoe m1' m2'=>HP (id b3) λoe' vsE T oT ts t1 gy6 t4 t5 t6 t7 t8 t9 t10=>?_;obtain⟨t2,t3⟩:=gy6;refine B ?_;rw[m1']at t1;injection t1 with t1;subst t1;have J:E.locals∈ao (E::r):=by rw[nN hfr];exact TU ..
  have fr2:∀f∈ao (E::r),∃o w k,t.get? f=some o/\o.data=.dict w k:=λf hf=>by
   refine aB λgP B=>fD (fr f hf) λZ Z gy2 Z=>?_;obtain⟨o,w,k,c3,c4⟩:=gy2;obtain⟨sl,H⟩:=b4 f o c3 λvs z=>by rw[c4]at z;cases z
   refine B<|bJ _ w k ⟨H,c4⟩
  have stAt:∀ {hx:Heap},(∀b o,Y.get? b=some o->hx.get? b=some o)->(∀f∈ao (E::r),∃o w k,hx.get? f=some o/\o.data=.dict w k)->W.St (ao (E::r)) j σ₁ hx:=λ{hx} kY kf=>by
   refine af (SY.grow kY) λS3 Z=>⟨S3.base,S3.nodup,S3.fresh,S3.len,S3.obj,λf hf=>⟨kf f hf,(fr f hf).2.1,(S.frames f hf).2.2⟩⟩
  have S2:=stAt b1 fr2;have ns2:∃mL,t.Ns E.locals mL:=by
   refine aB λgP B=>aa (L.ns) λmL gy1 Z=>?_;obtain⟨o,w,ep,d,H,r1⟩:=gy1;refine am ((fr E.locals J).2.2.2 (by simp) o d) λsl e2=>?_;obtain⟨sl',e3⟩:=b4 E.locals _ e2 λvs z=>by
    have z':o.data=.fields vs:=z;rw[H]at z';cases z'
   refine B<|⟨mL,_,w,ep,e3,H,r1⟩
  have L2:W.Loc E c [] j t:=⟨L.scope,L.kind,L.glob,L.blt,let⟨mL,q⟩:=ns2;⟨mL,q,λZ Z z=>nomatch z⟩,(fr E.locals J).2.1,L.offB,λz k hz=>let⟨b,q1,q2⟩:=L.cells z k hz;⟨b,q1,dq pre q2⟩,L.code⟩;have hC2:t.get? W.CR=_:=S2.base _ _ hCB;refine wpAny_handleBy_cons (codeAny_handlers_test ?_) (by intro z;cases z);refine dR (A:=A.mark (some (.ref e'))) (s:= {s with heap:=t,toks:=tk}) Wk.toWdOk hg (by decide+kernel) S2 L2 (.inl Rk.glob) ?_;have hbm:([.ref D,.type "Exception",.type "BaseException",.type "object"]:List Value).contains (.type "BaseException")=true:=by simp
  refine wpAny_excMatches_sub_self (h:=t) hC2 m1' t2 hbm<|codeAny_handlers_suite_as<|wu (s:= {s with heap:=t,toks:=tk}) (base:=Y) b3 λh₃ T' hTe' hnT' hT' kT=>?_;have hT'':=hT';refine aB λgP B=>cY (hT'') λtsT oT' gT dT=>?_;have notT:∀b o,t.get? b=some o->(∀vs,o.data≠ .fields vs)->b≠T':=λb o d nf z=>by
   have gT2:t.get? T'=some oT':=gT;rw[z,gT2]at d;injection d with d;exact nf tsT (d▸dT)
  have kY3:∀b o,Y.get? b=some o->h₃.get? b=some o:=λb o d=>(kT b λz=>by rw[z,hnT']at d;cases d).trans (b1 b o d);obtain⟨mL,hns⟩:=ns2;have hLd:∃o w k,t.get? E.locals=some o/\o.data=.dict w k:=let⟨o,w,ep,d,H,_⟩:=hns;⟨o,w,ep,d,H⟩;have hLT:E.locals≠T':=by obtain⟨o,w,k,d,H⟩:=hLd;exact notT _ o d λvs z=>by rw[H]at z;cases z
  have hns3:h₃.Ns E.locals mL:=by
   refine aB λgP B=>dK (hns) λo w ep d rr=>B<|⟨o,w,ep,(kT _ hLT).trans d,rr⟩
  have hkind:E.kindOf nn=some .local:=(jk L nn).trans hloc;refine B<|wpAny_storeName_local (s:= {s with heap:=h₃,toks:=tk}) hkind hns3 (λh₄ hn₄ C=>?_) (uq L.kind);have kY4:∀b o,Y.get? b=some o->h₄.get? b=some o:=λb o d=>(C.2 b λz=>by rw[z,(fr E.locals J).1]at d;cases d).trans (kY3 b o d);have heL:e'≠E.locals:=λz=>by
   refine aB λgP B=>dK (hLd) λo w k d H=>B ?_;rw[<-z,m1']at d;injection d with d;rw[<-d,t4]at H;cases H
  have he4:h₄.get? e'=some oe:=(C.2 e' heL).trans ((kT e' (Vu hTe')).trans m1');have hdm4:h₄.Ns dm mm:=by
   refine aB λgP B=>dK (m3) λo w ep d rr=>B<|⟨o,w,ep,kY4 _ _ d,rr⟩
  refine wpAny_execs_cons (wpAny_Return_some ?_);rw[arm_eval_Attribute,nH rfl];refine Vn (wpAny_Name (TF L.kind hkind hn₄ (v:=.ref e') (by simp) ?_) (by simpa using hdb));refine Vn (UU (Vn (UT (JE Wk.toWdOk Rk (λb o z=>kY4 b o (SY.base b o z)) he4 t2 t4 (m2'.trans m2) hdm4 m4 (DZ m5) λtk'=>?_))));refine Vn (wpAny_letTemporaryGo (Vq ?_));refine wpAny_nameGoes (m:=λz=>if z=nn then some (.ref e')else mL z) hkind hn₄ (uq L.kind) λx m₅ P U=>?_;have kY5:∀b o,Y.get? b=some o->x.get? b=some o:=λb o d=>(U.2 b λz=>by rw[z,(fr E.locals J).1]at d;cases d).trans (kY4 b o d);have fr5:∀f∈ao (E::r),∃o w k,x.get? f=some o/\o.data=.dict w k:=λf hf=>by
   refine aB λgP B=>?_;by_cases hfl:f=E.locals
   ·refine bw (P) λo w ep d H Z=>B<|bJ o w ep ⟨by rw[hfl];exact d,H⟩
   ·refine dK (fr2 f hf) λo w k d H=>B<|bJ o w k ⟨(U.2 f hfl).trans ((C.2 f hfl).trans ((kT f (notT f o d λvs z=>by rw[H]at z;cases z)).trans d)),H⟩
  have L5:W.Loc E c [] j x:=⟨L.scope,L.kind,L.glob,L.blt,⟨m₅,P,λZ Z z=>nomatch z⟩,(fr E.locals J).2.1,L.offB,λz k hz=>let⟨b,q1,q2⟩:=L.cells z k hz;⟨b,q1,dq pre q2⟩,L.code⟩;have G:Go (ao (E::r)) [E.locals] φ j s.heap x:=⟨pre,new,λb o d hb=>by
    have hbφ:b∉aU φ:=λz=>hb (Ts _ z);have hbL:b≠E.locals:=λz=>hb (Tz _ (TW.mpr z));by_cases hF:b∈ao (E::r)
    ·refine⟨λz=>absurd hF z, ?_⟩
     refine am ((fr b hF).2.2.2 (by simp) o d) λsl e2=>fD (fr b hF) λZ Z gy2 Z=>?_;obtain⟨o',w,k,c3,c4⟩:=gy2;rw[e2]at c3;injection c3 with c3;subst c3;obtain⟨sl',e3⟩:=b4 b _ e2 λvs z=>by
      have z':o.data=.fields vs:=z;have c4':o.data=.dict w k:=c4;rw[c4']at z';cases z'
     refine⟨sl',(U.2 b hbL).trans ((C.2 b hbL).trans ((kT b (notT b _ e3 λvs z=>?_)).trans e3))⟩;have z':o.data=.fields vs:=z;have c4':o.data=.dict w k:=c4;rw[c4']at z';cases z'
    ·have e2:=kY5 b o (kp b o d hbφ (by simp) hF)
     exact⟨λZ=>e2,o.slots,e2⟩,λa ha o d H=>by
    rw[TW.mp ha]at d ⊢;refine bw (P) λo' w ep e2 d2 Z=>?_;exact⟨o',e2,bP d2,λZ Z Z=>⟨w,ep,d2⟩⟩⟩
  have zm:VR j x msg um:=by
   refine af (SY.grow kY5) λZ g5=>VR.go SY au g5 m5
  exact p (.ret um) x _ j (stAt kY5 fr5) G ⟨L5,um,rfl,zm⟩
end
section
variable {W:Wd} {A:Around} {fs:List Env} {X Y:List Addr} {E:Env} {c:Cx} {l:Loc}
theorem At.mono(a:At A fs (n+1)):At A fs n:=⟨a.frames,by have:=a.depth;exact tt (TD (Ul (_+2*_) 2) 20) this,by have:=a.units;exact tt (TD (Ul (_+12*_) 12) 300) this,a.handled,a.envs⟩
theorem dw {a β:Type}{RV:al->Heap->a->β->Prop}{t:Sem β}:aI W A fs E c l RV t bad:=λs φ σ Q Er S L p=>p.elim
theorem fp {t:Sem Flow}:bT W A fs E c l t bad:=λs φ σ Q Er S L p=>p.elim
structure All (W:Wd) (n:Nat) (I:Itp):Prop where
 ev:∀ {A fs E c},At A fs n-> ∀l e,aI W A fs E c l VR (eval e E) (I.ev c l e)
 tst:∀ {A fs E c},At A fs n-> ∀l e,aI W A fs E c l BB (isTrue e E (eval e E)) (I.tst c l e)
 ex:∀ {A fs E c},At A fs n->Top E fs-> ∀l st,bT W A fs E c l (exec st E) (I.ex c l st)
 call:∀ {A fs},At A fs n->Cn W A fs I.call
theorem mn {a β:Type}{RV:al->Heap->a->β->Prop}{t:Sem β}{m:M a}(h:b=false->aI W A fs E c l RV t m):aI W A fs E c l RV t (if b=true then bad else m):=by
 induction b using VA with
 |true=>exact dw
 |false=>exact h rfl
theorem xV {t:Sem Flow}{m:M (Fl×Loc)}(h:b=false->bT W A fs E c l t m):bT W A fs E c l t (if b=true then bad else m):=by
 induction b using VA with
 |true=>exact fp
 |false=>exact h rfl
theorem Gw {a:Type}{l:List a}(h:¬l.length<2):∃v w r,l=v::w::r:=by
 induction l using Vz with
 |nil=>exact absurd (Nat.zero_lt_succ 1) h
 |cons v r=>induction r using Vz with
  |nil=>exact absurd (Un 1) h
  |cons w r=>exact bJ v w r rfl
theorem fK {a β d:Type}{RV:al->Heap->a->β->Prop}{t:Sem β}{o:Option d}{m:d->M a}(h:∀x,o=some x->aI W A fs E c l RV t (m x)):aI W A fs E c l RV t (o.elim bad m):=by
 induction o using Vx with
 |none=>exact dw
 |some x=>exact h x rfl
theorem qb {a:Type}{t:Sem Flow}{o:Option a}{m:a->M (Fl×Loc)}(h:∀x,o=some x->bT W A fs E c l t (m x)):bT W A fs E c l t (o.elim bad m):=by
 induction o using Vx with
 |none=>exact fp
 |some x=>exact h x rfl
theorem uw {a β:Type}{RV:al->Heap->a->β->Prop}{t:Sem β}{m:M a}(h:b=true->aI W A fs E c l RV t m):aI W A fs E c l RV t (bif b then m else bad):=by
 induction b using VA with
 |false=>exact dw
 |true=>exact h rfl
theorem rj {t:Sem Flow}{m:M (Fl×Loc)}(h:b=true->bT W A fs E c l t m):bT W A fs E c l t (bif b then m else bad):=by
 induction b using VA with
 |false=>exact fp
 |true=>exact h rfl
theorem gv {P:Prop}[Decidable P]{a β:Type}{RV:al->Heap->a->β->Prop}{t:Sem β}{m n:M a}(h:P->aI W A fs E c l RV t m)(k:¬P->aI W A fs E c l RV t n):aI W A fs E c l RV t (if P then m else n):=by
 by_cases q:P
 ·rw[Vw q];exact h q
 ·rw[Vv q];exact k q
theorem rk {P:Prop}[Decidable P]{t:Sem Flow}{m n:M (Fl×Loc)}(h:P->bT W A fs E c l t m)(k:¬P->bT W A fs E c l t n):bT W A fs E c l t (if P then m else n):=by
 by_cases q:P
 ·rw[Vw q];exact h q
 ·rw[Vv q];exact k q
theorem JF {q:Expr×Str}(h:MF as=some q):∃p,as= [q.1,.Name q.2 p]:=by
 refine aa (Th.mp h) λr f h=>aa (Tn.mp h) λk a h=>am (ik a) λp d=>⟨p, ?_⟩;rw[oS f,d,<-h]
section
variable {wf n:Nat} {I:Itp}
theorem Eo(j:WdOk7 W)(g:All W n I)(m:At A fs (n+1)){f:Str}{w:Pos}:aI W A fs E c l VR (eval (.Call (.Name f w) as [] pos) E) (H4 W.P I c l f as):=by
 have d:=m.mono;refine mn λa=>gv (λi=>gv (λx=>?_) λZ=>gv (λt=>zM j.toWdOk4 m t i a λe Z=>g.ev d l e) λZ=>gv (λk=>Gq j i a k (λe Z=>g.ev d l e) (g.call d)) λZ=>dw) λZ=>gv (λh=>?_) λZ=>dw
 ·refine fK λq r=>am (JF r) λy o=>?_
  rw[x]at i ⊢;rw[o]at a ⊢;rw[UO,Tv]at a;exact uu j.toWdOk6 i a.1 (g.ev d l _)
 ·rw[h.2.1]
  exact zS j m g.ev h.2.2
theorem Gx(j:WdOk7 W)(f:All W n I)(i:At A fs (n+1)){r:Expr×Str×Pos}:aI W A fs E c l VR (eval (.Call (.Attribute r.1 r.2.1 r.2.2) as [] pos) E) (H5 I c l r as pos):=by
 refine mn λh=>?_;have g:=Tv.mp (show(eP r.1|| !(r.2.2.endLine==pos.line)||decide (20<as.length)||as.any bI)=false from h);have d:=Tv.mp g.1;have a:=Tv.mp d.1;exact F6 j.toWdOk3 a.1 (Bool.not_eq_false' _▸a.2) (Nat.not_lt.mp (of_decide_eq_false d.2)) g.2 (f.ev i.mono l _) λe Z=>f.ev i.mono l e
theorem Gy(j:WdOk7 W)(d:All W n I)(a:At A fs n){o i:Expr}:aI W A fs E c l VR (eval (.Subscript o i p) E) (MI I c l o i):=by
 refine gv (λZ=>fK λk g=>pP (FI g) λkd q m f=>?_) λf=>Jf j.toWdOk3 (T4.mpr f) (d.ev a l _) (d.ev a l _);rw[f];exact gv (λh=>D5 h (d.ev a l _)) λZ=>dw
theorem Ep(d:All W n I)(g:At A fs n){ks:List (Option Expr)}{vs:List Expr}:aI W A fs E c l VR (eval (.Dict ks vs p) E) (H7 I c l ks vs):=by
 refine gv (λi=>gv (λf=>?_) λZ=>dw) λZ=>fK λq h=>fK λe f=>BO (IR h) λj m o k r t=>?_
 ·rw[Uf.mp i,Uf.mp f];exact Eg
 ·intro a
  rw[a,oU f];exact Eh (d.ev g l _) (d.ev g l _) (d.ev g l _)
theorem JG(m:WdOk7 W)(t:wf<=2^20)(j:All W n I)(o:At A fs (n+1))(l:Loc)(e:Expr):aI W A fs E c l VR (eval e E) (MN W.P wf I c l e):=by
 have d:=o.mono;induction e using VE with
 |Constant k i p=>induction k using PySem.Const.casesOn with
  |none=>exact FP
  |bool=>exact FQ
  |int=>exact IV
  |str=>exact IW
  |_=>exact dw
 |Name=>exact xJ m.toWdOk
 |BinOp=>exact DV (j.ev d l _) (j.ev d l _)
 |UnaryOp op a p=>induction op using PySem.UnaryOp.casesOn with
  |USub=>exact FY (j.ev d l _)
  |Not=>exact I5 m.toWdOk2 (j.ev d l _)
  |_=>exact dw
 |BoolOp=>exact AW m.toWdOk2 _ λe Z=>j.ev d l e
 |Compare a ops bs p=>exact fK λop D=>fK λb B=>mn λh=>by rw[dp D,dp B];exact I6 m.toWdOk2 o h (j.ev d l _) (j.ev d l _)
 |IfExp=>exact DW (j.tst d l _) (j.ev d l _) (j.ev d l _)
 |Attribute=>exact mn λh=>F1 m.toWdOk3 h (j.ev d l _)
 |Subscript=>exact Gy m j d
 |Tuple=>exact Ja λe Z=>j.ev d l e
 |List=>exact FZ λe Z=>j.ev d l e
 |Dict=>exact Ep j d
 |Call f as kws p=>
  refine uw λC=>?_;rw[Uf.mp C];induction hf:mh f using Vx with
  |some x=>exact am (ik hf) λq e=>by rw[e];exact Eo m j o
  |none=>exact fK λr z=>by rw[ue z];exact Gx m j o
 |Lambda ag body sc p=>exact uw λh=>by rw[B1 h];exact Ck m.toWdOk6
 |ListComp elt gs sc p=>exact fK λg y=>by rw[uh y];exact pe m.toWdOk5 o.handled t (λl e=>j.ev d l e) (λl e=>j.tst d l e)
 |DictComp k v gs sc p=>exact fK λg y=>uw λh=>by rw[uh y,Uf.mp h];exact xQ m.toWdOk5 o.handled t (λl e=>j.ev d l e)
 |JoinedStr vs p=>exact gv (λZ=>dw) λh=>pP (Gw h) λv w r e=>by rw[e];exact Cj λe=>j.ev d l e
 |_=>exact dw
theorem Gz(g:WdOk7 W)(f:All W n I)(i:At A fs (n+1))(l:Loc)(e:Expr):aI W A fs E c l BB (isTrue e E (eval e E)) (FM I c l e):=by
 have d:=i.mono;induction e using VE with
 |UnaryOp op a p=>induction op using PySem.UnaryOp.casesOn with
  |Not=>exact I7 (f.tst d l _)
  |_=>exact vE g.toWdOk2 rfl (f.ev d l _)
 |BoolOp=>exact λs φ σ Q Er S L p=>wpAny_isTrue_BoolOp (qI _ (λe Z=>f.tst d l e) s φ σ Q Er S L p)
 |IfExp=>exact DY (f.tst d l _) (f.tst d l _) (f.tst d l _)
 |Compare a ops bs p=>exact fK λop k=>fK λb j=>mn λh=>by rw[dp k,dp j];exact I8 g.toWdOk2 i h (f.ev d l _) (f.ev d l _)
 |_=>exact vE g.toWdOk2 rfl (f.ev d l _)
theorem GA(f:WdOk7 W)(g:wf<=2^20)(d:All W n I)(i:At A fs (n+1))(l:Loc){t:Expr}:bT W A fs E c l (exec (.Assign [t] e p) E) (FK I wf c l t e):=by
 have a:=i.mono;induction t using VE with
 |Attribute=>exact rh f.toWdOk5 (d.ev a l _) (d.ev a l _)
 |Subscript=>exact sr f.toWdOk5 (d.ev a l _) (d.ev a l _) (d.ev a l _)
 |Name x px=>
  show bT W A fs E c l _ ((vA e).elim _ _);induction hq:vA e using Vx with
  |none=>exact xV λj=>jX (jd j) (d.ev a l _)
  |some q=>exact am (MJ hq) λp e=>by rw[e];exact rg f.toWdOk5 i.handled g (λl e=>d.ev a l e) (λl e=>d.tst a l e)
 |Tuple ts k q=>exact rk (λZ=>fp) λh=>sw i.handled (T4.mpr (not_or.mp h).1) (Bool.not_eq_false _▸(not_or.mp h).2) (d.ev a l _)
 |_=>exact fp
theorem GB(m:WdOk7 W)(k:RefOk W)(g:All W n I)(d:At A fs (n+1))(l:Loc){o y:Option Expr}:bT W A fs E c l (exec (.Raise o y p) E) (MM I c l o y):=by
 refine qb λq a=>rk (λh=>?_) λZ=>fp;induction hy:y.isNone using VA with
 |false=>rw[hy]at a;exact ns a
 |true=>
  rw[hy]at a;refine aa (Th.mp a) λe j f=>cI (xG f) λt r i=>?_;rw[S8.mp hy,j,i,h.1];exact Cq m k d (by rw[<-h.1];exact h.2.1) h.2.2 (g.ev d.mono l _)
theorem JH(k:WdOk7 W)(w:RefOk W)(q:wf<=2^20)(d:All W n I)(j:At A fs (n+1))(i:Top E fs)(l:Loc)(g:Stmt):bT W A fs E c l (exec g E) (B3 W.P wf I c l g):=by
 have a:=j.mono;induction g using PySem.Stmt.casesOn with
 |Return v p=>exact qb λe r=>by rw[r];exact zO (d.ev a l _)
 |Expr e p=>exact xV λm=>Ee m (d.ev a l _)
 |Continue=>exact wn
 |If=>exact Ju (d.tst a l _) (hO (λl g=>d.ex a i l g) _ l) (hO (λl g=>d.ex a i l g) _ l)
 |While t b o p=>exact rj λh=>by rw[Uf.mp h];exact D9 (λl=>d.tst a l _) (λl=>hO (λl g=>d.ex a i l g) _ l) wf
 |For t it b o p=>exact rj λh=>by rw[Uf.mp h];exact Gi k.toWdOk5 j.handled (λl e=>d.ev a l e) (λl=>hO (λl g=>d.ex a i l g) _ l)
 |Assign ts e p=>exact qb λt x=>by rw[dp x];exact GA k q d j l
 |Raise=>exact GB k w d j l
 |Try b hs o f p=>
  refine rj λh=>qb λe r=>rk (λm=>?_) λZ=>fp;have h:=Tu.mp h;refine aa (Th.mp r) λg y B=>am (AL B) λC z=>?_;rw[Uf.mp h.1,Uf.mp h.2,dp y,z];exact Gv k w j i m (d.ev a l _)
 |_=>exact fp
end
end
noncomputable def jZ(P:Prg)(wf:Nat)(C:Str->List V->M V):Nat->Itp
 |0=>⟨λZ Z Z=>bad,λZ Z Z=>bad,λZ Z Z=>bad,C⟩
 |n+1=> {AM P wf (jZ P wf C n)with call:=C}
noncomputable def T(P:Prg)(wf k:Nat):Nat->Str->List V->M V
 |0=>λZ Z=>bad
 |j+1=>(AM P wf (jZ P wf (T P wf k j) k)).call
def H9(W:Wd)(C:Str->List V->M V)(m:Nat):Prop:=∀A fs,At A fs m->Cn W A fs C
theorem Ia {A:Around}{fs:List Env}{m:Nat}(h:n<=m)(a:At A fs m):At A fs n:=⟨a.frames,by have:=a.depth;exact tt (TD (TL (TO 2 h) _) 20) this,by have:=a.units;exact tt (TD (TL (TO 12 h) _) 300) this,a.handled,a.envs⟩
theorem Ib {W:Wd}(f:WdOk7 W)(i:RefOk W){wf:Nat}(d:wf<=2^20){C:Str->List V->M V}{m:Nat}(h:H9 W C m):∀n,All W (m+n) (jZ W.P wf C n)
 |0=>⟨λZ Z Z=>dw,λZ Z Z=>dw,λZ Z Z Z=>fp,λa=>h _ _ a⟩
 |n+1=>by
  have g:=Ib f i d h n;exact⟨λa l e=>JG f d g a l e,λa l e=>Gz f g a l e,λa j l k=>JH f i d g a j l k,λa=>h _ _ (Ia Qz a)⟩
theorem A4 {W:Wd}(f:WdOk7 W)(h:RefOk W){wf:Nat}(a:wf<=2^20)(k:Nat):∀j,H9 W (T W.P wf k j) (j*(k+1))
 |0=>by intro A fs d x v vs us s φ σ Q Er _ _ _ _ p;exact p.elim
 |j+1=>by
  intro A fs d;have i:=Ib f h a (A4 f h a k j) k;have g:At A fs (j*(k+1)+k+1):=Ia (by have:=Nat.succ_mul j (k+1);simp only[Nat.succ_eq_add_one]at this;exact U5 this.symm) d;exact Co f g λd m l o=>i.ex d m l o
theorem mw {d β i:Type}(m:M d)(f:d->M β)(g:β->M i):mq (mq m f) g=mq m λa=>mq (f a) g:=by
 funext h
 unfold mq;cases m h<;>rfl
theorem mB {a:Type}(m:M a):mq m mr=m:=by
 funext h
 unfold mq mr;cases m h<;>rfl
theorem mP {d β:Type}(a:d)(f:d->M β):mq (mr a) f=f a:=rfl
structure KI (β:Type) where
 ev:Cx->Loc->Expr->(V->M β)->M β
 tst:Cx->Loc->Expr->(Bool->M β)->M β
 ex:Cx->Loc->Stmt->(Fl->Loc->M β)->M β
noncomputable def iy {β:Type}(f:Expr->(V->M β)->M β):List Expr->(List V->M β)->M β
 | [],k=>k []
 |e::r,k=>if bI e then bad else f e λv=>iy f r λvs=>k (v::vs)
noncomputable def PL {f:Type}(op:BoolOp)(b:Bool)(a d:f):f:=match op with
 |.And=>(match b with|true=>d|false=>a)
 |.Or=>(match b with|true=>a|false=>d)
noncomputable def M4:BoolOp->Bool
 |.And=>false
 |.Or=>true
noncomputable def Id {d:Type}(f:Fl)(a:d)(k:Fl->d):d:=match f with
 |.next=>a
 |.cont=>k .cont
 |.ret v=>k (.ret v)
noncomputable def Cr {β:Type}(f:Expr->(V->M β)->M β)(op:BoolOp):List Expr->(V->M β)->M β
 | [],_=>bad
 | [e],k=>f e k
 |e::r,k=>f e λv=>mq (truth v) λb=>PL op b (k v) (Cr f op r k)
noncomputable def sC {β:Type}(f:Expr->(Bool->M β)->M β)(op:BoolOp):List Expr->(Bool->M β)->M β
 | [],k=>k (match op with|.And=>true|.Or=>false)
 |x::r,k=>f x λb=>PL op b (k (M4 op)) (sC f op r k)
noncomputable def bj {β:Type}(f:Loc->Stmt->(Fl->Loc->M β)->M β):List Stmt->Loc->(Fl->Loc->M β)->M β
 | [],l,k=>k .next l
 |s::r,l,k=>f l s λd a=>Id d (bj f r a k) λx=>k x a
theorem vP {β:Type}{f:Expr->(V->M β)->M β}{g:Expr->M V}(e:∀x k,f x k=mq (g x) k):∀xs k,iy f xs k=mq (dN g xs) k
 | [],k=>rfl
 |x::r,k=>by
  rw[iy,dN];by_cases a:bI x=true
  ·rw[Vw a,Vw a];rfl
  rw[Vv a,Vv a,e,mw]
  congr 1;funext v
  rw[vP e r,mw];rfl
theorem A5 {β:Type}{f:Expr->(V->M β)->M β}{g:Expr->M V}(e:∀x k,f x k=mq (g x) k)(op:BoolOp):∀xs k,Cr f op xs k=mq (AG g op xs) k
 | [],k=>rfl
 | [x],k=>e x k
 |x::y::r,k=>by
  unfold Cr;rw[DX];rw[e,mw]
  congr 1;funext v
  rw[mw]
  congr 1;funext b
  cases op<;>cases b<;>first|rfl|exact A5 e _ (y::r) k
theorem rl {β:Type}{f:Expr->(Bool->M β)->M β}{g:Expr->M Bool}(e:∀x k,f x k=mq (g x) k)(op:BoolOp):∀xs k,sC f op xs k=mq (nc g op xs) k
 | [],k=>rfl
 |x::r,k=>by
  rw[sC,nc];rw[e,mw]
  congr 1;funext b
  cases op<;>cases b<;>first|rfl|exact rl e _ r k
theorem jm {β:Type}{f:Loc->Stmt->(Fl->Loc->M β)->M β}{g:Loc->Stmt->M (Fl×Loc)}(e:∀l x k,f l x k=mq (g l x) λp=>k p.1 p.2):∀xs l k,bj f xs l k=mq (db g xs l) λp=>k p.1 p.2
 | [],l,k=>rfl
 |x::r,l,k=>by
  rw[bj,db];rw[e,mw]
  congr 1;funext p
  obtain⟨d,a⟩:=p;induction d using Mine.Fl.casesOn with
  |next=>exact jm e r a k
  |cont=>rfl
  |ret v=>rfl
def aZ(n:Nat):M V:=λh=>(qF h[n]?).elim .bad λv=>.ok v h
def fL(n:Nat)(v:V):M Unit:=λh=>bif jA h[n]? then .ok () (h.set n (.cell (some v)))else .bad
def xW {β:Type}(c:Cx)(x:Str)(k:V->M β):M β:=if x= "__classdict__" then bad else(look x c.cells).elim bad λn=>mq (aZ n) k
def Sk {β:Type}(c:Cx)(l:Loc)(x:Str)(k:V->M β)(kd:NameKind):M β:=match kd with
 |.local=>(look x l).elim bad k
 |.cell|.free=>xW c x k
 |.globalImplicit=>(jQ x).elim bad k
 |_=>bad
def M5 {β:Type}(c:Cx)(l:Loc)(x:Str)(k:V->M β):M β:=(c.scope.names.lookup x).elim bad (Sk c l x k)
def Sl {β:Type}(c:Cx)(x:Str)(v:V)(l:Loc)(k:Loc->M β)(kd:NameKind):M β:=match kd with
 |.local=>k (put x v l)
 |.cell=>(look x c.cells).elim bad λn=>mq (fL n v) λZ=>k l
 |_=>bad
def j0 {β:Type}(c:Cx)(x:Str)(v:V)(l:Loc)(k:Loc->M β):M β:=(c.scope.names.lookup x).elim bad (Sl c x v l k)
noncomputable def sE {β:Type}(c:Cx):List Str->List V->Loc->(Loc->M β)->M β
 | [],vs,l,k=>(match vs with| []=>k l|_::_=>bad)
 |x::xs,vs,l,k=>(match vs with|v::vs=>j0 c x v l λa=>sE c xs vs a k| []=>bad)
def dS(v:V):M (V×V):=λh=>((jB v).bind rX).elim .bad λp=>.ok p h
def j7(v:V):M (V×V×V):=λh=>((jB v).bind rY).elim .bad λp=>.ok p h
def GC {β:Type}(c:Cx)(a:List Expr)(v:V)(l:Loc)(k:Loc->M β):M β:=(names? a).elim bad λxs=>(rX xs).elim ((rY xs).elim (mq (jq c a v l) k) λq=>mq (j7 v) λp=>j0 c q.1 p.1 l λl=>j0 c q.2.1 p.2.1 l λl=>j0 c q.2.2 p.2.2 l k)
 λq=>mq (dS v) λp=>j0 c q.1 p.1 l λl=>j0 c q.2 p.2 l k
def fX {β:Type}(c:Cx)(t:Expr)(v:V)(l:Loc)(k:Loc->M β):M β:=by
 induction t using Expr.casesOn with
 |Name x=>exact j0 c x v l k
 |Tuple ts=>exact GC c ts v l k
 |_=>exact bad
noncomputable def kS {β:Type}(f:Expr->(V->M β)->M β):List Expr->Str->(Str->M β)->M β
 | [],acc,k=>k acc
 |e::r,acc,k=>(nh e).elim bad λq=>match q with
   |.inl s=>if acc.length+s.length<=line then kS f r (acc++s) k else bad
   |.inr e=>f e λv=>mq (part acc v) λa=>kS f r a k
theorem jN {d β a:Type}{o:Option a}{f:a->R d}{k:d->M β}{h:List O}{g:a->R β}(e:∀x,g x=mq (λZ=>f x) k h):o.elim .bad g=mq (λZ=>o.elim .bad f) k h:=by
 induction o using Vx with
 |none=>rfl
 |some x=>exact e x
theorem mo {β a:Type}{o:Option a}{f:a->M β}{h:List O}:(o.elim bad f) h=o.elim .bad λx=>f x h:=by
 induction o using Vx with
 |none=>rfl
 |some x=>rfl
theorem xX {β:Type}(c:Cx)(x:Str)(k:V->M β)(h:List O):xW c x k h=mq (λZ=>BP c x h) k h:=by
 unfold xW BP;by_cases a:x= "__classdict__"
 ·rw[Vw a,Vw a];rfl
 ·rw[Vv a,Vv a,mo]
  exact jN (f:=λn=>(qF h[n]?).elim .bad λv=>.ok v h) (k:=k) (h:=h) λn=>rfl
theorem M6 {β:Type}(c:Cx)(l:Loc)(x:Str)(k:V->M β):M5 c l x k=mq (rd c l x) k:=by
 funext h
 unfold M5;rw[mo];refine jN (h:=h) (f:=PG c l x h) λkd=>?_;induction kd using PySem.NameKind.casesOn with
 |«local»=>exact mo.trans (jN (h:=h) (f:=λv=>.ok v h) λv=>rfl)
 |cell=>exact xX c x k h
 |free=>exact xX c x k h
 |globalImplicit=>exact mo.trans (jN (h:=h) (f:=λv=>.ok v h) λv=>rfl)
 |_=>rfl
theorem Es {β:Type}(c:Cx)(x:Str)(v:V)(l:Loc)(k:Loc->M β):j0 c x v l k=mq (wr c x v l) k:=by
 funext h
 unfold j0;rw[mo];refine jN (h:=h) (f:=PH c x v l h) λkd=>?_;induction kd using PySem.NameKind.casesOn with
 |cell=>
  refine mo.trans (jN (h:=h) (f:=λn=>bif jA h[n]? then .ok l (h.set n (.cell (some v)))else .bad) λn=>?_);induction hc:jA h[n]? using VA with
  |false=>rw[mu (show fL n v h=.bad by unfold fL;rw[hc];rfl)];rfl
  |true=>rw[my (show fL n v h=.ok () (h.set n (.cell (some v))) by unfold fL;rw[hc];rfl)];rfl
 |_=>rfl
theorem kU {β:Type}(c:Cx):∀(xs:List Str) (vs:List V) (l:Loc) (k:Loc->M β),sE c xs vs l k=mq (eG c xs vs l) k
 | [],[],l,k=>rfl
 |x::xs,v::vs,l,k=>by
  show(j0 c x v l λa=>sE c xs vs a k)=mq (mq (wr c x v l) λa=>eG c xs vs a) k
  rw[Es,mw]
  congr 1;funext a
  exact kU c xs vs a k
 | [],_::_,_,_=>rfl
 |_::_,[],_,_=>rfl
theorem A6 {f β:Type}{xs:List Str}{a:List Expr}{k:Loc->M β}{g:List V->Option f}{n:Nat}{w:f->M β}(d:names? a=some xs)(i:xs.length=n)(len:∀ {vs:List V},vs.length=n-> ∃q,g vs=some q)(j:∀ {vs q},g vs=some q->vs.length=n)
  (e:∀vs q,g vs=some q->w q=mq (eG c xs vs l) k):mq (λh=>((jB v).bind g).elim .bad λp=>.ok p h) w=mq (jq c a v l) k:=by
 funext h
 induction hv:jB v using Vx with
 |none=>rw[mu (show(((none:Option (List V)).bind g).elim R.bad λp=>R.ok p h)=R.bad from rfl),mu (show jq c a v l h=.bad by unfold jq;rw[d,hv];rfl)]
 |some vs=>
  induction hg:g vs using Vx with
  |none=>
   rw[mu (show(((some vs).bind g).elim R.bad λp=>R.ok p h)=R.bad by rw[Uq,hg];rfl),mu (show jq c a v l h=.bad by unfold jq;rw[d,hv];exact Vv λz=>am (len (z.symm.trans i)) λq e=>ns (hg.symm.trans e))]
  |some q=>
   rw[my (show(((some vs).bind g).elim R.bad λp=>R.ok p h)=R.ok q h by rw[Uq,hg];rfl),e vs q hg];show mq _ k h=_;unfold mq;rw[show jq c a v l h=eG c xs vs l h by unfold jq;rw[d,hv];exact Vw (i.trans (j hg).symm)]
theorem jD {β:Type}(c:Cx)(t:Expr)(v:V)(l:Loc)(k:Loc->M β):fX c t v l k=mq (target c t v l) k:=by
 induction t using VE with
 |Name x p=>exact Es c x v l k
 |Tuple ts q p=>
  show GC c ts v l k=mq (jq c ts v l) k;unfold GC;induction hx:names? ts using Vx with
  |none=>funext h;exact(mu (show jq c ts v l h=.bad by unfold jq;rw[hx];rfl)).symm
  |some xs=>
   show(rX xs).elim _ _=_
   induction h2:rX xs using Vx with
   |some q=>
    have a:=oS h2;exact A6 (n:=2) (w:=λp=>j0 c q.1 p.1 l λl=>j0 c q.2 p.2 l k) hx (by rw[a];rfl) AJ (λe=>by rw[oS e];rfl) λvs p e=>by rw[oS e,a];exact kU c [q.1,q.2] [p.1,p.2] l k
   |none=>
    show(rY xs).elim _ _=_
    induction h3:rY xs using Vx with
    |some q=>
     have a:=oU h3;exact A6 (n:=3) (w:=λp=>j0 c q.1 p.1 l λl=>j0 c q.2.1 p.2.1 l λl=>j0 c q.2.2 p.2.2 l k) hx (by rw[a];rfl) IQ (λe=>by rw[oU e];rfl) λvs p e=>by rw[oU e,a];exact kU c [q.1,q.2.1,q.2.2] [p.1,p.2.1,p.2.2] l k
    |none=>rfl
 |_=>rfl
theorem jt {d β a:Type}{o:Option a}{f:a->M β}{g:a->M d}{k:d->M β}(e:∀x,f x=mq (g x) k):o.elim bad f=mq (o.elim bad g) k:=by
 induction o using Vx with
 |none=>rfl
 |some x=>exact e x
theorem eH {a β:Type}{p:Prop}[Decidable p]{x y:M β}{m n:M a}{k:a->M β}(h:x=mq m k)(h':y=mq n k):(if p then x else y)=mq (if p then m else n) k:=by
 by_cases q:p
 ·rw[Vw q,Vw q];exact h
 ·rw[Vv q,Vv q];exact h'
theorem w6 {a β:Type}{p:Bool}{x y:M β}{m n:M a}{k:a->M β}(h:x=mq m k)(h':y=mq n k):(bif p then x else y)=mq (bif p then m else n) k:=by
 induction p using VA with
 |false=>exact h'
 |true=>exact h
theorem cont {d β i:Type}{m:M d}{f:d->M β}{g:β->M i}{h:d->M i}(e:∀a,h a=mq (f a) g):mq m h=mq (mq m f) g:=by
 rw[mw,funext e]
theorem xY {β:Type}{f:Expr->(V->M β)->M β}{g:Expr->M V}(e:∀x k,f x k=mq (g x) k)(h:List Expr):∀(d:Str) (k:Str->M β),kS f h d k=mq (ej g h d) k:=by
 induction h using List.rec with
 |nil=>exact λZ Z=>rfl
 |cons x r ih=>
  intro d k;refine jt λq=>?_;induction q using Sum.casesOn with
  |inl s=>exact eH (ih _ _) rfl
  |inr y=>exact(e _ _).trans (cont λv=>cont λa=>ih _ _)
def uz {β:Type}(K:KI β)(c:Cx)(l:Loc)(e:Expr)(k:It->M β):M β:=if oR e then bad else match nu e with
 |some q=>if q.1= "range"/\c.scope.names.lookup q.1=some .globalImplicit/\bI q.2=false then K.ev c l q.2 λv=>mq (bt v) k else K.ev c l e λv=>mq (bY v) k
 |Option.none=>match rW e with
  |some q=>if q.2.1= "items"/\eP q.1=false/\q.2.2=true then K.ev c l q.1 λv=>mq (dI v) k else K.ev c l e λv=>mq (bY v) k
  |Option.none=>K.ev c l e λv=>mq (bY v) k
theorem JI {β:Type}{I:Itp}{K:KI β}(o:∀c l e k,K.ev c l e k=mq (I.ev c l e) k)(c:Cx)(l:Loc)(e:Expr)(k:It->M β):uz K c l e k=mq (jT I c l e) k:=by
 unfold uz jT;by_cases h:oR e=true
 ·rw[Vw h,Vw h];rfl
 rw[Vv h,Vv h];induction nu e using Vx with
 |some q=>
  dsimp only;by_cases h:q.1= "range"/\c.scope.names.lookup q.1=some .globalImplicit/\bI q.2=false
  ·rw[Vw h,Vw h,o,mw]
  ·rw[Vv h,Vv h,o,mw]
 |none=>
  dsimp only;induction rW e using Vx with
  |some q=>
   dsimp only;by_cases h:q.2.1= "items"/\eP q.1=false/\q.2.2=true
   ·rw[Vw h,Vw h,o,mw]
   ·rw[Vv h,Vv h,o,mw]
  |none=>dsimp only;rw[o,mw]
def Cs(wf:Nat)(I:Itp)(c:Cx)(t:Expr)(b:List Stmt)(it:It)(l:Loc):M (Fl×Loc):=
 if b6 it t=false then bad else ij (λv l=>mq (target c t v l) λa=>db (I.ex c) b a) it wf 0 l
noncomputable def ka(wf:Nat)(I:Itp)(c:Cx)(t:Expr)(b:List Stmt)(l:Loc):M (Fl×Loc):=
 me (λl=>I.tst c l t) (λl=>db (I.ex c) b l) wf l
def w8(wf:Nat)(I:Itp)(c:Cx)(d t:Expr)(a:List Expr)(sc:Scope)(it:It):M (List V):=
 if b6 it t=false then bad else cz (gE I (cr c sc) t d a) it wf 0 []
def mA(wf:Nat)(I:Itp)(c:Cx)(k v t:Expr)(sc:Scope)(it:It):M (List V):=
 if b6 it t=false then bad else cz (eQ I (cr c sc) t k v) it wf 0 []
noncomputable def M7 {β:Type}(c:Const)(k:V->M β):M β:=by
 induction c using Const.casesOn with
 |none=>exact k .none
 |bool b=>exact k (.bool b)
 |int i=>exact k (.int i)
 |str s=>exact k (.str s)
 |_=>exact bad
def SG {β:Type}(op:UnaryOp)(m:(V->M β)->M β)(k:V->M β):M β:=by
 induction op using UnaryOp.casesOn with
 |USub=>exact m λx=>mq (nz x) k
 |Not=>exact m λx=>mq (truth x) λb=>k (.bool (!b))
 |_=>exact bad
def Sn {β:Type}(K:KI β)(c:Cx)(l:Loc)(o i:Expr)(k:V->M β):M β:=if mf i then(BY i).elim bad λn=>if bZ o then K.ev c l o λv=>mq (kN v n) k else bad else K.ev c l o λv=>K.ev c l i λx=>mq (ak v x) k
def OO {β:Type}(I:Itp)(K:KI β)(c:Cx)(l:Loc)(ks:List (Option Expr))(vs:List Expr)(k:V->M β):M β:=if ks.isEmpty then mq (if vs.isEmpty then aC (.dict [])else bad) k else(FH ks).elim bad λq=>(rY vs).elim bad λe=>K.ev c l e.1 λd=>K.ev c l e.2.1 λf=>K.ev c l e.2.2 λa=>mq (d3 q d f a) k
def M8 {β:Type}(P:Prg)(I:Itp)(K:KI β)(c:Cx)(l:Loc)(f:Str)(as:List Expr)(k:V->M β):M β:=
 if as.any bI then bad else if c.scope.names.lookup f=some .globalImplicit then
  (if f= "isinstance" then mq (MG I c l as) k
  else if xx f then iy (K.ev c l) as λvs=>mq (builtin f vs) k
  else if nq P f then iy (K.ev c l) as λvs=>mq (I.call f vs) k else bad)
 else if c.scope.names.lookup f=some .local/\as= []/\(f==("__debug__":Str))=false then mq (mq (rd c l f) (B0 I)) k
 else bad
def M9 {β:Type}(K:KI β)(c:Cx)(l:Loc)(r:Expr×Str×Pos)(as:List Expr)(pos:Pos)(k:V->M β):M β:=if DM r as pos then bad else K.ev c l r.1 λv=>mq (bQ v r.2.1) λZ=>iy (K.ev c l) as λvs=>mq (bN v r.2.1 vs) k
def Ie {β:Type}(wf:Nat)(I:Itp)(K:KI β)(c:Cx)(l:Loc)(a:Expr)(sc:Scope)(g:oV)(k:V->M β):M β:=if !bZ g.1|| !fH c sc||decide (1<g.2.2.length)then bad else uz K c l g.2.1 λit=>mq (w8 wf I c a g.1 g.2.2 sc it) λvs=>mq (aC (.list vs)) k
def SH {β:Type}(wf:Nat)(I:Itp)(K:KI β)(c:Cx)(l:Loc)(d v:Expr)(sc:Scope)(t a:Expr)(k:V->M β):M β:=if !bZ t|| !fH c sc then bad else uz K c l a λit=>mq (mA wf I c d v t sc it) λps=>mq (aC (.dict (bR ps))) k
def PM {β:Type}(P:Prg)(wf:Nat)(I:Itp)(K:KI β)(c:Cx)(l:Loc)(e:Expr)(k:V->M β):M β:=by
 induction e using Expr.casesOn with
 |Constant c=>exact M7 c k
 |Name x=>exact if x= "__debug__" then bad else M5 c l x k
 |BinOp a op b=>exact K.ev c l a λx=>K.ev c l b λy=>mq (ah op x y) k
 |UnaryOp op a=>exact SG op (K.ev c l a) k
 |BoolOp op vs=>exact Cr (K.ev c l) op vs k
 |Compare a ops bs=>exact ug ops bs λop b=>K.ev c l a λx=>K.ev c l b λy=>mq (cmp op x y) λr=>k (.bool r)
 |IfExp t a b=>exact K.tst c l t λr=>match r with|true=>K.ev c l a k|false=>K.ev c l b k
 |Attribute o a=>exact if eP o then bad else K.ev c l o λv=>mq (aN v a) k
 |Subscript o i=>exact Sn K c l o i k
 |Tuple es=>exact iy (K.ev c l) es λvs=>if vs.length<=64 then k (.tup vs)else bad
 |List es=>exact iy (K.ev c l) es λvs=>if vs.length<=64 then mq (aC (.list vs)) k else bad
 |Dict ks vs=>exact OO I K c l ks vs k
 |Call f as ks pos=>exact bif ks.isEmpty then(mh f).elim ((xF f).elim bad λr=>M9 K c l r as pos k) λx=>M8 P I K c l x as k else bad
 |Lambda a body sc=>exact mq (MH c a body sc) k
 |ListComp elt gs sc=>exact(dc gs).elim bad λg=>Ie wf I K c l elt sc g k
 |DictComp kx v gs sc=>exact(dc gs).elim bad λg=>bif g.2.2.isEmpty then SH wf I K c l kx v sc g.1 g.2.1 k else bad
 |JoinedStr vs=>exact if vs.length<2 then bad else kS (K.ev c l) vs Str.empty λs=>k (.str s)
 |_=>exact bad
def Na {β:Type}(K:KI β)(c:Cx)(l:Loc)(e:Expr)(k:Bool->M β):M β:=by
 have d:M β:=K.ev c l e λv=>mq (truth v) k;induction e using Expr.casesOn with
 |UnaryOp op a=>
  induction op using UnaryOp.casesOn with
  |Not=>exact K.tst c l a λb=>k (!b)
  |_=>exact d
 |BoolOp op vs=>exact sC (K.tst c l) op vs k
 |IfExp t a b=>exact K.tst c l t λr=>match r with|true=>K.tst c l a k|false=>K.tst c l b k
 |Compare a ops bs=>exact ug ops bs λop b=>K.ev c l a λx=>K.ev c l b λy=>mq (cmp op x y) k
 |_=>exact d
def Nb {β:Type}(wf:Nat)(I:Itp)(K:KI β)(c:Cx)(l:Loc)(t e:Expr)(k:Fl->Loc->M β):M β:=by
 induction t using Expr.casesOn with
 |Attribute o a=>exact K.ev c l e λv=>K.ev c l o λx=>mq (dF x a v) λZ=>k .next l
 |Subscript o i=>exact K.ev c l e λv=>K.ev c l o λx=>K.ev c l i λy=>mq (cH x y v) λZ=>k .next l
 |Name x px=>exact(vA e).elim (if im e then bad else K.ev c l e λv=>fX c (.Name x px) v l λd=>k .next d) λq=>Ie wf I K c l q.1 q.2.2 q.2.1 λv=>fX c (.Name x px) v l λd=>k .next d
 |Tuple ts q p=>exact if im e=true\/oQ ts e=false then bad else K.ev c l e λv=>fX c (.Tuple ts q p) v l λd=>k .next d
 |_=>exact bad
def PN {β:Type}(P:Prg)(wf:Nat)(I:Itp)(K:KI β)(c:Cx)(l:Loc)(s:Stmt)(k:Fl->Loc->M β):M β:=by
 have d:M β:=mq (B3 P wf I c l s) λp=>k p.1 p.2;induction s using Stmt.casesOn with
 |Return o=>exact o.elim bad λe=>K.ev c l e λv=>k (.ret v) l
 |Expr e=>exact if im e then bad else K.ev c l e λZ=>k .next l
 |If t a b=>exact K.tst c l t λr=>match r with|true=>bj (K.ex c) a l k|false=>bj (K.ex c) b l k
 |While t b els=>exact bif els.isEmpty then mq (ka wf I c t b l) λp=>k p.1 p.2 else bad
 |For t iter b els=>exact bif els.isEmpty then uz K c l iter λit=>mq (Cs wf I c t b it l) λp=>k p.1 p.2 else bad
 |Assign ts e=>exact(fI ts).elim bad λt=>Nb wf I K c l t e k
 |Raise o y=>exact(bif y.isNone then o.bind nu else none).elim bad λq=>if q.1= "Refusal"/\c.scope.names.lookup q.1=some .globalImplicit/\bI q.2=false then K.ev c l q.2 λv h=>.exc v h else bad
 |_=>exact d
def Nc {β:Type}(P:Prg)(wf:Nat)(I:Itp)(K:KI β):KI β where
 ev:=PM P wf I K
 tst:=Na K
 ex:=PN P wf I K
structure KOk {β:Type} (I:Itp) (K:KI β):Prop where
 ev:∀c l e k,K.ev c l e k=mq (I.ev c l e) k
 tst:∀c l e k,K.tst c l e k=mq (I.tst c l e) k
 ex:∀c l e k,K.ex c l e k=mq (I.ex c l e) λp=>k p.1 p.2
theorem nO {a β:Type}{x:M β}{m:M a}{k:a->M β}(h:b=false->x=mq m k):(if b=true then bad else x)=mq (if b=true then bad else m) k:=by
 induction b using VA with
 |true=>rfl
 |false=>exact h rfl
theorem Et {d β:Type}{a:List CmpOp}{bs:List Expr}{f:CmpOp->Expr->M β}{g:CmpOp->Expr->M d}{k:d->M β}(e:∀op b,f op b=mq (g op b) k):ug a bs f=mq (ug a bs g) k:=jt λop=>jt λb=>eH rfl (e op b)
section
variable {β:Type} {P:Prg} {wf:Nat} {I:Itp} {K:KI β}
theorem KOk.go(o:KOk I K){a:Type}{f:V->M β}{g:V->M a}{k:a->M β}(h:∀v,f v=mq (g v) k):K.ev c l e f=mq (mq (I.ev c l e) g) k:=(o.ev c l e f).trans (cont h)
theorem KOk.gt(o:KOk I K){a:Type}{f:Bool->M β}{g:Bool->M a}{k:a->M β}(h:∀v,f v=mq (g v) k):K.tst c l e f=mq (mq (I.tst c l e) g) k:=(o.tst c l e f).trans (cont h)
theorem KOk.gs(o:KOk I K){a:List Expr}{d:Type}{f:List V->M β}{g:List V->M d}{k:d->M β}(h:∀v,f v=mq (g v) k):iy (K.ev c l) a f=mq (mq (dN (I.ev c l) a) g) k:=(vP (o.ev c l) a f).trans (cont h)
theorem KOk.gi(o:KOk I K){a:Type}{f:It->M β}{g:It->M a}{k:a->M β}(h:∀v,f v=mq (g v) k):uz K c l e f=mq (mq (jT I c l e) g) k:=(JI o.ev c l e f).trans (cont h)
theorem xZ {a:Type}{x y:M β}{m n:M a}{k:a->M β}(h:x=mq m k)(h':y=mq n k):(match b with|true=>x|false=>y)=mq (match b with|true=>m|false=>n) k:=by
 induction b using VA with
 |true=>exact h
 |false=>exact h'
theorem Nd(o:KOk I K){a:Expr}{sc:Scope}{g:oV}(k:V->M β):Ie wf I K c l a sc g k=mq (H6 I wf c l a sc g) k:=by
 unfold Ie H6 uc;rw[mw];exact nO λZ=>o.gi λit=>rfl
theorem JJ(o:KOk I K)(c:Cx)(l:Loc)(e:Expr)(k:V->M β):PM P wf I K c l e k=mq (MN P wf I c l e) k:=by
 induction e using VE with
 |Constant v i p=>induction v using Const.casesOn with
  |_=>rfl
 |Name x p=>exact eH rfl (M6 c l x k)
 |BinOp a op b p=>exact o.go λx=>o.go λy=>rfl
 |UnaryOp op a p=>induction op using PySem.UnaryOp.casesOn with
  |USub=>exact o.go λx=>rfl
  |Not=>exact o.go λx=>cont λb=>rfl
  |_=>rfl
 |BoolOp op vs p=>exact A5 (o.ev c l) op vs k
 |Compare a ops bs p=>exact Et λop b=>o.go λx=>o.go λy=>cont λr=>rfl
 |IfExp t a b p=>exact o.gt λr=>xZ (o.ev c l a k) (o.ev c l b k)
 |Attribute ob a p=>exact nO λZ=>o.go λv=>rfl
 |Subscript ob i p=>exact eH (jt λn=>eH (o.go λv=>rfl) rfl) (o.go λv=>o.go λx=>rfl)
 |Tuple es q p=>exact o.gs λvs=>eH rfl rfl
 |List es p=>exact o.gs λvs=>eH rfl rfl
 |Dict ks vs p=>exact eH rfl (jt λq=>jt λe=>o.go λh=>o.go λj=>o.go λd=>rfl)
 |Call f as kws p=>
  refine w6 ?_ rfl;induction mh f using Vx with
  |none=>exact jt λr=>nO λZ=>o.go λv=>cont λZ=>o.gs λvs=>rfl
  |some x=>exact nO λZ=>eH (eH rfl (eH (o.gs λvs=>rfl) (eH (o.gs λvs=>rfl) rfl))) (eH rfl rfl)
 |ListComp elt gs sc p=>exact jt λg=>Nd o k
 |DictComp kx v gs sc p=>
  refine jt λg=>w6 (nO λZ=>o.gi λit=>?_) rfl;unfold mA;by_cases q:b6 it g.1=false
  ·rw[Vw q,Vw q];rfl
  ·rw[Vv q,Vv q,mw]
 |JoinedStr vs p=>exact eH rfl ((xY (o.ev c l) vs Str.empty _).trans (cont λs=>rfl))
 |_=>rfl
theorem GD(o:KOk I K)(c:Cx)(l:Loc)(e:Expr)(k:Bool->M β):Na K c l e k=mq (FM I c l e) k:=by
 have d:∀e,K.ev c l e (λv=>mq (truth v) k)=mq (mq (I.ev c l e) truth) k:=λe=>o.go λv=>rfl;induction e using VE with
 |UnaryOp op a p=>induction op using PySem.UnaryOp.casesOn with
  |Not=>exact o.gt λb=>rfl
  |_=>exact d _
 |BoolOp=>exact rl (o.tst c l) _ _ k
 |IfExp t a b p=>exact o.gt λr=>xZ (o.tst c l a k) (o.tst c l b k)
 |Compare a ops bs p=>exact Et λop b=>o.go λx=>o.go λy=>rfl
 |_=>exact d _
theorem Ct {t:Expr}{k:Fl->Loc->M β}:(fX c t v l λa=>k .next a)=mq (mq (target c t v l) λa=>mr (.next,a)) λp=>k p.1 p.2:=(jD c t v l _).trans (cont λa=>rfl)
theorem JK(o:KOk I K)(c:Cx)(l:Loc)(t e:Expr)(k:Fl->Loc->M β):Nb wf I K c l t e k=mq (FK I wf c l t e) λp=>k p.1 p.2:=by
 induction t using VE with
 |Attribute ob a q=>exact o.go λv=>o.go λx=>cont λZ=>rfl
 |Subscript ob i q=>exact o.go λv=>o.go λx=>o.go λy=>cont λZ=>rfl
 |Name x px=>
  show(vA e).elim _ _=mq ((vA e).elim _ _) _
  induction vA e using Vx with
  |none=>exact nO λZ=>o.go λv=>Ct
  |some q=>exact(Nd o _).trans (cont λv=>Ct)
 |Tuple ts q p'=>exact eH rfl (o.go λv=>Ct)
 |_=>rfl
theorem JL(o:KOk I K)(c:Cx)(l:Loc)(s:Stmt)(k:Fl->Loc->M β):PN P wf I K c l s k=mq (B3 P wf I c l s) λp=>k p.1 p.2:=by
 induction s using PySem.Stmt.casesOn with
 |Return v p=>exact jt λe=>o.go λv=>rfl
 |Expr e p=>exact nO λZ=>o.go λZ=>rfl
 |If t a b p=>exact o.gt λr=>xZ (jm (o.ex c) a l k) (jm (o.ex c) b l k)
 |While t b q p=>exact w6 rfl rfl
 |For t iter b q p=>exact w6 (o.gi λit=>rfl) rfl
 |Assign ts e p=>exact jt λt=>JK o c l t e k
 |Raise x y p=>exact jt λq=>eH (o.go λv=>rfl) rfl
 |_=>rfl
end
theorem JM {β:Type}(P:Prg)(wf:Nat){I:Itp}{K:KI β}(o:KOk I K):KOk (AM P wf I) (Nc P wf I K):=
 ⟨JJ o,GD o,JL o⟩
noncomputable def kK {β:Type}(P:Prg)(wf:Nat)(C:Str->List V->M V):Nat->KI β
 |0=>⟨λZ Z Z Z=>bad,λZ Z Z Z=>bad,λZ Z Z Z=>bad⟩
 |n+1=>Nc P wf (jZ P wf C n) (kK P wf C n)
theorem nP {β:Type}(P:Prg)(wf:Nat)(C:Str->List V->M V):∀n,KOk (β:=β) (jZ P wf C n) (kK P wf C n)
 |0=>⟨λZ Z Z Z=>rfl,λZ Z Z Z=>rfl,λZ Z Z Z=>rfl⟩
 |n+1=>by
  have o:=JM P wf (nP (β:=β) P wf C n);exact⟨o.ev,o.tst,o.ex⟩
noncomputable def ke:List (Str×NameKind)->Nat->List (Str×Nat)
 | [],_=> []
 |(x,k)::r,b=>match k with
  |.cell=>(x,b)::ke r (b+1)
  |_=>ke r b
noncomputable def cellN:List (Str×NameKind)->Nat
 | []=>0
 |(_,k)::r=>match k with
  |.cell=>cellN r+1
  |_=>cellN r
theorem nQ:∀(ns:List (Str×NameKind)) (h:List O),hj.go ns h=.ok (ke ns h.length) (h++List.replicate (cellN ns) (.cell none))
 | [],h=>by show R.ok [] h=_;simp[ke,cellN]
 |(x,k)::r,h=>by
  cases k
  case cell=>
   show mq (hj.go r) (λl=>mr ((x,h.length)::l)) (h++ [.cell Option.none])=_;unfold mq;rw[nQ r];simp[mr,ke,cellN,TK]
  all_goals exact nQ r h
def aw(x:Str)(f:Fn)(b:Nat):Cx:=⟨x,f.scope,ke f.scope.names b⟩
def kW(P:Prg)(wf:Nat)(C:Str->List V->M V)(n:Nat)(x:Str)(f:Fn)(vs:List V)(b:Nat):M V:=match pS f.params.args f.params.defaults vs with
 |some bs=>sE (aw x f b) (bs.map (·.1)) (bs.map (·.2)) [] λl=>
   bj ((kK P wf C n).ex (aw x f b)) f.body l λa Z=>mr (match a with|.ret v=>v|_=>.none)
 |Option.none=>bad
theorem x9(P:Prg)(wf:Nat)(C:Str->List V->M V)(n:Nat)(x:Str)(f:Fn)(vs:List V)(h:List O):
  fj (jZ P wf C n) x f vs h=kW P wf C n x f vs h.length (h++List.replicate (cellN f.scope.names) (.cell none)):=by
 unfold fj kW;induction pS f.params.args f.params.defaults vs using Vx with
 |some bs=>
  show mq (hj.go f.scope.names) _ h=_;rw[show ∀g,mq (hj.go f.scope.names) g h=(g:List (Str×Nat)->M V) (ke f.scope.names h.length) (h++List.replicate (cellN f.scope.names) (.cell none)) from λg=>by unfold mq;rw[nQ]];dsimp only;rw[kU]
  congr 1
  congr 1;funext l
  rw[jm (g:=(jZ P wf C n).ex (aw x f h.length)) ((nP P wf C n).ex _)]
  congr 1
 |none=>rfl
end Mine
end
noncomputable section
open PySem PySem.W PySem.Calls PyProof.Rows
set_option maxRecDepth 100000
namespace Mine
variable {wf j:Nat} {h h':List O} {op:CmpOp} {u v:V}
noncomputable def aq(x:Str):Fn:=(ai.fn x).getD ⟨⟨[],[],none,[],[],none,[]⟩,[],default⟩
abbrev cx (f:Str) (b:Nat):Cx:=aw f (aq f) b
structure Tb where
 f:Str->List V->M V
 wf:Nat
abbrev iq {β:Type} (op:CmpOp) (a b:V) (x y:M β):M β:=mq (cmp op a b) λc=>bif c then x else y
abbrev Bd (C:Tb) (x:Str) (vs:List V) (b:Nat):M V:=kW ai C.wf C.f 24 x (aq x) vs b
abbrev Ic (C:Tb) (m:Nat):Itp:=jZ ai C.wf C.f m
noncomputable def So(s:Stmt)(n:Nat):List Stmt:=by
 induction s using Stmt.casesOn with
 |If _ a b=>exact if n=0 then a else b
 |For _ _ b=>exact b
 |While _ b=>exact b
 |Try b=>exact b
 |_=>exact []
noncomputable def Ig:List Stmt->List Nat->List Stmt
 |l,i::p::r=>match l[i]? with|some s=>Ig (So s p) r|none=> []
 |l,[i]=>l.drop i
 |l,[]=>l
abbrev aG (f:Str) (p:List Nat):List Stmt:=Ig (aq f).body p
noncomputable def yc:Expr:=.Constant .none 0 default
noncomputable def Ih {a:Type}(d:a)(f:Stmt->a)(l:List Stmt):a:=@List.casesOn Stmt (λZ=>a) l d λs Z=>f s
def yd:List Stmt->Expr:=Ih yc λs=>by
 induction s using Stmt.casesOn with
 |For t=>exact t
 |_=>exact yc
def kg:List Stmt->List Stmt:=Ih [] λs=>by
 induction s using Stmt.casesOn with
 |For _ _ b=>exact b
 |While _ b=>exact b
 |_=>exact []
def nU:List Stmt->Expr:=Ih yc λs=>by
 induction s using Stmt.casesOn with
 |While t=>exact t
 |If t=>exact t
 |_=>exact yc
def bG:List Stmt->Expr:=Ih yc λs=>by
 induction s using Stmt.casesOn with
 |Return o=>exact o.getD yc
 |Assign _ e=>exact e
 |Expr e=>exact e
 |For _ e=>exact e
 |If e=>exact e
 |_=>exact yc
noncomputable def Eu(l:List Expr)(n:Nat):Expr:=l.getD n (.Constant .none 0 default)
def SI(e:Expr)(n:Nat):Expr:=by
 have d:=e;induction e using Expr.casesOn with
 |Call _ as=>exact Eu as n
 |List es=>exact Eu es n
 |Tuple es=>exact Eu es n
 |BoolOp _ es=>exact Eu es n
 |BinOp a _ b=>exact if n=0 then a else b
 |Compare a _ bs=>exact if n=0 then a else Eu bs (n-1)
 |IfExp t a b=>exact if n=0 then t else if n=1 then a else b
 |Subscript a b=>exact if n=0 then a else b
 |UnaryOp _ a=>exact a
 |Attribute a=>exact a
 |_=>exact d
noncomputable def aX:Expr->List Nat->Expr
 |e,[]=>e
 |e,n::r=>aX (SI e n) r
def cF(wf:Nat)(I:Itp)(c:Cx)(e:Expr)(it:It):M (List V):=by
 induction e using Expr.casesOn with
 |ListComp elt gs sc=>exact(dc gs).elim bad λg=>w8 wf I c elt g.1 g.2.2 sc it
 |DictComp kx v gs sc=>exact(dc gs).elim bad λg=>bif g.2.2.isEmpty then mA wf I c kx v g.1 sc it else bad
 |_=>exact bad
def Ev {β:Type}(C:Tb)(m:Nat)(c:Cx)(a:Expr)(g:oV)(sc:Scope)(v:V)(k:Option V->M β):M β:=fX (cr c sc) g.1 v [] λd=>sC ((kK ai C.wf C.f m).tst (cr c sc) d) .And g.2.2 λb=>match b with
  |true=>(kK ai C.wf C.f m).ev (cr c sc) d a λx=>k (some x)
  |false=>k Option.none
def A7 {β:Type}(C:Tb)(m:Nat)(c:Cx)(i d:Expr)(g:oV)(sc:Scope)(v:V)(k:Option V->M β):M β:=fX (cr c sc) g.1 v [] λa=>(kK ai C.wf C.f m).ev (cr c sc) a i λb=>(kK ai C.wf C.f m).ev (cr c sc) a d λe=>match b with
  |.str _=>k (some (.tup [b,e]))
  |_=>bad
def bS {β:Type}(C:Tb)(m:Nat)(c:Cx)(e:Expr)(v:V)(k:Option V->M β):M β:=by
 induction e using Expr.casesOn with
 |ListComp elt gs sc=>exact(dc gs).elim bad λg=>Ev C m c elt g sc v k
 |DictComp kx vx gs sc=>exact(dc gs).elim bad λg=>bif g.2.2.isEmpty then A7 C m c kx vx g sc v k else bad
 |_=>exact bad
noncomputable def cb:Fl->Loc->M V:=λa Z=>mr (match a with|.ret v=>v|_=>.none)
def cm {β:Type}(C:Tb)(m:Nat)(c:Cx)(r:List Stmt)(k:Fl->Loc->M β)(a:Fl)(l:Loc):M β:=Id a (bj ((kK ai C.wf C.f m).ex c) r l k) λx=>k x l
abbrev bF (C:Tb) (m:Nat) (f:Str) (b:Nat) (p:List Nat) (it:It) (l:Loc):M (Fl×Loc):=Cs C.wf (Ic C m) (cx f b) (yd (aG f p)) (kg (aG f p)) it l
abbrev A8 (C:Tb) (m:Nat) (f:Str) (b:Nat) (p:List Nat) (l:Loc):M (Fl×Loc):=ka C.wf (Ic C m) (cx f b) (nU (aG f p)) (kg (aG f p)) l
abbrev aJ {β:Type} (C:Tb) (m:Nat) (f:Str) (b:Nat) (p:List Nat) (v:V) (l:Loc) (k:Fl->Loc->M β):M β:=
 fX (cx f b) (yd (aG f p)) v l λa=>bj ((kK ai C.wf C.f m).ex (cx f b)) (kg (aG f p)) a k
noncomputable def Sp(e:Expr):Option (Expr×Scope):=by
 induction e using Expr.casesOn with
 |Lambda _ b sc=>exact some (b,sc)
 |_=>exact none
def w9(e:Expr)(c:Cx):M V:=(Sp e).elim bad λq=>B2 c q.1 q.2
def Cu(C:Tb)(b:Nat)(d a:V):M V:=mq (aN d "attrs") λe=>iq .Is e .none (mr .none) (mq (aN d "attrs") λc=>mq (bQ c "get") λZ=>mq (bN c "get" [a]) λf=>mr f)
theorem Cv(C:Tb)(b:Nat)(c a:V)(h:List O):Bd C "get_attr" [c,a] b h=Cu C b c a h:=by kernel_rfl
def yf(C:Tb)(b:Nat)(e:V):M V:=mq (C.f "get_attr" [e,(.str "dim")]) λa=>iq .Is a .none (mr .none) (mq (aN a "items") λc=>mq (builtin "list" [c]) λd=>mr d)
theorem GE(C:Tb)(b:Nat)(a:V)(h:List O):Bd C "dim_of" [a] b h=yf C b a h:=by kernel_rfl
def OP(C:Tb)(b:Nat)(c d:V):M V:=mq (A8 C 23 "gcd" b [0] [("a",c),("b",d)]) λa=>cm C 24 (aw "gcd" (aq "gcd") b) (aG "gcd" [1]) cb a.1 a.2
theorem OQ(C:Tb)(b:Nat)(a c:V)(h:List O):Bd C "gcd" [a,c] b h=OP C b a c h:=by kernel_rfl
def Ew(C:Tb)(b:Nat)(a c:V):M V:=iq .Eq c (.int 0) (iq .Eq a (.int 0) (mr (.tup [.int 0,.int 0])) (let j1:V->M V:=λo=>mr o;iq .Gt a (.int 0) (j1 (.tup [(.int 1),(.int 0)])) (j1 (.tup [(.int (-1)),(.int 0)])))) (let j5:V->V->M V:=λk l=>mq (builtin "abs" [k]) λn=>mq (C.f "gcd" [n,l]) λm=>mq (ah .FloorDiv k m) λg=>mq (ah .FloorDiv l m) λe=>mr (.tup [g,e]);iq .Lt c (.int 0) (mq (ah .Sub (.int 0) a) λd=>mq (ah .Sub (.int 0) c) λi=>j5 d i) (j5 a c))
theorem Nf(C:Tb)(b:Nat)(a c:V)(h:List O):Bd C "make" [a,c] b h=Ew C b a c h:=by kernel_rfl
def sF(C:Tb)(b:Nat)(a:V):M V:=iq .Is a .none (mr .none) (mr (.tup [a,(.int 1)]))
theorem Cw(C:Tb)(b:Nat)(a:V)(h:List O):Bd C "from_int" [a] b h=sF C b a h:=by kernel_rfl
def A9(C:Tb)(b:Nat)(a:V):M V:=let j1:V->M V:=λk=>mr k;mq (cmp .Is a .none) λf=>mq (truth (.bool f)) λm=>bif m then(j1 (.bool f))else(let j5:V->M V:=λg=>j1 g;mq (ak a (.int 0)) λl=>mq (cmp .Eq l (.int 0)) λe=>mq (truth (.bool e)) λi=>bif i then(mq (ak a (.int 1)) λd=>mq (cmp .Eq d (.int 0)) λc=>j5 (.bool c))else(j5 (.bool e)))
theorem JN(C:Tb)(b:Nat)(a:V)(h:List O):Bd C "is_na" [a] b h=A9 C b a h:=by kernel_rfl
def qL(C:Tb)(b:Nat)(a:V):M V:=let j1:V->M V:=λf=>mr f;mq (cmp .IsNot a .none) λc=>mq (truth (.bool c)) λg=>bif g then(mq (ak a (.int 1)) λe=>mq (cmp .Gt e (.int 0)) λd=>j1 (.bool d))else(j1 (.bool c))
theorem zT(C:Tb)(b:Nat)(a:V)(h:List O):Bd C "is_finite" [a] b h=qL C b a h:=by kernel_rfl
def yg(C:Tb)(b:Nat)(a c:V):M V:=let t1:M V:=mr .none;let f2:M V:=mr (.tup [.int 0,.int 0]);iq .Is a .none t1 (iq .Is c .none t1 f2)
theorem GF(C:Tb)(b:Nat)(a c:V)(h:List O):Bd C "marked" [a,c] b h=yg C b a c h:=by kernel_rfl
def Ii(C:Tb)(b:Nat)(a:V):M V:=iq .Is a .none (mr .none) (mq (ak a (.int 0)) λd=>mq (ah .Sub (.int 0) d) λc=>mq (ak a (.int 1)) λe=>mr (.tup [c,e]))
theorem OR(C:Tb)(b:Nat)(a:V)(h:List O):Bd C "neg" [a] b h=Ii C b a h:=by kernel_rfl
def JO(a b:V):M V:=mq (ak a (.int 0)) λd=>mq (ak b (.int 0)) λc=>iq .Eq d c (mr a) (mr (.tup [.int 0,.int 0]))
def Ng(C:Tb)(e m:V):M V:=mq (ak e (.int 0)) λp=>mq (ak m (.int 1)) λn=>mq (ah .Mult p n) λo=>mq (ak m (.int 0)) λi=>mq (ak e (.int 1)) λg=>mq (ah .Mult i g) λc=>mq (ah .Add o c) λk=>mq (ak e (.int 1)) λa=>mq (ak m (.int 1)) λl=>mq (ah .Mult a l) λb=>mq (C.f "make" [k,b]) λd=>mr d
def Ba(C:Tb)(a b:V):M V:=mq (ak a (.int 1)) λd=>iq .Eq d (.int 0) (mr a) (mq (ak b (.int 1)) λc=>iq .Eq c (.int 0) (mr b) (Ng C a b))
def JP(C:Tb)(a b:V):M V:=mq (ak a (.int 1)) λd=>iq .Eq d (.int 0) (mq (ak b (.int 1)) λc=>iq .Eq c (.int 0) (JO a b) (Ba C a b)) (Ba C a b)
def OS(C:Tb)(b:Nat)(a c:V):M V:=mq (C.f "is_na" [a]) λe=>mq (truth e) λk=>bif k then(mq (C.f "marked" [a,c]) λd=>mr d)else(mq (C.f "is_na" [c]) λi=>mq (truth i) λg=>bif g then(mq (C.f "marked" [a,c]) λd=>mr d)else(JP C a c))
theorem OT(C:Tb)(b:Nat)(a c:V)(h:List O):Bd C "add" [a,c] b h=OS C b a c h:=by kernel_rfl
noncomputable def OU(C:Tb)(b:Nat)(a c:V):M V:=mq (C.f "neg" [c]) λd=>mq (C.f "add" [a,d]) λe=>mr e
theorem OV(C:Tb)(b:Nat)(a c:V)(h:List O):Bd C "sub" [a,c] b h=OU C b a c h:=by kernel_rfl
def OW(C:Tb)(b:Nat)(a c:V):M V:=let t9:M V:=mq (C.f "marked" [a,c]) λk=>mr k;let f10:M V:=mq (ak a (.int 0)) λo=>mq (ak c (.int 0)) λr=>mq (ah .Mult o r) λq=>mq (ak a (.int 1)) λn=>mq (ak c (.int 1)) λm=>mq (ah .Mult n m) λp=>mq (C.f "make" [q,p]) λl=>mr l;mq (C.f "is_na" [a]) λi=>mq (truth i) λd=>bif d then(t9)else(mq (C.f "is_na" [c]) λg=>mq (truth g) λe=>bif e then(t9)else(f10))
theorem OX(C:Tb)(b:Nat)(a c:V)(h:List O):Bd C "mul" [a,c] b h=OW C b a c h:=by kernel_rfl
def Nh(C:Tb)(e g:V):M V:=mq (ak e (.int 0)) λl=>mq (ak g (.int 1)) λi=>mq (ah .Mult l i) λk=>mq (ak e (.int 1)) λc=>mq (ak g (.int 0)) λb=>mq (ah .Mult c b) λa=>mq (C.f "make" [k,a]) λd=>mr d
def Bc(C:Tb)(a c:V):M V:=mq (ak a (.int 1)) λb=>iq .Eq b (.int 0) (mq (ak c (.int 0)) λd=>iq .Lt d (.int 0) (mq (C.f "neg" [a]) λe=>mr e) (mr a)) (Nh C a c)
def JQ(C:Tb)(a b:V):M V:=mq (ak a (.int 1)) λd=>iq .Eq d (.int 0) (mq (ak b (.int 1)) λc=>iq .Eq c (.int 0) (mr (.tup [.int 0,.int 0])) (Bc C a b)) (Bc C a b)
def OY(C:Tb)(b:Nat)(a c:V):M V:=mq (C.f "is_na" [a]) λe=>mq (truth e) λk=>bif k then(mq (C.f "marked" [a,c]) λd=>mr d)else(mq (C.f "is_na" [c]) λi=>mq (truth i) λg=>bif g then(mq (C.f "marked" [a,c]) λd=>mr d)else(JQ C a c))
theorem OZ(C:Tb)(b:Nat)(a c:V)(h:List O):Bd C "div" [a,c] b h=OY C b a c h:=by kernel_rfl
def GG(C:Tb)(g e:V):M V:=mq (ak e (.int 1)) λa=>iq .Eq a (.int 2) (mq (C.f "root" [g]) λc=>mq (ak e (.int 0)) λb=>mq (C.f "whole_power" [c,b]) λd=>mr d) (λh=>.exc (.str "result is not exact") h)
def GH(C:Tb)(b d:V):M V:=mq (ak d (.int 1)) λe=>iq .Eq e (.int 1) (mq (ak d (.int 0)) λg=>mq (C.f "whole_power" [b,g]) λc=>mr c) (mq (ak b (.int 0)) λa=>iq .Lt a (.int 0) (mr (.tup [.int 0,.int 0])) (GG C b d))
def GI(C:Tb)(a b:V):M V:=mq (ak b (.int 1)) λc=>iq .Eq c (.int 0) (mq (ak b (.int 0)) λg=>mq (C.f "endless_power" [a,g]) λi=>mr i) (mq (ak a (.int 1)) λd=>iq .Eq d (.int 0) (mq (C.f "infinite_power" [a,b]) λe=>mr e) (GH C a b))
def Ex(C:Tb)(a b:V):M V:=iq .Eq a (.tup [.int 0,.int 1]) (mq (ak b (.int 0)) λc=>iq .Gt c (.int 0) (mr (.tup [.int 0,.int 1])) (mr (.tup [.int 1,.int 0]))) (GI C a b)
def Ey(C:Tb)(a b:V):M V:=mq (C.f "is_na" [a]) λg=>mq (truth g) λd=>bif d then(mq (C.f "marked" [a,b]) λc=>mr c)else(mq (C.f "is_na" [b]) λi=>mq (truth i) λe=>bif e then(mq (C.f "marked" [a,b]) λc=>mr c)else(Ex C a b))
def Be(C:Tb)(b:Nat)(a c:V):M V:=iq .Eq a (.tup [.int 1,.int 1]) (mr (.tup [.int 1,.int 1])) (iq .Eq c (.tup [.int 0,.int 1]) (mr (.tup [.int 1,.int 1])) (Ey C a c))
theorem JR(C:Tb)(b:Nat)(a c:V)(h:List O):Bd C "power" [a,c] b h=Be C b a c h:=by kernel_rfl
def qr(a c:V):M V:=mq (ak a (.int 0)) λb=>iq .Lt b (.int 0) (mq (ak c (.int 0)) λe=>mq (ah .Mod e (.int 2)) λd=>iq .Eq d (.int 0) (mr (.tup [.int 1,.int 0])) (mr a)) (mr a)
def fM(b a:V):M V:=mq (ak a (.int 0)) λc=>iq .Lt c (.int 0) (mr (.tup [.int 0,.int 1])) (qr b a)
def kh(C:Tb)(b:Nat)(a c:V):M V:=mq (ak a (.int 0)) λe=>iq .Lt e (.int 0) (mq (ak c (.int 1)) λd=>iq .NotEq d (.int 1) (mr (.tup [.int 0,.int 0])) (fM a c)) (fM a c)
theorem rm(C:Tb)(b:Nat)(a c:V)(h:List O):Bd C "infinite_power" [a,c] b h=kh C b a c h:=by kernel_rfl
def sG(a b:V):M V:=mq (ah .Mod b (.int 2)) λc=>iq .Eq c (.int 0) (mr (.tup [.int 1,.int 1])) (mr a)
def uA(C:Tb)(i k:V):M V:=mq (ak i (.int 1)) λl=>mq (ah .Sub (.int 0) k) λd=>mq (ah .Pow l d) λc=>mq (ak i (.int 0)) λb=>mq (ah .Sub (.int 0) k) λe=>mq (ah .Pow b e) λa=>mq (C.f "make" [c,a]) λg=>mr g
def iA(C:Tb)(c a:V):M V:=mq (builtin "abs" [a]) λb=>iq .Gt b (.int 4096) (λh=>.exc (.str "result is not exact") h) (iq .GtE a (.int 0) (mq (ak c (.int 0)) λf=>mq (ah .Pow f a) λe=>mq (ak c (.int 1)) λg=>mq (ah .Pow g a) λd=>mr (.tup [e,d])) (uA C c a))
def uB(C:Tb)(a b:V):M V:=mq (ak a (.int 0)) λd=>iq .Eq d (.int (-1)) (mq (ak a (.int 1)) λc=>iq .Eq c (.int 1) (sG a b) (iA C a b)) (iA C a b)
def oo(C:Tb)(b:Nat)(a c:V):M V:=iq .Eq a (.tup [.int 1,.int 1]) (mr (.tup [.int 1,.int 1])) (uB C a c)
theorem wv(C:Tb)(b:Nat)(a c:V)(h:List O):Bd C "whole_power" [a,c] b h=oo C b a c h:=by kernel_rfl
def Bf(C:Tb)(b:Nat)(a:V):M V:=mq (C.f "is_finite" [a]) λg=>mq (truth g) λd=>bif !d then(mr a)else(mq (ak a (.int 0)) λc=>mq (ak a (.int 1)) λe=>mq (ah .FloorDiv c e) λi=>mr (.tup [i,(.int 1)]))
theorem JS(C:Tb)(b:Nat)(a:V)(h:List O):Bd C "floor" [a] b h=Bf C b a h:=by kernel_rfl
def vQ(C:Tb)(b:Nat)(g e:V):M V:=mq (C.f "div" [g,e]) λa=>mq (C.f "is_finite" [a]) λd=>mq (truth d) λc=>bif ! c then(mr a)else(mq (ak e (.int 1)) λm=>iq .Eq m (.int 0) (let j2:V->M V:=λk=>mr k;mq (ak g (.int 0)) λo=>mq (ak e (.int 0)) λn=>mq (ah .Mult o n) λl=>iq .Lt l (.int 0) (j2 (.tup [(.int (-1)),(.int 1)])) (j2 (.tup [.int 0,.int 1]))) (mq (C.f "floor" [a]) λi=>mr i))
theorem Ez(C:Tb)(b:Nat)(a c:V)(h:List O):Bd C "int_div" [a,c] b h=vQ C b a c h:=by kernel_rfl
def oq(C:Tb)(b a:V):M V:=mq (ak a (.int 1)) λc=>iq .Eq c (.int 0) (mq (ak b (.int 0)) λm=>mq (ak a (.int 0)) λk=>mq (ah .Mult m k) λi=>iq .Lt i (.int 0) (mr a) (mr b)) (mq (C.f "div" [b,a]) λg=>mq (C.f "floor" [g]) λl=>mq (C.f "mul" [l,a]) λe=>mq (C.f "sub" [b,e]) λd=>mr d)
def ww(C:Tb)(c d:V):M V:=mq (ak d (.int 0)) λb=>iq .Eq b (.int 0) (mr (.tup [.int 0,.int 0])) (mq (ak c (.int 1)) λa=>iq .Eq a (.int 0) (mr (.tup [.int 0,.int 0])) (oq C c d))
def qM(C:Tb)(b:Nat)(a c:V):M V:=mq (C.f "is_na" [a]) λk=>mq (truth k) λi=>bif i then(mq (C.f "marked" [a,c]) λd=>mr d)else(mq (C.f "is_na" [c]) λe=>mq (truth e) λg=>bif g then(mq (C.f "marked" [a,c]) λd=>mr d)else(ww C a c))
theorem zU(C:Tb)(b:Nat)(a c:V)(h:List O):Bd C "remainder" [a,c] b h=qM C b a c h:=by kernel_rfl
def rn(C:Tb)(b:Nat)(a:V):M V:=mq (aN a "kind") λc=>iq .Eq c (.str "NULL") (mr (.int 0)) (let t10:M V:=mq (aN a "items") λi=>mq (builtin "len" [i]) λm=>mr m;let f11:M V:=iq .Eq c (.str "environment") (mq (aN a "frame") λl=>mq (builtin "len" [l]) λg=>mr g) (iq .Eq c (.str "dots") (mq (aN a "args") λf=>mq (builtin "len" [f]) λk=>mr k) (mr (.int 1)));mq (isV "Vector" a) λe=>mq (truth e) λd=>bif d then(t10)else(iq .Eq c (.str "language") t10 f11))
theorem yh(C:Tb)(b:Nat)(a:V)(h:List O):Bd C "length" [a] b h=rn C b a h:=by kernel_rfl
def ki(C:Tb)(b:Nat)(a c:V):M V:=let t2:M V:=mr (.int 0);let f3:M V:=mq (builtin "max" [a,c]) λd=>mr d;iq .Eq a (.int 0) t2 (iq .Eq c (.int 0) t2 f3)
theorem ro(C:Tb)(b:Nat)(a c:V)(h:List O):Bd C "recycle_length" [a,c] b h=ki C b a c h:=by kernel_rfl
def gO(C:Tb)(b:Nat)(d c a:V):M V:=let j1:M V:=mr .none;let t3:M V:=mq (bQ a "append") λZ=>mq (bN a "append" [(.str "longer object length is not a multiple of shorter object length")]) λi=>j1;let f4:M V:=j1;iq .Gt d (.int 0) (iq .Gt c (.int 0) (mq (builtin "max" [d,c]) λf=>mq (builtin "min" [d,c]) λe=>mq (ah .Mod f e) λg=>iq .NotEq g (.int 0) t3 f4) f4) f4
theorem rq(C:Tb)(b:Nat)(c d a:V)(h:List O):Bd C "note_recycling" [c,d,a] b h=gO C b c d a h:=by kernel_rfl
def EA(C:Tb)(b:Nat)(a:V):M V:=mq (bY a) λc=>mq (bF C 23 "product" b [1] c [("numbers",a),("found",(.int 1))]) λd=>cm C 24 (aw "product" (aq "product") b) (aG "product" [2]) cb d.1 d.2
theorem EB(C:Tb)(b:Nat)(a:V)(h:List O):Bd C "product" [a] b h=EA C b a h:=by kernel_rfl
noncomputable def iB(C:Tb)(b:Nat)(c d a:V):M V:=mq (C.f "result_dim" [c,d]) λm=>mq (C.f "note_array_of_one" [c,d,a]) λo=>mq (C.f "length" [c]) λl=>mq (C.f "length" [d]) λk=>mq (C.f "note_recycling" [l,k,a]) λn=>mq (C.f "length" [c]) λg=>mq (C.f "length" [d]) λi=>mq (C.f "recycle_length" [g,i]) λe=>mr e
theorem sH(C:Tb)(b:Nat)(c d a:V)(h:List O):Bd C "common_length" [c,d,a] b h=iB C b c d a h:=by kernel_rfl
def zV(C:Tb)(b:Nat)(d a:V):M V:=mq (aN d "attrs") λe=>iq .Is e .none (mr .none) (mq (aN d "attrs") λc=>mq (bQ c "get") λZ=>mq (bN c "get" [a]) λf=>mr f)
theorem zW(C:Tb)(b:Nat)(c a:V)(h:List O):Bd C "attribute" [c,a] b h=zV C b c a h:=by kernel_rfl
def uC(C:Tb)(b:Nat)(e i a d k:V):M V:=mq (builtin "list" [k]) λm=>mq (C.f "Vector" [.str "integer",m]) λl=>mq (cH d (.str "dim") l) λZ=>mq (bY (.tup [i,e])) λc=>mq (bF C 22 "shape_attrs" b [2,0,1] c [("u",e),("v",i),("result",a),("found",d),("shape",k)]) λg=>cm C 23 (aw "shape_attrs" (aq "shape_attrs") b) (aG "shape_attrs" [2,0,2]) (cm C 24 (aw "shape_attrs" (aq "shape_attrs") b) (aG "shape_attrs" [3]) cb) g.1 g.2
def uD(C:Tb)(b:Nat)(e f a g i:V):M V:=mq (bY (.tup [f,e])) λc=>mq (bF C 22 "shape_attrs" b [2,1,0] c [("u",e),("v",f),("result",a),("found",g),("shape",i)]) λd=>cm C 23 (aw "shape_attrs" (aq "shape_attrs") b) (aG "shape_attrs" [2,1,1]) (cm C 24 (aw "shape_attrs" (aq "shape_attrs") b) (aG "shape_attrs" [3]) cb) d.1 d.2
def ot(C:Tb)(b:Nat)(c d a:V):M V:=mq (aC (.dict [])) λg=>mq (C.f "result_dim" [c,d]) λe=>iq .IsNot e .none (uC C b c d a g e) (uD C b c d a g e)
theorem wA(C:Tb)(b:Nat)(c d a:V)(h:List O):Bd C "shape_attrs" [c,d,a] b h=ot C b c d a h:=by kernel_rfl
def mC(C:Tb)(b:Nat)(d e a:V):M V:=mq (C.f "shape_attrs" [d,e,a]) λi=>mq (bY (.tup [e,d])) λc=>mq (bF C 23 "result_attrs" b [1] c [("u",d),("v",e),("result",a)]) λg=>cm C 24 (aw "result_attrs" (aq "result_attrs") b) (aG "result_attrs" [2]) cb g.1 g.2
theorem uE(C:Tb)(b:Nat)(c d a:V)(h:List O):Bd C "result_attrs" [c,d,a] b h=mC C b c d a h:=by kernel_rfl
def cX(C:Tb)(b:Nat)(f i g:V):M V:=let t21:M V:=mr .none;let f22:M V:=let j1:V->M V:=λa=>mq (builtin "abs" [a]) λp=>iq .Gt p (.int 2147483647) (mr .none) (mr a);iq .Eq f (.str "+") (mq (ah .Add i g) λo=>j1 o) (let j6:V->M V:=λe=>j1 e;iq .Eq f (.str "-") (mq (ah .Sub i g) λn=>j6 n) (let j9:V->M V:=λc=>j6 c;iq .Eq f (.str "*") (mq (ah .Mult i g) λl=>j9 l) (iq .Eq g (.int 0) (mr .none) (let j12:V->M V:=λd=>j9 d;iq .Eq f (.str "%/%") (mq (ah .FloorDiv i g) λk=>j12 k) (mq (ah .Mod i g) λm=>j12 m)))));iq .Is i .none t21 (iq .Is g .none t21 f22)
theorem yi(C:Tb)(b:Nat)(a c d:V)(h:List O):Bd C "integer_op" [a,c,d] b h=cX C b a c d h:=by kernel_rfl
def dg(C:Tb)(b:Nat)(a c d:V):M V:=iq .Eq a (.str "+") (mq (C.f "add" [c,d]) λe=>mr e) (iq .Eq a (.str "-") (mq (C.f "sub" [c,d]) λk=>mr k) (iq .Eq a (.str "*") (mq (C.f "mul" [c,d]) λn=>mr n) (iq .Eq a (.str "/") (mq (C.f "div" [c,d]) λm=>mr m) (iq .Eq a (.str "^") (mq (C.f "power" [c,d]) λi=>mr i) (iq .Eq a (.str "%/%") (mq (C.f "int_div" [c,d]) λg=>mr g) (mq (C.f "remainder" [c,d]) λl=>mr l))))))
theorem zX(C:Tb)(b:Nat)(a c d:V)(h:List O):Bd C "double_op" [a,c,d] b h=dg C b a c d h:=by kernel_rfl
def iU(C:Tb)(b:Nat)(a:V):M V:=mq (aN a "kind") λd=>iq .Eq d (.str "NULL") (mq (aC (.list [])) λc=>mr c) (mq (aN a "kind") λf=>iq .NotIn f (.tup [(.str "logical"),(.str "integer"),(.str "double")]) (λh=>.exc (.str "non-numeric argument to binary operator") h) (mq (aN a "items") λe=>mr e))
theorem mD(C:Tb)(b:Nat)(a:V)(h:List O):Bd C "number_items" [a] b h=iU C b a h:=by kernel_rfl
def mE(C:Tb)(b:Nat)(e:V):M V:=mq (C.f "number_items" [e]) λd=>mq (aN e "kind") λg=>iq .Eq g (.str "double") (mr d) (mq (bY d) λc=>mq (cF C.wf (Ic C 22) (aw "double_items" (aq "double_items") b) (aX (bG (aG "double_items" [2])) []) c) λa=>mq (aC (.list a)) λi=>mr i)
theorem uF(C:Tb)(b:Nat)(a:V)(h:List O):Bd C "double_items" [a] b h=mE C b a h:=by kernel_rfl
def kj(C:Tb)(b:Nat)(f d a i c:V):M V:=mq (aC (.list [])) λk=>mq (bt i) λe=>mq (bF C 23 "integer_result" b [2] e [("op",f),("left",d),("right",a),("n",i),("notes",c),("found",k),("overflow",(.bool false))]) λg=>cm C 24 (aw "integer_result" (aq "integer_result") b) (aG "integer_result" [3]) cb g.1 g.2
theorem rs(C:Tb)(b:Nat)(e d a f c:V)(h:List O):Bd C "integer_result" [e,d,a,f,c] b h=kj C b e d a f c h:=by kernel_rfl
def kX(C:Tb)(b:Nat)(f c a i:V):M V:=mq (fL b f) λZ=>mq (fL (b+1) c) λZ=>mq (fL (b+2) a) λZ=>mq (bt i) λe=>mq (cF C.wf (Ic C 22) (aw "double_result" (aq "double_result") b) (aX (bG (aG "double_result" [0])) []) e) λd=>mq (aC (.list d)) λg=>mr g
theorem sJ(C:Tb)(b:Nat)(d c a e:V)(h:List O):Bd C "double_result" [d,c,a,e] b h=kX C b d c a e h:=by kernel_rfl
noncomputable def kZ(C:Tb)(b c d k:V):M V:=mq (C.f "double_items" [c]) λi=>mq (C.f "double_items" [d]) λe=>mq (C.f "double_result" [b,i,e,k]) λg=>mq (C.f "Vector" [.str "double",g]) λa=>mq (C.f "result_attrs" [c,d,a]) λl=>mr a
noncomputable def EC(C:Tb)(d g i a e k l:V):M V:=mq (C.f "integer_result" [d,e,k,l,a]) λc=>mq (C.f "Vector" [.str "integer",c]) λb=>mq (C.f "result_attrs" [g,i,b]) λm=>mr b
def GJ(C:Tb)(b e c a g i f:V):M V:=mq (aN c "kind") λd=>iq .Eq d (.str "double") (kZ C b e c f) (iq .In b (.tup [.str "/",.str "^"]) (kZ C b e c f) (EC C b e c a g i f))
def Bg(C:Tb)(b:Nat)(d c e a:V):M V:=mq (C.f "number_items" [c]) λk=>mq (C.f "number_items" [e]) λl=>mq (C.f "common_length" [c,e,a]) λi=>mq (aN c "kind") λg=>iq .Eq g (.str "double") (kZ C d c e i) (GJ C d c e a k l i)
theorem Bh(C:Tb)(b:Nat)(c d e a:V)(h:List O):Bd C "arith" [c,d,e,a] b h=Bg C b c d e a h:=by kernel_rfl
def Cy(C:Tb)(b:Nat)(c a:V):M V:=let j1:M V:=mr a;mq (aN c "attrs") λe=>iq .IsNot e .none (mq (aN c "attrs") λd=>mq (builtin "dict" [d]) λf=>mq (dF a "attrs" f) λZ=>j1) j1
theorem Cz(C:Tb)(b:Nat)(c a:V)(h:List O):Bd C "keep_all" [c,a] b h=Cy C b c a h:=by kernel_rfl
def ju(C:Tb)(b:Nat)(c:V):M V:=mq (aN c "kind") λa=>iq .NotIn a (.tup [(.str "logical"),(.str "integer"),(.str "double")]) (λh=>.exc (.str "invalid argument to unary operator") h) (mr .none)
theorem ou(C:Tb)(b:Nat)(a:V)(h:List O):Bd C "check_unary" [a] b h=ju C b a h:=by kernel_rfl
def ED(C:Tb)(b:Nat)(d:V):M V:=mq (aN d "items") λi=>mq (bY i) λa=>mq (cF C.wf (Ic C 19) (aw "negate" (aq "negate") b) (aX (bG (aG "negate" [1,0,0])) [1,1]) a) λc=>mq (aC (.list c)) λg=>mq (C.f "Vector" [.str "double",g]) λe=>mq (C.f "keep_all" [d,e]) λk=>mr k
def EE(C:Tb)(b:Nat)(i:V):M V:=mq (aN i "items") λk=>mq (bY k) λg=>mq (cF C.wf (Ic C 23) (aw "negate" (aq "negate") b) (aX (bG (aG "negate" [2])) []) g) λa=>mq (aC (.list a)) λd=>mq (C.f "Vector" [.str "integer",d]) λc=>mq (C.f "keep_all" [i,c]) λe=>mr e
def yj(C:Tb)(b:Nat)(c a:V):M V:=mq (C.f "check_unary" [c]) λe=>mq (aN c "kind") λd=>iq .Eq d (.str "double") (ED C b c) (EE C b c)
theorem yk(C:Tb)(b:Nat)(c a:V)(h:List O):Bd C "negate" [c,a] b h=yj C b c a h:=by kernel_rfl
def EF(C:Tb)(b:Nat)(a c:V):M V:=mq (C.f "check_unary" [a]) λm=>let j2:V->M V:=λe=>mq (aN a "items") λl=>mq (builtin "list" [l]) λi=>mq (C.f "Vector" [e,i]) λg=>mq (C.f "keep_all" [a,g]) λk=>mr k;mq (aN a "kind") λd=>iq .Eq d (.str "double") (j2 (.str "double")) (j2 (.str "integer"))
theorem Ni(C:Tb)(b:Nat)(c a:V)(h:List O):Bd C "plus" [c,a] b h=EF C b c a h:=by kernel_rfl
def EG(C:Tb)(b:Nat)(a:V):M V:=mq (aC (.list [])) λe=>mq (kN a 40) λf=>mq (bY f) λc=>mq (bF C 23 "_law_row" b [1] c [("script",a),("row",e)]) λd=>cm C 24 (aw "_law_row" (aq "_law_row") b) (aG "_law_row" [2]) cb d.1 d.2
theorem EH(C:Tb)(b:Nat)(a:V)(h:List O):Bd C "_law_row" [a] b h=EG C b a h:=by kernel_rfl
def sK(C:Tb)(b:Nat)(a:V):M V:=let j1:V->M V:=λc=>mr c;mq (aC (.list [])) λd=>iq .NotEq a d (mq (bQ a "pop") λZ=>mq (bN a "pop" []) λe=>j1 e) (j1 (.int 0))
theorem CA(C:Tb)(b:Nat)(a:V)(h:List O):Bd C "_law_next" [a] b h=sK C b a h:=by kernel_rfl
def wB(C:Tb)(b:Nat)(a d:V):M V:=mq (builtin "abs" [a]) λe=>mq (A8 C 23 "_law_reduced" b [2] [("n",a),("d",d),("a",e),("b",d)]) λc=>cm C 24 (aw "_law_reduced" (aq "_law_reduced") b) (aG "_law_reduced" [3]) cb c.1 c.2
theorem wC(C:Tb)(b:Nat)(a c:V)(h:List O):Bd C "_law_reduced" [a,c] b h=wB C b a c h:=by kernel_rfl
def wD(C:Tb)(a e:V):M V:=mq (aC (.list [.tup [.int 1,.int 0],.tup [.int (-1),.int 0]])) λk=>mq (C.f "_law_next" [a]) λi=>mq (ah .Mod i (.int 2)) λd=>mq (ak k d) λc=>mq (aC (.list [.tup [.int 0,.int 1],.none,.tup [.int 0,.int 0],c])) λg=>mq (ak g e) λb=>mr b
def mF(C:Tb)(c i b:V):M V:=iq .Lt i (.int 6) (mq (C.f "_law_reduced" [b,(.int 1)]) λa=>mr a) (mq (C.f "_law_next" [c]) λd=>mq (ah .Mod d (.int 12)) λe=>mq (ah .Add (.int 1) e) λg=>mq (C.f "_law_reduced" [b,g]) λa=>mr a)
def wE(C:Tb)(a m c:V):M V:=mq (ah .Mult c (.int 1024)) λg=>mq (ah .Mult g (.int 1024)) λd=>mq (C.f "_law_next" [a]) λe=>mq (ah .Mult e (.int 1024)) λk=>mq (ah .Add d k) λi=>mq (C.f "_law_next" [a]) λb=>mq (ah .Add i b) λl=>mF C a m l
def yl(C:Tb)(b:Nat)(a:V):M V:=mq (C.f "_law_next" [a]) λg=>mq (ah .Mod g (.int 9)) λd=>iq .Lt d (.int 4) (wD C a d) (mq (C.f "_law_next" [a]) λi=>mq (ah .Mod i (.int 40)) λe=>mq (ah .Sub e (.int 15)) λc=>iq .Eq d (.int 8) (wE C a d c) (mF C a d c))
theorem ym(C:Tb)(b:Nat)(a:V)(h:List O):Bd C "_law_double" [a] b h=yl C b a h:=by kernel_rfl
def sL(C:Tb)(b:Nat)(a c:V):M V:=let t5:M V:=mr (.tup [.none,(.bool true)]);let f6:M V:=let t1:M V:=mr (.tup [(.tup [(.int 0),(.int 0)]),(.bool true)]);let f2:M V:=mr (.tup [.none,(.bool false)]);iq .Eq a (.tup [(.int 0),(.int 0)]) t1 (iq .Eq c (.tup [(.int 0),(.int 0)]) t1 f2);iq .Is a .none t5 (iq .Is c .none t5 f6)
theorem CB(C:Tb)(b:Nat)(a c:V)(h:List O):Bd C "_law_mark" [a,c] b h=sL C b a c h:=by kernel_rfl
def sM(C:Tb)(b:Nat)(a:V):M V:=let j1:V->M V:=λe=>mr e;mq (ak a (.int 0)) λf=>iq .Gt f (.int 0) (j1 (.int 1)) (let j3:V->M V:=λd=>j1 d;mq (ak a (.int 0)) λc=>iq .Lt c (.int 0) (j3 (.int (-1))) (j3 (.int 0)))
theorem CC(C:Tb)(b:Nat)(a:V)(h:List O):Bd C "_law_side" [a] b h=sM C b a h:=by kernel_rfl
def lW(C:Tb)(b:Nat)(g i:V):M V:=mq (aC (.list [g,i])) λl=>mq (bY l) λa=>mq (cF C.wf (Ic C 22) (aw "_law_sum" (aq "_law_sum") b) (aX (bG (aG "_law_sum" [2,0,0])) []) a) λf=>mq (aC (.list f)) λe=>mq (ak e (.int 0)) λd=>mq (ak e (.int (-1))) λc=>iq .Eq d c (mq (ak e (.int 0)) λk=>mr k) (mr (.tup [.int 0,.int 0]))
def zZ(C:Tb)(d m:V):M V:=mq (ak d (.int 0)) λl=>mq (ak m (.int 1)) λa=>mq (ah .Mult l a) λk=>mq (ak m (.int 0)) λb=>mq (ak d (.int 1)) λc=>mq (ah .Mult b c) λo=>mq (ah .Add k o) λg=>mq (ak d (.int 1)) λp=>mq (ak m (.int 1)) λn=>mq (ah .Mult p n) λe=>mq (C.f "_law_reduced" [g,e]) λi=>mr i
def CD(C:Tb)(b:Nat)(a c:V):M V:=mq (ak a (.int 1)) λd=>iq .Eq d (.int 0) (lW C b a c) (mq (ak c (.int 1)) λe=>iq .Eq e (.int 0) (lW C b a c) (zZ C a c))
def EI(C:Tb)(b:Nat)(c e:V):M V:=mq (C.f "_law_mark" [c,e]) λg=>mq (dS g) λd=>mq (truth d.2) λa=>bif a then(mr d.1)else(CD C b c e)
theorem EJ(C:Tb)(b:Nat)(a c:V)(h:List O):Bd C "_law_sum" [a,c] b h=EI C b a c h:=by kernel_rfl
def iC(C:Tb)(a b:V):M V:=mq (C.f "_law_side" [a]) λe=>mq (C.f "_law_side" [b]) λd=>mq (ah .Mult e d) λc=>mr (.tup [c,.int 0])
def sN(C:Tb)(d e:V):M V:=mq (ak d (.int 0)) λi=>mq (ak e (.int 0)) λl=>mq (ah .Mult i l) λg=>mq (ak d (.int 1)) λk=>mq (ak e (.int 1)) λc=>mq (ah .Mult k c) λb=>mq (C.f "_law_reduced" [g,b]) λa=>mr a
def uG(C:Tb)(a b:V):M V:=mq (ak a (.int 1)) λd=>iq .Eq d (.int 0) (iC C a b) (mq (ak b (.int 1)) λc=>iq .Eq c (.int 0) (iC C a b) (sN C a b))
def wF(C:Tb)(b:Nat)(c e:V):M V:=mq (C.f "_law_mark" [c,e]) λg=>mq (dS g) λd=>mq (truth d.2) λa=>bif a then(mr d.1)else(uG C c e)
theorem wG(C:Tb)(b:Nat)(a c:V)(h:List O):Bd C "_law_product" [a,c] b h=wF C b a c h:=by kernel_rfl
def sO(C:Tb)(d e:V):M V:=mq (C.f "_law_side" [d]) λc=>mq (ak e (.int 0)) λb=>iq .Lt b (.int 0) (mq (ah .Mult c (.int (-1))) λa=>mr (.tup [a,.int 0])) (mq (ah .Mult c (.int 1)) λa=>mr (.tup [a,.int 0]))
def sP(C:Tb)(o k:V):M V:=mq (ak o (.int 0)) λa=>mq (ak k (.int 1)) λi=>mq (ah .Mult a i) λb=>mq (C.f "_law_side" [k]) λc=>mq (ah .Mult b c) λm=>mq (ak o (.int 1)) λe=>mq (ak k (.int 0)) λn=>mq (builtin "abs" [n]) λl=>mq (ah .Mult e l) λd=>mq (C.f "_law_reduced" [m,d]) λg=>mr g
def sQ(C:Tb)(a d:V):M V:=mq (ak a (.int 1)) λb=>iq .Eq b (.int 0) (sO C a d) (mq (ak d (.int 0)) λe=>iq .Eq e (.int 0) (mq (C.f "_law_side" [a]) λc=>mr (.tup [c,.int 0])) (sP C a d))
def sR(C:Tb)(b c:V):M V:=mq (ak c (.int 1)) λa=>iq .Eq a (.int 0) (mq (ak b (.int 1)) λd=>iq .Eq d (.int 0) (mr (.tup [.int 0,.int 0])) (mr (.tup [.int 0,.int 1]))) (sQ C b c)
def uH(C:Tb)(b:Nat)(c e:V):M V:=mq (C.f "_law_mark" [c,e]) λg=>mq (dS g) λd=>mq (truth d.2) λa=>bif a then(mr d.1)else(sR C c e)
theorem uI(C:Tb)(b:Nat)(a c:V)(h:List O):Bd C "_law_quotient" [a,c] b h=uH C b a c h:=by kernel_rfl
def yn(a c:V):M V:=iq .Lt c (.int 0) (mr (.tup [.int 0,.int 1])) (mq (ak a (.int 0)) λb=>iq .Gt b (.int 0) (mr a) (mq (ah .Mod c (.int 2)) λd=>iq .Eq d (.int 1) (mr a) (mr (.tup [.int 1,.int 0]))))
def pj(C:Tb)(b:Nat)(f e:V):M V:=mq (builtin "abs" [e]) λd=>mq (bt d) λc=>mq (bF C 23 "_law_power" b [5] c [("x",f),("n",e),("found",.tup [.int 1,.int 1])]) λa=>cm C 24 (aw "_law_power" (aq "_law_power") b) (aG "_law_power" [6]) cb a.1 a.2
def wH(C:Tb)(b:Nat)(a c:V):M V:=iq .Eq a (.tup [.int 0,.int 1]) (iq .Gt c (.int 0) (mr (.tup [.int 0,.int 1])) (mr (.tup [.int 1,.int 0]))) (mq (ak a (.int 1)) λd=>iq .Eq d (.int 0) (yn a c) (pj C b a c))
def wI(C:Tb)(b:Nat)(a c:V):M V:=iq .Is a .none (mr a) (iq .Eq a (.tup [.int 0,.int 0]) (mr a) (wH C b a c))
def qN(C:Tb)(b:Nat)(a c:V):M V:=iq .Eq a (.tup [.int 1,.int 1]) (mr (.tup [.int 1,.int 1])) (iq .Eq c (.int 0) (mr (.tup [.int 1,.int 1])) (wI C b a c))
theorem z0(C:Tb)(b:Nat)(a c:V)(h:List O):Bd C "_law_power" [a,c] b h=qN C b a c h:=by kernel_rfl
def uJ(a:V):M V:=mq (ak a (.int 0)) λc=>iq .Gt c (.int 0) (mr (.tup [.tup [(.int 1),.int 0],.tup [.int 0,.int 0]])) (mq (ak a (.int 0)) λb=>iq .Lt b (.int 0) (mr (.tup [.tup [(.int (-1)),.int 0],.tup [.int 0,.int 0]])) (mr (.tup [.tup [(.int 0),.int 0],.tup [.int 0,.int 0]])))
def uK(e f:V):M V:=mq (ak f (.int 0)) λa=>iq .Gt a (.int 0) (mq (ak e (.int 0)) λc=>mr (.tup [.tup [c,.int 0],.tup [.int 0,.int 0]])) (mq (ak e (.int 0)) λb=>mq (nz b) λd=>mr (.tup [.tup [d,.int 0],.tup [.int 0,.int 0]]))
def la(d e:V)(b:Bool)(a:V):M V:=mq (truth (.bool b)) λc=>bif c then(mr (.tup [a,e]))else(mr (.tup [a,d]))
def uL(d e:V):M V:=mq (ak d (.int 0)) λb=>mq (ak e (.int 0)) λc=>mq (ah .Mult b c) λg=>mq (cmp .Lt g (.int 0)) λa=>mq (truth (.bool a)) λf=>bif f then(la d e a (.tup [.int (-1),.int 1]))else(la d e a (.tup [.int 0,.int 1]))
def mG(C:Tb)(c a:V):M V:=mq (ak c (.int 0)) λq=>mq (ak a (.int 1)) λm=>mq (ah .Mult q m) λt=>mq (ak c (.int 1)) λo=>mq (ak a (.int 0)) λd=>mq (ah .Mult o d) λl=>mq (ah .FloorDiv t l) λb=>mq (ak c (.int 0)) λA=>mq (ak a (.int 1)) λi=>mq (ah .Mult A i) λw=>mq (ak a (.int 0)) λy=>mq (ah .Mult b y) λk=>mq (ak c (.int 1)) λg=>mq (ah .Mult k g) λp=>mq (ah .Sub w p) λe=>mq (ak c (.int 1)) λn=>mq (ak a (.int 1)) λx=>mq (ah .Mult n x) λr=>mq (C.f "_law_reduced" [e,r]) λz=>mr (.tup [.tup [b,.int 1],z])
def lg(C:Tb)(a b:V):M V:=mq (ak a (.int 1)) λc=>iq .Eq c (.int 0) (uK a b) (mq (ak b (.int 1)) λd=>iq .Eq d (.int 0) (uL a b) (mG C a b))
def uM(C:Tb)(a b:V):M V:=mq (ak a (.int 1)) λd=>iq .Eq d (.int 0) (mq (ak b (.int 1)) λc=>iq .Eq c (.int 0) (mr (.tup [.tup [.int 0,.int 0],.tup [.int 0,.int 0]])) (lg C a b)) (lg C a b)
def sS(C:Tb)(b c:V):M V:=mq (ak c (.int 0)) λa=>iq .Eq a (.int 0) (uJ b) (uM C b c)
def sU(C:Tb)(a b:V):M V:=iq .Eq a (.tup [.int 0,.int 0]) (mr (.tup [.tup [.int 0,.int 0],.tup [.int 0,.int 0]])) (iq .Eq b (.tup [.int 0,.int 0]) (mr (.tup [.tup [.int 0,.int 0],.tup [.int 0,.int 0]])) (sS C a b))
def ow(C:Tb)(b:Nat)(a c:V):M V:=iq .Is a .none (mr (.tup [.none,.none])) (iq .Is c .none (mr (.tup [.none,.none])) (sU C a c))
theorem wJ(C:Tb)(b:Nat)(a c:V)(h:List O):Bd C "_law_divided" [a,c] b h=ow C b a c h:=by kernel_rfl
def uN(a:V):M V:=mq (ah .FloorDiv a (.int 2)) λc=>mq (aC (.list [.int 2,c])) λb=>mr b
def wK(a:V):M V:=mq (ah .FloorDiv a (.int 3)) λc=>mq (aC (.list [c,.int 3])) λb=>mr b
def fY(a c:V):M V:=iq .Eq c (.int 6) (mq (ah .Mod a (.int 3)) λb=>iq .Eq b (.int 0) (iq .Gt a (.int 0) (wK a) (mr .none)) (mr .none)) (mr .none)
def iV(a b:V):M V:=iq .Eq b (.int 5) (mq (ah .Mod a (.int 2)) λc=>iq .Eq c (.int 0) (iq .Gt a (.int 0) (uN a) (fY a b)) (fY a b)) (fY a b)
def pk(C:Tb)(b:Nat)(c a:V):M V:=mq (C.f "_law_next" [c]) λe=>mq (ah .Mod e (.int 7)) λd=>iq .Eq d (.int 4) (iq .Gt a (.int 0) (mq (aC (.list [a])) λg=>mr g) (iV a d)) (iV a d)
theorem yo(C:Tb)(b:Nat)(c a:V)(h:List O):Bd C "_law_shaped" [c,a] b h=pk C b c a h:=by kernel_rfl
def sV(C:Tb)(b:Nat)(c:V):M V:=let j1:V->M V:=λg=>mr g;let t7:M V:=j1 .none;let f8:M V:=mq (aN c "attrs") λk=>mq (ak k (.str "dim")) λi=>mq (aN i "items") λe=>mq (builtin "list" [e]) λd=>j1 d;mq (aN c "attrs") λa=>iq .Is a .none t7 (mq (aN c "attrs") λf=>iq .NotIn (.str "dim") f t7 f8)
theorem CE(C:Tb)(b:Nat)(a:V)(h:List O):Bd C "_law_dims" [a] b h=sV C b a h:=by kernel_rfl
def CF(C:Tb)(b:Nat)(g:V):M V:=mq (fL b g) λZ=>mq (aZ b) λf=>mq (aN f "attrs") λe=>iq .Is e .none (mq (aC (.dict [])) λd=>mr d) (mq (aZ b) λl=>mq (aN l "attrs") λk=>mq (bY k) λa=>mq (cF C.wf (Ic C 22) (aw "_law_seen" (aq "_law_seen") b) (aX (bG (aG "_law_seen" [1])) []) a) λc=>mq (aC (.dict (bR c))) λi=>mr i)
theorem CG(C:Tb)(b:Nat)(a:V)(h:List O):Bd C "_law_seen" [a] b h=CF C b a h:=by kernel_rfl
def z5(C:Tb)(b:Nat)(g i m k a c d:V):M V:=mq (aC (.dict [])) λf=>let j2:M V:=mq (aC (.list [(.tup [i,k]),(.tup [g,m])])) λn=>mq (bY n) λe=>mq (bF C 23 "_law_attrs" b [2] e [("u",g),("v",i),("n",m),("m",k),("shape",a),("total",c),("extra",d),("found",f)]) λl=>cm C 24 (aw "_law_attrs" (aq "_law_attrs") b) (aG "_law_attrs" [3]) cb l.1 l.2;iq .IsNot a .none (mq (cH f (.str "dim") (.tup [(.str "integer"),a])) λZ=>j2) j2
theorem z6(C:Tb)(b:Nat)(e f i g a c d:V)(h:List O):Bd C "_law_attrs" [e,f,i,g,a,c,d] b h=z5 C b e f i g a c d h:=by kernel_rfl
def wL(C:Tb)(b:Nat)(k:V):M V:=mq (aZ b) λc=>mq (bt k) λa=>mq (cF C.wf (Ic C 19) (aw "_law_vector" (aq "_law_vector") b) (aX (bG (aG "_law_vector" [2,0,0])) [1,1]) a) λd=>mq (aC (.list d)) λg=>mq (C.f "Vector" [.str "logical",g]) λi=>mq (C.f "_law_dressed" [c,i]) λe=>mr e
def oy(C:Tb)(b:Nat)(f e:V):M V:=mq (aC (.list [])) λd=>mq (bt e) λa=>mq (bF C 22 "_law_vector" b [3,0,1] a [("kind",f),("many",e),("items",d)]) λc=>cm C 23 (aw "_law_vector" (aq "_law_vector") b) (aG "_law_vector" [3,0,2]) (cm C 24 (aw "_law_vector" (aq "_law_vector") b) (aG "_law_vector" [4]) cb) c.1 c.2
def wM(C:Tb)(b:Nat)(k:V):M V:=mq (aZ b) λa=>mq (bt k) λd=>mq (cF C.wf (Ic C 19) (aw "_law_vector" (aq "_law_vector") b) (aX (bG (aG "_law_vector" [4,0,0])) [1,1]) d) λc=>mq (aC (.list c)) λi=>mq (C.f "Vector" [.str "double",i]) λe=>mq (C.f "_law_dressed" [a,e]) λg=>mr g
def wN(C:Tb)(b:Nat)(p:V):M V:=mq (aZ b) λa=>mq (aZ b) λd=>mq (C.f "_law_next" [d]) λo=>mq (ah .Mod o (.int 3)) λi=>iq .Eq i (.int 2) (mq (aC (.list [.str "1"])) λl=>mq (ah .Mult l p) λn=>mq (C.f "Vector" [.str "character",n]) λm=>mq (C.f "_law_dressed" [a,m]) λc=>mr c) (mq (aC (.list [.int 1])) λk=>mq (ah .Mult k p) λg=>mq (C.f "Vector" [.str "integer",g]) λe=>mq (C.f "_law_dressed" [a,e]) λc=>mr c)
def wO(C:Tb)(b:Nat)(a c:V):M V:=iq .Lt a (.int 4) (oy C b a c) (iq .Lt a (.int 6) (wM C b c) (iq .Eq a (.int 6) (mq (C.f "Null" []) λd=>mr d) (wN C b c)))
def pn(C:Tb)(b:Nat)(d:V):M V:=mq (fL b d) λZ=>mq (aZ b) λa=>mq (C.f "_law_next" [a]) λk=>mq (ah .Mod k (.int 8)) λg=>mq (aC (.list [.int 1,.int 2,.int 3,.int 4,.int 6,.int 9,.int 0,.int 1])) λm=>mq (aZ b) λc=>mq (C.f "_law_next" [c]) λi=>mq (ah .Mod i (.int 8)) λl=>mq (ak m l) λe=>iq .Eq g (.int 0) (wL C b e) (wO C b g e)
theorem yp(C:Tb)(b:Nat)(a:V)(h:List O):Bd C "_law_vector" [a] b h=pn C b a h:=by kernel_rfl
def cg(C:Tb)(b:Nat)(d f e:V):M V:=let t20:M V:=mr .none;let f21:M V:=mq (ah .Add f e) λp=>mq (ah .Sub f e) λr=>mq (ah .Mult f e) λt=>mq (aC (.dict (put "*" t (put "-" r (put "+" p []))))) λo=>mq (bQ o "get") λZ=>mq (bN o "get" [d,.none]) λq=>let j6:V->M V:=λc=>let j8:V->M V:=λa=>let j10:V->M V:=λl=>mr l;mq (builtin "abs" [a]) λk=>iq .Gt k (.int 2147483647) (j10 .none) (j10 a);iq .Eq d (.str "%%") (mq (ah .FloorDiv f e) λg=>mq (ah .Mult g e) λn=>mq (ah .Sub f n) λi=>j8 i) (j8 c);iq .Eq d (.str "%/%") (mq (ah .FloorDiv f e) λm=>j6 m) (j6 q);iq .Is f .none t20 (iq .Is e .none t20 (let t22:M V:=t20;let f23:M V:=f21;iq .In d (.tup [(.str "%%"),(.str "%/%")]) (iq .Eq e (.int 0) t22 f23) f23))
theorem wP(C:Tb)(b:Nat)(a c d:V)(h:List O):Bd C "_law_integer" [a,c,d] b h=cg C b a c d h:=by kernel_rfl
def cO(C:Tb)(b:Nat)(a d c:V):M V:=iq .Eq a (.str "+") (mq (C.f "_law_sum" [d,c]) λn=>mr n) (iq .Eq a (.str "-") (let j2:V->M V:=λo=>mq (C.f "_law_sum" [d,o]) λt=>mr t;iq .Is c .none (j2 .none) (mq (ak c (.int 0)) λw=>mq (nz w) λq=>mq (ak c (.int 1)) λp=>j2 (.tup [q,p]))) (iq .Eq a (.str "*") (mq (C.f "_law_product" [d,c]) λr=>mr r) (iq .Eq a (.str "/") (mq (C.f "_law_quotient" [d,c]) λk=>mr k) (iq .Eq a (.str "^") (mq (ak c (.int 0)) λi=>mq (C.f "_law_power" [d,i]) λg=>mr g) (mq (C.f "_law_divided" [d,c]) λl=>let j14:V->M V:=λm=>mq (ak l m) λe=>mr e;iq .Eq a (.str "%/%") (j14 (.int 0)) (j14 (.int 1)))))))
theorem wQ(C:Tb)(b:Nat)(a c d:V)(h:List O):Bd C "_law_doubled" [a,c,d] b h=cO C b a c d h:=by kernel_rfl
def z7(C:Tb)(b:Nat)(c a:V):M V:=mq (aN c "kind") λf=>iq .Eq f (.str "NULL") (mq (aC (.list [])) λi=>mr i) (let t8:M V:=mq (aN c "items") λm=>mq (bY m) λd=>mq (cF C.wf (Ic C 21) (aw "_law_items" (aq "_law_items") b) (aX (bG (aG "_law_items" [1,0,0])) []) d) λg=>mq (aC (.list g)) λk=>mr k;let f9:M V:=mq (aN c "items") λl=>mq (builtin "list" [l]) λn=>mr n;iq .Eq a (.str "double") (mq (aN c "kind") λe=>iq .NotEq e (.str "double") t8 f9) f9)
theorem z8(C:Tb)(b:Nat)(c a:V)(h:List O):Bd C "_law_items" [c,a] b h=z7 C b c a h:=by kernel_rfl
theorem GK {β:Type}(C:Tb)(b:Nat)(c a:V)(k:Bool->M β)(h:List O):(kK ai C.wf C.f 23).tst (aw "gcd" (aq "gcd") b) [("a",c),("b",a)] (nU (aG "gcd" [0])) k h=(mq (cmp .Gt a (.int 0)) k) h:=by kernel_rfl
def GL {β:Type}(C:Tb)(b:Nat)(c a:V)(k:Fl->Loc->M β):M β:=mq (ah .Mod c a) λd=>k .next [("a",a),("b",d)]
theorem GM {β:Type}(C:Tb)(b:Nat)(a c:V)(k:Fl->Loc->M β)(h:List O):bj ((kK ai C.wf C.f 23).ex (aw "gcd" (aq "gcd") b)) (kg (aG "gcd" [0])) [("a",a),("b",c)] k h=GL C b a c k h:=by kernel_rfl
noncomputable def GN(C:Tb)(b:Nat)(a c:V):M V:=mr a
theorem GO(C:Tb)(b:Nat)(a c:V)(h:List O):bj ((kK ai C.wf C.f 24).ex (aw "gcd" (aq "gcd") b)) (aG "gcd" [1]) [("a",a),("b",c)] cb h=GN C b a c h:=by kernel_rfl
theorem ru {β:Type}(C:Tb)(b:Nat)(c e d a:V)(k:Bool->M β)(h:List O):(kK ai C.wf C.f 23).tst (aw "_law_reduced" (aq "_law_reduced") b) [("n",c),("d",e),("a",d),("b",a)] (nU (aG "_law_reduced" [2])) k h=(mq (cmp .Gt a (.int 0)) k) h:=by kernel_rfl
def rv {β:Type}(C:Tb)(b:Nat)(e f c a:V)(k:Fl->Loc->M β):M β:=mq (ah .Mod c a) λd=>k .next [("n",e),("d",f),("a",a),("b",d)]
theorem rx {β:Type}(C:Tb)(b:Nat)(a e c d:V)(k:Fl->Loc->M β)(h:List O):bj ((kK ai C.wf C.f 23).ex (aw "_law_reduced" (aq "_law_reduced") b)) (kg (aG "_law_reduced" [2])) [("n",a),("d",e),("a",c),("b",d)] k h=rv C b a e c d k h:=by kernel_rfl
def ry(C:Tb)(b:Nat)(d f a g:V):M V:=mq (ah .FloorDiv d a) λc=>mq (ah .FloorDiv f a) λe=>mr (.tup [c,e])
theorem rz(C:Tb)(b:Nat)(a e c d:V)(h:List O):bj ((kK ai C.wf C.f 24).ex (aw "_law_reduced" (aq "_law_reduced") b)) (aG "_law_reduced" [3]) [("n",a),("d",e),("a",c),("b",d)] cb h=ry C b a e c d h:=by kernel_rfl
def iD {β:Type}(C:Tb)(b:Nat)(w a c:V)(k:Fl->Loc->M β):M β:=mq (ah .Mult c w) λd=>k .next [("numbers",a),("found",d),("value",w)]
theorem yq {β:Type}(C:Tb)(b:Nat)(w a c:V)(k:Fl->Loc->M β)(h:List O):aJ C 23 "product" b [1] w [("numbers",a),("found",c)] k h=iD C b w a c k h:=by kernel_rfl
theorem yr {β:Type}(C:Tb)(b:Nat)(w a c d:V)(k:Fl->Loc->M β)(h:List O):aJ C 23 "product" b [1] w [("numbers",a),("found",c),("value",d)] k h=iD C b w a c k h:=by kernel_rfl
noncomputable def po(C:Tb)(b:Nat)(c a:V):M V:=mr a
theorem yt(C:Tb)(b:Nat)(a c:V)(h:List O):bj ((kK ai C.wf C.f 24).ex (aw "product" (aq "product") b)) (aG "product" [2]) [("numbers",a),("found",c)] cb h=po C b a c h:=by kernel_rfl
theorem yu(C:Tb)(b:Nat)(a c d:V)(h:List O):bj ((kK ai C.wf C.f 24).ex (aw "product" (aq "product") b)) (aG "product" [2]) [("numbers",a),("found",c),("value",d)] cb h=po C b a c h:=by kernel_rfl
def gS {β:Type}(C:Tb)(b:Nat)(w g i c a d:V)(k:Fl->Loc->M β):M β:=mq (C.f "attribute" [w,(.str "dimnames")]) λe=>let j2:M β:=k .next [("u",g),("v",i),("result",c),("found",a),("shape",d),("operand",w),("heads",e)];iq .IsNot e .none (mq (cH a (.str "dimnames") e) λZ=>j2) j2
theorem rA {β:Type}(C:Tb)(b:Nat)(w e f a d c:V)(k:Fl->Loc->M β)(h:List O):aJ C 22 "shape_attrs" b [2,0,1] w [("u",e),("v",f),("result",a),("found",d),("shape",c)] k h=gS C b w e f a d c k h:=by kernel_rfl
theorem rB {β:Type}(C:Tb)(b:Nat)(w g i a d c e f:V)(k:Fl->Loc->M β)(h:List O):aJ C 22 "shape_attrs" b [2,0,1] w [("u",g),("v",i),("result",a),("found",d),("shape",c),("operand",e),("heads",f)] k h=gS C b w g i a d c k h:=by kernel_rfl
def fq {β:Type}(C:Tb)(b:Nat)(w g l a c d:V)(k:Fl->Loc->M β):M β:=mq (C.f "attribute" [w,(.str "names")]) λe=>let j2:M β:=k .next [("u",g),("v",l),("result",a),("found",c),("shape",d),("operand",w),("heads",e)];let t3:M β:=mq (cH c (.str "names") e) λZ=>j2;let f4:M β:=j2;iq .IsNot e .none (mq (C.f "length" [w]) λn=>mq (C.f "length" [a]) λi=>iq .Eq n i (mq (C.f "dim_of" [w]) λm=>iq .Is m .none t3 f4) f4) f4
theorem rC {β:Type}(C:Tb)(b:Nat)(w e f a d c:V)(k:Fl->Loc->M β)(h:List O):aJ C 22 "shape_attrs" b [2,1,0] w [("u",e),("v",f),("result",a),("found",d),("shape",c)] k h=fq C b w e f a d c k h:=by kernel_rfl
theorem rD {β:Type}(C:Tb)(b:Nat)(w g i a d c e f:V)(k:Fl->Loc->M β)(h:List O):aJ C 22 "shape_attrs" b [2,1,0] w [("u",g),("v",i),("result",a),("found",d),("shape",c),("operand",e),("heads",f)] k h=fq C b w g i a d c k h:=by kernel_rfl
def ft(C:Tb)(b:Nat)(f g c a d:V):M V:=let j1:M V:=mr .none;mq (truth a) λe=>bif e then(mq (dF c "attrs" a) λZ=>j1)else(j1)
def jw {β:Type}(C:Tb)(b:Nat)(w d e a:V)(k:Fl->Loc->M β):M β:=let t4:M β:=mq (aN w "attrs") λm=>mq (dI m) λc=>mq (bF C 21 "result_attrs" b [1,0,0,0,0] c [("u",d),("v",e),("result",a),("operand",w)]) λg=>cm C 22 (aw "result_attrs" (aq "result_attrs") b) (aG "result_attrs" [1,0,0,0,1]) (cm C 23 (aw "result_attrs" (aq "result_attrs") b) (aG "result_attrs" [1,0,1]) k) g.1 g.2;let f5:M β:=k .next [("u",d),("v",e),("result",a),("operand",w)];mq (aN w "attrs") λl=>iq .IsNot l .none (mq (C.f "length" [w]) λi=>mq (C.f "length" [a]) λn=>iq .Eq i n t4 f5) f5
theorem qs {β:Type}(C:Tb)(b:Nat)(w c d a:V)(k:Fl->Loc->M β)(h:List O):aJ C 23 "result_attrs" b [1] w [("u",c),("v",d),("result",a)] k h=jw C b w c d a k h:=by kernel_rfl
theorem qt {β:Type}(C:Tb)(b:Nat)(w d e a c:V)(k:Fl->Loc->M β)(h:List O):aJ C 23 "result_attrs" b [1] w [("u",d),("v",e),("result",a),("operand",c)] k h=jw C b w d e a k h:=by kernel_rfl
def qu {β:Type}(C:Tb)(b:Nat)(w i l a e d c:V)(k:Fl->Loc->M β):M β:=let t4:M β:=mq (aN w "attrs") λp=>mq (dI p) λg=>mq (bF C 21 "result_attrs" b [1,0,0,0,0] g [("u",i),("v",l),("result",a),("operand",w),("name",d),("value",c)]) λm=>cm C 22 (aw "result_attrs" (aq "result_attrs") b) (aG "result_attrs" [1,0,0,0,1]) (cm C 23 (aw "result_attrs" (aq "result_attrs") b) (aG "result_attrs" [1,0,1]) k) m.1 m.2;let f5:M β:=k .next [("u",i),("v",l),("result",a),("operand",w),("name",d),("value",c)];mq (aN w "attrs") λo=>iq .IsNot o .none (mq (C.f "length" [w]) λn=>mq (C.f "length" [a]) λq=>iq .Eq n q t4 f5) f5
theorem qw {β:Type}(C:Tb)(b:Nat)(w f g c a e d:V)(k:Fl->Loc->M β)(h:List O):aJ C 23 "result_attrs" b [1] w [("u",f),("v",g),("result",c),("operand",a),("name",e),("value",d)] k h=qu C b w f g c a e d k h:=by kernel_rfl
def eJ {β:Type}(C:Tb)(b:Nat)(w e f a c:V)(k:Fl->Loc->M β):M β:=mq (dS w) λd=>let j2:M β:=k .next [("u",e),("v",f),("result",a),("operand",c),("name",d.1),("value",d.2)];iq .NotIn d.1 (.tup [(.str "names"),(.str "dim"),(.str "dimnames")]) (let j3:M β:=mq (aN a "attrs") λl=>mq (cH l d.1 d.2) λZ=>j2;mq (aN a "attrs") λg=>iq .Is g .none (mq (aC (.dict [])) λi=>mq (dF a "attrs" i) λZ=>j3) j3) j2
theorem qx {β:Type}(C:Tb)(b:Nat)(w d e c a:V)(k:Fl->Loc->M β)(h:List O):aJ C 21 "result_attrs" b [1,0,0,0,0] w [("u",d),("v",e),("result",c),("operand",a)] k h=eJ C b w d e c a k h:=by kernel_rfl
theorem qy {β:Type}(C:Tb)(b:Nat)(w f g c a e d:V)(k:Fl->Loc->M β)(h:List O):aJ C 21 "result_attrs" b [1,0,0,0,0] w [("u",f),("v",g),("result",c),("operand",a),("name",e),("value",d)] k h=eJ C b w f g c a k h:=by kernel_rfl
noncomputable def jx(C:Tb)(b:Nat)(d e c a:V):M V:=mr .none
theorem qz(C:Tb)(b:Nat)(d e c a:V)(h:List O):bj ((kK ai C.wf C.f 24).ex (aw "result_attrs" (aq "result_attrs") b)) (aG "result_attrs" [2]) [("u",d),("v",e),("result",c),("operand",a)] cb h=jx C b d e c a h:=by kernel_rfl
theorem qA(C:Tb)(b:Nat)(g i c a e d:V)(h:List O):bj ((kK ai C.wf C.f 24).ex (aw "result_attrs" (aq "result_attrs") b)) (aG "result_attrs" [2]) [("u",g),("v",i),("result",c),("operand",a),("name",e),("value",d)] cb h=jx C b g i c a h:=by kernel_rfl
def dA {β:Type}(C:Tb)(b:Nat)(w l e a t i c g:V)(k:Fl->Loc->M β):M β:=mq (builtin "len" [e]) λp=>mq (ah .Mod w p) λx=>mq (ak e x) λo=>mq (builtin "len" [a]) λy=>mq (ah .Mod w y) λr=>mq (ak a r) λm=>mq (C.f "integer_op" [l,o,m]) λn=>let j8:V->M β:=λd=>mq (bQ c "append") λZ=>mq (bN c "append" [n]) λq=>k .next [("op",l),("left",e),("right",a),("n",t),("notes",i),("found",c),("overflow",d),("i",w),("a",o),("b",m),("value",n)];let t11:M β:=j8 (.bool true);let f12:M β:=j8 g;iq .Is n .none (iq .In l (.tup [(.str "+"),(.str "-"),(.str "*")]) (iq .IsNot o .none (iq .IsNot m .none t11 f12) f12) f12) f12
theorem oJ {β:Type}(C:Tb)(b:Nat)(w g f c i e d a:V)(k:Fl->Loc->M β)(h:List O):aJ C 23 "integer_result" b [2] w [("op",g),("left",f),("right",c),("n",i),("notes",e),("found",d),("overflow",a)] k h=dA C b w g f c i e d a k h:=by kernel_rfl
theorem oK {β:Type}(C:Tb)(b:Nat)(w i f c l e d a n m o g:V)(k:Fl->Loc->M β)(h:List O):aJ C 23 "integer_result" b [2] w [("op",i),("left",f),("right",c),("n",l),("notes",e),("found",d),("overflow",a),("i",n),("a",m),("b",o),("value",g)] k h=dA C b w i f c l e d a k h:=by kernel_rfl
def iO(C:Tb)(b:Nat)(g f e k c d a:V):M V:=let j1:M V:=mr d;mq (truth a) λi=>bif i then(mq (bQ c "append") λZ=>mq (bN c "append" [(.str "NAs produced by integer overflow")]) λl=>j1)else(j1)
theorem oM(C:Tb)(b:Nat)(i g c k e d a:V)(h:List O):bj ((kK ai C.wf C.f 24).ex (aw "integer_result" (aq "integer_result") b)) (aG "integer_result" [3]) [("op",i),("left",g),("right",c),("n",k),("notes",e),("found",d),("overflow",a)] cb h=iO C b i g c k e d a h:=by kernel_rfl
theorem oN(C:Tb)(b:Nat)(k g c l e d a n m o i:V)(h:List O):bj ((kK ai C.wf C.f 24).ex (aw "integer_result" (aq "integer_result") b)) (aG "integer_result" [3]) [("op",k),("left",g),("right",c),("n",l),("notes",e),("found",d),("overflow",a),("i",n),("a",m),("b",o),("value",i)] cb h=iO C b k g c l e d a h:=by kernel_rfl
def yv {β:Type}(C:Tb)(b:Nat)(w c a:V)(k:Fl->Loc->M β):M β:=let j1:V->M β:=λf=>mq (bQ a "append") λZ=>mq (ah .Mod f (.int 1024)) λl=>mq (bN a "append" [l]) λm=>mq (ah .FloorDiv f (.int 1024)) λg=>mq (bt (.int 30)) λd=>mq (bF C 22 "_law_row" b [1,0,3] d [("script",c),("row",a),("cell",w),("figure",g)]) λe=>cm C 23 (aw "_law_row" (aq "_law_row") b) (aG "_law_row" [1,0,4]) k e.1 e.2;iq .GtE w (.int 0) (j1 w) (mq (ah .Sub (.int 7) w) λi=>j1 i)
theorem yw {β:Type}(C:Tb)(b:Nat)(w a c:V)(k:Fl->Loc->M β)(h:List O):aJ C 23 "_law_row" b [1] w [("script",a),("row",c)] k h=yv C b w a c k h:=by kernel_rfl
def yx {β:Type}(C:Tb)(b:Nat)(w c a g e d:V)(k:Fl->Loc->M β):M β:=let j1:V->M β:=λl=>mq (bQ a "append") λZ=>mq (ah .Mod l (.int 1024)) λo=>mq (bN a "append" [o]) λp=>mq (ah .FloorDiv l (.int 1024)) λm=>mq (bt (.int 30)) λf=>mq (bF C 22 "_law_row" b [1,0,3] f [("script",c),("row",a),("cell",w),("figure",m),("lap",d)]) λi=>cm C 23 (aw "_law_row" (aq "_law_row") b) (aG "_law_row" [1,0,4]) k i.1 i.2;iq .GtE w (.int 0) (j1 w) (mq (ah .Sub (.int 7) w) λn=>j1 n)
theorem yy {β:Type}(C:Tb)(b:Nat)(w a f d c e:V)(k:Fl->Loc->M β)(h:List O):aJ C 23 "_law_row" b [1] w [("script",a),("row",f),("cell",d),("figure",c),("lap",e)] k h=yx C b w a f d c e k h:=by kernel_rfl
def fN {β:Type}(C:Tb)(b:Nat)(w e d f a:V)(k:Fl->Loc->M β):M β:=let j1:V->M β:=λc=>k .next [("script",e),("row",d),("cell",f),("figure",c),("lap",w)];iq .Gt a (.int 0) (mq (bQ d "append") λZ=>mq (ah .Mod a (.int 1024)) λi=>mq (bN d "append" [i]) λl=>mq (ah .FloorDiv a (.int 1024)) λg=>j1 g) (j1 a)
theorem yz {β:Type}(C:Tb)(b:Nat)(w c e d a:V)(k:Fl->Loc->M β)(h:List O):aJ C 22 "_law_row" b [1,0,3] w [("script",c),("row",e),("cell",d),("figure",a)] k h=fN C b w c e d a k h:=by kernel_rfl
theorem yA {β:Type}(C:Tb)(b:Nat)(w a e d c f:V)(k:Fl->Loc->M β)(h:List O):aJ C 22 "_law_row" b [1,0,3] w [("script",a),("row",e),("cell",d),("figure",c),("lap",f)] k h=fN C b w a e d c k h:=by kernel_rfl
def pq(C:Tb)(b:Nat)(c a:V):M V:=mq (kN a 160) λd=>mq (bQ d "reverse") λZ=>mq (bN d "reverse" []) λe=>mr d
theorem yB(C:Tb)(b:Nat)(a c:V)(h:List O):bj ((kK ai C.wf C.f 24).ex (aw "_law_row" (aq "_law_row") b)) (aG "_law_row" [2]) [("script",a),("row",c)] cb h=pq C b a c h:=by kernel_rfl
theorem yC(C:Tb)(b:Nat)(a d e c g:V)(h:List O):bj ((kK ai C.wf C.f 24).ex (aw "_law_row" (aq "_law_row") b)) (aG "_law_row" [2]) [("script",a),("row",d),("cell",e),("figure",c),("lap",g)] cb h=pq C b a d h:=by kernel_rfl
noncomputable def mH {β:Type}(C:Tb)(b:Nat)(w c d a:V)(k:Fl->Loc->M β):M β:=mq (C.f "_law_product" [a,c]) λe=>k .next [("x",c),("n",d),("found",e),("lap",w)]
theorem uO {β:Type}(C:Tb)(b:Nat)(w c d a:V)(k:Fl->Loc->M β)(h:List O):aJ C 23 "_law_power" b [5] w [("x",c),("n",d),("found",a)] k h=mH C b w c d a k h:=by kernel_rfl
theorem uP {β:Type}(C:Tb)(b:Nat)(w d e a c:V)(k:Fl->Loc->M β)(h:List O):aJ C 23 "_law_power" b [5] w [("x",d),("n",e),("found",a),("lap",c)] k h=mH C b w d e a k h:=by kernel_rfl
def mI(C:Tb)(b:Nat)(g d a:V):M V:=let j1:V->M V:=λc=>mr c;iq .Gt d (.int 0) (j1 a) (mq (C.f "_law_quotient" [(.tup [(.int 1),(.int 1)]),a]) λe=>j1 e)
theorem uQ(C:Tb)(b:Nat)(c d a:V)(h:List O):bj ((kK ai C.wf C.f 24).ex (aw "_law_power" (aq "_law_power") b)) (aG "_law_power" [6]) [("x",c),("n",d),("found",a)] cb h=mI C b c d a h:=by kernel_rfl
theorem uR(C:Tb)(b:Nat)(d e a c:V)(h:List O):bj ((kK ai C.wf C.f 24).ex (aw "_law_power" (aq "_law_power") b)) (aG "_law_power" [6]) [("x",d),("n",e),("found",a),("lap",c)] cb h=mI C b d e a h:=by kernel_rfl
def mJ {β:Type}(C:Tb)(b:Nat)(w n o q p a c e d:V)(k:Fl->Loc->M β):M β:=mq (dS w) λi=>mq (C.f "_law_seen" [i.1]) λm=>mq (bY m) λg=>mq (bF C 22 "_law_attrs" b [2,0,1] g [("u",n),("v",o),("n",q),("m",p),("shape",a),("total",c),("extra",e),("found",d),("side",i.1),("size",i.2),("seen",m)]) λl=>cm C 23 (aw "_law_attrs" (aq "_law_attrs") b) (aG "_law_attrs" [2,0,2]) k l.1 l.2
theorem uS {β:Type}(C:Tb)(b:Nat)(w f g l i a c e d:V)(k:Fl->Loc->M β)(h:List O):aJ C 23 "_law_attrs" b [2] w [("u",f),("v",g),("n",l),("m",i),("shape",a),("total",c),("extra",e),("found",d)] k h=mJ C b w f g l i a c e d k h:=by kernel_rfl
theorem uT {β:Type}(C:Tb)(b:Nat)(w l m o n a c e d f g i:V)(k:Fl->Loc->M β)(h:List O):aJ C 23 "_law_attrs" b [2] w [("u",l),("v",m),("n",o),("m",n),("shape",a),("total",c),("extra",e),("found",d),("side",f),("size",g),("seen",i)] k h=mJ C b w l m o n a c e d k h:=by kernel_rfl
def uU {β:Type}(C:Tb)(b:Nat)(w r t y x a c e d l n o g:V)(k:Fl->Loc->M β):M β:=mq (dS w) λm=>mq (C.f "_law_seen" [m.1]) λq=>mq (bY q) λi=>mq (bF C 22 "_law_attrs" b [2,0,1] i [("u",r),("v",t),("n",y),("m",x),("shape",a),("total",c),("extra",e),("found",d),("side",m.1),("size",m.2),("seen",q),("name",g)]) λp=>cm C 23 (aw "_law_attrs" (aq "_law_attrs") b) (aG "_law_attrs" [2,0,2]) k p.1 p.2
theorem uV {β:Type}(C:Tb)(b:Nat)(w m n p o a c e d f g i l:V)(k:Fl->Loc->M β)(h:List O):aJ C 23 "_law_attrs" b [2] w [("u",m),("v",n),("n",p),("m",o),("shape",a),("total",c),("extra",e),("found",d),("side",f),("size",g),("seen",i),("name",l)] k h=uU C b w m n p o a c e d f g i l k h:=by kernel_rfl
def fZ {β:Type}(C:Tb)(b:Nat)(w l m q p f a g c i d e:V)(k:Fl->Loc->M β):M β:=let j1:M β:=let j2:M β:=k .next [("u",l),("v",m),("n",q),("m",p),("shape",f),("total",a),("extra",g),("found",c),("side",i),("size",d),("seen",e),("name",w)];let t4:M β:=mq (ak e w) λr=>mq (cH c w r) λZ=>j2;let f5:M β:=j2;iq .NotIn w (.tup [(.str "names"),(.str "dim")]) (iq .Eq d a (mq (truth g) λn=>bif n then(t4)else(f5)) f5) f5;let t10:M β:=mq (ak e (.str "names")) λo=>mq (cH c (.str "names") o) λZ=>j1;let f11:M β:=j1;iq .Eq w (.str "names") (iq .Is f .none (iq .Eq d a t10 f11) f11) f11
theorem uW {β:Type}(C:Tb)(b:Nat)(w l m o n a c e d f g i:V)(k:Fl->Loc->M β)(h:List O):aJ C 22 "_law_attrs" b [2,0,1] w [("u",l),("v",m),("n",o),("m",n),("shape",a),("total",c),("extra",e),("found",d),("side",f),("size",g),("seen",i)] k h=fZ C b w l m o n a c e d f g i k h:=by kernel_rfl
theorem uX {β:Type}(C:Tb)(b:Nat)(w m n p o a c e d f g i l:V)(k:Fl->Loc->M β)(h:List O):aJ C 22 "_law_attrs" b [2,0,1] w [("u",m),("v",n),("n",p),("m",o),("shape",a),("total",c),("extra",e),("found",d),("side",f),("size",g),("seen",i),("name",l)] k h=fZ C b w m n p o a c e d f g i k h:=by kernel_rfl
noncomputable def mK(C:Tb)(b:Nat)(k l n m c d e a f g i:V):M V:=mr a
theorem uY(C:Tb)(b:Nat)(l m o n a c e d g i k:V)(h:List O):bj ((kK ai C.wf C.f 24).ex (aw "_law_attrs" (aq "_law_attrs") b)) (aG "_law_attrs" [3]) [("u",l),("v",m),("n",o),("m",n),("shape",a),("total",c),("extra",e),("found",d),("side",g),("size",i),("seen",k)] cb h=mK C b l m o n a c e d g i k h:=by kernel_rfl
theorem uZ(C:Tb)(b:Nat)(m n p o a c e d g i k l:V)(h:List O):bj ((kK ai C.wf C.f 24).ex (aw "_law_attrs" (aq "_law_attrs") b)) (aG "_law_attrs" [3]) [("u",m),("v",n),("n",p),("m",o),("shape",a),("total",c),("extra",e),("found",d),("side",g),("size",i),("seen",k),("name",l)] cb h=mK C b m n p o a c e d g i k h:=by kernel_rfl
noncomputable def kl {β:Type}(C:Tb)(b:Nat)(w:V)(k:Option V->M β):M β:=mq (C.f "from_int" [w]) λa=>k (some a)
theorem rE {β:Type}(C:Tb)(b:Nat)(w:V)(k:Option V->M β)(h:List O):bS C 22 (aw "double_items" (aq "double_items") b) (aX (bG (aG "double_items" [2])) []) w k h=kl C b w k h:=by kernel_rfl
def jy {β:Type}(C:Tb)(b:Nat)(w:V)(k:Option V->M β):M β:=mq (aZ b) λm=>mq (aZ (b+1)) λd=>mq (aZ (b+1)) λe=>mq (builtin "len" [e]) λq=>mq (ah .Mod w q) λo=>mq (ak d o) λn=>mq (aZ (b+2)) λa=>mq (aZ (b+2)) λc=>mq (builtin "len" [c]) λp=>mq (ah .Mod w p) λl=>mq (ak a l) λi=>mq (C.f "double_op" [m,n,i]) λg=>k (some g)
theorem qB {β:Type}(C:Tb)(b:Nat)(w:V)(k:Option V->M β)(h:List O):bS C 22 (aw "double_result" (aq "double_result") b) (aX (bG (aG "double_result" [0])) []) w k h=jy C b w k h:=by kernel_rfl
noncomputable def CH {β:Type}(C:Tb)(b:Nat)(w:V)(k:Option V->M β):M β:=mq (C.f "neg" [w]) λa=>k (some a)
theorem CI {β:Type}(C:Tb)(b:Nat)(w:V)(k:Option V->M β)(h:List O):bS C 19 (aw "negate" (aq "negate") b) (aX (bG (aG "negate" [1,0,0])) [1,1]) w k h=CH C b w k h:=by kernel_rfl
def sW {β:Type}(C:Tb)(b:Nat)(w:V)(k:Option V->M β):M β:=let j1:V->M β:=λc=>k (some c);iq .Is w .none (j1 .none) (mq (ah .Sub (.int 0) w) λa=>j1 a)
theorem CJ {β:Type}(C:Tb)(b:Nat)(w:V)(k:Option V->M β)(h:List O):bS C 23 (aw "negate" (aq "negate") b) (aX (bG (aG "negate" [2])) []) w k h=sW C b w k h:=by kernel_rfl
def qO {β:Type}(C:Tb)(b:Nat)(w:V)(k:Option V->M β):M β:=mq (ak w (.int 1)) λa=>iq .Eq a (.int 0) (k (some w)) (k none)
theorem z9 {β:Type}(C:Tb)(b:Nat)(w:V)(k:Option V->M β)(h:List O):bS C 22 (aw "_law_sum" (aq "_law_sum") b) (aX (bG (aG "_law_sum" [2,0,0])) []) w k h=qO C b w k h:=by kernel_rfl
def lh {β:Type}(C:Tb)(b:Nat)(w:V)(k:Option V->M β):M β:=mq (aZ b) λa=>mq (C.f "_law_next" [a]) λd=>mq (ah .Mod d (.int 26)) λg=>mq (ah .Add (.int 97) g) λe=>mq (builtin "chr" [e]) λc=>k (some c)
theorem sX {β:Type}(C:Tb)(b:Nat)(w:V)(k:Option V->M β)(h:List O):bS C 19 (aw "_law_dressed" (aq "_law_dressed") b) (aX (bG (aG "_law_dressed" [3,1,0,0,0])) [1]) w k h=lh C b w k h:=by kernel_rfl
def pt {β:Type}(C:Tb)(b:Nat)(w:V)(k:Option V->M β):M β:=mq (aZ b) λf=>mq (aN f "attrs") λg=>mq (ak g w) λm=>mq (aN m "kind") λl=>mq (aZ b) λa=>mq (aN a "attrs") λd=>mq (ak d w) λi=>mq (aN i "items") λc=>mq (builtin "list" [c]) λe=>match w with|.str _=>k (some (.tup [w,(.tup [l,e])]))|_=>bad
theorem yD {β:Type}(C:Tb)(b:Nat)(w:V)(k:Option V->M β)(h:List O):bS C 22 (aw "_law_seen" (aq "_law_seen") b) (aX (bG (aG "_law_seen" [1])) []) w k h=pt C b w k h:=by kernel_rfl
def oz {β:Type}(C:Tb)(b:Nat)(w:V)(k:Option V->M β):M β:=let j1:V->M β:=λa=>k (some a);iq .Is w .none (j1 .none) (j1 (.tup [w,(.int 1)]))
theorem wR {β:Type}(C:Tb)(b:Nat)(w:V)(k:Option V->M β)(h:List O):bS C 21 (aw "_law_items" (aq "_law_items") b) (aX (bG (aG "_law_items" [1,0,0])) []) w k h=oz C b w k h:=by kernel_rfl
abbrev Tj (wf j:Nat):Tb:=⟨T ai wf 24 j,wf⟩
theorem xc {x:Str}{vs:List V}(a:ai.fn x=some (aq x)):T ai wf 24 (j+1) x vs h=Bd (Tj wf j) x vs h.length (h++List.replicate (cellN (aq x).scope.names) (.cell none)):=by
 show(match ai.fn x with|some fn=>fj (jZ ai wf (T ai wf 24 j) 24) x fn vs|none=>_) h=_
 rw[a];exact x9 ai wf (T ai wf 24 j) 24 x (aq x) vs h
theorem aK {x:Str}{vs:List V}(a:ai.fn x=some (aq x))(b:cellN (aq x).scope.names=0):T ai wf 24 (j+1) x vs h=Bd (Tj wf j) x vs h.length h:=by
 rw[xc a,b,List.replicate_zero,Uu]
theorem ac {b β:Type}{m:M b}{f:b->M β}{a:b}(e:m h=.ok a h'):mq m f h=f a h':=by
 unfold mq;rw[e]
@[simp] theorem bA (a b:Int):cmp .Eq (.int a) (.int b)=mr (decide (a=b)):=rfl
@[simp] theorem jE (a b:Int):cmp .Lt (.int a) (.int b)=mr (decide (a<b)):=rfl
@[simp] theorem O0 (a b:Int):cmp .LtE (.int a) (.int b)=mr (decide (a<=b)):=rfl
@[simp] theorem cJ (a b:Int):cmp .Gt (.int a) (.int b)=mr (decide (a>b)):=rfl
@[simp] theorem sY (a b:Int):cmp .GtE (.int a) (.int b)=mr (decide (a>=b)):=rfl
@[simp] theorem cZ (a b:Int):ah .Add (.int a) (.int b)=mr (.int (a+b)):=rfl
@[simp] theorem ch (a b:Int):ah .Sub (.int a) (.int b)=mr (.int (a-b)):=rfl
theorem qc {a:Type}{c:Bool}{r:R a}(h:c=true):(bif c then r else .bad)=r:=by rw[h];rfl
theorem bn {a b:Int}(c:a.natAbs<2^2000)(d:b.natAbs<2^2000):ah .Mult (.int a) (.int b)=mr (.int (a*b)):=by
 funext h;exact qc (Tu.mpr ⟨UL c,UL d⟩)
theorem bu {a b:Int}(d:b≠0)(c:b.natAbs<2^2000):ah .FloorDiv (.int a) (.int b)=mr (.int (a.fdiv b)):=by
 funext h;exact qc (Tu.mpr ⟨show(!(decide (b=0)))=true by rw[UC d];rfl,UL c⟩)
theorem aD {a b:Int}(c:b≠0):ah .Mod (.int a) (.int b)=mr (.int (a.fmod b)):=by
 funext h;exact qc (show(!(decide (b=0)))=true by rw[UC c];rfl)
@[simp] theorem aT (b:Bool):truth (.bool b)=mr b:=rfl
@[simp] theorem ae {b β:Type} (a:b) (f:b->M β):mq (mr a) f=f a:=rfl
section
variable {α β:Type} {m:M α} {f:α->M β} {h h':List O} {a:α} {r:R β} {P:R β->Prop} {x y:M β} {c:Prop} [Decidable c]
theorem aM(e:m h=.ok a h')(q:f a h'=r):mq m f h=r:=(ac e).trans q
theorem aO(e:m=mr a)(q:f a h=r):mq m f h=r:=by subst e;exact q
theorem qP(e:c)(q:x h=r):(bif decide c then x else y) h=r:=by rw[UL e];exact q
theorem qQ(e:¬c)(q:y h=r):(bif decide c then x else y) h=r:=by rw[UC e];exact q
theorem oA {c:Bool}(e:c=true)(q:x h=r):(bif c then x else y) h=r:=by rw[e];exact q
theorem mM {c:Bool}(e:c=false)(q:y h=r):(bif c then x else y) h=r:=by rw[e];exact q
theorem EK {c:Bool}(e:c=true)(q:P (x h)):P ((bif c then x else y) h):=by rw[e];exact q
theorem Bi {c:Bool}(e:c=false)(q:P (y h)):P ((bif c then x else y) h):=by rw[e];exact q
theorem vR(q:x h=r):(bif true then x else y) h=r:=q
theorem km(q:y h=r):(bif false then x else y) h=r:=q
theorem az(e:m h=.ok a h')(q:P (f a h')):P (mq m f h):=by rw[ac e];exact q
theorem bC(e:m=mr a)(q:P (f a h)):P (mq m f h):=by subst e;exact q
theorem qR(e:c)(q:P (x h)):P ((bif decide c then x else y) h):=by rw[UL e];exact q
theorem sZ(e:¬c)(q:P (y h)):P ((bif decide c then x else y) h):=by rw[UC e];exact q
theorem Ij(e:cmp op u v=mr (decide c))(k:c)(q:x h=r):iq op u v x y h=r:=aO e (qP k q)
theorem Ik(e:cmp op u v=mr (decide c))(k:¬c)(q:y h=r):iq op u v x y h=r:=aO e (qQ k q)
theorem SJ(e:cmp op u v=mr (decide c))(k:c)(q:P (x h)):P (iq op u v x y h):=bC e (qR k q)
theorem SK(e:cmp op u v=mr true)(q:P (x h)):P (iq op u v x y h):=bC e q
theorem SL(e:cmp op u v=mr false)(q:P (y h)):P (iq op u v x y h):=bC e q
theorem yE(q:P (x h)):P ((bif true then x else y) h):=q
theorem qS(q:P (y h)):P ((bif false then x else y) h):=q
end
@[elab_as_elim] theorem bO {b:Sort _} {G:b->Prop} (a:b) (h:∀P:b->Prop,(∀x,G x->P x)->P a):G a:=h G λZ x=>x
theorem eU {I:Itp}{c:Cx}{t:Expr}{b:List Stmt}{l:Loc}(e:I.tst c l t h=.ok false h'):ka (wf+1) I c t b l h=.ok (.next,l) h':=by
 show mq (eO (I.tst c l t)) _ h=_;rw[ac (a:=false) (h':=h') (by unfold eO;rw[e])];rfl
theorem je {I:Itp}{c:Cx}{t:Expr}{b:List Stmt}{l f:Loc}{d:List O}(e:I.tst c l t h=.ok true h')(g:db (I.ex c) b l h'=.ok (.next,f) d):ka (wf+1) I c t b l h=ka wf I c t b f d:=by
 show mq (eO (I.tst c l t)) _ h=_;rw[ac (a:=true) (h':=h') (by unfold eO;rw[e])];show mq (eO (db (I.ex c) b l)) _ h'=_;rw[ac (a:=(.next,f)) (h':=d) (by unfold eO;rw[g])];rfl
theorem Il(C:Tb)(m:Nat)(c:Cx)(l:Loc)(t:Expr)(h:List O):(Ic C m).tst c l t h=(kK ai C.wf C.f m).tst c l t mr h:=by
 rw[(nP ai C.wf C.f m).tst,mB]
theorem GP(C:Tb)(m:Nat)(c:Cx)(b:List Stmt)(l:Loc)(h:List O):db ((Ic C m).ex c) b l h=bj ((kK ai C.wf C.f m).ex c) b l (λa l=>mr (a,l)) h:=by
 rw[jm (λl s k=>(nP ai C.wf C.f m).ex c l s k)];rw[show(λp:Fl×Loc=>(mr (p.1,p.2):M (Fl×Loc)))=mr from rfl,mB]
theorem GQ(C:Tb)(b:Nat)(h:List O):∀(m:Nat) (wf:Nat) (x y:Nat),y<2^m->2*m<wf-> ∃z:V,ka wf (Ic C 23) (aw "gcd" (aq "gcd") b) (nU (aG "gcd" [0])) (kg (aG "gcd" [0])) [("a",.int x),("b",.int y)] h=.ok (.next,[("a",.int (Nat.gcd x y)),("b",z)]) h:=by
 have d:∀(x y:Int),(Ic C 23).tst (aw "gcd" (aq "gcd") b) [("a",.int x),("b",.int y)] (nU (aG "gcd" [0])) h=.ok (decide (y>0)) h:=λx y=>by
  rw[Il,GK];rfl
 have n:∀(x y:Nat),0<y->db ((Ic C 23).ex (aw "gcd" (aq "gcd") b)) (kg (aG "gcd" [0])) [("a",.int x),("b",.int y)] h=.ok (.next,[("a",.int y),("b",.int (x%y:Nat))]) h:=λx y c=>by
  rw[GP,GM];refine aO (aD (vu c)) ?_;rw[SU _ qE];rfl
 intro m;induction m with
 |zero=>
  intro wf x y c g;obtain rfl:y=0:=Ps c;obtain⟨wf,rfl⟩:=Nat.exists_eq_add_of_lt g;exact⟨.int 0,by rw[show 2*0+wf+1=wf+1 from PA,eU (d _ _|>.trans (by rfl))];simp⟩
 |succ m ih=>
  intro wf x y c g;obtain⟨wf,rfl⟩:∃k,wf=k+1+1+1:=⟨wf-3,by exact L7 g⟩;by_cases l:y=0
  ·subst l
   exact⟨.int 0,by rw[eU (d _ _|>.trans (by rfl))];simp⟩
  have a:0<y:=LA l;rw[je ((d _ _).trans (by rw[show decide ((y:Int)>0)=true from UL (Pt a)])) (n x y a)];by_cases i:x%y=0
  ·rw[i]
   refine⟨.int 0, ?_⟩;rw[eU (d _ _|>.trans (by rfl))];rw[U4 x y,Vh y x,i,Nat.gcd_zero_left];rfl
  have f:0<x%y:=LG i;have r:x%y<y:=Vk _ a;rw[je ((d _ _).trans (by rw[show decide (((x%y:Nat):Int)>0)=true from UL (Po f)])) (n y (x%y) f)];have p:y%(x%y)<2^m:=by
   have t:=Vk y f;have o:=Nat.mod_add_div y (x%y);have q:1<=y/(x%y):=(Nat.one_le_div_iff f).mpr (Lz r);have w:x%y*1<=x%y*(y/(x%y)):=TO _ q;rw[Nat.pow_succ]at c;exact PF c t o w
  refine am (ih (wf+1) (x%y) (y%(x%y)) p (LY g)) λz e=>⟨z, ?_⟩;rw[e];rw[show Nat.gcd (x%y) (y%(x%y))=Nat.gcd x y from by rw[U4,<-Vh,<-Vh,U4]]
theorem O1 {x y:Nat}{h:List O}(b:y<2^1000)(a:2000<wf):T ai wf 24 (j+1) "gcd" [.int x,.int y] h=.ok (.int (Nat.gcd x y)) h:=by
 rw[aK (by kernel_rfl) (by kernel_rfl),OQ];refine am (GQ (Tj wf j) h.length h 1000 wf x y b a) λz e=>?_;refine aM e ?_;show bj _ _ _ _ _=_;rw[GO];rfl
end Mine
end
noncomputable section
open PySem PySem.W PySem.Calls PyProof.Rows
set_option maxRecDepth 100000
set_option exponentiation.threshold 3000
namespace Mine
variable {wf j k m:Nat} {n d:Int} {h:List O} {l:List V} {r:V}
noncomputable def s5(n d:Int):V:=.tup [.int (n/(Nat.gcd n.natAbs d.natAbs:Int)),.int (d/(Nat.gcd n.natAbs d.natAbs:Int))]
def cR(n d:Int):V:=if d=0 then(if n=0 then .tup [.int 0,.int 0]else if n>0 then .tup [.int 1,.int 0]else .tup [.int (-1),.int 0])else if d<0 then s5 (-n) (-d)else s5 n d
theorem vS {n d:Int}(hd:0<d)(a:d.natAbs<2^1000):(Nat.gcd n.natAbs d.natAbs:Int)≠0/\(Nat.gcd n.natAbs d.natAbs:Int).natAbs<2^2000:=by
 have c:0<Nat.gcd n.natAbs d.natAbs:=Tc _ (DC hd);have b:Nat.gcd n.natAbs d.natAbs<=d.natAbs:=Nat.gcd_le_right _ (DC hd);refine⟨by exact vu c, ?_⟩;have e:(2:Nat)^1000<=2^2000:=TE (by decide) (by decide);exact T1 b (U8 a (Nat.pow_lt_pow_right (by decide) (by decide)))
theorem yF(hd:0<d)(b:d.natAbs<2^1000)(q:2000<wf):
  (mq (builtin "abs" [.int n]) λp=>mq (T ai wf 24 (j+1) "gcd" [p,.int d]) λi=>mq (ah .FloorDiv (.int n) i) λf=>mq (ah .FloorDiv (.int d) i) λc=>mr (.tup [f,c])) h=.ok (s5 n d) h:=by
 refine af (vS (n:=n) hd b) λo g=>aO (show builtin "abs" [.int n]=mr (.int n.natAbs) from rfl) ?_;rw[ac (a:=.int (Nat.gcd n.natAbs d.natAbs)) (h':=h) (by
  have e:=O1 (j:=j) (x:=n.natAbs) (y:=d.natAbs) (h:=h) b q;rw[show((d.natAbs:Nat):Int)=d from HZ hd]at e;exact e)]
 refine aO (bu o g)<|aO (bu o g) ?_;rw[ST _ qE,ST _ qE];rfl
theorem s9(b:d.natAbs<2^1000)(f:2000<wf):T ai wf 24 (j+2) "make" [.int n,.int d] h=.ok (cR n d) h:=by
 rw[aK (by kernel_rfl) (by kernel_rfl),Nf];unfold Ew cR;simp only[bA,jE,cJ,ae,ch];by_cases e:d=0
 ·subst e
  simp only[decide_true,Vr,if_true];by_cases a:n=0
  ·subst a;rfl
  ·refine mM (UC a) ?_;rw[Vv a]
   by_cases c:n>0
   ·refine oA (UL c) ?_;rw[Vw c];rfl
   ·refine mM (UC c) ?_;rw[Vv c];rfl
 ·refine mM (UC e) ?_;rw[Vv e]
  by_cases a:d<0
  ·refine oA (UL a) ?_;rw[Vw a]
   rw[show(0:Int)-n= -n from Dx,show(0:Int)-d= -d from Dx];exact yF (Ly a) (QX b) f
  ·refine mM (UC a) ?_;rw[Vv a]
   exact yF (H0 e a) b f
noncomputable abbrev Q:=Option (Int×Int)
noncomputable def vq:Q->V
 |none=>.none
 |some (a,b)=>.tup [.int a,.int b]
noncomputable def cB:Q:=some (0,0)
noncomputable def bx:Q->Bool
 |none=>true
 |some (a,b)=>decide (a=0)&&decide (b=0)
noncomputable def dB(x y:Q):Q:=if x=none\/y=none then none else cB
def Sm(k:Nat):Q->Prop
 |none=>True
 |some (a,b)=>a.natAbs<2^k/\b.natAbs<2^k
@[simp] theorem bz (a:V) (r:List V):ak (.tup (a::r)) (.int 0)=mr a:=by kernel_rfl
@[simp] theorem bL (a b:V) (r:List V):ak (.tup (a::b::r)) (.int 1)=mr b:=by kernel_rfl
@[simp] theorem cu:cmp .Is .none .none=mr true:=rfl
@[simp] theorem jf (l:List V):cmp .Is (.tup l) .none=mr false:=rfl
@[simp] theorem qT (i:Int):cmp .Is (.int i) .none=mr false:=rfl
@[simp] theorem dU:cmp .IsNot .none .none=mr false:=rfl
@[simp] theorem JT (l:List V):cmp .IsNot (.tup l) .none=mr true:=rfl
@[simp] theorem JU (i:Int):cmp .IsNot (.int i) .none=mr true:=rfl
section
variable {β:Type} {x y:M β} {f:V->M β} {h:List O} {r:R β} {a b n:Int} {u v X Y I J:V} {l:List V}
theorem u4(e:a=n)(q:x h=r):iq .Eq (.int a) (.int n) x y h=r:=qP e q
theorem rF(e:¬a=n)(q:y h=r):iq .Eq (.int a) (.int n) x y h=r:=qQ e q
theorem xf(e:a=n)(q:x h=r):mq (ak (.tup (.int a::l)) (.int 0)) (λv=>iq .Eq v (.int n) x y) h=r:=aO (bz ..) (qP e q)
theorem xg(e:¬a=n)(q:y h=r):mq (ak (.tup (.int a::l)) (.int 0)) (λv=>iq .Eq v (.int n) x y) h=r:=aO (bz ..) (qQ e q)
theorem cG(e:a=n)(q:x h=r):mq (ak (.tup (u:: .int a::l)) (.int 1)) (λv=>iq .Eq v (.int n) x y) h=r:=aO (bL ..) (qP e q)
theorem cA(e:¬a=n)(q:y h=r):mq (ak (.tup (u:: .int a::l)) (.int 1)) (λv=>iq .Eq v (.int n) x y) h=r:=aO (bL ..) (qQ e q)
theorem CK(e:a<n)(q:x h=r):iq .Lt (.int a) (.int n) x y h=r:=qP e q
theorem CL(e:¬a<n)(q:y h=r):iq .Lt (.int a) (.int n) x y h=r:=qQ e q
theorem qd(e:a<n)(q:x h=r):mq (ak (.tup (.int a::l)) (.int 0)) (λv=>iq .Lt v (.int n) x y) h=r:=aO (bz ..) (qP e q)
theorem qe(e:¬a<n)(q:y h=r):mq (ak (.tup (.int a::l)) (.int 0)) (λv=>iq .Lt v (.int n) x y) h=r:=aO (bz ..) (qQ e q)
theorem Sq(e:a>n)(q:x h=r):iq .Gt (.int a) (.int n) x y h=r:=qP e q
theorem Nj(e:¬a>n)(q:y h=r):iq .Gt (.int a) (.int n) x y h=r:=qQ e q
theorem xh(e:a>n)(q:x h=r):mq (ak (.tup (.int a::l)) (.int 0)) (λv=>iq .Gt v (.int n) x y) h=r:=aO (bz ..) (qP e q)
theorem xi(e:¬a>n)(q:y h=r):mq (ak (.tup (.int a::l)) (.int 0)) (λv=>iq .Gt v (.int n) x y) h=r:=aO (bz ..) (qQ e q)
theorem Im(g:ak Y J=mr (.int b))(c:a.natAbs<2^2000)(e:b.natAbs<2^2000)(q:f (.int (a*b)) h=r):mq (ak Y J) (λv=>mq (ah .Mult (.int a) v) f) h=r:=aO g (aO (bn c e) q)
theorem GR(q:y h=r):iq .Is (.tup l) .none x y h=r:=q
theorem fO(e:ak X I=mr (.int a))(g:ak Y J=mr (.int b))(c:a.natAbs<2^2000)(i:b.natAbs<2^2000)(q:f (.int (a*b)) h=r):mq (ak X I) (λu=>mq (ak Y J) λv=>mq (ah .Mult u v) f) h=r:=aO e (aO g (aO (bn c i) q))
end
theorem qf(x:Q):T ai wf 24 (j+1) "is_na" [vq x] h=.ok (.bool (bx x)) h:=by
 rw[aK (by kernel_rfl) (by kernel_rfl),JN];unfold A9
 match x with
 |none=>rfl
 |some (a,b)=>
  simp only[vq,jf,bz,bL,ae,bA,aT,Vm];show _=R.ok (V.bool (decide (a=0)&&decide (b=0))) h;cases decide (a=0)<;>rfl
theorem yG(x y:Q):T ai wf 24 (j+1) "marked" [vq x,vq y] h=.ok (vq (dB x y)) h:=by
 rw[aK (by kernel_rfl) (by kernel_rfl),GF];unfold yg
 match x,y with
 |none,none=>rfl
 |none,some _=>rfl
 |some _,none=>rfl
 |some _,some _=>rfl
theorem CM(x:Q):T ai wf 24 (j+1) "neg" [vq x] h=.ok (vq (x.map λp=>(-p.1,p.2))) h:=by
 rw[aK (by kernel_rfl) (by kernel_rfl),OR];unfold Ii
 match x with
 |none=>rfl
 |some (a,b)=>
  simp only[vq,jf,bz,bL,ae,ch,Vm,Option.map_some];rw[show(0:Int)-a= -a from Dx];rfl
theorem qU(x:Q):T ai wf 24 (j+1) "is_finite" [vq x] h=.ok (.bool (match x with|none=>false|some p=>decide (p.2>0))) h:=by
 rw[aK (by kernel_rfl) (by kernel_rfl),zT];unfold qL
 match x with
 |none=>rfl
 |some (a,b)=>rfl
theorem ta(x:Option Int):T ai wf 24 (j+1) "from_int" [match x with|none=>.none|some n=>.int n] h=.ok (vq (x.map λn=>(n,1))) h:=by
 rw[aK (by kernel_rfl) (by kernel_rfl),Cw];unfold sF
 match x with
 |none=>rfl
 |some n=>rfl
def lX(x y:Q):V:=match x,y with
 |some (a,b),some (c,d)=>if(a=0/\b=0)\/(c=0/\d=0)then vq cB else if b=0 then(if d=0 then(if a=c then vq x else vq cB)else vq x)else if d=0 then vq y else cR (a*d+c*b) (b*d)
 |_,_=>.none
def nV(x y:Q):V:=match x,y with
 |some (a,b),some (c,d)=>if(a=0/\b=0)\/(c=0/\d=0)then vq cB else cR (a*c) (b*d)
 |_,_=>.none
theorem bo {a b:Int}{l:Nat}(c:a.natAbs<2^k)(e:b.natAbs<2^l)(h:k+l<=m):(a*b).natAbs<2^m:=by
 rw[UJ];refine T2 (Nat.mul_lt_mul_of_lt_of_le (T2 c (Vi _)) (U6 e) (Nat.pow_pos (by decide))) ?_;rw[<-Nat.pow_add];exact TE (by decide) h
theorem aS {a:Nat}(h:a<2^k)(b:k<=2000):a<2^2000:=T2 h (TE (by decide) b)
theorem bD(x:Q):(bx x=true/\(x=none\/x=some (0,0)))\/(bx x=false/\ ∃a b,x=some (a,b)/\ ¬(a=0/\b=0)):=by
 rcases x with _|⟨a,b⟩
 ·exact .inl ⟨rfl,.inl rfl⟩
 ·by_cases h:a=0/\b=0
  ·refine af (h) λc e=>?_;subst c;subst e;exact .inl ⟨rfl,.inr rfl⟩
  ·refine .inr ⟨?_,a,b,rfl,h⟩
   show(decide (a=0)&&decide (b=0))=false
   simpa using h
theorem Bj {x y:Q}(h:bx x=true\/bx y=true):nV x y=vq (dB x y):=by
 rcases bD x with⟨f,rfl|rfl⟩|⟨f,a,b,rfl,i⟩
 ·rcases y with _|⟨c,d⟩<;>rfl
 ·rcases y with _|⟨c,d⟩
  ·rfl
  ·simp[nV,dB]
 ·rcases bD y with⟨e,rfl|rfl⟩|⟨e,c,d,rfl,g⟩
  ·rfl
  ·simp[nV,dB]
  ·rw[f,e]at h;exact h.elim (λq=>by cases q) (λq=>by cases q)
theorem nW {x y:Q}{m:M V}(a:bx x=true\/bx y=true->r=vq (dB x y))(k:bx x=false->bx y=false->m h=.ok r h):
  (mq (T ai wf 24 (j+2) "is_na" [vq x]) λc=>mq (truth c) λe=>bif e then(mq (T ai wf 24 (j+2) "marked" [vq x,vq y]) λr=>mr r)else
   (mq (T ai wf 24 (j+2) "is_na" [vq y]) λg=>mq (truth g) λf=>bif f then(mq (T ai wf 24 (j+2) "marked" [vq x,vq y]) λr=>mr r)else m)) h=.ok r h:=by
 have b:mq (T ai wf 24 (j+2) "marked" [vq x,vq y]) (λr=>mr r) h=.ok (vq (dB x y)) h:=by
  rw[ac (yG (j:=j+1) x y)];rfl
 rw[ac (qf (j:=j+1) x),aT,ae];induction hnx:bx x using VA with
 |true=>rw[Vr,b,a (.inl hnx)]
 |false=>
  rw[Vm,ac (qf (j:=j+1) y),aT,ae];induction hny:bx y using VA with
  |true=>rw[Vr,b,a (.inr hny)]
  |false=>refine km ?_;exact k hnx hny
theorem Io {x y:Q}(p:Sm 400 x)(o:Sm 400 y)(z:2000<wf):T ai wf 24 (j+3) "mul" [vq x,vq y] h=.ok (nV x y) h:=by
 rw[aK (by kernel_rfl) (by kernel_rfl),OX];refine nW Bj λf g=>aB λA i=>?_;rcases bD x with⟨u,_⟩|⟨u,a,b,rfl,w⟩
 ·refine i ?_
  rw[u]at f;cases f
 rcases bD y with⟨t,_⟩|⟨t,c,d,rfl,v⟩
 ·refine i ?_
  rw[t]at g;cases g
 have e:nV (some (a,b)) (some (c,d))=cR (a*c) (b*d):=Vv (λq=>q.elim w v);refine i ?_;rw[e];simp only[vq,bz,bL,ae];refine aO (bn (aS p.1 (by decide)) (aS o.1 (by decide)))<|aO (bn (aS p.2 (by decide)) (aS o.2 (by decide)))<|aM ((s9 (j:=j) (bo p.2 o.2 (by decide)) z)) ?_;rfl
theorem Bk {x y:Q}(h:bx x=true\/bx y=true):lX x y=vq (dB x y):=by
 rcases bD x with⟨f,rfl|rfl⟩|⟨f,a,b,rfl,i⟩
 ·rcases y with _|⟨c,d⟩<;>rfl
 ·rcases y with _|⟨c,d⟩
  ·rfl
  ·simp[lX,dB]
 ·rcases bD y with⟨e,rfl|rfl⟩|⟨e,c,d,rfl,g⟩
  ·rfl
  ·simp[lX,dB]
  ·rw[f,e]at h;exact h.elim (λq=>by cases q) (λq=>by cases q)
theorem Ip {x y:Q}(p:Sm 400 x)(t:Sm 400 y)(B:2000<wf):T ai wf 24 (j+3) "add" [vq x,vq y] h=.ok (lX x y) h:=by
 rw[aK (by kernel_rfl) (by kernel_rfl),OT];refine nW Bk λi o=>aB λC u=>?_;rcases bD x with⟨v,_⟩|⟨v,a,b,rfl,A⟩
 ·refine u ?_
  rw[v]at i;cases i
 rcases bD y with⟨w,_⟩|⟨w,c,d,rfl,z⟩
 ·refine u ?_
  rw[w]at o;cases o
 have e:lX (some (a,b)) (some (c,d))=if b=0 then(if d=0 then(if a=c then vq (some (a,b))else vq cB)else vq (some (a,b)))else if d=0 then vq (some (c,d))else cR (a*d+c*b) (b*d):=Vv (λq=>q.elim A z);refine u ?_;rw[e];by_cases g:b=0
 ·rw[Vw g];refine cG g ?_
  by_cases hd:d=0
  ·rw[Vw hd];refine cG hd<|aO (bz ..) ?_
   by_cases f:a=c
   ·rw[Vw f];exact u4 f rfl
   ·rw[Vv f];exact rF f rfl
  ·rw[Vv hd];refine cA hd<|cG g rfl
 ·rw[Vv g];refine cA g<|cA g ?_
  by_cases hd:d=0
  ·rw[Vw hd];exact cG hd rfl
  ·rw[Vv hd];refine cA hd<|fO (bz ..) (bL ..) (aS p.1 (by decide)) (aS t.2 (by decide))<|fO (bz ..) (bL ..) (aS t.1 (by decide)) (aS p.2 (by decide))<|aO (cZ ..)<|fO (bL ..) (bL ..) (aS p.2 (by decide)) (aS t.2 (by decide))<|aM ((s9 (j:=j) (bo p.2 t.2 (by decide)) B)) ?_;rfl
noncomputable def fP(x:Q):Q:=x.map λp=>(-p.1,p.2)
theorem yH {x:Q}(h:Sm k x):Sm k (fP x):=by
 rcases x with _|⟨a,b⟩
 ·trivial
 ·exact⟨by show(-a).natAbs<_;rw[UK];exact h.1,h.2⟩
theorem Iq {x y:Q}(a:Sm 400 x)(c:Sm 400 y)(b:2000<wf):T ai wf 24 (j+4) "sub" [vq x,vq y] h=.ok (lX x (fP y)) h:=by
 rw[aK (by kernel_rfl) (by kernel_rfl),OV];refine aM ((CM (j:=j+2) y))<|(ac (Ip (j:=j) a (yH c) b)).trans rfl
def nX(x y:Q):V:=match x,y with
 |some (a,b),some (c,d)=>if(a=0/\b=0)\/(c=0/\d=0)then vq cB else if b=0 then(if d=0 then vq cB else if c<0 then vq (fP x)else vq x)else cR (a*d) (b*c)
 |_,_=>.none
theorem Bl {x y:Q}(h:bx x=true\/bx y=true):nX x y=vq (dB x y):=by
 rcases bD x with⟨f,rfl|rfl⟩|⟨f,a,b,rfl,i⟩
 ·rcases y with _|⟨c,d⟩<;>rfl
 ·rcases y with _|⟨c,d⟩
  ·rfl
  ·simp[nX,dB]
 ·rcases bD y with⟨e,rfl|rfl⟩|⟨e,c,d,rfl,g⟩
  ·rfl
  ·simp[nX,dB]
  ·rw[f,e]at h;exact h.elim (λq=>by cases q) (λq=>by cases q)
theorem CN {x y:Q}(t:Sm 400 x)(u:Sm 400 y)(C:2000<wf):T ai wf 24 (j+3) "div" [vq x,vq y] h=.ok (nX x y) h:=by
 rw[aK (by kernel_rfl) (by kernel_rfl),OZ];refine nW Bl λg i=>aB λD p=>?_;rcases bD x with⟨v,_⟩|⟨v,a,b,rfl,B⟩
 ·refine p ?_
  rw[v]at g;cases g
 rcases bD y with⟨w,_⟩|⟨w,c,d,rfl,z⟩
 ·refine p ?_
  rw[w]at i;cases i
 have e:nX (some (a,b)) (some (c,d))=if b=0 then(if d=0 then vq cB else if c<0 then vq (fP (some (a,b)))else vq (some (a,b)))else cR (a*d) (b*c):=Vv (λq=>q.elim B z);have A:=CM (wf:=wf) (j:=j+1) (some (a,b)) (h:=h);refine p ?_;rw[e];by_cases f:b=0
 ·rw[Vw f];refine cG f ?_
  by_cases hd:d=0
  ·rw[Vw hd];exact cG hd rfl
  ·rw[Vv hd];refine cA hd<|cG f ?_
   by_cases o:c<0
   ·rw[Vw o];refine qd o<|aM A rfl
   ·rw[Vv o];exact qe o rfl
 ·rw[Vv f];refine cA f<|cA f<|fO (bz ..) (bL ..) (aS t.1 (by decide)) (aS u.2 (by decide))<|fO (bL ..) (bz ..) (aS t.2 (by decide)) (aS u.1 (by decide))<|aM ((s9 (j:=j) (bo t.2 u.1 (by decide)) C)) rfl
theorem GS(C:Tb)(b:Nat)(n d:V)(h:List O):∀(m:Nat) (wf:Nat) (x y:Nat),y<2^m->2*m<wf-> ∃z:V,ka wf (Ic C 23) (aw "_law_reduced" (aq "_law_reduced") b) (nU (aG "_law_reduced" [2])) (kg (aG "_law_reduced" [2])) [("n",n),("d",d),("a",.int x),("b",.int y)] h=.ok (.next,[("n",n),("d",d),("a",.int (Nat.gcd x y)),("b",z)]) h:=by
 have f:∀(x y:Int),(Ic C 23).tst (aw "_law_reduced" (aq "_law_reduced") b) [("n",n),("d",d),("a",.int x),("b",.int y)] (nU (aG "_law_reduced" [2])) h=.ok (decide (y>0)) h:=λx y=>by
  rw[Il,ru];rfl
 have q:∀(x y:Nat),0<y->db ((Ic C 23).ex (aw "_law_reduced" (aq "_law_reduced") b)) (kg (aG "_law_reduced" [2])) [("n",n),("d",d),("a",.int x),("b",.int y)] h=.ok (.next,[("n",n),("d",d),("a",.int y),("b",.int (x%y:Nat))]) h:=λx y c=>by
  rw[GP,rx];refine aO (aD (vu c)) ?_;rw[SU _ qE];rfl
 intro m;induction m with
 |zero=>
  intro wf x y c i;obtain rfl:y=0:=Ps c;obtain⟨wf,rfl⟩:=Nat.exists_eq_add_of_lt i;exact⟨.int 0,by rw[show 2*0+wf+1=wf+1 from PA,eU (f _ _|>.trans (by rfl))];simp⟩
 |succ m ih=>
  intro wf x y c i;obtain⟨wf,rfl⟩:∃k,wf=k+1+1+1:=⟨wf-3,by exact L7 i⟩;by_cases p:y=0
  ·subst p
   exact⟨.int 0,by rw[eU (f _ _|>.trans (by rfl))];simp⟩
  have a:0<y:=LA p;rw[je ((f _ _).trans (by rw[show decide ((y:Int)>0)=true from UL (Pt a)])) (q x y a)];by_cases o:x%y=0
  ·rw[o]
   refine⟨.int 0, ?_⟩;rw[eU (f _ _|>.trans (by rfl))];rw[U4 x y,Vh y x,o,Nat.gcd_zero_left];rfl
  have g:0<x%y:=LG o;have w:x%y<y:=Vk _ a;rw[je ((f _ _).trans (by rw[show decide (((x%y:Nat):Int)>0)=true from UL (Po g)])) (q y (x%y) g)];have u:y%(x%y)<2^m:=by
   have A:=Vk y g;have t:=Nat.mod_add_div y (x%y);have v:1<=y/(x%y):=(Nat.one_le_div_iff g).mpr (Lz w);have B:x%y*1<=x%y*(y/(x%y)):=TO _ v;rw[Nat.pow_succ]at c;exact PF c A t B
  refine am (ih (wf+1) (x%y) (y%(x%y)) u (LY i)) λz e=>⟨z, ?_⟩;rw[e];rw[show Nat.gcd (x%y) (y%(x%y))=Nat.gcd x y from by rw[U4,<-Vh,<-Vh,U4]]
theorem dJ(hd:0<d)(a:d.natAbs<2^1000)(f:2000<wf):T ai wf 24 (j+1) "_law_reduced" [.int n,.int d] h=.ok (s5 n d) h:=by
 rw[aK (by kernel_rfl) (by kernel_rfl),wC];refine aO (show builtin "abs" [.int n]=mr (.int n.natAbs) from rfl) ?_;obtain⟨z,e⟩:=GS (Tj wf j) h.length (.int n) (.int d) h 1000 wf n.natAbs d.natAbs a f;rw[show((d.natAbs:Nat):Int)=d from HZ hd]at e;obtain⟨c,b⟩:=vS (n:=n) hd a;refine(ac e).trans ?_;show bj _ _ _ _ _=_;rw[rz];refine aO (bu c b)<|aO (bu c b) ?_;rw[ST _ qE,ST _ qE];rfl
theorem gw(a b c d:Int):cmp .Eq (.tup [.int a,.int b]) (.tup [.int c,.int d])=mr (decide (a=c)&&decide (b=d)):=by
 have e:eM [] (.tup [.int a,.int b]) (.tup [.int c,.int d])=some (decide (a=c)&&(decide (b=d)&&true)&&decide (2=2)):=by kernel_rfl
 funext h
 have f:cmp .Eq (.tup [.int a,.int b]) (.tup [.int c,.int d]) h=.ok (decide (a=c)&&(decide (b=d)&&true)&&decide (2=2)) h:=by kernel_rfl
 rw[f];simp[mr]
section
variable {β:Type} {x y:M β} {h:List O} {r:R β} {a b c d:Int}
theorem qV(e:a=c/\b=d)(q:x h=r):iq .Eq (.tup [.int a,.int b]) (.tup [.int c,.int d]) x y h=r:=aO (gw ..) (oA (by rw[UL e.1,UL e.2];rfl) q)
theorem oB(e:¬(a=c/\b=d))(q:y h=r):iq .Eq (.tup [.int a,.int b]) (.tup [.int c,.int d]) x y h=r:=aO (gw ..) (mM (by rw[<-Bool.decide_and];exact UC e) q)
end
theorem iE(c d:Int):cmp .Eq .none (.tup [.int c,.int d])=mr false:=by kernel_rfl
theorem tc(x y:Q):T ai wf 24 (j+1) "_law_mark" [vq x,vq y] h=.ok (if bx x=true\/bx y=true then .tup [vq (dB x y),.bool true]else .tup [.none,.bool false]) h:=by
 rw[aK (by kernel_rfl) (by kernel_rfl),CB];unfold sL;rcases x with _|⟨a,b⟩
 ·rfl
 rcases y with _|⟨c,d⟩
 ·simp only[bx,or_true,if_true];rfl
 simp only[vq,iq,jf,ae,Vm,gw];have f:bx (some (a,b))=(decide (a=0)&&decide (b=0)):=rfl;have e:bx (some (c,d))=(decide (c=0)&&decide (d=0)):=rfl;rw[f,e];cases (decide (a=0)&&decide (b=0))<;>cases (decide (c=0)&&decide (d=0))<;>rfl
theorem jF(a b:Int):T ai wf 24 (j+1) "_law_side" [vq (some (a,b))] h=.ok (.int a.sign) h:=by
 rw[aK (by kernel_rfl) (by kernel_rfl),CC];unfold sM;simp only[vq,bz,ae,cJ,jE];by_cases e:a>0
 ·refine oA (UL e) ?_;rw[Tm e];rfl
 ·refine mM (UC e) ?_
  by_cases c:a<0
  ·refine oA (UL c) ?_;rw[SV c];rfl
  ·refine mM (UC c) ?_;rw[show a=0 from LP e c];rfl
def Up:Q->Prop
 |none=>True
 |some (_,b)=>0<=b
theorem td {x y:Q}{m:M V}(e:bx x=true\/bx y=true->r=vq (dB x y))(k:bx x=false->bx y=false->m h=.ok r h):
  (mq (T ai wf 24 (j+1) "_law_mark" [vq x,vq y]) λf=>mq (dS f) λc=>mq (truth c.2) λb=>bif b then(mr c.1)else m) h=.ok r h:=by
 refine aM ((tc (j:=j) x y)) ?_;by_cases a:bx x=true\/bx y=true
 ·rw[Vw a,e a];rfl
 ·rw[Vv a]
  rw[not_or]at a;exact k (by simpa using a.1) (by simpa using a.2)
theorem tf(n:Int):cR n 0=.tup [.int n.sign,.int 0]:=by
 unfold cR;rw[Vw rfl];by_cases b:n=0
 ·subst b;rfl
 ·rw[Vv b]
  by_cases a:n>0
  ·rw[Vw a,Tm a]
  ·rw[Vv a,SV (Mp b a)]
theorem nY(a:Int):a.sign.natAbs<2^2000:=by
 have h:a.sign.natAbs<=1:=by
  rcases Int.lt_trichotomy a 0 with h|h|h
  ·rw[SV h];decide
  ·subst h;decide
  ·rw[Tm h];decide
 have b:1<2^2000:=T3 (by decide);exact P0 h
theorem oE {x y:Q}(u:Sm 400 x)(v:Sm 400 y)(G:Up x)(F:Up y)(H:2000<wf):T ai wf 24 (j+2) "_law_product" [vq x,vq y] h=.ok (nV x y) h:=by
 rw[aK (by kernel_rfl) (by kernel_rfl),wG];refine td Bj λi o=>aB λJ t=>?_;rcases bD x with⟨w,_⟩|⟨w,a,b,rfl,E⟩
 ·refine t ?_
  rw[w]at i;cases i
 rcases bD y with⟨z,_⟩|⟨z,c,d,rfl,C⟩
 ·refine t ?_
  rw[z]at o;cases o
 have e:nV (some (a,b)) (some (c,d))=cR (a*c) (b*d):=Vv (λq=>q.elim E C);refine t ?_;rw[e];have D:=jF (wf:=wf) (j:=j) a b (h:=h);have A:=jF (wf:=wf) (j:=j) c d (h:=h);have B:0<=b:=G;have I:0<=d:=F;have g:b=0\/d=0->iC (Tj wf (j+1)) (vq (some (a,b))) (vq (some (c,d))) h=.ok (cR (a*c) (b*d)) h:=λq=>by
  refine aM D<|aM A<|aO (bn (nY a) (nY c)) ?_;rw[show b*d=0 by rcases q with q|q<;>simp[q],tf,Int.sign_mul];rfl
 by_cases p:b=0
 ·exact cG p (g (.inl p))
 ·refine cA p ?_
  by_cases hd:d=0
  ·exact cG hd (g (.inr hd))
  ·refine cA hd ?_
   have f:0<b*d:=Vf (o6 B p) (o6 I hd);refine fO (bz ..) (bz ..) (aS u.1 (by decide)) (aS v.1 (by decide))<|fO (bL ..) (bL ..) (aS u.2 (by decide)) (aS v.2 (by decide))<|(ac (dJ (j:=j) f (bo u.2 v.2 (by decide)) H)).trans ?_;unfold cR;rw[Vv (LO f),Vv (Lx f)];rfl
def PO:Q->Prop
 |none=>True
 |some (a,b)=>b=0->a=1\/a=0\/a= -1
theorem yI {m:Int}(a:0<m):s5 0 m=.tup [.int 0,.int 1]:=by
 unfold s5;rw[show Nat.gcd (0:Int).natAbs m.natAbs=m.natAbs from Nat.gcd_zero_left _,show((m.natAbs:Nat):Int)=m from HZ a,Int.zero_ediv,Int.ediv_self (PW a)]
theorem lj {m:Int}(a:m≠0):cR 0 m=.tup [.int 0,.int 1]:=by
 unfold cR;rw[Vv a];by_cases h:m<0
 ·rw[Vw h,Int.neg_zero];exact yI (Ly h)
 ·rw[Vv h];exact yI (Pu a h)
theorem mN {x y:Q}(v:Sm 400 x)(w:Sm 400 y)(H:Up x)(G:Up y)(I:PO x)(L:2000<wf):T ai wf 24 (j+2) "_law_quotient" [vq x,vq y] h=.ok (nX x y) h:=by
 rw[aK (by kernel_rfl) (by kernel_rfl),uI];refine td Bl λt u=>?_;rcases bD x with⟨B,_⟩|⟨B,a,b,rfl,F⟩
 ·rw[B]at t;cases t
 rcases bD y with⟨C,_⟩|⟨C,c,d,rfl,A⟩
 ·rw[C]at u;cases u
 have e:nX (some (a,b)) (some (c,d))=if b=0 then(if d=0 then vq cB else if c<0 then vq (fP (some (a,b)))else vq (some (a,b)))else cR (a*d) (b*c):=Vv (λq=>q.elim F A);rw[e];have D:=jF (wf:=wf) (j:=j) a b (h:=h);have E:=jF (wf:=wf) (j:=j) c d (h:=h);have z:0<=b:=H;have N:0<=d:=G;have J:b=0->a=1\/a=0\/a= -1:=I;by_cases hd:d=0
 ·refine cG hd ?_
  by_cases f:b=0
  ·rw[Vw f,Vw hd];exact cG f rfl
  ·rw[Vv f,hd,Int.mul_zero,lj (Int.mul_ne_zero f (λq=>A ⟨q,hd⟩))];exact cA f rfl
 ·refine cA hd ?_
  by_cases f:b=0
  ·refine cG f ?_;rw[Vw f,Vv hd];refine aM D ?_
   have p:=J f;by_cases i:c<0
   ·rw[Vw i];refine qd i ?_
    rcases p with rfl|rfl|rfl<;>subst f<;>rfl
   ·rw[Vv i];refine qe i ?_
    rcases p with rfl|rfl|rfl<;>subst f<;>rfl
  ·refine cA f ?_;rw[Vv f]
   by_cases i:c=0
   ·refine xf i ?_;rw[i,Int.mul_zero,tf];refine aM D ?_
    have:(a*d).sign=a.sign:=by rw[Int.sign_mul,Tm (o6 N hd:0<d),Int.mul_one]
    rw[this];rfl
   ·refine xg i<|fO (bz ..) (bL ..) (aS v.1 (by decide)) (aS w.2 (by decide))<|aM E<|aO (bn (aS (bo v.1 w.2 (Vi _)) (by decide)) (nY c))<|aO (bL ..)<|aO (bz ..)<|aO (show builtin "abs" [.int c]=mr (.int c.natAbs) from rfl)<|aO (bn (aS v.2 (by decide)) (aS (by rw[Int.natAbs_natCast];exact w.1) (by decide))) ?_
    have o:0<b*(c.natAbs:Int):=Vf (o6 z f) (RE i);refine(ac (dJ (j:=j) o (bo v.2 (by rw[Int.natAbs_natCast];exact w.1) (by decide)) L)).trans ?_;unfold cR;rw[Vv (Int.mul_ne_zero f i)];by_cases g:c<0
    ·rw[Vw (Int.mul_neg_of_pos_of_neg (o6 z f) g),SV g]
     rw[show(c.natAbs:Int)= -c from(Vs Int.ofNat (UK _).symm).trans (Tx (Int.neg_nonneg_of_nonpos (UW g))),Int.mul_neg,Int.mul_neg,Int.mul_one];rfl
    ·rw[Vv (by have:=Vf (o6 z f:0<b) (H0 i g:0<c);exact Lx this),Tm (H0 i g)]
     rw[show(c.natAbs:Int)=c from P3 g,Int.mul_one];rfl
def GT(e:Expr):Bool:=by
 induction e using Expr.casesOn with
 |ListComp elt gs=>exact(dc gs).isSome
 |DictComp kx v gs=>exact(dc gs).any λg=>g.2.2.isEmpty
 |_=>exact false
def GU(e:Expr):Expr:=by
 have d:=e;induction e using Expr.casesOn with
 |ListComp elt gs=>exact((dc gs).map (·.1)).getD d
 |DictComp kx v gs=>exact((dc gs).map (·.1)).getD d
 |_=>exact d
theorem JV(C:Tb)(m:Nat)(c:Cx)(a:Expr)(g:oV)(sc:Scope)(v:V):gE (Ic C m) (cr c sc) g.1 a g.2.2 v=Ev C m c a g sc v mr:=by
 have o:=nP (β:=Option V) ai C.wf C.f m;unfold Ev gE;rw[jD]
 congr 1;funext l'
 rw[rl (o.tst (cr c sc) l')]
 congr 1;funext b
 induction b using VA with
 |false=>rfl
 |true=>rw[o.ev]
theorem GV(C:Tb)(m:Nat)(c:Cx)(a b:Expr)(g:oV)(sc:Scope)(v:V):eQ (Ic C m) (cr c sc) g.1 a b v=A7 C m c a b g sc v mr:=by
 have o:=nP (β:=Option V) ai C.wf C.f m;unfold A7 eQ;rw[jD]
 congr 1;funext l'
 rw[o.ev]
 congr 1;funext kv
 rw[o.ev]
 try congr 1
theorem fQ {C:Tb}{m:Nat}{c:Cx}{e:Expr}{it:It}(h:GT e=true)(a:b6 it (GU e)=true):cF C.wf (Ic C m) c e it=cz (λv=>bS C m c e v mr) it C.wf 0 []:=by
 induction e using Vy with
 |ListComp elt gs sc pos=>
  show(dc gs).elim _ _=cz (λv=>(dc gs).elim bad λg=>Ev C m c elt g sc v mr) it C.wf 0 []
  replace a:b6 it (((dc gs).map (·.1)).getD (.ListComp elt gs sc pos))=true:=a
  replace h:(dc gs).isSome=true:=h
  generalize dc gs=g at h a;induction g using Vx with
  |none=>exact ff h
  |some g=>
   show w8 C.wf (Ic C m) c elt g.1 g.2.2 sc it=_;unfold w8;rw[Vv (by rw[show b6 it g.1=true from a];decide),show gE (Ic C m) (cr c sc) g.1 elt g.2.2=λv=>Ev C m c elt g sc v mr from funext λv=>JV C m c elt g sc v];rfl
 |DictComp kx vx gs sc pos=>
  show(dc gs).elim _ _=cz (λv=>(dc gs).elim bad λg=>bif g.2.2.isEmpty then A7 C m c kx vx g sc v mr else bad) it C.wf 0 []
  replace a:b6 it (((dc gs).map (·.1)).getD (.DictComp kx vx gs sc pos))=true:=a
  replace h:((dc gs).any λg=>g.2.2.isEmpty)=true:=h
  generalize dc gs=g at h a;induction g using Vx with
  |none=>exact ff h
  |some g=>
   replace h:g.2.2.isEmpty=true:=h
   show(bif g.2.2.isEmpty then mA C.wf (Ic C m) c kx vx g.1 sc it else bad)=cz (λv=>bif g.2.2.isEmpty then A7 C m c kx vx g sc v mr else bad) it C.wf 0 []
   rw[h];show mA C.wf (Ic C m) c kx vx g.1 sc it=_;unfold mA;rw[Vv (by rw[show b6 it g.1=true from a];decide),show eQ (Ic C m) (cr c sc) g.1 kx vx=λv=>A7 C m c kx vx g sc v mr from funext λv=>GV C m c kx vx g sc v];rfl
 |_=>exact ff h
theorem jG {turn:V->M (Option V)}{f:V->Option V}{l:List V}{n:Nat}{h:List O}(c:h[n]?=some (.list l))(b:∀v∈l,turn v h=.ok (f v) h):
  ∀(k i:Nat) (acc:List V),l.length-i<k->cz turn (.list n) k i acc h=.ok (acc++(l.drop i).filterMap f) h
 |0,i,acc,hk=>by omega
 |k+1,i,acc,hk=>by
  have g:ci (.list n) i h=.ok l[i]? h:=by show((dM h[n]?).map λl=>l[i]?).elim _ _=_;rw[c];rfl
  show mq (ci (.list n) i) _ h=_;refine aM g ?_;by_cases a:i<l.length
  ·rw[Ta a]
   show mq (eO (turn l[i])) _ h=_;have e:eO (turn l[i]) h=.ok (f l[i]) h:=by unfold eO;rw[b _ (Ue a)]
   refine aM e ?_;rw[S1 a,TJ];induction f l[i]using Vx with
   |none=>exact jG c b k (i+1) acc (HY hk a)
   |some x=>
    show cz turn (.list n) k (i+1) (acc++ [x]) h=_;rw[jG c b k (i+1) (acc++ [x]) (HY hk a)]
    simp
  ·rw[Tq (DB a),List.drop_eq_nil_of_le (DB a)]
   show R.ok acc h=_
   simp
theorem Aa {x y:Q}{m:M V}(e:bx x=true\/bx y=true->r=vq (dB x y))(k:bx x=false->bx y=false-> ∃t,m h=.ok r (h++t)):
  ∃t,(mq (T ai wf 24 (j+1) "_law_mark" [vq x,vq y]) λf=>mq (dS f) λc=>mq (truth c.2) λb=>bif b then(mr c.1)else m) h=.ok r (h++t):=by
 rw[ac (tc (j:=j) x y)];by_cases a:bx x=true\/bx y=true
 ·rw[Vw a,e a];exact⟨[],by rw[Uu];rfl⟩
 ·rw[Vv a]
  rw[not_or]at a;exact k (by simpa using a.1) (by simpa using a.2)
theorem aH(o:O)(h:List O):aC o h=.ok (.ref h.length) (h++ [o]):=rfl
theorem dh {n:Nat}(a:h[n]?=some (.list l)):bY (.ref n) h=.ok (.list n) h:=gp a
theorem pu {n i:Nat}{v:V}(c:h[n]?=some (.list l))(b:l[i]?=some v)(a:i<2^62):ak (.ref n) (.int i) h=.ok v h:=by
 exact(gp (f:=λl=>kM l i h) c).trans (by unfold kM;rw[Vw ⟨by exact qE,by exact U2.mpr a⟩,Int.toNat_natCast];exact fA b)
theorem vT {n:Nat}{v:V}(c:h[n]?=some (.list l))(b:l.getLast?=some v)(a:l.length<2^62):ak (.ref n) (.int (-1)) h=.ok v h:=by
 exact(gp (f:=λl=>kM l (-1) h) c).trans (by unfold kM;rw[Vv (by decide),Vw ⟨rfl,a⟩];exact fA b)
theorem ay(h:List O)(o:O):(h++ [o])[h.length]?=some o:=by simp
noncomputable def cU:V->Option V
 |.tup [.int a,.int b]=>if b=0 then some (.tup [.int a,.int b])else none
 |_=>none
theorem pv {b:Nat}(x:Int×Int)(h:List O):bS (Tj wf j) 22 (aw "_law_sum" (aq "_law_sum") b) (aX (bG (aG "_law_sum" [2,0,0])) []) (vq (some x)) mr h=.ok (cU (vq (some x))) h:=by
 rw[z9];unfold qO;obtain⟨a,c⟩:=x;simp only[vq,bL,ae,bA];show _=R.ok (if c=0 then some (V.tup [V.int a,V.int c])else none) h;by_cases e:c=0
 ·refine Ij rfl e ?_;rw[Vw e];rfl
 ·refine Ik rfl e ?_;rw[Vv e];rfl
theorem u5 {n:Nat}{vs:List V}{a b c d:Int}(p:h[n]?=some (.list vs))(w:vs[0]?=some (vq (some (a,b))))(u:vs.getLast?=some (vq (some (c,d))))(v:vs.length<2^62):
  (mq (ak (.ref n) (.int 0)) λg=>mq (ak (.ref n) (.int (-1))) λf=>mq (cmp .Eq g f) λe=>bif e then(mq (ak (.ref n) (.int 0)) λt=>mr t)else(mr (.tup [(.int 0),(.int 0)]))) h=.ok (if a=c/\b=d then vq (some (a,b))else vq cB) h:=by
 have o:ak (.ref n) (.int 0) h=.ok (vq (some (a,b))) h:=pu (i:=0) p w (by decide);rw[ac o,ac (vT p u v)];simp only[vq];rw[gw,ae];by_cases q:a=c/\b=d
 ·rw[UL q.1,UL q.2,Vw q]
  show mq (ak (.ref n) (.int 0)) _ h=_;refine aM o ?_;rfl
 ·rw[Vv q,show(decide (a=c)&&decide (b=d))=false by simpa using q];rfl
theorem vU {x y:Q}{h:List O}(B:Sm 400 x)(D:Sm 400 y)(X:Up x)(W:Up y)(N:2000<wf):∃t,T ai wf 24 (j+2) "_law_sum" [vq x,vq y] h=.ok (lX x y) (h++t):=by
 rw[aK (by kernel_rfl) (by kernel_rfl),EJ];refine Aa Bk λw A=>?_;rcases bD x with⟨J,_⟩|⟨J,a,b,rfl,U⟩
 ·rw[J]at w;cases w
 rcases bD y with⟨L,_⟩|⟨L,c,d,rfl,S⟩
 ·rw[L]at A;cases A
 have e:lX (some (a,b)) (some (c,d))=if b=0 then(if d=0 then(if a=c then vq (some (a,b))else vq cB)else vq (some (a,b)))else if d=0 then vq (some (c,d))else cR (a*d+c*b) (b*d):=Vv (λq=>q.elim U S);rw[e];have P:0<=b:=X;have Z:0<=d:=W;have u:b=0\/d=0-> ∃t,lW (Tj wf (j+1)) h.length (vq (some (a,b))) (vq (some (c,d))) h
   =.ok (if b=0 then(if d=0 then(if a=c then vq (some (a,b))else vq cB)else vq (some (a,b)))else if d=0 then vq (some (c,d))else cR (a*d+c*b) (b*d)) (h++t):=λq=>by
  let l:= [vq (some (a,b)),vq (some (c,d))]
  have Y:=fQ (C:=Tj wf (j+1)) (m:=22) (c:=aw "_law_sum" (aq "_law_sum") h.length) (e:=aX (bG (aG "_law_sum" [2,0,0])) []) (it:=.list h.length) (by kernel_rfl) (by kernel_rfl);have el:=jG (turn:=λv=>bS (Tj wf (j+1)) 22 (aw "_law_sum" (aq "_law_sum") h.length) (aX (bG (aG "_law_sum" [2,0,0])) []) v mr) (f:=cU) (ay h (.list l)) (λv z=>by
   rcases UR.mp z with rfl|z
   ·exact pv (a,b) _
   rcases UR.mp z with rfl|z
   ·exact pv (c,d) _
   ·cases z) wf 0 [] (by show 2-0<wf;exact tt (by decide) N)
  have I:cF wf (Ic (Tj wf (j+1)) 22) (aw "_law_sum" (aq "_law_sum") h.length) (aX (bG (aG "_law_sum" [2,0,0])) []) (.list h.length) (h++ [.list l])=.ok (l.filterMap cU) (h++ [.list l]):=by
   have:=congrFun Y (h++ [.list l]);exact this.trans el
  have F:=ay (h++ [.list l]) (.list (l.filterMap cU));have H:cU (vq (some (a,b)))=if b=0 then some (vq (some (a,b)))else none:=rfl;have E:cU (vq (some (c,d)))=if d=0 then some (vq (some (c,d)))else none:=rfl;refine⟨[.list l,.list (l.filterMap cU)],aM (aH _ h) (aM (dh (ay h (.list l))) (aM I (aM (aH _ _) ?_)))⟩;have G:h++ [O.list l]++ [O.list (l.filterMap cU)]=h++ [.list l,.list (l.filterMap cU)]:=by simp
  by_cases g:b=0
  ·rw[Vw g]
   by_cases hd:d=0
   ·have i:l.filterMap cU= [vq (some (a,b)),vq (some (c,d))]:=by
     show List.filterMap cU [_,_]=_;rw[TJ,H,Vw g,TJ,E,Vw hd];rfl
    refine(u5 (a:=a) (b:=b) (c:=c) (d:=d) F (by rw[i];rfl) (by rw[i];rfl) (by rw[i];show _+1<2^62;simp)).trans ?_;rw[Vw hd,G];by_cases p:a=c
    ·rw[Vw p,Vw ⟨p,by exact Rj g hd⟩]
    ·rw[Vv p,Vv (λq=>p q.1)]
   ·have i:l.filterMap cU= [vq (some (a,b))]:=by
     show List.filterMap cU [_,_]=_;rw[TJ,H,Vw g,TJ,E,Vv hd];rfl
    refine(u5 (a:=a) (b:=b) (c:=a) (d:=b) F (by rw[i];rfl) (by rw[i];rfl) (by rw[i];show _+1<2^62;simp)).trans ?_;rw[Vv hd,G,Vw ⟨rfl,rfl⟩]
  ·have hd:d=0:=q.resolve_left g
   have i:l.filterMap cU= [vq (some (c,d))]:=by
    show List.filterMap cU [_,_]=_;rw[TJ,H,Vv g,TJ,E,Vw hd];rfl
   refine(u5 (a:=c) (b:=d) (c:=c) (d:=d) F (by rw[i];rfl) (by rw[i];rfl) (by rw[i];show _+1<2^62;simp)).trans ?_;rw[Vv g,Vw hd,G,Vw ⟨rfl,rfl⟩]
 by_cases g:b=0
 ·exact am (u (.inl g)) λt e=>⟨t,cG g e⟩
 ·by_cases hd:d=0
  ·exact am (u (.inr hd)) λt e=>⟨t,cA g (cG hd e)⟩
  ·
   have o:0<b*d:=Vf (o6 P g) (o6 Z hd);refine⟨[], ?_⟩;rw[Uu,Vv g,Vv hd];refine cA g<|cA hd<|fO (bz ..) (bL ..) (aS B.1 (by decide)) (aS D.2 (by decide))<|fO (bz ..) (bL ..) (aS D.1 (by decide)) (aS B.2 (by decide))<|aO (cZ ..)<|fO (bL ..) (bL ..) (aS B.2 (by decide)) (aS D.2 (by decide))<|(ac (dJ (j:=j) o (bo B.2 D.2 (by decide)) N)).trans ?_;unfold cR;rw[Vv (LO o),Vv (Lx o)];rfl
noncomputable def dW:Q->Q
 |none=>none
 |some (a,b)=>if b>0 then some (a/b,1)else some (a,b)
theorem Bm {x:Q}(f:Sm 2000 x):T ai wf 24 (j+2) "floor" [vq x] h=.ok (vq (dW x)) h:=by
 rw[aK (by kernel_rfl) (by kernel_rfl),JS];unfold Bf;rw[ac (qU (j:=j) x),aT,ae];rcases x with _|⟨a,b⟩
 ·rfl
 have e:dW (some (a,b))=if b>0 then some (a/b,1)else some (a,b):=rfl;rw[e];simp only[vq,bz,bL,ae];by_cases c:b>0
 ·rw[UL c,Vw c]
  show mq (ah .FloorDiv (.int a) (.int b)) _ h=_;refine aO (bu (U0 c) f.2) ?_;rw[ST _ (Lp c)];rfl
 ·rw[UC c,Vv c];rfl
noncomputable def eV(n d:Int):Q:=some (n/(Nat.gcd n.natAbs d.natAbs:Int),d/(Nat.gcd n.natAbs d.natAbs:Int))
noncomputable def b8(n d:Int):Q:=if d=0 then(if n=0 then some (0,0)else if n>0 then some (1,0)else some (-1,0))else if d<0 then eV (-n) (-d)else eV n d
theorem mO(n d:Int):cR n d=vq (b8 n d):=by
 unfold cR b8
 split
 ·split
  ·rfl
  ·split<;>rfl
 ·split<;>rfl
noncomputable def lY(x y:Q):Q:=match x,y with
 |some (a,b),some (c,d)=>if(a=0/\b=0)\/(c=0/\d=0)then cB else if b=0 then(if d=0 then(if a=c then x else cB)else x)else if d=0 then y else b8 (a*d+c*b) (b*d)
 |_,_=>none
noncomputable def iW(x y:Q):Q:=match x,y with
 |some (a,b),some (c,d)=>if(a=0/\b=0)\/(c=0/\d=0)then cB else b8 (a*c) (b*d)
 |_,_=>none
noncomputable def de(x y:Q):Q:=match x,y with
 |some (a,b),some (c,d)=>if(a=0/\b=0)\/(c=0/\d=0)then cB else if b=0 then(if d=0 then cB else if c<0 then fP x else x)else b8 (a*d) (b*c)
 |_,_=>none
theorem pz(x y:Q):lX x y=vq (lY x y):=by
 rcases x with _|⟨a,b⟩
 ·rcases y with _|⟨c,d⟩<;>rfl
 rcases y with _|⟨c,d⟩
 ·rfl
 simp only[lX,lY,mO]
 repeat' split
 all_goals rfl
theorem th(x y:Q):nV x y=vq (iW x y):=by
 rcases x with _|⟨a,b⟩
 ·rcases y with _|⟨c,d⟩<;>rfl
 rcases y with _|⟨c,d⟩
 ·rfl
 simp only[nV,iW,mO]
 repeat' split
 all_goals rfl
theorem pA(x y:Q):nX x y=vq (de x y):=by
 rcases x with _|⟨a,b⟩
 ·rcases y with _|⟨c,d⟩<;>rfl
 rcases y with _|⟨c,d⟩
 ·rfl
 simp only[nX,de,mO]
 repeat' split
 all_goals rfl
theorem ti(a:n.natAbs<2^k)(hd:d.natAbs<2^k):Sm k (eV n d):=
 ⟨T1 (SZ _ _) a,T1 (SZ _ _) hd⟩
theorem Bn(c:1<=k)(b:n.natAbs<2^k)(hd:d.natAbs<2^k):Sm k (b8 n d):=by
 have a:1<2^k:=T3 (Pv c);unfold b8
 split
 ·split
  ·exact⟨by show 0<_;exact HT a,by show 0<_;exact HT a⟩
  ·split
   ·exact⟨a,by show 0<_;exact HT a⟩
   ·exact⟨a,by show 0<_;exact HT a⟩
 ·split
  ·exact ti (by rw[UK];exact b) (by rw[UK];exact hd)
  ·exact ti b hd
noncomputable def rG:Q->Bool
 |none=>false
 |some p=>decide (p.2>0)
theorem eW {x:Q}(h:Sm k x)(c:k<=m):Sm m x:=by
 rcases x with _|⟨a,b⟩
 ·trivial
 ·exact⟨T2 h.1 (TE (by decide) c),T2 h.2 (TE (by decide) c)⟩
theorem yJ:Sm k cB:=⟨Nat.pow_pos (by decide),Nat.pow_pos (by decide)⟩
theorem EL {x y:Q}(g:1<=k)(e:Sm k x)(f:Sm k y):Sm (2*k) (de x y):=by
 rcases x with _|⟨a,b⟩
 ·rcases y with _|⟨c,d⟩<;>trivial
 rcases y with _|⟨c,d⟩
 ·trivial
 unfold de;dsimp only
 split
 ·exact yJ
 ·split
  ·split
   ·exact yJ
   ·split
    ·exact eW (yH e) Mr
    ·exact eW e Mr
  ·exact Bn (tt g (Nat.le_mul_of_pos_left _ (by decide))) (bo e.1 f.2 Mf) (bo e.2 f.1 Mf)
noncomputable def cV(x y:Q):Q:=if rG (de x y)=false then de x y else match x,y with
 |some (a,_),some (c,d)=>if d=0 then(if a*c<0 then some (-1,1)else some (0,1))else dW (de x y)
 |_,_=>none
theorem EM {x y:Q}(t:Sm 400 x)(u:Sm 400 y)(D:2000<wf):T ai wf 24 (j+4) "int_div" [vq x,vq y] h=.ok (vq (cV x y)) h:=by
 rw[aK (by kernel_rfl) (by kernel_rfl),Ez];unfold vQ;have o:=CN (j:=j) t u D (h:=h);rw[pA]at o;have B:=eW (EL (by decide) t u) (show 2*400<=2000 by decide);unfold cV;have g:∀z,de none z=none:=λz=>by rcases z with _|⟨c,d⟩<;>rfl
 have f:∀z,de z none=none:=λz=>by rcases z with _|⟨c,d⟩<;>rfl
 have key:rG (de x y)=true-> ∃a b c d,x=some (a,b)/\y=some (c,d):=λq=>by
  rcases x with _|⟨a,b⟩
  ·rw[g]at q;exact ff q
  rcases y with _|⟨c,d⟩
  ·rw[f]at q;exact ff q
  exact vt a b c d ⟨rfl,rfl⟩
 generalize E:de x y=q at o B key ⊢;refine aM o ?_;have C:=qU (wf:=wf) (j:=j+2) q (h:=h);have v:T ai wf 24 (j+3) "is_finite" [vq q] h=.ok (.bool (rG q)) h:=C.trans (by rcases q with _|p<;>rfl);refine aM v<|aO (aT ..) ?_;induction hf:rG q using VA with
 |false=>rw[Vw rfl];rfl
 |true=>
  refine Ow (key hf) λa b c d i w=>?_;subst i;subst w;rw[Vv (by decide)];have A:=Bm (wf:=wf) (j:=j+1) B (h:=h);refine mM Bool.not_true ?_;simp only[vq]at A ⊢;simp only[bz,bL,ae,bA];by_cases hd:d=0
  ·refine Ij rfl hd ?_;rw[Vw hd,bn (aS t.1 (by decide)) (aS u.1 (by decide)),ae]
   by_cases e:a*c<0
   ·refine Ij rfl e ?_;rw[Vw e];rfl
   ·refine Ik rfl e ?_;rw[Vv e];rfl
  ·refine Ik rfl hd ?_;rw[Vv hd,ac A];rfl
theorem GW {x:Q}(c:1<=k)(h:Sm k x):Sm k (dW x):=by
 rcases x with _|⟨a,b⟩
 ·trivial
 unfold dW;dsimp only
 split
 ·exact⟨T1 (SZ _ _) h.1,T3 (Pv c)⟩
 ·exact h
theorem Nk {l:Nat}{x y:Q}(e:k+l<=m)(i:1<=m)(g:Sm k x)(f:Sm l y):Sm m (iW x y):=by
 rcases x with _|⟨a,b⟩
 ·rcases y with _|⟨c,d⟩<;>trivial
 rcases y with _|⟨c,d⟩
 ·trivial
 unfold iW;dsimp only
 split
 ·exact yJ
 ·exact Bn i (bo g.1 f.1 e) (bo g.2 f.2 e)
noncomputable def lZ(x y:Q):Q:=match x,y with
 |some (a,b),some (c,d)=>if(a=0/\b=0)\/(c=0/\d=0)then cB else if c=0\/b=0 then cB else if d=0 then(if a*c<0 then y else x)else lY x (fP (iW (dW (de x y)) y))
 |_,_=>none
theorem JW {x y:Q}(h:bx x=true\/bx y=true):vq (lZ x y)=vq (dB x y):=by
 rcases bD x with⟨f,rfl|rfl⟩|⟨f,a,b,rfl,i⟩
 ·rcases y with _|⟨c,d⟩<;>rfl
 ·rcases y with _|⟨c,d⟩
  ·rfl
  ·simp[lZ,dB]
 ·rcases bD y with⟨e,rfl|rfl⟩|⟨e,c,d,rfl,g⟩
  ·rfl
  ·simp[lZ,dB]
  ·rw[f,e]at h;exact h.elim (λq=>by cases q) (λq=>by cases q)
theorem Ab {x y:Q}(A:Sm 100 x)(v:Sm 100 y)(C:2000<wf):T ai wf 24 (j+5) "remainder" [vq x,vq y] h=.ok (vq (lZ x y)) h:=by
 rw[aK (by kernel_rfl) (by kernel_rfl),zU];unfold qM;have g:=eW A (show 100<=400 by decide);have i:=eW v (show 100<=400 by decide);have z:=CN (j:=j+1) g i C (h:=h);rw[pA]at z;have H:Sm 200 (de x y):=EL (by decide) A v;have D:=Bm (wf:=wf) (j:=j+2) (eW H (show 200<=2000 by decide)) (h:=h);have G:Sm 200 (dW (de x y)):=GW (by decide) H;have w:=Io (j:=j+1) (eW G (show 200<=400 by decide)) i C (h:=h);rw[th]at w;have B:=Iq (j:=j) g (Nk (show 200+100<=400 by decide) (by decide) G v) C (h:=h);rw[pz]at B;refine nW (j:=j+2) JW λo p=>?_;rcases bD x with⟨E,_⟩|⟨E,a,b,rfl,J⟩
 ·rw[E]at o;cases o
 rcases bD y with⟨F,_⟩|⟨F,c,d,rfl,I⟩
 ·rw[F]at p;cases p
 have e:lZ (some (a,b)) (some (c,d))=if c=0\/b=0 then cB else if d=0 then(if a*c<0 then some (c,d)else some (a,b))else lY (some (a,b)) (fP (iW (dW (de (some (a,b)) (some (c,d)))) (some (c,d)))):=Vv (λq=>q.elim J I);rw[e];have last:d≠0->oq (Tj wf (j+4)) (vq (some (a,b))) (vq (some (c,d))) h=.ok (vq (lY (some (a,b)) (fP (iW (dW (de (some (a,b)) (some (c,d)))) (some (c,d)))))) h:=λhd=>by
  refine cA hd<|aM z<|aM D<|aM w<|aM B rfl
 clear z D w B
 generalize lY (some (a,b)) (fP (iW (dW (de (some (a,b)) (some (c,d)))) (some (c,d))))=r at last ⊢;by_cases t:c=0
 ·rw[Vw (.inl t)];exact xf t rfl
 refine xg t ?_;by_cases u:b=0
 ·rw[Vw (.inr u)];exact cG u rfl
 refine cA u ?_;rw[Vv (λq=>q.elim t u)];by_cases hd:d=0
 ·rw[Vw hd];refine cG hd<|fO (bz ..) (bz ..) (aS A.1 (by decide)) (aS v.1 (by decide)) ?_
  by_cases f:a*c<0
  ·rw[Vw f];exact CK f rfl
  ·rw[Vv f];exact CL f rfl
 ·rw[Vv hd];exact last hd
end Mine
end
noncomputable section
open PySem PySem.W PySem.Calls PyProof.Rows
set_option maxRecDepth 100000
namespace Mine
def fE {β:Type}(C:Tb)(b:Nat)(w c d a:V)(k:Fl->Loc->M β):M β:=mq (aZ b) λe=>mq (C.f "_law_next" [e]) λp=>mq (ah .Mod p (.int 16)) λj=>mq (bQ a "append") λZ=>let j4:V->M β:=λm=>mq (bN a "append" [m]) λl=>k .next [("kind",c),("many",d),("items",a),("lap",w),("pick_at",j)];iq .Lt j (.int 4) (mq (aC (.list [.none,(.int 2147483647),(.int (-2147483647)),(.int 0)])) λn=>mq (ak n j) λq=>j4 q) (mq (aZ b) λg=>mq (C.f "_law_next" [g]) λo=>mq (ah .Mod o (.int 30)) λi=>mq (ah .Sub i (.int 10)) λh=>j4 h)
theorem tj {β:Type}(C:Tb)(b:Nat)(w c d a:V)(k:Fl->Loc->M β)(h:List O):aJ C 22 "_law_vector" b [3,0,1] w [("kind",c),("many",d),("items",a)] k h=fE C b w c d a k h:=by kernel_rfl
theorem tm {β:Type}(C:Tb)(b:Nat)(w d e a f c:V)(k:Fl->Loc->M β)(h:List O):aJ C 22 "_law_vector" b [3,0,1] w [("kind",d),("many",e),("items",a),("lap",f),("pick_at",c)] k h=fE C b w d e a k h:=by kernel_rfl
def tq {β:Type}(C:Tb)(b:Nat)(c d a:V)(k:Fl->Loc->M β):M β:=mq (aZ b) λe=>mq (C.f "Vector" [(.str "integer"),a]) λh=>mq (C.f "_law_dressed" [e,h]) λg=>k (.ret g) [("kind",c),("many",d),("items",a)]
theorem tr {β:Type}(C:Tb)(b:Nat)(c d a:V)(k:Fl->Loc->M β)(h:List O):bj ((kK ai C.wf C.f 23).ex (aw "_law_vector" (aq "_law_vector") b)) (aG "_law_vector" [3,0,2]) [("kind",c),("many",d),("items",a)] k h=tq C b c d a k h:=by kernel_rfl
def tu {β:Type}(C:Tb)(b:Nat)(d e a h c:V)(k:Fl->Loc->M β):M β:=mq (aZ b) λg=>mq (C.f "Vector" [(.str "integer"),a]) λj=>mq (C.f "_law_dressed" [g,j]) λi=>k (.ret i) [("kind",d),("many",e),("items",a),("lap",h),("pick_at",c)]
theorem tv {β:Type}(C:Tb)(b:Nat)(d e c g a:V)(k:Fl->Loc->M β)(h:List O):bj ((kK ai C.wf C.f 23).ex (aw "_law_vector" (aq "_law_vector") b)) (aG "_law_vector" [3,0,2]) [("kind",d),("many",e),("items",c),("lap",g),("pick_at",a)] k h=tu C b d e c g a k h:=by kernel_rfl
def mQ {β:Type}(C:Tb)(b:Nat)(w:V)(k:Option V->M β):M β:=mq (aC (.list [(.int 1),(.int 0),.none])) λc=>mq (aZ b) λa=>mq (C.f "_law_next" [a]) λg=>mq (ah .Mod g (.int 3)) λe=>mq (ak c e) λd=>k (some d)
theorem u6 {β:Type}(C:Tb)(b:Nat)(w:V)(k:Option V->M β)(h:List O):bS C 19 (aw "_law_vector" (aq "_law_vector") b) (aX (bG (aG "_law_vector" [2,0,0])) [1,1]) w k h=mQ C b w k h:=by kernel_rfl
def mR {β:Type}(C:Tb)(b:Nat)(w:V)(k:Option V->M β):M β:=mq (aZ b) λa=>mq (C.f "_law_double" [a]) λc=>k (some c)
theorem u7 {β:Type}(C:Tb)(b:Nat)(w:V)(k:Option V->M β)(h:List O):bS C 19 (aw "_law_vector" (aq "_law_vector") b) (aX (bG (aG "_law_vector" [4,0,0])) [1,1]) w k h=mR C b w k h:=by kernel_rfl
def GX {β:Type}(a i h:V)(j:V->M β):M β:=mq (ak a (.int (-1))) λg=>mq (cmp .Is g .none) λc=>mq (truth (.bool c)) λd=>bif d then(mq (cmp .IsNot i .none) λb=>mq (truth (.bool b)) λe=>bif e then(mq (cmp .IsNot h .none) λf=>j (.bool f))else(j (.bool b)))else(j (.bool c))
def yK {β:Type}(b:Nat)(d c a m l:V)(j:V->M β):M β:=mq (truth a) λh=>bif h then(j a)else(mq (cmp .Eq d (.str "integer")) λg=>mq (truth (.bool g)) λk=>bif k then(mq (aZ (b+3)) λe=>mq (cmp .In e (.tup [(.str "+"),(.str "-"),(.str "*")])) λf=>mq (truth (.bool f)) λi=>bif i then(GX c m l j)else(j (.bool f)))else(j (.bool g)))
def yL {β:Type}(b:Nat)(d a c g f:V)(j:V->M β)(e:V):M β:=mq (bN a "append" [e]) λZ=>yK b d a c g f j
def yM {β:Type}(C:Tb)(b:Nat)(c a d h g:V)(j:V->M β):M β:=mq (bQ a "append") λZ=>iq .Eq c (.str "integer") (mq (aZ (b+3)) λl=>mq (C.f "_law_integer" [l,h,g]) λk=>yL b c a d h g j k) (mq (aZ (b+3)) λe=>mq (C.f "_law_doubled" [e,h,g]) λi=>yL b c a d h g j i)
def gU {β:Type}(C:Tb)(b:Nat)(w g f j m c a n e i h d l:V)(k:Fl->Loc->M β):M β:=mq (builtin "len" [c]) λr=>mq (ah .Mod w r) λv=>mq (ak c v) λq=>mq (builtin "len" [a]) λt=>mq (ah .Mod w t) λu=>mq (ak a u) λp=>yM C b f d l q p λo=>k .next [("script",g),("kind",f),("held",j),("told",m),("left",c),("right",a),("due",n),("refused",e),("shape",i),("total",h),("items",d),("over",o),("spot",w),("a",q),("b",p)]
theorem GY {β:Type}(C:Tb)(b:Nat)(w c n m l j e o a d f g i:V)(k:Fl->Loc->M β)(h:List O):aJ C 23 "law" b [19] w [("script",c),("kind",n),("held",m),("told",l),("left",j),("right",e),("due",o),("refused",a),("shape",d),("total",f),("items",g),("over",i)] k h=gU C b w c n m l j e o a d f g i k h:=by kernel_rfl
theorem GZ {β:Type}(C:Tb)(b:Nat)(w c n m l j e o a d f g i p q r:V)(k:Fl->Loc->M β)(h:List O):aJ C 23 "law" b [19] w [("script",c),("kind",n),("held",m),("told",l),("left",j),("right",e),("due",o),("refused",a),("shape",d),("total",f),("items",g),("over",i),("spot",p),("a",q),("b",r)] k h=gU C b w c n m l j e o a d f g i k h:=by kernel_rfl
def Bo {β:Type}(C:Tb)(b:Nat)(w:V)(k:Option V->M β):M β:=mq (aZ b) λa=>mq (C.f "_law_next" [a]) λd=>mq (ah .Mod d (.int 9)) λe=>mq (ah .Sub e (.int 4)) λc=>k (some (.tup [c,(.int 1)]))
theorem JX {β:Type}(C:Tb)(b:Nat)(w:V)(k:Option V->M β)(h:List O):bS C 19 (aw "law" (aq "law") b) (aX (bG (aG "law" [4,0,0])) [1,1]) w k h=Bo C b w k h:=by kernel_rfl
def Bp {β:Type}(C:Tb)(b:Nat)(w:V)(k:Option V->M β):M β:=let j1:V->M β:=λg=>k (some g);iq .Is w .none (j1 .none) (let j3:V->M β:=λf=>j1 f;mq (aZ (b+1)) λa=>iq .Eq a (.str "double") (mq (ak w (.int 0)) λe=>mq (nz e) λd=>mq (ak w (.int 1)) λh=>j3 (.tup [d,h])) (mq (nz w) λc=>j3 c))
theorem JY {β:Type}(C:Tb)(b:Nat)(w:V)(k:Option V->M β)(h:List O):bS C 22 (aw "law" (aq "law") b) (aX (bG (aG "law" [23,0,4])) []) w k h=Bp C b w k h:=by kernel_rfl
end Mine
end
noncomputable section
open PySem PySem.W PySem.Calls PyProof.Rows
set_option maxRecDepth 100000
set_option exponentiation.threshold 3000
namespace Mine
variable {P:Nat->Prop} {h h' h0:List O} {n m b i r wf j e N fd many I t B H:Nat} {C:Tb} {f:V->V->Option Bool} {p:Bool} {l vs xs ys acc:List V} {k:Str} {v u over w:V} {a d:Int} {D E:List (Str×V)} {ds:List Int} {lc:Loc}
structure Keep (P:Nat->Prop) (h h':List O):Prop where
 get:∀n o,P n->h[n]?=some o->h'[n]?=some o
 len:h.length<=h'.length
noncomputable abbrev Gr (h h':List O):Prop:=Keep (λZ=>True) h h'
theorem Keep.refl:Keep P h h:=⟨λZ Z Z e=>e,Vi _⟩
theorem Keep.trans {c:List O}(a:Keep P h h')(b:Keep P h' c):Keep P h c:=⟨λn o p e=>b.get n o p (a.get n o p e),U7 a.len b.len⟩
theorem Keep.mono {P Q:Nat->Prop}(a:Keep P h h')(q:∀n,n<h.length->Q n->P n):Keep Q h h':=⟨λn o p e=>a.get n o (q n (S6.mp e).1 p) e,a.len⟩
theorem Gr.keep {P:Nat->Prop}(a:Gr h h'):Keep P h h':=a.mono λZ Z Z=>trivial
theorem Keep.app {P:Nat->Prop}{h:List O}(t:List O):Keep P h (h++t):=⟨λn o Z e=>by
 rw[S4 (S6.mp e).1];exact e,by simp⟩
theorem Keep.set {P:Nat->Prop}{h:List O}{n:Nat}{o:O}(c:¬P n):Keep P h (h.set n o):=⟨λm g p e=>by
 rw[Ty (λq=>c (by subst q;exact p))];exact e,by simp⟩
theorem bg {o c:O}(e:h[n]?=some c):(h.set n o)[n]?=some o:=by
 rw[List.getElem?_set_self (S6.mp e).1]
theorem aA {o:O}(e:h[n]?=some o):n<h.length:=(S6.mp e).1
theorem cC {f:Str}{p:List Nat}{it:It}{l:Loc}(o:b6 it (yd (aG f p))=true):
  bF C m f b p it l h=ij (λv l=>aJ C m f b p v l λg l=>mr (g,l)) it C.wf 0 l h:=by
 show Cs C.wf (Ic C m) (cx f b) (yd (aG f p)) (kg (aG f p)) it l h=_;unfold Cs;rw[Vv (by rw[o];decide)]
 congr 1
 funext v l
 show _=fX (cx f b) (yd (aG f p)) v l λc=>bj ((kK ai C.wf C.f m).ex (cx f b)) (kg (aG f p)) c λg l=>mr (g,l);rw[jD]
 congr 1
 funext c h
 exact GP C m _ _ c h
theorem bX {body:V->Loc->M (Fl×Loc)}{it:It}(c:List V)(o:Nat->Loc->List O->Prop)(q:∀i l h,o i l h->ci it i h=.ok c[i]? h)
  (x:∀i v l h,c[i]?=some v->o i l h-> ∃z y h',body v l h=.ok (z,y) h'/\(z=.next\/z=.cont)/\o (i+1) y h'):
  ∀k i l h,i<=c.length->c.length-i<k->o i l h-> ∃y h',ij body it k i l h=.ok (.next,y) h'/\o c.length y h'
 |0,i,l,h,_,hk,_=>by omega
 |k+1,i,l,h,hi,hk,hI=>by
  have U:ij body it (k+1) i l h=mq (ci it i) (λr=>match r with
   |Option.none=>mr (.next,l)
   |some v=>mq (eO (body v l)) λp=>match p.1 with
    |.ret v=>mr (.ret v,p.2)
    |_=>ij body it k (i+1) p.2) h:=rfl
  rw[U,ac (q i l h hI)];by_cases g:i<c.length
  ·rw[Ta g]
   refine bw (x i _ l h (Ta g) hI) λz y h' e W G=>?_;have L:eO (body c[i] l) h=.ok (z,y) h':=by unfold eO;rw[e]
   dsimp only;rw[ac L];refine cY (bX c o q x k (i+1) y h' (Mm g) (HY hk g) G) λJ F S A=>aV J F ⟨?_,A⟩;rcases W with rfl|rfl<;>exact S
  ·rw[Tq (DB g)]
   exact aV l h ⟨rfl,by rw[show c.length=i from LM hi g];exact hI⟩
theorem fR {turn:V->M (Option V)}{it:It}(c:List V)(o:Nat->List V->List O->Prop)(z:∀i acc h,o i acc h->ci it i h=.ok c[i]? h)
  (y:∀i v acc h,c[i]?=some v->o i acc h-> ∃q h',turn v h=.ok q h'/\o (i+1) (match q with|some x=>acc++ [x]|Option.none=>acc) h'):
  ∀k i acc h,i<=c.length->c.length-i<k->o i acc h-> ∃acc' h',cz turn it k i acc h=.ok acc' h'/\o c.length acc' h'
 |0,i,l,h,_,hk,_=>by omega
 |k+1,i,acc,h,hi,hk,hI=>by
  have G:cz turn it (k+1) i acc h=mq (ci it i) (λr=>match r with
   |Option.none=>mr acc
   |some v=>mq (eO (turn v)) λq=>cz turn it k (i+1) (match q with|some x=>acc++ [x]|Option.none=>acc)) h:=rfl
  rw[G,ac (z i acc h hI)];by_cases g:i<c.length
  ·rw[Ta g]
   refine cY (y i _ acc h (Ta g) hI) λq h' e A=>?_;have F:eO (turn c[i]) h=.ok q h':=by unfold eO;rw[e]
   dsimp only;rw[ac F];exact fR c o z y k (i+1) _ h' (Mm g) (HY hk g) A
  ·rw[Tq (DB g)]
   exact aV acc h ⟨rfl,by rw[show c.length=i from LM hi g];exact hI⟩
noncomputable def rng(k:Nat):List V:=(List.range k).map λ(i:Nat)=>V.int i
@[simp] theorem iX (k:Nat):(rng k).length=k:=by simp[rng]
theorem Bq {k:Nat}(c:i<(rng k).length):(rng k)[i]=.int i:=by simp[rng]
theorem gV {k:Nat}(h:(rng k)[i]?=some v):i<k/\v=.int i:=by
 refine am (S6.mp h) λg c=>?_;subst c;exact⟨by simpa using g,Bq g⟩
theorem cK(k i:Nat)(h:List O):ci (.range k) i h=.ok (rng k)[i]? h:=by
 show R.ok (if i<k then some (V.int i)else Option.none) h=_
 congr 1
 by_cases c:i<k
 ·rw[Vw c,Ta (by simpa using c),Bq]
 ·rw[Vv c,Tq (by simpa using c)]
theorem lm(c:h[n]?=some (.list l)):ci (.list n) i h=.ok l[i]? h:=by
 show((dM h[n]?).map λl=>l[i]?).elim _ _=_;rw[c];rfl
theorem tw {k:Int}(c:k<2^62/\ -(2^62)<=k):bt (.int k) h=.ok (.range k.toNat) h:=by
 unfold bt eE;rw[Option.elim_some,Vw c]
theorem cW {k:Nat}(c:k<2^62):bt (.int k)=mr (.range k):=by
 funext h;rw[tw (⟨U2.mpr c,UX (by decide) (Int.natCast_nonneg _)⟩),Int.toNat_natCast];rfl
theorem Ac {k:Int}(h0:0<=k)(c:k<2^62):bt (.int k)=mr (.range k.toNat):=by
 funext h;rw[tw (⟨c,UX (by decide) h0⟩)];rfl
theorem cP {m:Str}(g:h[n]?=some (.list l))(c:q6 m=true):bQ (.ref n) m h=.ok () h:=by
 show(bif q6 m then(dM h[n]?).elim _ _ else _)=_
 rw[c];exact gp g
theorem dj(g:h[n]?=some (.list l))(c:l.length<line*line):bN (.ref n) "append" [v] h=.ok .none (h.set n (.list (l++ [v]))):=(gp (f:=λl=>if("append":Str)= "append" then md n l [v] h else if("append":Str)= "pop" then xu n l [v] h else if("append":Str)= "reverse" then xw n l [v] h else R.bad) g).trans ((Vw rfl).trans (Vw c))
theorem Nl {v:V}(o:h[n]?=some (.list l))(c:l.length<=line*line)(g:l.getLast?=some v):bN (.ref n) "pop" [] h=.ok v (h.set n (.list l.dropLast)):=by
 refine(gp (f:=λl=>if("pop":Str)= "append" then md n l [] h else if("pop":Str)= "pop" then xu n l [] h else if("pop":Str)= "reverse" then xw n l [] h else R.bad) o).trans<|(Vv (by decide)).trans ((Vw rfl).trans ((Vw c).trans (fA g)))
theorem CP(g:h[n]?=some (.list l))(c:l.length<=line*line):bN (.ref n) "reverse" [] h=.ok .none (h.set n (.list l.reverse)):=by
 refine(gp (f:=λl=>if("reverse":Str)= "append" then md n l [] h else if("reverse":Str)= "pop" then xu n l [] h else if("reverse":Str)= "reverse" then xw n l [] h else R.bad) g).trans<|(Vv (by decide)).trans ((Vv (by decide)).trans ((Vw rfl).trans (Vw c)))
theorem G0 {k:Int}(o:h[n]?=some (.list l))(h0:0<=k)(c:k<=line)(g:l.length<=line*line):kN (.ref n) k h=.ok (.ref h.length) (h++ [.list (l.take k.toNat)]):=by
 show(rU h[n]?).elim _ _=_
 rw[o];exact Vw ⟨h0,c,g⟩
theorem JZ {k:Int}(o:h[n]?=some (.flist l))(h0:0<=k)(c:k<=line)(g:l.length<=line*line):kN (.ref n) k h=.ok (.ref h.length) (h++ [.list (l.take k.toNat)]):=by
 show(rU h[n]?).elim _ _=_
 rw[o];exact Vw ⟨h0,c,g⟩
theorem eX(g:h[n]?=some (.list l))(c:l.length<2^40):builtin "len" [.ref n] h=.ok (.int l.length) h:=(gp (f:=λl=>if l.length<2^40 then R.ok (V.int l.length) h else R.bad) g).trans (Vw c)
theorem hU(g:h[n]?=some (.list l))(c:l.length<=line*line):builtin "list" [.ref n] h=.ok (.ref h.length) (h++ [.list l]):=by
 exact(gp (f:=λl=>if l.length<=line*line then R.ok (V.ref h.length) (h++ [.list l])else R.bad) g).trans (Vw c)
theorem aE(c:h[n]?=some (.cell (some v))):aZ n h=.ok v h:=by
 show(qF h[n]?).elim _ _=_;rw[c];rfl
theorem fS {c:Option V}(g:h[n]?=some (.cell c)):fL n v h=.ok () (h.set n (.cell (some v))):=by
 show(bif jA h[n]? then _ else _)=_;rw[g];rfl
noncomputable def tx(l:List V):Prop:=∀v∈l,∃i:Int,v=.int i/\0<=i/\i<1024
def c8(r:Nat)(h:List O):Prop:=∃l,h[r]?=some (.list l)/\tx l/\l.length<=4096
theorem c8.keep {P:Nat->Prop}(a:c8 r h)(k:Keep P h h')(p:P r):c8 r h':=by
 refine aa (a) λl e b=>⟨l,k.get r _ p e,b⟩
theorem EN(g:h[n]?=some (.list l))(c:h[m]?=some (.list [])):cmp .NotEq (.ref n) (.ref m) h=.ok (!decide (l.length=0)) h:=by
 have e:jS h (.ref n) (.ref m)=some (decide (l.length=0)):=by
  refine(fA (tX (x:=l) (y:= []) (by rw[g];rfl) (by rw[c];rfl))).trans ?_;induction l using Vz with
  |nil=>rfl
  |cons=>rfl
 exact fA e
theorem bh(A:c8 r h):∃k:Int,∃h',T ai wf 24 (j+1) "_law_next" [.ref r] h=.ok (.int k) h'/\0<=k/\k<1024/\c8 r h'/\Keep (λn=>n≠r) h h':=by
 refine aQ (A) λl e b g=>?_;have c:(h++ [O.list []])[r]?=some (.list l):=(Keep.app (P:=λZ=>True) (h:=h) [O.list []]).get r _ trivial e;have F:=EN c (ay h (.list []));have key:∀m,T ai wf 24 (j+1) "_law_next" [.ref r] h=m->T ai wf 24 (j+1) "_law_next" [.ref r] h=m:=λZ q=>q;rw[aK (by kernel_rfl) (by kernel_rfl),CA];unfold sK;unfold iq;rw[ac (aH _ _),ac F];refine aB λL z=>?_;rcases List.eq_nil_or_concat l with rfl|⟨o,x,rfl⟩
 ·refine z<|aV 0 (h++ [O.list []]) ⟨rfl,by decide,by decide,⟨[],c,b,g⟩,Keep.app _⟩
 ·refine aQ (b x (by simp)) λi y h0 G=>?_;subst y
  rw[List.concat_eq_append]at c g b;have el:((o++ [V.int i]).length=0)=False:=by simp
  refine z ?_;rw[List.concat_eq_append,show decide ((o++ [V.int i]).length=0)=false by simp];show ∃k h',mq (bQ (.ref r) "pop") _ _=_/\_;rw[ac (cP c (by decide)),ac (Nl (v:=.int i) c (U7 g (by decide)) (by simp))];refine aV i _ ⟨rfl,h0,G,⟨o, ?_,λv J=>b v (by simp[J]),by simp at g;exact Ri g⟩, ?_⟩
  ·rw[bg c];simp
  ·exact(Keep.app _).trans (Keep.set (by simp))
theorem cM(x:Int){k:Int}(c:0<k):0<=x.fmod k/\x.fmod k<k:=⟨Int.fmod_nonneg_of_pos _ c,Int.fmod_lt_of_pos _ c⟩
theorem tx.snoc {x:Int}(b:tx l):tx (l++ [.int (x.fmod 1024)]):=λv c=>by
 rcases Uy.mp c with q|q
 ·exact b v q
 ·rw[TW]at q
  have:=cM x (k:=1024) (by decide);exact⟨_,q,this.1,this.2⟩
def ko(k r:Nat)(h:List O):Prop:=∃l,h[r]?=some (.list l)/\tx l/\l.length<=k
noncomputable def qg(l:List V):Prop:=∀v∈l,∃i:Int,v=.int i
theorem EO {C:Tb}{b r m:Nat}{f:Int}{w sc cell:V}(z:ko m r h)(A:m<4096):
  ∃f' h',fN C b w sc (.ref r) cell (.int f) (λc l=>mr (c,l)) h=.ok (.next,[("script",sc),("row",.ref r),("cell",cell),("figure",.int f'),("lap",w)]) h'/\ko (m+1) r h'/\Keep (λn=>n≠r) h h':=by
 refine bO (fN C b w sc (.ref r) cell (.int f) (λc l=>mr (c,l)) h) λF q=>?_;unfold fN;simp only[cJ,ae];refine aB λG x=>aQ (z) λl e o g=>?_;by_cases y:f>0
 ·refine x ?_
  refine SJ rfl y ?_;rw[ac (cP e (by decide)),aD (by decide),ae,ac (dj e (T1 g (U8 A (by decide)))),bu (by decide) (by
   show 1024<2^2000;exact T2 (show 1024<2^11 by decide) (TE (by decide) (by decide))),ae]
  refine q _<|aV _ _ ⟨rfl,⟨_,bg e,o.snoc,by simp;exact o9 g⟩,Keep.set (by simp)⟩
 ·refine x<|Bi (UC y)<|q _<|aV f h ⟨rfl,⟨l,e,o,by exact Nat.le_succ_of_le g⟩,Keep.refl⟩
theorem J0:(1024:Int).natAbs<2^2000:=by
 show 1024<2^2000;exact T2 (show 1024<2^11 by decide) (TE (by decide) (by decide))
def tz(sc cell f:V)(r:Nat)(l:Loc):Prop:=l=([("script",sc),("row",.ref r),("cell",cell),("figure",f)]:Loc)\/ ∃lap,l=([("script",sc),("row",.ref r),("cell",cell),("figure",f),("lap",lap)]:Loc)
theorem G1 {C:Tb}{b r m:Nat}{f:Int}{sc cell:V}{l:Loc}(J:ko m r h)(S:m+30<=4096)(hw:30<C.wf)(hl:tz sc cell (.int f) r l):
  ∃g c h',bF C 22 "_law_row" b [1,0,3] (.range 30) l h=.ok (.next,[("script",sc),("row",.ref r),("cell",cell),("figure",.int g),("lap",c)]) h'/\ko (m+30) r h'/\Keep (λn=>n≠r) h h':=by
 rw[cC (by kernel_rfl)];refine aB λgP X=>?_;obtain⟨l',h',e,F,G,i3⟩:=bX (body:=λv l=>aJ C 22 "_law_row" b [1,0,3] v l λfl l=>mr (fl,l)) (it:=.range 30) (rng 30)
  (λi l h'=>(∃g:Int,tz sc cell (.int g) r l/\(i≠0-> ∃c,l=([("script",sc),("row",.ref r),("cell",cell),("figure",.int g),("lap",c)]:Loc)))/\ko (m+i) r h'/\Keep (λn=>n≠r) h h')
  (λi l h' Z=>cK 30 i h')
  (λi v l h' hv hI=>by
   refine af (gV hv) λU Z=>cQ (hI) λo hR hK=>?_;obtain⟨L,q,_⟩:=o;refine aW (EO (C:=C) (b:=b) (f:=L) (w:=v) (sc:=sc) (cell:=cell) hR (T2 (TN U _) S)) λW Y A z y=>bJ .next _ Y ⟨?_,.inl rfl,⟨W,.inr ⟨v,rfl⟩,λZ=>⟨v,rfl⟩⟩,z,hK.trans y⟩;rcases q with rfl|⟨c,rfl⟩
   ·rw[yz];exact A
   ·rw[yA];exact A)
  C.wf 0 l h o1 (by rw[iX];exact QE hw) ⟨⟨f,hl,λq=>absurd rfl q⟩,J,Keep.refl⟩
 rw[iX]at F G;refine aa (F) λg Z q=>am (q (by decide)) λc x=>?_;subst x;refine X<|bJ g c h' ⟨e,G,i3⟩
theorem J1 {β:Type}(C:Tb)(b:Nat)(k:Fl->Loc->M β)(l:Loc):cm C 23 (aw "_law_row" (aq "_law_row") b) (aG "_law_row" [1,0,4]) k .next l=k .next l:=by kernel_rfl
def CQ(C:Tb)(b r:Nat)(lc:V->Loc)(o:V):M (Fl×Loc):=mq (bQ (.ref r) "append") λZ=>mq (ah .Mod o (.int 1024)) λy=>mq (bN (.ref r) "append" [y]) λz=>mq (ah .FloorDiv o (.int 1024)) λx=>mq (bt (.int 30)) λc=>mq (bF C 22 "_law_row" b [1,0,3] c (lc x)) λg=>cm C 23 (aw "_law_row" (aq "_law_row") b) (aG "_law_row" [1,0,4]) (λq l=>mr (q,l)) g.1 g.2
theorem EP {C:Tb}{b r m:Nat}{w:Int}{sc:V}{l:Loc}(X:ko m r h)(L:m+31<=4096)(hw:30<C.wf)
  (hl:l=([("script",sc),("row",.ref r)]:Loc)\/ ∃c f g,l=([("script",sc),("row",.ref r),("cell",c),("figure",f),("lap",g)]:Loc)):
  ∃c f g h',aJ C 23 "_law_row" b [1] (.int w) l (λJ l=>mr (J,l)) h=.ok (.next,[("script",sc),("row",.ref r),("cell",c),("figure",f),("lap",g)]) h'/\ko (m+31) r h'/\Keep (λn=>n≠r) h h':=by
 refine bO (aJ C 23 "_law_row" b [1] (.int w) l (λJ l=>mr (J,l)) h) λgQ U=>aB λS z=>aQ (X) λl0 e bd A=>?_;have y:∀(x:Int) (lc:V->Loc),(∀f,tz sc (.int w) f r (lc f))-> ∃c f g h',CQ C b r lc (.int x) h
    =.ok (.next,[("script",sc),("row",.ref r),("cell",c),("figure",f),("lap",g)]) h'/\ko (m+31) r h'/\Keep (λn=>n≠r) h h':=λx lc q=>by
  unfold CQ;rw[ac (cP e (by decide)),aD (by decide),ae,ac (dj e (T1 A (T2 (show m<4096 from tt (TL (by decide:1<=31) _) L) (by decide)))),bu (by decide) J0,ae];rw[show bt (.int 30)=mr (.range 30) from cW (k:=30) (by decide),ae];have hR:ko (m+1) r (h.set r (.list (l0++ [V.int (x.fmod 1024)]))):=⟨_,bg e,bd.snoc,by simp;exact o9 A⟩;refine aB λS z=>bw (G1 (C:=C) (b:=b) hR (Qw L) hw (q (.int (x.fdiv 1024)))) λf' g h' Y G F=>z ?_;rw[ac Y,J1];exact vt _ _ _ h' ⟨rfl,G,(Keep.set (by simp)).trans F⟩
 have o:∀(lc:V->Loc),(∀f,tz sc (.int w) f r (lc f))->
   ∃c f g h',(mq (cmp .GtE (.int w) (.int 0)) λZ=>bif Z then(CQ C b r lc (.int w))else(mq (ah .Sub (.int 7) (.int w)) λr3=>CQ C b r lc r3)) h=.ok (.next,[("script",sc),("row",.ref r),("cell",c),("figure",f),("lap",g)]) h'/\ko (m+31) r h'/\Keep (λn=>n≠r) h h':=λlc q=>by
  rw[sY,ae];refine aB λS z=>?_;by_cases W:w>=0
  ·refine z ?_
   rw[UL W,Vr];exact y w lc q
  ·refine z ?_
   rw[UC W,Vm,ch,ae];exact y _ lc q
 rcases hl with rfl|⟨c,f,g,rfl⟩
 ·refine z ?_
  rw[yw];refine U _<|o (λf=> [("script",sc),("row",.ref r),("cell",.int w),("figure",f)]) (λf=>.inl rfl)
 ·refine z ?_
  rw[yy];refine U _<|o (λf=> [("script",sc),("row",.ref r),("cell",.int w),("figure",f),("lap",g)]) (λf=>.inr ⟨_,rfl⟩)
def Nm(sc:V)(r:Nat)(l:Loc):Prop:=l=([("script",sc),("row",.ref r)]:Loc)\/ ∃c f lap,l=([("script",sc),("row",.ref r),("cell",c),("figure",f),("lap",lap)]:Loc)
theorem EQ(hn:h[n]?=some (.flist l))(hs:qg l)(hl:l.length<=line*line)(hw:40<wf):
  ∃r h',T ai wf 24 (j+1) "_law_row" [.ref n] h=.ok (.ref r) h'/\c8 r h'/\h.length<=r/\Gr h h':=by
 refine bO (T ai wf 24 (j+1) "_law_row" [.ref n] h) λgQ gR=>?_;rw[aK (by kernel_rfl) (by kernel_rfl),EH];refine az ((aH _ _)) ?_;have e1:=(Keep.app (P:=λZ=>True) (h:=h) [O.list []]).get n _ trivial hn;refine az ((JZ e1 (by decide) (by decide) hl)) ?_;rw[show(40:Int).toNat=40 from rfl];generalize x:h++ [O.list []]=g;have g1:=ay g (O.list (l.take 40));refine az ((dh g1)) ?_;have gr:(g++ [O.list (l.take 40)])[h.length]?=some (.list []):=(Keep.app (P:=λZ=>True) _).get _ _ trivial (by rw[<-x];exact ay _ _);have Y:h.length<g.length:=by rw[<-x];simp
 have lp:=bX (body:=λv l=>aJ (Tj wf j) 23 "_law_row" h.length [1] v l λfl l=>mr (fl,l)) (it:=.list g.length) (l.take 40)
  (λi lc h'=>Nm (.ref n) h.length lc/\ko (i*31) h.length h'/\Keep (λm=>m≠h.length) (g++ [O.list (l.take 40)]) h')
  (λi lc h' W=>lm (W.2.2.get _ _ (rR Y) g1))
  (λi v lc h' A W=>by
   refine am (S6.mp A) λhi G=>?_;obtain⟨w,rfl⟩:∃w:Int,v=.int w:=hs v (TC (G▸Ue hi));have y:i<40:=by have:=hi;simp at this;exact T2 this (Nat.min_le_left 40 _)
   refine cQ (W) λhl hR hK=>HN (EP (C:=Tj wf j) (b:=h.length) (w:=w) hR (tt (TD (Nat.mul_le_mul_right 31 (tl y)) 31) (by decide)) (by show 30<wf;exact tt (by decide) hw) hl) λc f z h2 e2 S L=>?_;exact bJ .next _ h2 ⟨e2,.inl rfl,.inr ⟨c,f,z,rfl⟩,by rw[show(i+1)*31=i*31+31 from Rl];exact S,hK.trans L⟩)
  wf 0 [("script",.ref n),("row",.ref h.length)] _ o1 (by simp;exact RQ hw) ⟨.inl rfl,⟨[],gr,(λv A=>by cases A),by simp⟩,Keep.refl⟩
 refine bM (lp) λl' h' e i1 X i5=>?_;obtain⟨l2,i2,i3,i4⟩:=X;refine az ((show bF (Tj wf j) 23 "_law_row" h.length [1] (.list g.length) [("script",.ref n),("row",.ref h.length)] (g++ [O.list (l.take 40)])=_ from(cC (by kernel_rfl)).trans e)) ?_;have J:l2.length<=1240:=by
  have:(l.take 40).length<=40:=by simp;exact Nat.min_le_left 40 _
  exact tt i4 (Nat.mul_le_mul_right 31 this)
 have o:∀m:Nat,m<=4096->m<=line*line:=λm hm=>U7 hm (by decide);have last:∃r h'',(mq (kN (.ref h.length) 160) λF=>mq (bQ F "reverse") λZ=>mq (bN F "reverse" []) λr2=>mr F) h'=.ok (.ref r) h''/\c8 r h''/\h.length<=r/\Gr h h'':=by
  rw[ac (G0 i2 (by decide) (by decide) (o _ (QW J))),show(160:Int).toNat=160 from rfl];have U:=ay h' (O.list (l2.take 160));rw[ac (cP U (by decide)),ac (CP U (o _ (by simp;exact Mg)))];have k1:Keep (λm=>m<h.length) h (g++ [O.list (l.take 40)]):=by rw[<-x];exact(Keep.app _).trans (Keep.app _)
  have k2:Keep (λm=>m<h.length) h h':=k1.trans (i5.mono λm Z q=>by exact o8 q);have l0:=k2.len;refine aV _ _ ⟨rfl,⟨_,bg U,λv A=>i3 v (TC (List.mem_reverse.mp A)),by simp;exact Mg⟩,l0, ?_⟩;exact(k2.trans ((Keep.app _).trans (Keep.set (by show ¬h'.length<h.length;exact Ry l0)))).mono λm q Z=>q
 refine aB λgP gH=>?_;rcases i1 with rfl|⟨c,f,z,rfl⟩
 ·refine gH<|gR _ ?_
  show ∃r h'',bj _ _ _ _ _=_/\_;rw[yB];exact last
 ·refine gH<|gR _ ?_
  show ∃r h'',bj _ _ _ _ _=_/\_;rw[yC];exact last
noncomputable def yN(x:Str):Fn:=(ai.init x).getD ⟨⟨[],[],none,[],[],none,[]⟩,[],default⟩
theorem Ir {x:Str}(q:ai.fn x=none)(c:ai.init x=some (yN x))(g:cellN (yN x).scope.names=0):
  T ai wf 24 (j+1) x vs h=(mq (kW ai wf (T ai wf 24 j) 24 "__init__" (yN x) (.ref h.length::vs) (h++ [O.inst x []]).length) λr=>match r with|.none=>mr (.ref h.length)|_=>bad) (h++ [O.inst x []]):=by
 show(match ai.fn x with|some fn=>fj (jZ ai wf (T ai wf 24 j) 24) x fn vs|none=>match ai.init x with
   |some fn=>mq (aC (.inst x [])) λo=>mq (fj (jZ ai wf (T ai wf 24 j) 24) "__init__" fn (o::vs)) λr=>match r with|.none=>mr o|_=>bad
   |none=>bad) h=_
 rw[q,c];dsimp only;refine aM ((aH _ _)) ?_;unfold mq;rw[x9,g,List.replicate_zero,Uu]
theorem gW {c:Str}{l:List (Str×V)}{a:Str}(g:jL a=true)(o:l.length<=64):dF (.ref h.length) a v (h++ [.inst c l])=.ok () (h++ [.inst c (put a v l)]):=by
 unfold dF;rw[g];refine(jR (f:=λq=>if q.2.length<=64 then R.ok () ((h++ [O.inst c l]).set h.length (O.inst q.1 (put a v q.2)))else R.bad) (ay h _)).trans ?_;rw[Vw o];simp
noncomputable def bp(k i a:V):O:=.inst "Vector" [("kind",k),("items",i),("attrs",a),("shared",.bool false),("loose",.bool false)]
noncomputable def qh:O:=.inst "Null" [("kind",.str "NULL"),("attrs",.none)]
theorem G2(wf:Nat)(C:Str->List V->M V)(o k i:V)(b:Nat)(h:List O):kW ai wf C 24 "__init__" (yN "Vector") [o,k,i] b h=
  (mq (dF o "kind" k) λZ=>mq (dF o "items" i) λZ=>mq (dF o "attrs" .none) λZ=>mq (dF o "shared" (.bool false)) λZ=>mq (dF o "loose" (.bool false)) λZ=>mr .none) h:=by kernel_rfl
theorem ER(wf:Nat)(C:Str->List V->M V)(o:V)(b:Nat)(h:List O):kW ai wf C 24 "__init__" (yN "Null") [o] b h=
  (mq (dF o "kind" (.str "NULL")) λZ=>mq (dF o "attrs" .none) λZ=>mr .none) h:=by kernel_rfl
theorem gX {k i:V}:T ai wf 24 (j+1) "Vector" [k,i] h=.ok (.ref h.length) (h++ [bp k i .none]):=by
 rw[Ir (by kernel_rfl) (by kernel_rfl) (by kernel_rfl)];have e:kW ai wf (T ai wf 24 j) 24 "__init__" (yN "Vector") [.ref h.length,k,i] (h++ [O.inst "Vector" []]).length (h++ [O.inst "Vector" []])=.ok .none (h++ [bp k i .none]):=by
  rw[G2];refine aM ((gW rfl (by decide)))<|aM ((gW rfl ((show 1<=64 by decide)))) ?_;refine aM ((gW rfl ((show 2<=64 by decide)))) ?_;refine aM ((gW rfl ((show 3<=64 by decide)))) ?_;refine aM ((gW rfl ((show 4<=64 by decide)))) ?_;rfl
 refine aM e ?_;rfl
theorem Nn:T ai wf 24 (j+1) "Null" [] h=.ok (.ref h.length) (h++ [qh]):=by
 rw[Ir (by kernel_rfl) (by kernel_rfl) (by kernel_rfl)];have e:kW ai wf (T ai wf 24 j) 24 "__init__" (yN "Null") [.ref h.length] (h++ [O.inst "Null" []]).length (h++ [O.inst "Null" []])=.ok .none (h++ [qh]):=by
  rw[ER];refine aM ((gW rfl (by decide)))<|aM ((gW rfl ((show 1<=64 by decide)))) ?_;rfl
 refine aM e ?_;rfl
theorem Br {k i a:V}(c:h[n]?=some (bp k i a)):nC h (.ref n)=some ("Vector":Str):=by
 show(oP h[n]?).map (·.1)=_
 rw[c];rfl
theorem Bs {k i a:V}(c:h[n]?=some (bp k i a)):isV "Vector" (.ref n) h=.ok (.bool true) h:=by
 unfold isV;rw[Vw rfl,Br c,Option.elim_some,Vw rfl]
theorem rH {k i a:V}(c:h[n]?=some (bp k i a)):aN (.ref n) "kind" h=.ok k h:=jR (f:=λq=>(look "kind" q.2).elim R.bad λv=>R.ok v h) c
theorem hW {k i a:V}(c:h[n]?=some (bp k i a)):aN (.ref n) "items" h=.ok i h:=jR (f:=λq=>(look "items" q.2).elim R.bad λv=>R.ok v h) c
theorem dn {k i a:V}(c:h[n]?=some (bp k i a)):aN (.ref n) "attrs" h=.ok a h:=jR (f:=λq=>(look "attrs" q.2).elim R.bad λv=>R.ok v h) c
theorem ES(c:h[n]?=some qh):aN (.ref n) "kind" h=.ok (.str "NULL") h:=jR (f:=λq=>(look "kind" q.2).elim R.bad λv=>R.ok v h) c
theorem nZ(c:h[n]?=some qh):aN (.ref n) "attrs" h=.ok .none h:=jR (f:=λq=>(look "attrs" q.2).elim R.bad λv=>R.ok v h) c
theorem ln {k i a:V}(c:h[n]?=some (bp k i a)):dF (.ref n) "attrs" v h=.ok () (h.set n (bp k i v)):=jR (f:=λq=>if q.2.length<=64 then R.ok () (h.set n (O.inst q.1 (put "attrs" v q.2)))else R.bad) c
theorem pB {l:List (Str×V)}{s:Str}(g:h[n]?=some (.dict l))(c:l.length<=line):cH (.ref n) (.str s) v h=.ok () (h.set n (.dict (put s v l))):=(ic (f:=λl=>if l.length<=line then R.ok () (h.set n (O.dict (put s v l)))else R.bad) g).trans (Vw c)
theorem lw {l:List (Str×V)}{s:Str}(g:h[n]?=some (.dict l))(c:look s l=some v):ak (.ref n) (.str s) h=.ok v h:=(ic (f:=λl=>(look s l).elim R.bad λv=>R.ok v h) g).trans (fA c)
theorem J2 {l:List (Str×V)}{s:Str}(c:h[n]?=some (.dict l)):cmp .In (.str s) (.ref n) h=.ok (look s l).isSome h:=ic (f:=λl=>R.ok (look s l).isSome h) c
theorem CS {l:List (Str×V)}{s:Str}(c:h[n]?=some (.dict l)):cmp .NotIn (.str s) (.ref n) h=.ok (!(look s l).isSome) h:=by
 have e:cmp.memb (.str s) (.ref n) h=.ok (look s l).isSome h:=J2 c
 show(match cmp.memb (.str s) (.ref n) h with|.ok r h'=>R.ok (!r) h'|.exc e h'=>.exc e h'|.bad=>.bad)=_
 rw[e]
theorem G3 {l:List (Str×V)}{s:Str}(c:h[n]?=some (.dict l)):bN (.ref n) "get" [.str s] h=.ok ((look s l).getD .none) h:=ic (f:=λl=>BQ l [.str s] h) c
theorem ET {l:List (Str×V)}{s:Str}{d:V}(c:h[n]?=some (.dict l)):bN (.ref n) "get" [.str s,d] h=.ok ((look s l).getD d) h:=ic (f:=λl=>BQ l [.str s,d] h) c
theorem vV {l:List (Str×V)}(c:h[n]?=some (.dict l)):bQ (.ref n) "get" h=.ok () h:=ic (f:=λZ=>R.ok () h) c
theorem vW {l:List (Str×V)}(c:h[n]?=some (.dict l)):bY (.ref n) h=.ok (.keys n (l.map (·.1))) h:=by
 show(dM h[n]?).elim _ _=_
 rw[c];rfl
theorem yO {l:List (Str×V)}(c:h[n]?=some (.dict l)):dI (.ref n) h=.ok (.items n (l.map (·.1))) h:=by
 exact ic (f:=λd=>R.ok (It.items n (d.map (·.1))) h) c
theorem vX {l:List (Str×V)}(c:h[n]?=some (.dict l)):ci (.keys n (l.map (·.1))) i h=.ok (l.map λp=>V.str p.1)[i]? h:=by
 show((dct h[n]?).bind λd=>if d.map (·.1)=l.map (·.1)then some ((l.map (·.1))[i]?.map V.str)else none).elim _ _=_
 rw[c]
 show(if l.map (·.1)=l.map (·.1)then some ((l.map (·.1))[i]?.map V.str)else none).elim _ _=_
 rw[Vw rfl,<-T6,List.map_map];rfl
theorem CT {l:List (Str×V)}(c:h[n]?=some (.dict l)):ci (.items n (l.map (·.1))) i h=.ok (l.map λp=>V.tup [.str p.1,p.2])[i]? h:=by
 show((dct h[n]?).bind λd=>if d.map (·.1)=l.map (·.1)then some (d[i]?.map λp=>V.tup [.str p.1,p.2])else none).elim _ _=_
 rw[c]
 show(if l.map (·.1)=l.map (·.1)then some (l[i]?.map λp=>V.tup [.str p.1,p.2])else none).elim _ _=_
 rw[Vw rfl,<-T6];rfl
theorem CU {l:List (Str×V)}(g:h[n]?=some (.dict l))(c:l.length<=4096):truth (.ref n) h=.ok (!l.isEmpty) h:=(ic (f:=λl=>if l.length<=4096 then R.ok (!l.isEmpty) h else R.bad) g).trans (Vw c)
theorem J3 {l:List (Str×V)}(g:h[n]?=some (.dict l))(c:l.length<=line):builtin "dict" [.ref n] h=.ok (.ref h.length) (h++ [.dict l]):=(ic (f:=λl=>if l.length<=line then R.ok (V.ref h.length) (h++ [O.dict l])else R.bad) g).trans (Vw c)
theorem pC {A:Type}(x y:Str)(v:A):∀l:List (Str×A),look x (put y v l)=if x=y then some v else look x l
 | []=>by
  show(if x=y then some v else none)=_
  rfl
 |(z,w)::r=>by
  show look x (if y=z then(z,v)::r else(z,w)::put y v r)=if x=y then some v else(if x=z then some w else look x r);by_cases o:y=z
  ·subst o
   rw[Vw rfl]
   show(if x=y then some v else look x r)=_
   by_cases g:x=y
   ·rw[Vw g,Vw g]
   ·rw[Vv g,Vv g,Vv g]
  ·rw[Vv o]
   show(if x=z then some w else look x (put y v r))=_
   rw[pC x y v r];by_cases c:x=z
   ·rw[Vw c,Vw c,Vv (λq=>o (q.symm.trans c))]
   ·rw[Vv c,Vv c]
noncomputable abbrev aP:=Str->Option (Str×List V)
structure Vc where
 kind:Str
 items:List V
 att:aP
noncomputable def Ks:List Str:= ["dim", "names", "unit", "of"]
structure Dk (D:List (Str×V)):Prop where
 nd:(D.map (·.1)).Nodup
 sub:∀k∈D.map (·.1),k∈Ks
theorem hZ {c:Type}{k:Str}{D:List (Str×c)}:look k D=none↔k∉D.map (·.1):=by
 induction D using List.rec with
 |nil=>exact⟨λZ=>Uj,λZ=>rfl⟩
 |cons p r ih=>
  rw[ji,UQ,UR,not_or];by_cases h:k=p.1
  ·rw[Vw h];exact⟨λq=>ns q.symm,λq=>absurd h q.1⟩
  ·rw[Vv h,ih];exact⟨λq=>⟨h,q⟩,λq=>q.2⟩
theorem kq {c:Type}{v:c}{D:List (Str×c)}(h:look k D=some v):(k,v)∈D:=qG h
theorem iF {c:Type}{v:c}{D:List (Str×c)}(h:(D.map (·.1)).Nodup)(m:(k,v)∈D):look k D=some v:=vB h m
theorem u9 {c:Type}{v:c}{D:List (Str×c)}:k∉D.map (·.1)->put k v D=D++ [(k,v)]:=by
 induction D using List.rec with
 |nil=>exact λZ=>rfl
 |cons p r ih=>
  intro h;rw[UQ,UR,not_or]at h;rw[w4,Vv h.1,ih h.2];rfl
theorem yP {g:Type}{v:g}{D:List (Str×g)}:k∈D.map (·.1)->(put k v D).map (·.1)=D.map (·.1):=by
 induction D using List.rec with
 |nil=>exact λh=>absurd h Uj
 |cons p r ih=>
  intro h;rw[w4];by_cases c:k=p.1
  ·rw[Vw c];rfl
  ·rw[Vv c,UQ,ih ((UR.mp h).resolve_left c)];rfl
theorem Dk.put {D:List (Str×V)}{k:Str}{v:V}(d:Dk D)(z:k∈Ks):Dk (put k v D):=by
 by_cases h:k∈D.map (·.1)
 ·exact⟨by rw[yP h];exact d.nd,by rw[yP h];exact d.sub⟩
 ·rw[u9 h]
  refine⟨?_,λx g=>?_⟩
  ·rw[Ux,T7]
   refine⟨d.nd,by simp,λa o b y=>?_⟩;have c:b=k:=by simpa using y
   subst c;exact λq=>h (by subst q;exact o)
  ·rw[Ux]at g
   rcases Uy.mp g with q|q
   ·exact d.sub x q
   ·simp at q;subst q;exact z
theorem Dk.nil:Dk []:=⟨by simp,λk c=>by cases c⟩
theorem oa {c:Type}[DecidableEq c]:∀ {l m:List c},l.Nodup->(∀x∈l,x∈m)->l.length<=m.length
 | [],m,_,_=>Nat.zero_le _
 |x::r,m,hn,hs=>by
  have o:=hs x (by simp);rw[Uz]at hn;have:=oa (l:=r) (m:=m.erase x) hn.2 (λy g=>(List.mem_erase_of_ne (λ(e:y=x)=>hn.1 (e▸g))).mpr (hs y (by simp[g])));rw[List.length_erase_of_mem o]at this;have:=List.length_pos_of_mem o
  simp;omega
theorem Dk.len(d:Dk D):D.length<=4:=by
 have:=oa d.nd d.sub;simpa [Ks]using this
theorem Dk.count(d:Dk D)(e:Dk E)(h:∀k,(look k D).isSome=(look k E).isSome):D.length=E.length:=by
 have c:∀k,k∈D.map (·.1)↔k∈E.map (·.1):=λk=>by
  have:=h k;have a:=@hZ V k D;have b:=@hZ V k E;cases o:look k D<;>cases g:look k E<;>rw[o,g]at this<;>simp_all
 have o:=oa d.nd (λk q=>(c k).mp q);have g:=oa e.nd (λk q=>(c k).mpr q);simp at o g;exact Nat.le_antisymm o g
def fu(P:Nat->Prop)(h:List O)(m:Nat)(kd:Str)(its:List V):Prop:=∃i,P m/\P i/\its.length<=4096/\h[m]?=some (bp (.str kd) (.ref i) .none)/\h[i]?=some (.list its)
def fT(P:Nat->Prop)(h:List O)(D:List (Str×V))(F:aP):Prop:=∀k,match F k with
 |none=>look k D=none
 |some q=>∃m,look k D=some (.ref m)/\fu P h m q.1 q.2
structure IsD (P:Nat->Prop) (h:List O) (d:Nat) (F:aP) (D:List (Str×V)):Prop where
 p:P d
 get:h[d]?=some (.dict D)
 dk:Dk D
 at_:fT P h D F
inductive IsA (P:Nat->Prop) (h:List O) (F:aP):V->Prop
 |none:(∀k,F k=none)->IsA P h F .none
 |dict {d:Nat} {D:List (Str×V)}:IsD P h d F D->IsA P h F (.ref d)
inductive IsV (P:Nat->Prop) (h:List O):V->Vc->Prop
 |null {n:Nat} {F:aP}:P n->h[n]?=some qh->(∀k,F k=none)->IsV P h (.ref n) ⟨"NULL",[],F⟩
 |vec {n i:Nat} {k:Str} {l:List V} {a:V} {F:aP}:k≠ "NULL"->l.length<=4096->P n->P i->h[n]?=some (bp (.str k) (.ref i) a)->h[i]?=some (.list l)->IsA P h F a->IsV P h (.ref n) ⟨k,l,F⟩
theorem fT.keep {P Q:Nat->Prop}{F:aP}(a:fT P h D F)(k:Keep P h h'):fT P h' D F:=λx=>by
 have:=a x;induction hF:F x using Vx with
 |none=>rw[hF]at this;exact this
 |some q=>
  rw[hF]at this;refine aB λG y=>?_;obtain⟨m,e,i,g,c,A,z,o⟩:=this;refine y<|⟨m,e,i,g,c,A,k.get _ _ g z,k.get _ _ c o⟩
theorem fT.mono {P Q:Nat->Prop}{F:aP}(a:fT P h D F)(q:∀n,n<h.length->P n->Q n):fT Q h D F:=λx=>by
 have:=a x;induction hF:F x using Vx with
 |none=>rw[hF]at this;exact this
 |some r=>
  rw[hF]at this;refine aB λG o=>?_;obtain⟨m,e,i,z,y,A,g,c⟩:=this;refine o<|⟨m,e,i,q _ (aA g) z,q _ (aA c) y,A,g,c⟩
theorem IsA.keep {P:Nat->Prop}{h h':List O}{F:aP}{a:V}(x:IsA P h F a)(k:Keep P h h'):IsA P h' F a:=by
 cases x with
 |none e=>exact .none e
 |dict d=>exact .dict ⟨d.p,k.get _ _ d.p d.get,d.dk,d.at_.keep (Q:=P) k⟩
theorem IsA.mono {P Q:Nat->Prop}{h:List O}{F:aP}{a:V}(x:IsA P h F a)(q:∀n,n<h.length->P n->Q n):IsA Q h F a:=by
 cases x with
 |none e=>exact .none e
 |dict d=>exact .dict ⟨q _ (aA d.get) d.p,d.get,d.dk,d.at_.mono q⟩
theorem IsV.keep {P:Nat->Prop}{h h':List O}{x:Vc}{v:V}(a:IsV P h v x)(k:Keep P h h'):IsV P h' v x:=by
 cases a with
 |null p e f=>exact .null p (k.get _ _ p e) f
 |vec hk hl p1 p2 e1 e2 ha=>exact .vec hk hl p1 p2 (k.get _ _ p1 e1) (k.get _ _ p2 e2) (ha.keep k)
theorem IsV.mono {P Q:Nat->Prop}{h:List O}{x:Vc}{v:V}(a:IsV P h v x)(q:∀n,n<h.length->P n->Q n):IsV Q h v x:=by
 cases a with
 |null p e f=>exact .null (q _ (aA e) p) e f
 |vec hk hl p1 p2 e1 e2 ha=>exact .vec hk hl (q _ (aA e1) p1) (q _ (aA e2) p2) e1 e2 (ha.mono q)
def xj(P:Nat->Prop)(h:List O)(D:List (Str×V))(F:aP):Prop:=∀k,match F k with
 |none=>look k D=none
 |some q=>∃i,look k D=some (.tup [.str q.1,.ref i])/\P i/\h[i]?=some (.list q.2)
structure IsS (P:Nat->Prop) (h:List O) (d:Nat) (F:aP) (D:List (Str×V)):Prop where
 p:P d
 get:h[d]?=some (.dict D)
 dk:Dk D
 at_:xj P h D F
theorem xj.keep {P:Nat->Prop}{F:aP}(a:xj P h D F)(k:Keep P h h'):xj P h' D F:=λx=>by
 have:=a x;induction hF:F x using Vx with
 |none=>rw[hF]at this;exact this
 |some q=>
  rw[hF]at this;refine aQ (this) λi e c g=>⟨i,e,c,k.get _ _ c g⟩
theorem IsS.keep {P:Nat->Prop}{h h':List O}{d:Nat}{D:List (Str×V)}{F:aP}(a:IsS P h d F D)(k:Keep P h h'):IsS P h' d F D:=
 ⟨a.p,k.get _ _ a.p a.get,a.dk,a.at_.keep k⟩
theorem IsS.mono {P Q:Nat->Prop}{d:Nat}{F:aP}(a:IsS P h d F D)(q:∀n,n<h.length->P n->Q n):IsS Q h d F D:=
 ⟨q _ (aA a.get) a.p,a.get,a.dk,λx=>by
  have:=a.at_ x;induction hF:F x using Vx with
  |none=>rw[hF]at this;exact this
  |some r=>
   rw[hF]at this;refine aQ (this) λi e g c=>?_;exact⟨i,e,q _ (aA c) g,c⟩⟩
theorem yQ {x:Str}(c:ai.fn x=some (aq x))(g:cellN (aq x).scope.names=1):T ai wf 24 (j+1) x vs h=Bd (Tj wf j) x vs h.length (h++ [.cell none]):=by
 rw[xc c,g];rfl
theorem vc {c:Option V}:fL h.length v (h++ [.cell c])=.ok () (h++ [.cell (some v)]):=by
 rw[fS (ay h (.cell c))];simp
theorem lz(h:n<=4096):n<=line*line:=U7 h (by decide)
theorem vd(h:n<=4096):n<2^40:=T1 h (by decide)
theorem fU(n:Nat):cmp .IsNot (.ref n) .none=mr true:=rfl
theorem mS(n:Nat):cmp .Is (.ref n) .none=mr false:=rfl
theorem vY(acc:List V)(k:Str)(v:V):bR (acc++ [.tup [.str k,v]])=put k v (bR acc):=by
 unfold bR;rw[List.foldl_append];rfl
theorem wS {C:Tb}{d:Nat}{c G:V}{F:aP}{q:Str×List V}(g:h[b]?=some (.cell (some (.ref n))))(x:h[n]?=some (bp c G (.ref d)))
  (hd:IsD P h d F D)(A:F k=some q):bS C 22 (aw "_law_seen" (aq "_law_seen") b) (aX (bG (aG "_law_seen" [1])) []) (.str k) mr h=.ok (some (.tup [.str k,.tup [.str q.1,.ref h.length]])) (h++ [.list q.2]):=by
 rw[yD];unfold pt;have:=hd.at_ k;rw[A]at this;refine aB λS z=>?_;obtain⟨m,e,i,U,L,J,o,y⟩:=this;refine z<|aM ((aE g))<|aM ((dn x))<|aM ((lw hd.get e))<|aM ((rH o))<|aM ((aE g))<|aM ((dn x))<|aM ((lw hd.get e))<|aM ((hW o))<|aM ((hU y (lz J))) ?_;rfl
theorem dX {x:Vc}(hv:IsV P h v x)(hw:40<wf):
  ∃d D h',T ai wf 24 (j+1) "_law_seen" [v] h=.ok (.ref d) h'/\IsS (λn=>h.length<=n) h' d x.att D/\Gr h h':=by
 refine bO (T ai wf 24 (j+1) "_law_seen" [v] h) λgQ gR=>?_;rw[yQ (by kernel_rfl) (by kernel_rfl),CG];refine az vc ?_;have hb:=ay h (O.cell (some v));have g1:Gr h (h++ [O.cell (some v)]):=Keep.app _;have hv1:IsV P (h++ [O.cell (some v)]) v x:=hv.keep g1.keep;generalize hh1:h++ [O.cell (some v)]=X at*;have G:h.length<X.length:=by rw[<-hh1];simp
 refine az ((aE hb)) ?_;have A:(∀k,x.att k=none)-> ∃d D h',(mq (aC (.dict [])) λr1=>mr r1) X=.ok (.ref d) h'/\IsS (λn=>h.length<=n) h' d x.att D/\Gr h h':=λS=>by
  rw[ac (aH _ _)];refine bJ _ [] _ ⟨rfl,⟨by exact Q2 G,ay _ _,Dk.nil,λk=>?_⟩,g1.trans (Keep.app _)⟩;rw[S k];rfl
 cases hv1 with
 |@null n F p e f=>refine gR _ ?_;unfold iq;rw[ac (nZ e),cu,ae,Vr];exact A f
 |@vec n i k l a F hk hl p1 p2 e1 e2 ha=>
  refine az ((dn e1)) ?_;cases ha with
  |none f=>refine gR _ ?_;unfold iq;rw[cu,ae,Vr];exact A f
  |@dict d D hd=>
   refine bC (mS ..)<|qS<|az ((aE hb))<|az ((dn e1))<|az ((vW hd.get)) ?_;have ec:=fQ (C:=Tj wf j) (m:=22) (c:=aw "_law_seen" (aq "_law_seen") h.length) (e:=aX (bG (aG "_law_seen" [1])) []) (it:=.keys d (D.map (·.1))) (by kernel_rfl) (by kernel_rfl);have lp:=fR (turn:=λv=>bS (Tj wf j) 22 (aw "_law_seen" (aq "_law_seen") h.length) (aX (bG (aG "_law_seen" [1])) []) v mr) (it:=.keys d (D.map (·.1))) (D.map λp=>V.str p.1)
    (λi acc h'=>Gr X h'/\(bR acc).map (·.1)=(D.take i).map (·.1)/\ ∀p∈bR acc,∃q L,F p.1=some q/\p.2=.tup [.str q.1,.ref L]/\h.length<=L/\h'[L]?=some (.list q.2))
    (λi acc h' hI=>vX (hI.1.get _ _ trivial hd.get))
    (λi w acc h' hw hI=>by
     refine am (S6.mp hw) λhi hvv=>?_;simp only[List.getElem_map]at hvv;simp only[Uw]at hi;refine cQ (hI) λW hK hA=>?_;subst hvv;have hlk:look D[i].1 D=some D[i].2:=iF hd.dk.nd (Ue hi);obtain⟨q,hq⟩:∃q,F D[i].1=some q:=by
      have:=hd.at_ D[i].1;induction S:F D[i].1 using Vx with
      |none=>rw[S]at this;rw[hlk]at this;cases this
      |some q=>exact⟨q,rfl⟩
     have hd':IsD P h' d F D:=⟨hd.p,W.get _ _ trivial hd.get,hd.dk,hd.at_.keep (Q:=P) W.keep⟩;have et:=wS (C:=Tj wf j) (W.get _ _ trivial hb) (W.get _ _ trivial e1) hd' hq;have J:D[i].1∉(bR acc).map (·.1):=by
      rw[hK];intro y;have Y:=hd.dk.nd;rw[show D.map (·.1)=(D.take i).map (·.1)++(D.drop i).map (·.1) by rw[<-Ux,List.take_append_drop],T7]at Y;exact Y.2.2 _ y _ (U3.mpr ⟨D[i],by rw[S1 hi];exact TU,rfl⟩) rfl
     refine aV _ _ ⟨et,W.trans (Keep.app _), ?_, ?_⟩
     ·show(bR (acc++ [_])).map (·.1)=_
      rw[vY,u9 J,Ux,hK,bv hi,Ux];rfl
     ·show ∀p∈bR (acc++ [_]),_
      rw[vY,u9 J];intro p z;rcases Uy.mp z with z|z
      ·refine bM (hA p z) λq' L a1 a2 a3 a4=>aV q' L ⟨a1,a2,a3,(Keep.app (P:=λZ=>True) _).get _ _ trivial a4⟩
      ·rw[TW]at z
       subst z;refine aV q h'.length ⟨hq,rfl, ?_,ay _ _⟩;have:=W.len;exact Me G this)
    wf 0 [] X o1 (by have:=hd.dk.len;simp;exact Lu hw this) ⟨Keep.refl,rfl,λp z=>by cases z⟩
   refine aB λgP gH=>bM (lp) λo h' e3 i1 i2 i3=>?_;have e4:cF (Tj wf j).wf (Ic (Tj wf j) 22) (aw "_law_seen" (aq "_law_seen") h.length) (aX (bG (aG "_law_seen" [1])) []) (.keys d (D.map (·.1))) X=.ok o h':=(congrFun ec X).trans e3;refine gH<|az e4<|az ((aH _ _)) ?_;have g:(bR o).map (·.1)=D.map (·.1):=by rw[i2];simp
   have U:=i1.len;refine gR _<|bJ h'.length (bR o) _ ⟨rfl,⟨by exact Me G U,ay _ _,⟨by rw[g];exact hd.dk.nd,by rw[g];exact hd.dk.sub⟩,λk=>?_⟩,g1.trans (i1.trans (Keep.app _))⟩;show match F k with|none=>look k (bR o)=none|some q=>∃i,look k (bR o)=some (V.tup [V.str q.fst,V.ref i])/\h.length<=i/\(h'++ [O.dict (bR o)])[i]?=some (O.list q.snd)
   have hk:=hd.at_ k;induction S:F k using Vx with
   |none=>
    rw[S]at hk;dsimp only;rw[hZ,g];exact hZ.mp hk
   |some q=>
    rw[S]at hk;refine aB λgP gH=>aa (hk) λm em Z=>?_;have y:k∈(bR o).map (·.1):=by rw[g];exact U3.mpr ⟨_,kq em,rfl⟩
    refine aa (U3.mp y) λp z gz2=>?_;subst gz2;refine bM (i3 p z) λq' L a1 a2 a3 a4=>?_;have a1':F p.1=some q':=a1;rw[S]at a1';cases a1';refine gH<|⟨L, ?_,a3,(Keep.app (P:=λZ=>True) _).get _ _ trivial a4⟩;rw[iF (v:=p.2) (by rw[g];exact hd.dk.nd) z,a2]
inductive Dv:V->Prop
 |none:Dv .none
 |int (i:Int):Dv (.int i)
 |str (s:Str):Dv (.str s)
 |pair (a b:Int):Dv (.tup [.int a,.int b])
theorem jn {q:Bool}{o c:Option Bool}(x:o=some p)(g:c=some q):FC o c=some (p&&q):=by rw[x,g];rfl
theorem tA:(∀v∈l,f v v=some true)->gC f l l=some true:=by
 induction l using List.rec with
 |nil=>exact λZ=>rfl
 |cons x r ih=>exact λh=>jn (h x (TU ..)) (ih λv c=>h v (TA _ c))
theorem lA {a b c d:V}{q:Bool}(o:f a c=some p)(g:f b d=some q):gC f [a,b] [c,d]=some (p&&q):=by
 refine(jn o (jn g rfl)).trans ?_;rw[Bool.and_true]
theorem yR {k:Nat}:cT h (k+1) (.tup xs) (.tup ys)=(gC (cT h k) xs ys).map λr=>r&&decide (xs.length=ys.length):=rfl
theorem pD {h:List O}{k:Nat}(d:Dv v):cT h (k+2) v v=some true:=by
 cases d with
 |none=>rfl
 |int i=>show some (decide (i=i))=_;simp
 |str s=>show some (decide (s=s))=_;simp
 |pair a b=>
  have g:cT h (k+1) (.int a) (.int a)=some true:=by show some (decide (a=a))=_;simp
  have c:cT h (k+1) (.int b) (.int b)=some true:=by show some (decide (b=b))=_;simp
  rw[yR,lA g c];rfl
theorem vZ {k:Nat}(c:h[m]?=some (.list l))(o:h[n]?=some (.list l))(hd:∀v∈l,Dv v):cT h (k+3) (.ref m) (.ref n)=some true:=by
 show((dM h[m]?).bind λxs=>(dM h[n]?).bind λys=>lq (cT h (k+2)) xs ys)=_
 rw[c,o]
 show(gC (cT h (k+2)) l l).map _=_
 rw[tA λv g=>pD (hd v g),Option.map_some,UL (Eq.refl _)];rfl
theorem lC(c:h[m]?=some (.list l))(g:h[n]?=some (.list l))(hd:∀v∈l,Dv v):eM h (.ref m) (.ref n)=some true:=by
 unfold eM;rw[vw (show dct h[m]?=none by rw[c];rfl)];exact vZ c g hd
def iP(F:aP):Prop:=∀k q,F k=some q-> ∀v∈q.2,Dv v
theorem Ad {ys:List (Str×V)}{xs:List (Str×V)}:(∀p∈xs,∃w,look p.1 ys=some w/\f p.2 w=some true)->eK f ys xs=some true:=by
 induction xs using List.rec with
 |nil=>exact λZ=>rfl
 |cons p r ih=>
  intro h;refine aa (h p (TU ..)) λw o c=>?_
  show(eK f ys r).bind _=_
  rw[ih λp g=>h p (TA _ g),Uq,fA o,c];rfl
theorem IsS.some {P:Nat->Prop}{h:List O}{d:Nat}{F:aP}{D:List (Str×V)}(a:IsS P h d F D)(k:Str):(look k D).isSome=(F k).isSome:=by
 have:=a.at_ k;induction hF:F k using Vx with
 |none=>rw[hF]at this;dsimp only at this;rw[this];rfl
 |some q=>rw[hF]at this;obtain⟨i,e,_⟩:=this;rw[e];rfl
theorem tB(c:h[m]?=some (.dict D))(g:h[n]?=some (.dict E)):eM h (.ref m) (.ref n)=(eK (cT h 8) E D).map λr=>r&&decide (D.length=E.length):=
 fA (tX (x:=D) (y:=E) (by rw[c];rfl) (by rw[g];rfl))
theorem pE {Q:Nat->Prop}{d:Nat}{F:aP}(a:IsS P h d F D)(b:IsS Q h e F E)(G:iP F):eM h (.ref d) (.ref e)=some true:=by
 rw[tB a.get b.get];have g:D.length=E.length:=a.dk.count b.dk λk=>by rw[a.some,b.some]
 rw[Ad,g]
 ·simp
 intro p L;have y:=iF (v:=p.2) a.dk.nd L;have c:=a.at_ p.1;have x:=b.at_ p.1;refine aB λU o=>?_;induction hq:F p.1 using Vx with
 |none=>refine o ?_;rw[hq]at c;rw[y]at c;cases c
 |some q=>
  rw[hq]at c x;refine aQ (c) λi z Z S=>aQ (x) λW J Z A=>?_;rw[y]at z;refine o<|⟨_,J, ?_⟩;rw[UB z];have c:cT h 7 (.str q.1) (.str q.1)=Option.some true:=pD (.str q.1);rw[yR,lA c (vZ S A (G _ _ hq))];rfl
theorem gb {a b:V}{r:Bool}(e:jS h a b=some r):cmp .NotEq a b h=.ok (!r) h:=fA e
theorem pF(c:h[m]?=some (.dict D))(g:h[n]?=some (.dict E)):jS h (.ref m) (.ref n)=eM h (.ref m) (.ref n):=by
 unfold jS;rw[vw (show dM h[m]?=none by rw[c];rfl)];rfl
theorem jH(c:h[m]?=some (.list xs))(g:h[n]?=some (.list ys)):jS h (.ref m) (.ref n)=(gC (eM h) xs ys).map λr=>r&&decide (xs.length=ys.length):=by
 exact fA (tX (x:=xs) (y:=ys) (by rw[c];rfl) (by rw[g];rfl))
theorem v6(d:Dv v):eM h v v=some true:=by
 cases d with
 |none=>rfl
 |int i=>show some (decide (i=i))=_;simp
 |str s=>show some (decide (s=s))=_;simp
 |pair a b=>exact pD (h:=h) (k:=6) (.pair a b)
theorem EU(c:h[m]?=some (.list l))(o:h[n]?=some (.list l))(hd:∀v∈l,Dv v):cmp .NotEq (.ref m) (.ref n) h=.ok false h:=by
 refine gb (r:=true) ?_;rw[jH c o,tA λv g=>v6 (hd v g)];simp
theorem vf {Q:Nat->Prop}{d:Nat}{F:aP}(a:IsS P h d F D)(b:IsS Q h e F E)(c:iP F):cmp .NotEq (.ref d) (.ref e) h=.ok false h:=by
 refine gb (r:=true) ?_;rw[pF a.get b.get,pE a b c]
theorem aY(a b:Str):cmp .Eq (.str a) (.str b)=mr (decide (a=b)):=rfl
theorem iG(a b:Str):cmp .NotEq (.str a) (.str b)=mr (!decide (a=b)):=rfl
theorem dY(a b:Int):cmp .NotEq (.int a) (.int b)=mr (!decide (a=b)):=rfl
theorem IsV.kind {P:Nat->Prop}{h:List O}{v:V}{x:Vc}(c:IsV P h v x):aN v "kind" h=.ok (.str x.kind) h:=by
 cases c with
 |null p e f=>exact ES e
 |vec hk hl p1 p2 e1 e2 ha=>exact rH e1
theorem IsV.attrs {P:Nat->Prop}{h:List O}{v:V}{x:Vc}(c:IsV P h v x):∃a,aN v "attrs" h=.ok a h/\IsA P h x.att a:=by
 cases c with
 |null p e f=>exact⟨_,nZ e,.none f⟩
 |vec hk hl p1 p2 e1 e2 ha=>exact⟨_,dn e1,ha⟩
theorem IsV.len {x:Vc}(c:IsV P h v x):x.items.length<=4096:=by
 cases c with
 |null p e f=>exact Nat.zero_le _
 |vec hk hl p1 p2 e1 e2 ha=>exact hl
theorem IsV.items {P:Nat->Prop}{h:List O}{v:V}{x:Vc}(g:IsV P h v x)(c:x.kind≠ "NULL"):∃i,P i/\aN v "items" h=.ok (.ref i) h/\h[i]?=some (.list x.items):=by
 cases g with
 |null p e f=>exact absurd rfl c
 |vec c hl p1 p2 e1 e2 ha=>exact⟨_,p2,hW e1,e2⟩
theorem IsV.null_items {x:Vc}(g:IsV P h v x)(c:x.kind= "NULL"):x.items= []:=by
 cases g with
 |null p e f=>rfl
 |vec hk' hl p1 p2 e1 e2 ha=>exact absurd c hk'
theorem IsV.isV {P:Nat->Prop}{h:List O}{v:V}{x:Vc}(g:IsV P h v x)(c:x.kind≠ "NULL"):Mine.isV "Vector" v h=.ok (.bool true) h:=by
 cases g with
 |null p e f=>exact absurd rfl c
 |vec c hl p1 p2 e1 e2 ha=>
  exact Bs e1
theorem dy {x:Vc}(g:IsV P h v x):T ai wf 24 (j+1) "length" [v] h=.ok (.int x.items.length) h:=by
 rw[aK (by kernel_rfl) (by kernel_rfl),yh];unfold rn;unfold iq;rw[ac g.kind,aY,ae];by_cases c:x.kind= "NULL"
 ·refine oA (UL c) ?_;rw[g.null_items c];rfl
 ·refine mM (UC c)<|aQ (g.items c) λi Z q o=>?_
  rw[ac (g.isV c),aT,ae,Vr,ac q,ac (eX o (vd g.len))];rfl
theorem oF {x:Vc}(o:IsV P h v x)(name:Str):∃r,(mq (aN v "attrs") λA=>mq (cmp .Is A .none) λG=>bif G then(mr .none)else(mq (aN v "attrs") λc=>mq (bQ c "get") λZ=>mq (bN c "get" [.str name]) λF=>mr F)) h=.ok r h/\
  match x.att name with|none=>r=.none|some q=>∃m,r=.ref m/\fu P h m q.1 q.2:=by
 refine aa (o.attrs) λa g z=>?_;rw[ac g];cases z with
 |none f=>
  rw[cu,ae,Vr,f];exact⟨_,rfl,rfl⟩
 |@dict d D hd=>
  rw[mS,ae,Vm,ac g,ac (vV hd.get),ac (G3 hd.get)];refine⟨_,rfl, ?_⟩;have:=hd.at_ name;induction hF:x.att name using Vx with
  |none=>rw[hF]at this;dsimp only at this ⊢;rw[this];rfl
  |some q=>
   rw[hF]at this;refine aa (this) λm e y=>⟨m,by rw[e];rfl,y⟩
theorem CV {x:Vc}(c:IsV P h v x)(name:Str):∃r,T ai wf 24 (j+1) "get_attr" [v,.str name] h=.ok r h/\
  match x.att name with|none=>r=.none|some q=>∃m,r=.ref m/\fu P h m q.1 q.2:=by
 rw[aK (by kernel_rfl) (by kernel_rfl),Cv];exact oF c name
theorem qW {x:Vc}(c:IsV P h v x)(name:Str):∃r,T ai wf 24 (j+1) "attribute" [v,.str name] h=.ok r h/\
  match x.att name with|none=>r=.none|some q=>∃m,r=.ref m/\fu P h m q.1 q.2:=by
 rw[aK (by kernel_rfl) (by kernel_rfl),zW];exact oF c name
def kr(h h':List O)(F:aP)(r:V):Prop:=match F "dim" with|none=>r=.none|some q=>∃n,r=.ref n/\h.length<=n/\h'[n]?=some (.list q.2)
theorem kt {x:Vc}(F:IsV P h v x):∃r h',T ai wf 24 (j+2) "dim_of" [v] h=.ok r h'/\Gr h h'/\kr h h' x.att r:=by
 rw[aK (by kernel_rfl) (by kernel_rfl),GE];unfold yf;refine aB λy g=>aa (CV (wf:=wf) (j:=j) F "dim") λr e c=>g ?_;rw[ac e];unfold kr;induction hF:x.att "dim" using Vx with
 |none=>
  rw[hF]at c;dsimp only at c;subst c;unfold iq;rw[cu,ae,Vr];exact aV _ _ ⟨rfl,Keep.refl,rfl⟩
 |some q=>
  rw[hF]at c;refine aB λy g=>?_;obtain⟨m,rfl,i,J,G,A,z,o⟩:=c;refine g ?_;unfold iq;rw[mS,ae,Vm,ac (hW z),ac (hU o (lz A))];exact aV _ _ ⟨rfl,Keep.app _,_,rfl,Vi _,ay _ _⟩
theorem tC {x:Vc}(G:IsV P h v x):∃r h',T ai wf 24 (j+1) "_law_dims" [v] h=.ok r h'/\Gr h h'/\kr h h' x.att r:=by
 rw[aK (by kernel_rfl) (by kernel_rfl),CE];unfold sV;refine aB λz c=>aa (G.attrs) λa g o=>c ?_;unfold kr;dsimp only;rw[ac g];cases o with
 |none f=>
  unfold iq;rw[cu,ae,Vr,f];exact aV _ _ ⟨rfl,Keep.refl,rfl⟩
 |@dict d D hd=>
  unfold iq;rw[mS,ae,Vm,ac g,ac (CS hd.get)];have:=hd.at_ "dim";induction hF:x.att "dim" using Vx with
  |none=>
   rw[hF]at this;dsimp only at this;rw[this];exact aV _ _ ⟨rfl,Keep.refl,rfl⟩
  |some q=>
   rw[hF]at this;refine aB λz c=>?_;obtain⟨m,e,i,L,J,F,A,y⟩:=this;refine c ?_;rw[e];show ∃r h',mq (aN v "attrs") _ h=_/\_;rw[ac g,ac (lw hd.get e),ac (hW A),ac (hU y (lz F))];exact aV _ _ ⟨rfl,Keep.app _,_,rfl,Vi _,ay _ _⟩
noncomputable def aL(n m:Nat):Nat:=if n=0\/m=0 then 0 else max n m
theorem vg(n m:Nat):builtin "max" [.int n,.int m]=mr (.int (max n m:Nat)):=by
 have e:builtin "max" [.int n,.int m]=mr (.int (if(m:Int)>n then m else n)):=by kernel_rfl
 rw[e]
 congr 2
 by_cases h:(m:Int)>n
 ·rw[Vw h];exact Vs _ (Nat.max_eq_right (U1.mp (UW h))).symm
 ·rw[Vv h];exact Vs _ (Nat.max_eq_left (U1.mp (Vj.mp h))).symm
theorem Bt(n m:Nat):builtin "min" [.int n,.int m]=mr (.int (min n m:Nat)):=by
 have e:builtin "min" [.int n,.int m]=mr (.int (if(m:Int)<n then m else n)):=by kernel_rfl
 rw[e]
 congr 2
 by_cases h:(m:Int)<n
 ·rw[Vw h];exact Vs _ (Nat.min_eq_right (U1.mp (UW h))).symm
 ·rw[Vv h];exact Ru h
theorem v8 {n m:Nat}{h:List O}:T ai wf 24 (j+1) "recycle_length" [.int n,.int m] h=.ok (.int (aL n m)) h:=by
 rw[aK (by kernel_rfl) (by kernel_rfl),ro];unfold ki aL;simp only[iq,bA,ae,vg];by_cases g:n=0
 ·rw[Vw (.inl g),show decide ((n:Int)=0)=true from UL (Ay g)];rfl
 ·refine mM (show decide ((n:Int)=0)=false from UC (AA g)) ?_
  by_cases c:m=0
  ·rw[Vw (.inr c),show decide ((m:Int)=0)=true from UL (Ay c)];rfl
  ·rw[show decide ((m:Int)=0)=false from UC (AA c),Vv (Ma g c)];rfl
noncomputable def vh:V->V
 |.none=>.none
 |v=>.tup [v,.int 1]
theorem ku {c:Cx}{e:Expr}{f:V->V}(q:GT e=true)(g:b6 (.list n) (GU e)=true)(y:h[n]?=some (.list l))(x:l.length<C.wf)
  (o:∀v∈l,bS C m c e v mr h=.ok (some (f v)) h):cF C.wf (Ic C m) c e (.list n) h=.ok (l.map f) h:=by
 rw[fQ q g];have:=jG (turn:=λv=>bS C m c e v mr) (f:=λv=>some (f v)) y o C.wf 0 [] (QP x);rw[this]
 simp
theorem vj(v:V):bS C 21 (aw "_law_items" (aq "_law_items") b) (aX (bG (aG "_law_items" [1,0,0])) []) v mr h=.ok (some (vh v)) h:=by
 rw[wR];unfold oz;cases v<;>rfl
def b7(k:Str)(x:Vc):List V:=if k= "double"/\x.kind≠ "double" then x.items.map vh else x.items
theorem eo(k:Str)(x:Vc):(b7 k x).length=x.items.length:=by
 unfold b7;split<;>simp
theorem jg {x:Vc}(c:IsV P h v x)(k:Str)(U:4200<wf):
  ∃r h',T ai wf 24 (j+1) "_law_items" [v,.str k] h=.ok (.ref r) h'/\Gr h h'/\h.length<=r/\h'[r]?=some (.list (b7 k x)):=by
 refine bO (T ai wf 24 (j+1) "_law_items" [v,.str k] h) λY G=>?_;rw[aK (by kernel_rfl) (by kernel_rfl),z8];refine az c.kind<|bC (aY ..) ?_;by_cases o:x.kind= "NULL"
 ·refine EK (UL o)<|az ((aH _ _))<|G _<|aV _ _ ⟨rfl,Keep.app _,Vi _, ?_⟩
  unfold b7;rw[c.null_items o]
  split<;>exact ay _ _
 refine Bi (UC o)<|aQ (c.items o) λi Z J z=>?_;have plain:b7 k x=x.items-> ∃r h',(mq (aN v "items") λL=>mq (builtin "list" [L]) λX=>mr X) h=.ok (.ref r) h'/\Gr h h'/\h.length<=r/\h'[r]?=some (.list (b7 k x)):=λq=>by
  rw[ac J,ac (hU z (lz c.len)),q];exact aV _ _ ⟨rfl,Keep.app _,Vi _,ay _ _⟩
 have g:b7 k x=x.items.map vh-> ∃r h',(mq (aN v "items") λW=>mq (bY W) λF=>mq (cF (Tj wf j).wf (Ic (Tj wf j) 21) (aw "_law_items" (aq "_law_items") h.length) (aX (bG (aG "_law_items" [1,0,0])) []) F) λA=>mq (aC (.list A)) λS=>mr S) h=.ok (.ref r) h'/\Gr h h'/\h.length<=r/\h'[r]?=some (.list (b7 k x)):=λq=>by
  rw[ac J,ac (dh z),ac (ku (f:=vh) (by kernel_rfl) (by kernel_rfl) z (by have:=c.len;show _<wf;exact PE U this) λv Z=>vj v),ac (aH _ _),q];exact aV _ _ ⟨rfl,Keep.app _,Vi _,ay _ _⟩
 refine G _ ?_;dsimp only;by_cases hd:k= "double"
 ·unfold iq;rw[aY,ae,UL hd,Vr,ac c.kind,iG,ae]
  by_cases y:x.kind= "double"
  ·rw[UL y];exact plain (Vv λq=>q.2 y)
  ·rw[UC y];exact g (Vw ⟨hd,y⟩)
 ·unfold iq;rw[aY,ae,UC hd,Vm];exact plain (Vv λq=>hd q.1)
noncomputable def dE(k:Str):Prop:=k= "NULL"\/k= "logical"\/k= "integer"\/k= "double"
theorem pG(s a b c:Str):cmp .NotIn (.str s) (.tup [.str a,.str b,.str c])=mr (!(decide (s=a\/s=b\/s=c))):=by
 have e:cmp .NotIn (.str s) (.tup [.str a,.str b,.str c])=mr (!(decide (a=s)||(decide (b=s)||(decide (c=s)||false)))):=by kernel_rfl
 rw[e]
 congr 2
 simp[eq_comm]
theorem SN(s a b:Str):cmp .In (.str s) (.tup [.str a,.str b])=mr (decide (s=a\/s=b)):=by
 have e:cmp .In (.str s) (.tup [.str a,.str b])=mr ((decide (a=s)||(decide (b=s)||false))):=by kernel_rfl
 rw[e]
 congr 1
 simp[eq_comm]
theorem No(s a b:Str):cmp .NotIn (.str s) (.tup [.str a,.str b])=mr (!decide (s=a\/s=b)):=by
 have e:cmp .NotIn (.str s) (.tup [.str a,.str b])=mr (!(decide (a=s)||(decide (b=s)||false))):=by kernel_rfl
 rw[e]
 congr 2
 simp[eq_comm]
theorem gc {x:Vc}(g:IsV P h v x)(q:dE x.kind):
  ∃r h',T ai wf 24 (j+1) "number_items" [v] h=.ok (.ref r) h'/\Gr h h'/\h'[r]?=some (.list x.items)/\(P r\/h.length<=r):=by
 rw[aK (by kernel_rfl) (by kernel_rfl),mD];unfold iU;unfold iq;rw[ac g.kind,aY,ae];by_cases c:x.kind= "NULL"
 ·rw[UL c,Vr,ac (aH _ _),g.null_items c]
  exact aV _ _ ⟨rfl,Keep.app _,ay _ _,.inr (Vi _)⟩
 ·rw[UC c,Vm,ac g.kind,pG,ae,UL (q.resolve_left c)]
  refine aQ (g.items c) λi z y o=>?_;show ∃r h',mq (aN v "items") _ h=_/\_;rw[ac y];exact aV _ _ ⟨rfl,Keep.refl,o,.inl z⟩
theorem mT {x:Vc}(g:IsV P h v x)(c:¬dE x.kind):
  T ai wf 24 (j+1) "number_items" [v] h=.exc (.str "non-numeric argument to binary operator") h:=by
 rw[aK (by kernel_rfl) (by kernel_rfl),mD];unfold iU;unfold iq;rw[ac g.kind,aY,ae];have o:x.kind≠ "NULL":=λq=>c (.inl q);rw[UC o,Vm,ac g.kind,pG,ae,UC λq=>c (.inr q)];rfl
theorem mU {x:Vc}(y:IsV P h v x)(z:dE x.kind)(F:x.kind≠ "double"-> ∀v∈x.items,v=.none\/ ∃i:Int,v=.int i)(A:4200<wf):
  ∃r h',T ai wf 24 (j+2) "double_items" [v] h=.ok (.ref r) h'/\Gr h h'/\h'[r]?=some (.list (b7 "double" x)):=by
 rw[aK (by kernel_rfl) (by kernel_rfl),uF];unfold mE;refine bM (gc (wf:=wf) (j:=j) y z) λr h' e g c Z=>?_;unfold iq;rw[ac e,ac (y.keep g.keep).kind,aY,ae];unfold b7;by_cases hd:x.kind= "double"
 ·rw[UL hd,Vv λq=>q.2 hd]
  exact aV r h' ⟨rfl,g,c⟩
 ·rw[UC hd,Vw ⟨rfl,hd⟩,Vm,ac (dh c)]
  rw[ac (ku (f:=vh) (by kernel_rfl) (by kernel_rfl) c (by have:=y.len;show _<wf;exact PE A this) λv o=>by
   rw[rE];unfold kl;rcases F hd v o with rfl|⟨i,rfl⟩
   ·exact(ac (ta (wf:=wf) (j:=j) none)).trans rfl
   ·exact(ac (ta (wf:=wf) (j:=j) (some i))).trans rfl),ac (aH _ _)]
  exact aV _ _ ⟨rfl,g.trans (Keep.app _),ay _ _⟩
theorem gY {c β:Type}{m:M c}{f:c->M β}{e:V}(q:m h=.exc e h'):mq m f h=.exc e h':=by
 unfold mq;rw[q]
noncomputable def bH(l:List Int):List V:=l.map .int
noncomputable def dD(l:List Int):Int:=l.foldl (· * ·) 1
def dZ(x:Vc):Option (List Int)->Prop
 |none=>x.att "dim"=none
 |some ds=>x.att "dim"=some (("integer":Str),bH ds)/\dD ds=x.items.length/\(∀d∈ds,0<d/\d<=9)/\ds.length<=2
theorem CW {f:V->V->Option Bool}(q:∀a b:Int,f (.int a) (.int b)=some (decide (a=b)))(a:List Int):∀b:List Int,∃r,gC f (bH a) (bH b)=some r/\(r&&decide (a.length=b.length))=decide (a=b):=by
 induction a using List.rec with
 |nil=>
  intro b;induction b using Vz with
  |nil=>exact⟨true,rfl,rfl⟩
  |cons=>exact⟨true,rfl,rfl⟩
 |cons x xs ih=>
  intro b;induction b using Vz with
  |nil=>exact⟨true,rfl,rfl⟩
  |cons y ys=>
   refine aa (ih ys) λr g c=>⟨decide (x=y)&&r,jn (q x y) g, ?_⟩;rw[Bool.and_assoc,show decide ((x::xs).length=(y::ys).length)=decide (xs.length=ys.length) by simp,c];by_cases o:x=y<;>simp[o]
theorem Bu {a b:List Int}(g:h[m]?=some (.list (bH a)))(q:h[n]?=some (.list (bH b))):cmp .NotEq (.ref m) (.ref n) h=.ok (!decide (a=b)) h:=by
 refine gb ?_;rw[jH g q];refine aa (CW (f:=eM h) (λa b=>rfl) a b) λr o c=>?_;rw[o,<-c];simp[bH]
theorem CX(l:List Int)(x:Int):dD (l++ [x])=dD l*x:=by simp[dD]
theorem CY:∀l:List Int,(∀d∈l,0<d/\d<=9)->0<=dD l/\dD l<=9^l.length:=by
 intro l;have key:∀(l:List Int) (a:Int),0<=a->(∀d∈l,0<d/\d<=9)->0<=l.foldl (· * ·) a/\l.foldl (· * ·) a<=a*9^l.length:=by
  intro l;induction l with
  |nil=>intro a c _;simpa using c
  |cons x r ih=>
   intro a c hd;have o:=hd x (by simp);have:=ih (a*x) (Int.mul_nonneg c (Mk o)) λd g=>hd d (by simp[g]);refine⟨this.1,UX this.2 ?_⟩;rw[Ug,Int.pow_succ,UZ _ (9:Int),<-UM];exact Int.mul_le_mul_of_nonneg_right (Int.mul_le_mul_of_nonneg_left o.2 c) (UW (Vg (by decide)))
 intro hd;have:=key l 1 (by decide) hd;simpa [dD]using this
theorem Bv(k:Nat)(c:k<=2000):2^k<=2^2000:=TE (by decide) c
theorem wa {k:Nat}(h0:0<=a)(h:a<2^60):a.natAbs<2^2000:=T2 (RR h0 h:a.natAbs<2^60) (Bv 60 (by decide))
theorem EV(G:h[r]?=some (.list (bH ds)))(hd:∀d∈ds,0<d/\d<=9)(L:ds.length<=2)(hw:40<wf):
  T ai wf 24 (j+1) "product" [.ref r] h=.ok (.int (dD ds)) h:=by
 rw[aK (by kernel_rfl) (by kernel_rfl),EB];refine aM ((dh G)) ?_;have Y:=bX (body:=λv l=>aJ (Tj wf j) 23 "product" h.length [1] v l λfl l=>mr (fl,l)) (it:=.list r) (bH ds)
  (λi lc h'=>h'=h/\(lc=([("numbers",.ref r),("found",.int (dD (ds.take i)))]:Loc)\/ ∃v,lc=([("numbers",.ref r),("found",.int (dD (ds.take i))),("value",v)]:Loc)))
  (λi lc h' x=>by rw[x.1];exact lm G)
  (λi v lc h' hv x=>by
   refine am (S6.mp hv) λW A=>?_;have g:i<ds.length:=by simpa [bH]using W
   have X:v=.int ds[i]:=by rw[<-A];simp[bH]
   subst X;obtain⟨rfl,x⟩:=x;have c:=CY (ds.take i) λd z=>hd d (TC z);have o:=hd _ (Ue g);have Z:dD (ds.take i)<=81:=by
    have:(ds.take i).length<=2:=by simp;exact tt (Nat.min_le_right _ _) L
    rcases Nat.lt_or_ge (ds.take i).length 1 with q|q
    ·rw[show(ds.take i).length=0 from Sd q]at c;exact UX c.2 (by decide)
    rcases Nat.lt_or_ge (ds.take i).length 2 with F|F
    ·rw[show(ds.take i).length=1 from Nat.le_antisymm (Nat.le_of_lt_succ F) q]at c;exact UX c.2 (by decide)
    ·rw[show(ds.take i).length=2 from Qq this F]at c;exact RP c
   have J:=bn (a:=dD (ds.take i)) (b:=ds[i]) (wa (k:=0) c.1 (TR Z (by decide))) (wa (k:=0) (Mk o) (TR o.2 (by decide)));have U:dD (ds.take (i+1))=dD (ds.take i)*ds[i]:=by rw[bv g,CX]
   rw[U];refine bJ .next [("numbers",.ref r),("found",.int (dD (ds.take i)*ds[i])),("value",.int ds[i])] h' ⟨?_,.inl rfl,rfl,.inr ⟨_,rfl⟩⟩;rcases x with rfl|⟨v,rfl⟩
   ·rw[yq]
    unfold iD;rw[J];rfl
   ·rw[yr]
    unfold iD;rw[J];rfl)
  wf 0 [("numbers",.ref r),("found",.int 1)] h o1 (by simp[bH];exact R6 L hw) ⟨rfl,.inl rfl⟩
 refine aW (Y) λl' h' e y S=>?_;subst y;refine aM ((show bF (Tj wf j) 23 "product" h'.length [1] (.list r) [("numbers",.ref r),("found",(.int 1))] h'=_ from(cC (by kernel_rfl)).trans e)) ?_;rw[show ds.take (bH ds).length=ds by simp[bH]]at S;rcases S with rfl|⟨v,rfl⟩
 ·show bj _ _ _ _ _=_
  rw[yt];rfl
 ·show bj _ _ _ _ _=_
  rw[yu];rfl
theorem bB(a b:Str):(a++b).length=a.length+b.length:=by
 show(a.cps++b.cps).size=a.cps.size+b.cps.size
 exact Array.size_append
noncomputable def S_(a:Nat):Str:=Str.ofString (toString (a:Int))
theorem iH {a:Nat}(h:a<=9):(S_ a).length=1:=by
 have:∀a:Fin 10,(S_ a.val).length=1:=by decide
 exact this ⟨a,by exact RK h⟩
theorem Bw {acc:Str}{a:Nat}(c:a<=9)(q:acc.length<=4000):part acc (.int a)=mr (acc++S_ a):=by
 have g:=iH c;unfold S_ at g
 show(if(a:Int).natAbs<2^1000/\acc.length+(Str.ofString (toString (a:Int))).length<=line then mr (acc++Str.ofString (toString (a:Int)))else bad)=_
 have o:(a:Int).natAbs<2^1000:=T2 (Ms c:(a:Int).natAbs<2^4) (TE (by decide) (by decide));rw[Vw ⟨o,by rw[g];unfold line;exact RC q⟩];rfl
def CZ(a t:Nat):Str:=(((Str.ofString "dims [product "++S_ a)++Str.ofString "] do not match the length of object [")++S_ t)++Str.ofString "]"
def tD(C:Tb)(A L c:V):M V:=let t16:M V:=mr .none;let f17:M V:=mq (C.f "recycle_length" [A,L]) λg=>mq (C.f "product" [c]) λx=>mq (cmp .NotEq x g) λF=>bif F then(if(Str.empty).length+(Str.ofString "dims [product ").length<=line then(mq (C.f "product" [c]) λy=>mq (part (Str.empty++Str.ofString "dims [product ") y) λo=>if(o).length+(Str.ofString "] do not match the length of object [").length<=line then(mq (part (o++Str.ofString "] do not match the length of object [") g) λq=>if(q).length+(Str.ofString "]").length<=line then((λh=>.exc (.str (q++Str.ofString "]")) h))else bad)else bad)else bad)else(mr c);let t22:M V:=t16;let f23:M V:=let t18:M V:=t16;let f19:M V:=f17;mq (cmp .Eq L (.int 0)) λG=>bif G then(mq (cmp .Gt A (.int 0)) λS=>bif S then(t18)else(f19))else(f19);mq (cmp .Eq A (.int 1)) λJ=>bif J then(mq (cmp .Gt L (.int 1)) λz=>bif z then(t22)else(f23))else(f23)
def yS(C:Tb)(g o q x:V):M V:=mq (cmp .Is q .none) λc=>bif c then(tD C o g x)else(tD C g o q)
def tE(C:Tb)(x y q o:V):M V:=mq (cmp .Is q .none) λc=>bif c then(mq (cmp .Is o .none) λg=>bif g then(mr .none)else(yS C x y q o))else(yS C x y q o)
def pH(C:Tb)(b:Nat)(y z:V):M V:=mq (C.f "length" [y]) λx=>mq (C.f "length" [z]) λA=>mq (C.f "dim_of" [y]) λc=>mq (C.f "dim_of" [z]) λg=>
  mq (cmp .IsNot c .none) λq=>bif q then(mq (cmp .IsNot g .none) λo=>bif o then(mq (cmp .NotEq c g) λF=>bif F then((λh=>.exc (.str "non-conformable arrays") h))else(mr c))else(tE C x A c g))else(tE C x A c g)
theorem yT(C:Tb)(b:Nat)(c g:V)(h:List O):Bd C "result_dim" [c,g] b h=pH C b c g h:=by kernel_rfl
inductive DR where
 |no
 |bad (msg:Str)
 |dim (ds:List Int)
def ce(a:List Int)(n m:Nat):DR:=if(n=1/\m>1)\/(m=0/\n>0)then .no else if n=aL n m then .dim a else .bad (CZ n (aL n m))
def cf:Option (List Int)->Option (List Int)->Nat->Nat->DR
 |some a,some b,_,_=>if a=b then .dim a else .bad "non-conformable arrays"
 |none,none,_,_=>.no
 |some a,none,n,m=>ce a n m
 |none,some b,n,m=>ce b m n
theorem mV(g:n<=9)(c:m<=9):aL n m<=9:=by unfold aL;split<;>omega
def l6(m:M V)(h:List O)(q:DR):Prop:=match q with
 |.no=>∃h',m h=.ok .none h'/\Gr h h'
 |.bad e=>∃h',m h=.exc (.str e) h'/\Gr h h'
 |.dim ds=>∃r h',m h=.ok (.ref r) h'/\Gr h h'/\h'[r]?=some (.list (bH ds))
theorem wb(Y:h[r]?=some (.list (bH ds)))(hd:∀d∈ds,0<d/\d<=9)(hl:ds.length<=2)(hp:dD ds=n)(J:n<=9)(hm:m<=9)(hw:40<wf):
  l6 (tD (Tj wf (j+1)) (.int n) (.int m) (.ref r)) h (ce ds n m):=by
 have A:¬((n=1/\m>1)\/(m=0/\n>0))->l6 (mq (T ai wf 24 (j+1) "recycle_length" [.int n,.int m]) λL=>mq (T ai wf 24 (j+1) "product" [.ref r]) λU=>mq (cmp .NotEq U L) λX=>bif X then(if(Str.empty).length+(Str.ofString "dims [product ").length<=line then(mq (T ai wf 24 (j+1) "product" [.ref r]) λW=>mq (part (Str.empty++Str.ofString "dims [product ") W) λF=>if(F).length+(Str.ofString "] do not match the length of object [").length<=line then(mq (part (F++Str.ofString "] do not match the length of object [") L) λG=>if(G).length+(Str.ofString "]").length<=line then((λh=>.exc (.str (G++Str.ofString "]")) h))else bad)else bad)else bad)else(mr (.ref r))) h (ce ds n m):=λq=>by
  unfold ce;rw[Vv q];have e1:=v8 (wf:=wf) (j:=j) (n:=n) (m:=m) (h:=h);have S:=EV (j:=j) Y hd hl hw;rw[hp]at S;by_cases z:n=aL n m
  ·rw[Vw z]
   refine⟨r,h, ?_,Keep.refl,Y⟩;refine aM e1<|aM S<|aO (dY ..) ?_;rw[show decide ((n:Int)=(aL n m:Nat))=true from UL (Pz z)];rfl
  ·rw[Vv z]
   refine⟨h, ?_,Keep.refl⟩;have Z:=mV J hm;have k1:(Str.ofString "dims [product ").length=14:=by decide
   have k2:(Str.ofString "] do not match the length of object [").length=37:=by decide
   have k3:(Str.ofString "]").length=1:=by decide
   refine aM e1<|aM S<|aO (dY ..) ?_;rw[show decide ((n:Int)=(aL n m:Nat))=false from UC (LN z)];refine oA UH ?_;rw[Vw (by decide)];refine aM S ?_;rw[show Str.empty++Str.ofString "dims [product "=Str.ofString "dims [product " by decide];refine aO (Bw J (by rw[k1];decide) ..) ?_;rw[Vw (by rw[bB,iH J,k1,k2];decide)];refine aO (Bw Z (by rw[bB,bB,iH J,k1,k2];decide) ..) ?_;rw[Vw (by rw[bB,bB,bB,iH J,iH Z,k1,k2,k3];decide)];rfl
 unfold tD;dsimp only;simp only[bA,cJ,ae];have no:(n=1/\m>1)\/(m=0/\n>0)->l6 (mr V.none) h (ce ds n m):=λq=>by
  unfold ce;rw[Vw q];exact⟨h,rfl,Keep.refl⟩
 have c:¬(n=1/\m>1)->l6 (bif decide ((m:Int)=0)then(bif decide ((n:Int)>0)then mr V.none else _)else _) h (ce ds n m):=λq=>by
  by_cases o:m=0
  ·rw[show decide ((m:Int)=0)=true from UL (Ay o),Vr]
   by_cases g:n>0
   ·rw[show decide ((n:Int)>0)=true from UL (Ax g),Vr];exact no (.inr ⟨o,g⟩)
   ·rw[show decide ((n:Int)>0)=false from UC (Az g),Vm];exact A (λh=>h.elim (λh=>g (Nat.lt_of_lt_of_eq Nat.one_pos h.1.symm)) λh=>g h.2)
  ·rw[show decide ((m:Int)=0)=false from UC (AA o),Vm];exact A (λh=>h.elim q λh=>o h.1)
 by_cases x:n=1
 ·rw[show decide ((n:Int)=1)=true from UL (Ls x),Vr]
  by_cases y:m>1
  ·rw[show decide ((m:Int)>1)=true from UL (U2.mpr y),Vr];exact no (.inl ⟨x,y⟩)
  ·rw[show decide ((m:Int)>1)=false from UC (λh=>y (U2.mp h)),Vm];exact c (λh=>y h.2)
 ·rw[show decide ((n:Int)=1)=false from UC (Lq x),Vm];exact c (Q6 x)
noncomputable abbrev VC:=@Mine.DR.casesOn.{0}
theorem l6.pre {m m':M V}{q:DR}(d:l6 m' h' q)(g:Gr h h')(e:m h=m' h'):l6 m h q:=by
 induction q using VC with
 |no=>refine aa (d) λx o c=>?_;exact⟨x,e.trans o,g.trans c⟩
 |bad msg=>refine aa (d) λx o c=>?_;exact⟨x,e.trans o,g.trans c⟩
 |dim ds=>refine aW (d) λr x o c l=>?_;exact⟨r,x,e.trans o,g.trans c,l⟩
def C0(h:List O):Option (List Int)->V->Prop
 |none,r=>r=.none
 |some ds,r=>∃n,r=.ref n/\h[n]?=some (.list (bH ds))
theorem C0.keep {d:Option (List Int)}{r:V}(a:C0 h d r)(g:Gr h h'):C0 h' d r:=by
 induction d using Vx with
 |none=>exact a
 |some ds=>refine aa (a) λn e l=>?_;exact⟨n,e,g.get _ _ trivial l⟩
theorem kr.to {x:Vc}{d:Option (List Int)}{r:V}(a:kr h h' x.att r)(hd:dZ x d):C0 h' d r:=by
 induction d using Vx with
 |none=>
  have e:x.att "dim"=none:=hd;unfold kr at a;rw[e]at a;exact a
 |some ds=>
  have e:=hd.1;unfold kr at a;rw[e]at a;refine aQ (a) λn e Z l=>⟨n,e,l⟩
theorem pI {Q:Nat->Prop}{x y:Vc}{L F:Option (List Int)}(hu:IsV P h u x)(hv:IsV Q h v y)(z:dZ x L)(A:dZ y F)
  (hx:x.items.length<=9)(hy:y.items.length<=9)(hw:40<wf):l6 (T ai wf 24 (j+3) "result_dim" [u,v]) h (cf L F x.items.length y.items.length):=by
 refine aW (kt (wf:=wf) (j:=j) hu) λq h3 Y Z q3=>aW (kt (wf:=wf) (j:=j) (hv.keep Z.keep)) λG o e4 g4 q4=>?_;have X:=(q3.to z).keep g4;have J:=q4.to A;have ec:T ai wf 24 (j+3) "result_dim" [u,v] h=pH (Tj wf (j+2)) h.length u v h:=by
  rw[aK (by kernel_rfl) (by kernel_rfl),yT]
 have e:T ai wf 24 (j+3) "result_dim" [u,v] h=(mq (cmp .IsNot q .none) λS=>bif S then(mq (cmp .IsNot G .none) λW=>bif W then(mq (cmp .NotEq q G) λU=>bif U then((λh=>.exc (.str "non-conformable arrays") h))else(mr q))else(tE (Tj wf (j+2)) (.int x.items.length) (.int y.items.length) q G))else(tE (Tj wf (j+2)) (.int x.items.length) (.int y.items.length) q G)) o:=by
  rw[ec];refine aM ((dy (j:=j+1) hu))<|aM ((dy (j:=j+1) hv))<|aM Y<|aM e4 ?_;with_reducible rfl
 refine l6.pre ?_ (Z.trans g4) e
 clear e ec Y e4 q3 q4
 induction L using Vx with
 |none=>
  obtain rfl:=X;induction F using Vx with
  |none=>
   obtain rfl:=J;exact⟨o,rfl,Keep.refl⟩
  |some b=>
   refine aa (J) λn c l=>?_;subst c;exact wb l A.2.2.1 A.2.2.2 A.2.1 hy hx hw
 |some a=>
  refine aa (X) λm c l=>?_;subst c;induction F using Vx with
  |none=>
   obtain rfl:=J;exact wb l z.2.2.1 z.2.2.2 z.2.1 hx hy hw
  |some b=>
   refine aa (J) λn c l'=>?_;subst c;have en:=Bu l l';show l6 (mq (cmp .NotEq (.ref m) (.ref n)) λU=>bif U then((λh=>.exc (.str "non-conformable arrays") h))else(mr (.ref m))) o (if a=b then .dim a else .bad "non-conformable arrays");by_cases g:a=b
   ·rw[Vw g]
    refine⟨m,o, ?_,Keep.refl,l⟩;refine aM en ?_;rw[UL g];rfl
   ·rw[Vv g]
    refine⟨o, ?_,Keep.refl⟩;refine aM en ?_;rw[UC g];rfl
noncomputable def eY:V:=.str "longer object length is not a multiple of shorter object length"
noncomputable def eZ:V:=.str "Recycling array of length 1 in array-vector arithmetic is deprecated\n  Use c() or as.vector() instead."
def co(m:M V)(N:Nat)(h:List O)(l:List V)(r:V):Prop:=∃h',m h=.ok r h'/\Keep (λn=>n≠N) h h'/\h'[N]?=some (.list l)
noncomputable def gz(n m:Nat):Bool:=decide (n>0)&&decide (m>0)&& !decide (max n m%min n m=0)
noncomputable def ca(c:Bool)(l:List V)(v:V):List V:=if c then l++ [v]else l
theorem pJ(c:h[N]?=some (.list l))(g:l.length<=4096)(t r:V):co (mq (bQ (.ref N) "append") λZ=>mq (bN (.ref N) "append" [t]) λo=>mr r) N h (l++ [t]) r:=by
 unfold co;rw[ac (cP c (by decide)),ac (dj c (T1 g (by decide)))];exact⟨_,rfl,Keep.set (by simp),bg c⟩
theorem rI {wf j n m N:Nat}(o:h[N]?=some (.list l))(x:l.length<=4096):
  co (T ai wf 24 (j+1) "note_recycling" [.int n,.int m,.ref N]) N h (ca (gz n m) l eY) .none:=by
 have e:T ai wf 24 (j+1) "note_recycling" [.int n,.int m,.ref N] h=gO (Tj wf j) h.length (.int n) (.int m) (.ref N) h:=by
  rw[aK (by kernel_rfl) (by kernel_rfl),rq]
 unfold co;rw[e];unfold gO;simp only[iq,cJ,ae,vg,Bt];have t:=pJ o x eY .none;have f:co (mr V.none) N h l .none:=⟨h,rfl,Keep.refl,o⟩;unfold gz ca;by_cases g:n>0
 ·rw[show decide ((n:Int)>0)=true from UL (Ax g),Vr,UL g]
  by_cases c:m>0
  ·rw[show decide ((m:Int)>0)=true from UL (Ax c),Vr,UL c]
   rw[aD (Mh g c),ae,SU _ Pn,dY,ae];have q:decide (((max n m:Nat):Int)%((min n m:Nat):Int)=0)=decide (max n m%min n m=0):=by
    apply Ur.mpr;rw[<-Int.natCast_emod];exact PC
   rw[q];cases decide (max n m%min n m=0)
   ·exact t
   ·exact f
  ·rw[show decide ((m:Int)>0)=false from UC (Az c),Vm,UC c];exact f
 ·rw[show decide ((n:Int)>0)=false from UC (Az g),Vm,UC g];exact f
def tF(C:Tb)(u v:V)(j:V->M V):M V:=mq (C.f "dim_of" [u]) λq=>mq (cmp .IsNot q .none) λg=>mq (truth (.bool g)) λG=>bif G then(mq (C.f "dim_of" [v]) λF=>mq (cmp .Is F .none) λc=>mq (truth (.bool c)) λJ=>bif J then(mq (C.f "length" [u]) λz=>mq (cmp .Eq z (.int 1)) λo=>mq (truth (.bool o)) λA=>bif A then(mq (C.f "length" [v]) λy=>mq (cmp .Gt y (.int 1)) λx=>j (.bool x))else(j (.bool o)))else(j (.bool c)))else(j (.bool g))
noncomputable def gA(g c:Option (List Int))(n m:Nat):Bool:=g.isSome&&c.isNone&&decide (n=1)&&decide (m>1)
theorem yU {Q:Nat->Prop}{x y:Vc}{z A:Option (List Int)}(L:IsV P h u x)(U:IsV Q h v y)(X:dZ x z)(h2:dZ y A)(k:V->M V):
  ∃h',tF (Tj wf (j+2)) u v k h=k (.bool (gA z A x.items.length y.items.length)) h'/\Gr h h':=by
 refine bO (tF (Tj wf (j+2)) u v k h) λgQ F=>?_;refine aW (kt (wf:=wf) (j:=j) L) λr3 Y W g q3=>aW (kt (wf:=wf) (j:=j) (U.keep g.keep)) λr4 J e4 q q4=>?_;have G:=q3.to X;have S:=q4.to h2;have lu:=dy (wf:=wf) (j:=j+1) ((L.keep g.keep).keep q.keep);have lv:=dy (wf:=wf) (j:=j+1) ((U.keep g.keep).keep q.keep);refine az W ?_;induction z using Vx with
 |none=>
  obtain rfl:=G;refine F _<|⟨Y,rfl,g⟩
 |some a=>
  refine aa (G) λm c Z=>?_;subst c;refine bC (fU ..)<|bC (aT ..)<|yE<|az e4 ?_;induction A using Vx with
  |some b=>
   refine aa (S) λn c Z=>?_;subst c;refine F _<|⟨J,rfl,g.trans q⟩
  |none=>
   obtain rfl:=S;refine bC (cu ..)<|bC (aT ..)<|yE<|az lu<|bC (bA ..)<|bC (aT ..)<|F _<|⟨J, ?_,g.trans q⟩;unfold gA;by_cases o:x.items.length=1
   ·refine oA (show decide ((x.items.length:Int)=1)=true from UL (Ls o))<|aM lv<|aO (cJ ..) ?_;rw[UL o]
    have:decide ((y.items.length:Int)>1)=decide (y.items.length>1):=Ur.mpr Qu;rw[this];rfl
   ·rw[show decide ((x.items.length:Int)=1)=false from UC (Lq o),Vm,UC o];rfl
def fB(C:Tb)(b:Nat)(q x c:V):M V:=tF C q x λF=>tF C x q λz=>mq (truth F) λg=>bif g then(mq (bQ c "append") λZ=>mq (ah .Add (.str "Recycling array of length 1 in array-vector arithmetic is deprecated\n") (.str "  Use c() or as.vector() instead.")) λo=>mq (bN c "append" [o]) λy=>mr .none)else(mq (truth z) λA=>bif A then(mq (bQ c "append") λZ=>mq (ah .Add (.str "Recycling array of length 1 in array-vector arithmetic is deprecated\n") (.str "  Use c() or as.vector() instead.")) λo=>mq (bN c "append" [o]) λy=>mr .none)else(mr .none))
theorem oO(C:Tb)(b:Nat)(g o c:V)(h:List O):Bd C "note_array_of_one" [g,o,c] b h=fB C b g o c h:=by kernel_rfl
noncomputable def jh(g c:Option (List Int))(n m:Nat):Bool:=gA g c n m||gA c g m n
theorem G4:ah .Add (.str "Recycling array of length 1 in array-vector arithmetic is deprecated\n") (.str "  Use c() or as.vector() instead.")=mr eZ:=by
 funext h
 have e:ah .Add (.str "Recycling array of length 1 in array-vector arithmetic is deprecated\n") (.str "  Use c() or as.vector() instead.") h=if(Str.ofString "Recycling array of length 1 in array-vector arithmetic is deprecated\n").length+(Str.ofString "  Use c() or as.vector() instead.").length<=line then .ok (.str (Str.ofString "Recycling array of length 1 in array-vector arithmetic is deprecated\n"++Str.ofString "  Use c() or as.vector() instead.")) h else .bad:=rfl;rw[e,Vw (by decide)];have c:(Str.ofString "Recycling array of length 1 in array-vector arithmetic is deprecated\n"++Str.ofString "  Use c() or as.vector() instead.")=Str.ofString "Recycling array of length 1 in array-vector arithmetic is deprecated\n  Use c() or as.vector() instead.":=by decide
 rw[c];rfl
theorem C1 {Q:Nat->Prop}{x y:Vc}{q z:Option (List Int)}(hu:IsV P h u x)(hv:IsV Q h v y)(U:dZ x q)(X:dZ y z)
  (hN:h[N]?=some (.list l))(hl:l.length<=4096):co (T ai wf 24 (j+3) "note_array_of_one" [u,v,.ref N]) N h (ca (jh q z x.items.length y.items.length) l eZ) .none:=by
 have e:T ai wf 24 (j+3) "note_array_of_one" [u,v,.ref N] h=fB (Tj wf (j+2)) h.length u v (.ref N) h:=by
  rw[aK (by kernel_rfl) (by kernel_rfl),oO]
 unfold fB at e;rw[G4]at e;simp only[ae]at e;refine aB λgP gH=>aa (yU (wf:=wf) (j:=j) hu hv U X (λx2=>tF (Tj wf (j+2)) v u λJ=>mq (truth x2) λc=>bif c then(mq (bQ (.ref N) "append") λZ=>mq (bN (.ref N) "append" [eZ]) λG=>mr .none)else(mq (truth J) λA=>bif A then(mq (bQ (.ref N) "append") λZ=>mq (bN (.ref N) "append" [eZ]) λG=>mr .none)else(mr .none)))) λh3 e3 F=>aa (yU (wf:=wf) (j:=j) (hv.keep F.keep) (hu.keep F.keep) X U (λJ=>mq (truth (.bool (gA q z x.items.length y.items.length))) λc=>bif c then(mq (bQ (.ref N) "append") λZ=>mq (bN (.ref N) "append" [eZ]) λG=>mr .none)else(mq (truth J) λA=>bif A then(mq (bQ (.ref N) "append") λZ=>mq (bN (.ref N) "append" [eZ]) λG=>mr .none)else(mr .none)))) λS e4 g4=>?_;have g:Gr h S:=F.trans g4;have o:=g.get _ _ trivial hN;refine aQ (pJ o hl eZ .none) λW L k5 Y=>gH ?_;unfold co;rw[e,e3,e4];unfold jh ca;rw[aT,ae,aT,ae];induction gA q z x.items.length y.items.length using VA with
 |true=>exact⟨W,L,(g.keep).trans k5,Y⟩
 |false=>
  induction gA z q y.items.length x.items.length using VA with
  |true=>exact⟨W,L,(g.keep).trans k5,Y⟩
  |false=>exact⟨S,rfl,g.keep,o⟩
theorem pK {c:Bool}{l:List V}{v:V}:(ca c l v).length<=l.length+1:=by
 unfold ca;split<;>simp
def bE(g c:Option (List Int))(n m:Nat)(l:List V):List V:=ca (gz n m) (ca (jh g c n m) l eZ) eY
theorem G5 {Q:Nat->Prop}{x y:Vc}{q z:Option (List Int)}(hu:IsV P h u x)(hv:IsV Q h v y)(W:dZ x q)(Y:dZ y z)
  (X:∀n,P n->n≠N)(hQ:∀n,Q n->n≠N)(hN:h[N]?=some (.list l))(hl:l.length<=4000)(hx:x.items.length<=9)(hy:y.items.length<=9)(hw:40<wf):
  match cf q z x.items.length y.items.length with
  |.bad e=>∃h',T ai wf 24 (j+4) "common_length" [u,v,.ref N] h=.exc (.str e) h'/\Gr h h'
  |_=>co (T ai wf 24 (j+4) "common_length" [u,v,.ref N]) N h (bE q z x.items.length y.items.length l) (.int (aL x.items.length y.items.length)):=by
 have e:T ai wf 24 (j+4) "common_length" [u,v,.ref N] h=iB (Tj wf (j+3)) h.length u v (.ref N) h:=by
  rw[aK (by kernel_rfl) (by kernel_rfl),sH]
 have rd:=pI (j:=j) hu hv W Y hx hy hw;have go:∀(r:V) (h':List O),T ai wf 24 (j+3) "result_dim" [u,v] h=.ok r h'->Gr h h'->co (T ai wf 24 (j+4) "common_length" [u,v,.ref N]) N h (bE q z x.items.length y.items.length l) (.int (aL x.items.length y.items.length)):=λr h' o g=>by
  unfold co;rw[e];unfold iB;rw[ac o];have A:=hu.keep (g.keep (P:=P));have J:=hv.keep (g.keep (P:=Q));refine aQ (C1 (wf:=wf) (j:=j) A J W Y (g.get _ _ trivial hN) (Dy hl)) λh2' U k2 n2=>?_;rw[ac U];have G:=A.keep (k2.mono λn Z p=>X n p);have F:=J.keep (k2.mono λn Z p=>hQ n p);rw[ac (dy (j:=j+2) G),ac (dy (j:=j+2) F)];refine aQ (rI (wf:=wf) (j:=j+2) (n:=x.items.length) (m:=y.items.length) n2 (by have:=pK (c:=jh q z x.items.length y.items.length) (l:=l) (v:=eZ);exact tt this (tt (Uo hl) (by decide)))) λh3 e3 k3 n3=>?_;rw[ac e3];have S:=G.keep (k3.mono λn Z p=>X n p);have L:=F.keep (k3.mono λn Z p=>hQ n p);rw[ac (dy (j:=j+2) S),ac (dy (j:=j+2) L),ac (v8 (j:=j+2))];exact⟨h3,rfl,(g.keep.trans k2).trans k3,n3⟩
 induction hd:cf q z x.items.length y.items.length using VC with
 |bad msg=>
  rw[hd]at rd;refine aa (rd) λh' o g=>⟨h', ?_,g⟩;rw[e];exact gY o
 |no=>rw[hd]at rd;obtain⟨h',o,g⟩:=rd;exact go _ _ o g
 |dim ds=>rw[hd]at rd;obtain⟨r,h',o,g,_⟩:=rd;exact go _ _ o g
def iI(y x c g shape:V):M V:=iq .Gt y (.int 0) (iq .Gt x (.int 0) (mq (builtin "min" [y,x]) λo=>mq (ah .Mod g o) λq=>iq .NotEq q (.int 0) (mq (bQ c "append") λZ=>mq (bN c "append" [eY]) λz=>mr (.tup [.str "",shape,g])) (mr (.tup [.str "",shape,g]))) (mr (.tup [.str "",shape,g]))) (mr (.tup [.str "",shape,g]))
def kw(G F c g J a:V):M V:=iq .NotEq a g (mq (builtin "str" [a]) λy=>mq (ah .Add (.str "dims [product ") y) λA=>mq (ah .Add A (.str "] do not match the length of object [")) λx=>mq (builtin "str" [g]) λq=>mq (ah .Add x q) λo=>mq (ah .Add o (.str "]")) λz=>mr (.tup [z,.none,g])) (iI G F c g J)
def tG(q g c o x a b:V):M V:=iq .Eq b (.int 0) (iq .Gt a (.int 0) (iI q g c o .none) (kw q g c o x a)) (kw q g c o x a)
def lE(A x c z F o:V):M V:=mq (dS o) λg=>
 mq (cmp .Eq g.1 (.int 1)) λq=>bif q then(mq (cmp .Gt g.2 (.int 1)) λy=>bif y then(mq (bQ c "append") λZ=>mq (bN c "append" [eZ]) λG=>iI A x c z .none)else(tG A x c z F g.1 g.2))else(tG A x c z F g.1 g.2)
def lF(o g c q J L x:V):M V:=
 let f62:M V:=mq (cmp .IsNot x .none) λF=>bif F then(mq (cmp .IsNot J .none) λA=>bif A then(lE o g c q x (.tup [o,g]))else(lE o g c q x (.tup [g,o])))else(iI o g c q x)
 mq (cmp .IsNot J .none) λy=>bif y then(mq (cmp .IsNot L .none) λG=>bif G then(mq (cmp .NotEq J L) λz=>bif z then(mr (.tup [(.str "non-conformable arrays"),.none,q]))else iI o g c q x)else f62)else f62
def lG(C:Tb)(z A y q c x:V):M V:=mq (C.f "_law_dims" [z]) λg=>mq (C.f "_law_dims" [A]) λo=>iq .IsNot g .none (lF y q c x g o g) (lF y q c x g o o)
def l7(C:Tb)(b:Nat)(q x o g c:V):M V:=iq .Eq o (.int 0) (lG C q x o g c (.int 0)) (iq .Eq g (.int 0) (lG C q x o g c (.int 0)) (mq (builtin "max" [o,g]) λy=>lG C q x o g c y))
theorem Af(C:Tb)(b:Nat)(g o x q c:V)(h:List O):Bd C "_law_shape" [g,o,x,q,c] b h=l7 C b g o x q c h:=by kernel_rfl
theorem jo {n m N:Nat}(shape:V)(o:h[N]?=some (.list l))(y:l.length<=4096):co (iI (.int n) (.int m) (.ref N) (.int (aL n m)) shape) N h (ca (gz n m) l eY) (.tup [.str "",shape,.int (aL n m)]):=by
 have t:=pJ o y eY (.tup [.str "",shape,.int (aL n m)]);have f:co (mr (V.tup [.str "",shape,.int (aL n m)])) N h l (.tup [.str "",shape,.int (aL n m)]):=⟨h,rfl,Keep.refl,o⟩;unfold iI;simp only[iq,cJ,ae,Bt];unfold gz ca;by_cases g:n>0
 ·rw[show decide ((n:Int)>0)=true from UL (Ax g),Vr,UL g]
  by_cases c:m>0
  ·rw[show decide ((m:Int)>0)=true from UL (Ax c),Vr,UL c]
   rw[aD (Mh g c),ae,SU _ Pn,dY,ae];have x:aL n m=max n m:=by unfold aL;rw[Vv (λh=>h.elim (U9 g) (U9 c))]
   have q:decide (((aL n m:Nat):Int)%((min n m:Nat):Int)=0)=decide (max n m%min n m=0):=by
    rw[x];apply Ur.mpr;rw[<-Int.natCast_emod];exact PC
   rw[q];cases decide (max n m%min n m=0)
   ·exact t
   ·exact f
  ·rw[show decide ((m:Int)>0)=false from UC (Az c),Vm,UC c];exact f
 ·rw[show decide ((n:Int)>0)=false from UC (Az g),Vm,UC g];exact f
theorem co.pre {m m':M V}{r:V}(a:co m' N h' l r)(k:Keep (λi=>i≠N) h h')(e:m h=m' h'):co m N h l r:=by
 refine aQ (a) λg c k2 o=>⟨g,e.trans c,k.trans k2,o⟩
theorem Np {a:Nat}:builtin "str" [.int a] h=if(a:Int).natAbs<2^1000 then .ok (.str (S_ a)) h else .bad:=by kernel_rfl
theorem wc {a:Nat}(c:a<=9):builtin "str" [.int a]=mr (.str (S_ a)):=by
 funext h
 rw[Np,Vw (T2 (Ms c:(a:Int).natAbs<2^4) (TE (by decide) (by decide)))];rfl
theorem add_str {a b:Str}(h:a.length+b.length<=line):ah .Add (.str a) (.str b)=mr (.str (a++b)):=by
 funext q;exact qc (UL h)
def yV(f:M V)(N:Nat)(h:List O)(n m:Nat)(l:List V)(r:V)(q:DR):Prop:=match q with
 |.bad e=>∃h',f h=.ok (.tup [.str e,.none,.int (aL n m)]) h'/\Keep (λi=>i≠N) h h'
 |.no=>co f N h l (.tup [.str "",.none,.int (aL n m)])
 |.dim _=>co f N h l (.tup [.str "",r,.int (aL n m)])
theorem EW {a:Nat}{r:V}(x:h[N]?=some (.list l))(q:l.length<=4000)(c:a<=9)(o:aL n m<=9):
  yV (kw (.int n) (.int m) (.ref N) (.int (aL n m)) r (.int a)) N h n m (ca (gz n m) l eY) r (if a=aL n m then .dim ds else .bad (CZ a (aL n m))):=by
 by_cases g:a=aL n m
 ·rw[Vw g]
  have e:kw (.int n) (.int m) (.ref N) (.int (aL n m)) r (.int a)=iI (.int n) (.int m) (.ref N) (.int (aL n m)) r:=by
   unfold kw;unfold iq;rw[dY,ae,show decide ((a:Int)=(aL n m:Nat))=true from UL (Pz g)];rfl
  show co _ N h _ _;rw[e];exact jo r x (Dy q)
 ·rw[Vv g]
  refine⟨h, ?_,Keep.refl⟩;unfold kw;have k1:(Str.ofString "dims [product ").length=14:=by decide
  have k2:(Str.ofString "] do not match the length of object [").length=37:=by decide
  have k3:(Str.ofString "]").length=1:=by decide
  refine aO (dY ..) ?_;rw[show decide ((a:Int)=(aL n m:Nat))=false from UC (LN g)];refine oA UH ?_;rw[wc c,ae,add_str (by rw[k1,iH c];decide),ae,add_str (by rw[bB,k1,k2,iH c];decide),ae,wc o,ae,
   add_str (by rw[bB,bB,k1,k2,iH c,iH o];decide),ae,add_str (by rw[bB,bB,bB,k1,k2,k3,iH c,iH o];decide),ae]
  rfl
theorem pM {n m N a b:Nat}{r:V}{ds:List Int}(G:h[N]?=some (.list l))(L:l.length<=4000)(X:a<=9)(W:aL n m<=9)(S U:Option (List Int))
  (A:jh S U n m=(decide (a=1)&&decide (b>1)))(F:aL a b=aL n m):
  yV (lE (.int n) (.int m) (.ref N) (.int (aL n m)) r (.tup [.int a,.int b])) N h n m (bE S U n m l) r (ce ds a b):=by
 unfold lE;rw[show dS (.tup [.int a,.int b])=mr (V.int a,V.int b) from rfl,ae];dsimp only;simp only[bA,cJ,dY,ae];unfold bE;rw[A];by_cases g:a=1/\b>1
 ·have e:ce ds a b=.no:=Vw (.inl g)
  rw[e];rw[show decide ((a:Int)=1)=true from UL (QT g),Vr,show decide ((b:Int)>1)=true from UL (U2.mpr g.2),Vr];rw[UL g.1,UL g.2];have nn:=jo (n:=n) (m:=m) .none (bg (o:=.list (l++ [eZ])) G) (by simp;exact QC L);refine co.pre nn (Keep.set (by simp))<|aM ((cP G (by decide)))<|aM ((dj G (T1 L (by decide)))) ?_;with_reducible rfl
 have nn:(decide (a=1)&&decide (b>1))=false:=by
  by_cases q:a=1
  ·rw[UC (λY=>g ⟨q,Y⟩)];simp
  ·rw[UC q];rfl
 rw[nn];have y:¬(b=0/\a>0)->yV (kw (.int n) (.int m) (.ref N) (.int (aL n m)) r (.int a)) N h n m (ca (gz n m) l eY) r (ce ds a b):=λq=>by
  unfold ce;rw[Vv (λh=>h.elim g q),F];exact EW G L X W
 have z:yV (tG (.int n) (.int m) (.ref N) (.int (aL n m)) r (.int a) (.int b)) N h n m (ca (gz n m) l eY) r (ce ds a b):=by
  unfold tG;simp only[iq,bA,cJ,ae];by_cases J:b=0
  ·rw[show decide ((b:Int)=0)=true from UL (Ay J),Vr]
   by_cases c:a>0
   ·rw[show decide ((a:Int)>0)=true from UL (Ax c),Vr]
    rw[show ce ds a b=.no from Vw (.inr ⟨J,c⟩)];exact jo .none G (Dy L)
   ·rw[show decide ((a:Int)>0)=false from UC (Az c),Vm];exact y (λh=>c h.2)
  ·rw[show decide ((b:Int)=0)=false from UC (AA J),Vm];exact y (RG J)
 show yV _ N h n m (ca (gz n m) l eY) r (ce ds a b);by_cases x:a=1
 ·rw[show decide ((a:Int)=1)=true from UL (Ls x),Vr]
  rw[show decide ((b:Int)>1)=false from UC (λh=>g ⟨x,U2.mp h⟩),Vm];exact z
 ·rw[show decide ((a:Int)=1)=false from UC (Lq x),Vm];exact z
theorem EX(n m:Nat):aL n m=aL m n:=by
 unfold aL;by_cases h:n=0\/m=0
 ·rw[Vw h,Vw (RJ h)]
 ·rw[Vv h,Vv (P7 h)];exact Nat.max_comm _ _
theorem Ag {Q:Nat->Prop}{x y:Vc}{d1 d2:Option (List Int)}(hu:IsV P h u x)(hv:IsV Q h v y)(h1:dZ x d1)(h2:dZ y d2)
  (hN:h[N]?=some (.list l))(hl:l.length<=4000)(hx:x.items.length<=9)(hy:y.items.length<=9):
  match cf d1 d2 x.items.length y.items.length with
  |.bad e=>∃h',T ai wf 24 (j+2) "_law_shape" [u,v,.int x.items.length,.int y.items.length,.ref N] h=.ok (.tup [.str e,.none,.int (aL x.items.length y.items.length)]) h'/\Keep (λi=>i≠N) h h'
  |.no=>co (T ai wf 24 (j+2) "_law_shape" [u,v,.int x.items.length,.int y.items.length,.ref N]) N h (bE d1 d2 x.items.length y.items.length l) (.tup [.str "",.none,.int (aL x.items.length y.items.length)])
  |.dim ds=>∃r h',T ai wf 24 (j+2) "_law_shape" [u,v,.int x.items.length,.int y.items.length,.ref N] h=.ok (.tup [.str "",.ref r,.int (aL x.items.length y.items.length)]) h'/\Keep (λi=>i≠N) h h'/\
    h'[N]?=some (.list (bE d1 d2 x.items.length y.items.length l))/\r≠N/\h'[r]?=some (.list (bH ds)):=by
 have e:T ai wf 24 (j+2) "_law_shape" [u,v,.int x.items.length,.int y.items.length,.ref N] h=l7 (Tj wf (j+1)) h.length u v (.int x.items.length) (.int y.items.length) (.ref N) h:=by
  rw[aK (by kernel_rfl) (by kernel_rfl),Af]
 have e2:T ai wf 24 (j+2) "_law_shape" [u,v,.int x.items.length,.int y.items.length,.ref N] h=lG (Tj wf (j+1)) u v (.int x.items.length) (.int y.items.length) (.ref N) (.int (aL x.items.length y.items.length)) h:=by
  rw[e];unfold l7;simp only[iq,bA,ae,vg];unfold aL;by_cases o:x.items.length=0
  ·rw[Vw (.inl o),show decide ((x.items.length:Int)=0)=true from UL (Ay o)];rfl
  ·rw[show decide ((x.items.length:Int)=0)=false from UC (AA o)];refine km ?_
   by_cases hm:y.items.length=0
   ·rw[Vw (.inr hm),show decide ((y.items.length:Int)=0)=true from UL (Ay hm)];rfl
   ·rw[show decide ((y.items.length:Int)=0)=false from UC (AA hm),Vv (Ma o hm)];rfl
 refine aW (tC (wf:=wf) (j:=j) hu) λr3 h3 e3 g3 q3=>aW (tC (wf:=wf) (j:=j) (hv.keep g3.keep)) λr4 h4 e4 g4 q4=>?_;have l3:=(q3.to h1).keep g4;have l4:=q4.to h2;have g:Gr h h4:=g3.trans g4;have U:=g.get _ _ trivial hN;have J:T ai wf 24 (j+2) "_law_shape" [u,v,.int x.items.length,.int y.items.length,.ref N] h=(mq (cmp .IsNot r3 .none) λr65=>bif r65 then(lF (.int x.items.length) (.int y.items.length) (.ref N) (.int (aL x.items.length y.items.length)) r3 r4 r3)else(lF (.int x.items.length) (.int y.items.length) (.ref N) (.int (aL x.items.length y.items.length)) r3 r4 r4)) h4:=by
  rw[e2];refine aM e3<|aM e4 ?_;with_reducible rfl
 have hr:=mV hx hy;have W:Keep (λi=>i≠N) h h4:=g.keep;induction d1 using Vx with
 |none=>
  obtain rfl:=l3;induction d2 using Vx with
  |none=>
   obtain rfl:=l4;have fc:=jo (n:=x.items.length) (m:=y.items.length) .none U (Dy hl);exact co.pre fc W J
  |some b=>
   have q:=q4;unfold kr at q;rw[h2.1]at q;refine aQ (q) λn F o X=>?_;subst F;have hle:=g3.len;have c:=aA hN;have fc:=pM (n:=x.items.length) (m:=y.items.length) (r:=.ref n) (ds:=b) (a:=y.items.length) (b:=x.items.length) U hl hy hr none (some b) (by unfold jh gA;simp) (EX _ _);show match ce b y.items.length x.items.length with|.bad e=>_|.no=>_|.dim ds=>_
   induction hq:ce b y.items.length x.items.length using VC with
   |bad msg=>rw[hq]at fc;obtain⟨h',G,L⟩:=fc;exact⟨h',J.trans G,W.trans L⟩
   |no=>rw[hq]at fc;exact co.pre fc W J
   |dim ds=>
    rw[hq]at fc;refine aQ (co.pre fc W J) λh' G L n'=>aQ (fc) λz e'' k'' Z=>?_;have hh:z=h':=by have:=(J.trans e'').symm.trans G;cases this;rfl
    subst hh;refine aV n z ⟨G,L,n',by exact LE o hle c, ?_⟩;have Y:ds=b:=by
     unfold ce at hq
     split at hq
     ·cases hq
     ·split at hq
      ·cases hq;rfl
      ·cases hq
    rw[Y];exact k''.get _ _ (LE o hle c) X
 |some a=>
  have q:=q3;unfold kr at q;rw[h1.1]at q;refine aQ (q) λn F o l3'=>?_;subst F;have c:=aA hN;have A:=g4.get _ _ trivial l3';induction d2 using Vx with
  |none=>
   obtain rfl:=l4;have fc:=pM (n:=x.items.length) (m:=y.items.length) (r:=.ref n) (ds:=a) (a:=x.items.length) (b:=y.items.length) U hl hx hr (some a) none (by unfold jh gA;simp) rfl;show match ce a x.items.length y.items.length with|.bad e=>_|.no=>_|.dim ds=>_
   induction hq:ce a x.items.length y.items.length using VC with
   |bad msg=>rw[hq]at fc;obtain⟨h',G,L⟩:=fc;exact⟨h',J.trans G,W.trans L⟩
   |no=>rw[hq]at fc;exact co.pre fc W J
   |dim ds=>
    rw[hq]at fc;refine aQ (co.pre fc W J) λh' G L n'=>aQ (fc) λz e'' k'' Z=>?_;have hh:z=h':=by have:=(J.trans e'').symm.trans G;cases this;rfl
    subst hh;refine aV n z ⟨G,L,n',by exact qC o c, ?_⟩;have Y:ds=a:=by
     unfold ce at hq
     split at hq
     ·cases hq
     ·split at hq
      ·cases hq;rfl
      ·cases hq
    rw[Y];exact k''.get _ _ (qC o c) A
  |some b=>
   refine aa (l4) λn4 F X=>?_;subst F;have en:=Bu A X;have e6:T ai wf 24 (j+2) "_law_shape" [u,v,.int x.items.length,.int y.items.length,.ref N] h=(mq (cmp .NotEq (.ref n) (.ref n4)) λr17=>bif r17 then(mr (.tup [(.str "non-conformable arrays"),.none,.int (aL x.items.length y.items.length)]))else iI (.int x.items.length) (.int y.items.length) (.ref N) (.int (aL x.items.length y.items.length)) (.ref n)) h4:=J;rw[ac en]at e6;show match (if a=b then DR.dim a else .bad "non-conformable arrays")with|.bad e=>_|.no=>_|.dim ds=>_
   by_cases S:a=b
   ·rw[Vw S]
    rw[UL S]at e6;have fc:=jo (n:=x.items.length) (m:=y.items.length) (.ref n) U (Dy hl);refine aQ (fc) λh' G L n'=>aV n h' ⟨e6.trans G,W.trans L, ?_,by exact qC o c,L.get _ _ (qC o c) A⟩;unfold bE jh gA;exact n'
   ·rw[Vv S]
    rw[UC S]at e6;exact⟨h4,e6,W⟩
def Lo:Q->Prop
 |none=>True
 |some (a,b)=>0<=b/\((a=0/\b=0)\/Nat.gcd a.natAbs b.natAbs=1)
theorem Lo.up {q:Q}(h:Lo q):Up q:=by rcases q with _|⟨a,b⟩<;>first|trivial|exact h.1
theorem Lo.end_ {q:Q}(h:Lo q):PO q:=by
 rcases q with _|⟨a,b⟩
 ·trivial
 ·intro c
  rcases h.2 with q|q
  ·exact QS q
  ·subst c;simp at q;exact Qi q
theorem EY {n:Int}(hd:0<d):Lo (eV n d):=by
 unfold eV;have o:0<Nat.gcd n.natAbs d.natAbs:=Tc _ (DC hd);refine am (Nat.gcd_dvd_left n.natAbs d.natAbs) λa c=>am (Nat.gcd_dvd_right n.natAbs d.natAbs) λb y=>?_;generalize F:Nat.gcd n.natAbs d.natAbs=g at*;have G:(n/(g:Int)).natAbs=a:=by
  have:n=(g:Int)*(n.sign*a):=by
   rw[<-UM,UZ (g:Int) n.sign,UM];have:=Int.sign_mul_natAbs n;rw[c]at this;rw[Int.natCast_mul]at this;exact this.symm
  rw[this,S9 _ (vu o),UJ];by_cases z:n=0
  ·subst z
   have:a=0:=by
    have:g*a=0:=by simpa using c.symm
    rcases Nat.mul_eq_zero.mp this with q|q<;>omega
   rw[this];simp
  ·rw[Int.natAbs_sign_of_ne_zero z];simp
 have x:d/(g:Int)=b:=by
  have:d=(g:Int)*b:=by rw[<-Int.natCast_mul,<-y];exact RL hd
  rw[this,S9 _ (vu o)]
 refine⟨by rw[x];exact qE,.inr ?_⟩;rw[G,x];have:Nat.gcd (g*a) (g*b)=g:=by rw[<-c,<-y];exact F
 rw[Nat.gcd_mul_left]at this;have A:g*Nat.gcd a b=g*1:=by rw[this];simp
 have:=Nat.eq_of_mul_eq_mul_left o A;simpa using this
def c7(q:Q):Prop:=Lo q/\Sm 40 q
theorem Nq(n d:Int):s5 n d=vq (eV n d):=rfl
theorem iY {i:Int}(o:h[n]?=some (.list l))(h0:0<=i)(g:l[i.toNat]?=some v)(c:i<2^62):ak (.ref n) (.int i) h=.ok v h:=by
 have:=pu (i:=i.toNat) o g (Qr c);rw[TI h0]at this;exact this
theorem c8.gr(a:c8 r h)(g:Gr h h'):c8 r h':=c8.keep a g trivial
theorem yW(h0:0<a)(h:a<100):a.natAbs<2^1000:=T2 (QU h0 h:a.natAbs<2^7) (TE (by decide) (by decide))
theorem gB(h:a.natAbs<2^60):a.natAbs<2^2000:=T2 h (Bv 60 (by decide))
theorem yX(hr:c8 r h)(hw:2000<wf):∃q h',T ai wf 24 (j+2) "_law_double" [.ref r] h=.ok (vq q) h'/\c7 q/\c8 r h'/\Keep (λn=>n≠r) h h':=by
 refine bO (T ai wf 24 (j+2) "_law_double" [.ref r] h) λgQ gR=>?_;rw[aK (by kernel_rfl) (by kernel_rfl),ym];refine bW (bh (j:=j) hr) λk1 W e1 Z Z r1 p1=>az e1<|bC (aD (by decide) ..)<|af (cM k1 (k:=9) (by decide)) λm0 m9=>?_;generalize k1.fmod 9=kind at m0 m9 ⊢;by_cases y:kind<4
 ·refine EK (UL y)<|az ((aH _ _)) ?_
  have ga:Gr W (W++ [O.list [.tup [.int 1,.int 0],.tup [.int (-1),.int 0]]]):=Keep.app _;refine bW (bh (j:=j) (r1.gr ga)) λk2 J e2 Z Z r2 S=>az e2<|bC (aD (by decide) ..)<|af (cM k2 (k:=2) (by decide)) λz n2=>?_;generalize k2.fmod 2=c at z n2 ⊢;have hlt:r<W.length:=by obtain⟨l,e,_⟩:=r1;exact aA e
  have g2:=S.get _ _ (rR hlt) (ay W (O.list [.tup [.int 1,.int 0],.tup [.int (-1),.int 0]]));obtain⟨g,L,hg⟩:∃q:Q,[V.tup [.int 1,.int 0],V.tup [.int (-1),.int 0]][c.toNat]?=some (vq q)/\c7 q:=by
   rcases(show c=0\/c=1 from R5 z n2)with rfl|rfl
   ·exact⟨some (1,0),rfl,⟨by decide,.inr (by decide)⟩,by decide,by decide⟩
   ·exact⟨some (-1,0),rfl,⟨by decide,.inr (by decide)⟩,by decide,by decide⟩
  refine az ((iY g2 z L (Rv n2)))<|az ((aH _ _)) ?_;have g3:=ay J (O.list [.tup [.int 0,.int 1],.none,.tup [.int 0,.int 0],vq g]);obtain⟨q,hq,hgq⟩:∃q:Q,[V.tup [.int 0,.int 1],.none,V.tup [.int 0,.int 0],vq g][kind.toNat]?=some (vq q)/\c7 q:=by
   rcases(show kind=0\/kind=1\/kind=2\/kind=3 from Mt m0 y)with rfl|rfl|rfl|rfl
   ·exact⟨some (0,1),rfl,⟨by decide,.inr (by decide)⟩,by decide,by decide⟩
   ·exact⟨none,rfl,trivial,trivial⟩
   ·exact⟨some (0,0),rfl,⟨by decide,.inl ⟨rfl,rfl⟩⟩,by decide,by decide⟩
   ·exact⟨g,rfl,hg⟩
  refine az ((iY g3 m0 hq (PD y))) ?_;have G:Gr J (J++ [O.list [.tup [.int 0,.int 1],.none,.tup [.int 0,.int 0],vq g]]):=Keep.app _;refine gR _<|aV q _ ⟨rfl,hgq,r2.gr G,((p1.trans ga.keep).trans S).trans G.keep⟩
 refine Bi (UC y)<|bW (bh (j:=j) r1) λk2 J e2 Z Z r2 S=>az e2<|bC (aD (by decide) ..)<|bC (ch ..)<|af (cM k2 (k:=40) (by decide)) λz x=>?_;generalize o:k2.fmod 40-15=nn;have last:∀(n:Int) (F:List O),n.natAbs<2^40->c8 r F->Keep (λn=>n≠r) h F-> ∃q h',(mq (cmp .Lt (.int kind) (.int 6)) λr20=>bif r20 then(mq (T ai wf 24 (j+1) "_law_reduced" [.int n,.int 1]) λA=>mr A)else(mq (T ai wf 24 (j+1) "_law_next" [.ref r]) λr16=>mq (ah .Mod r16 (.int 12)) λr17=>mq (ah .Add (.int 1) r17) λr18=>mq (T ai wf 24 (j+1) "_law_reduced" [.int n,r18]) λA=>mr A)) F=.ok (vq q) h'/\c7 q/\c8 r h'/\Keep (λn=>n≠r) h h':=λn F hn Y X=>by
  rw[jE,ae];by_cases h6:kind<6
  ·rw[UL h6,Vr,ac (dJ (j:=j) (by decide) (yW (by decide) (by decide)) hw)]
   exact aV (eV n 1) F ⟨rfl,⟨EY (by decide),ti hn (by decide)⟩,Y,X⟩
  ·rw[UC h6,Vm]
   refine bW (bh (wf:=wf) (j:=j) Y) λk4 y e4 Z Z r4 p4=>?_;rw[ac e4,aD (by decide),ae,cZ,ae];refine af (cM k4 (k:=12) (by decide)) λd0 U=>?_;rw[ac (dJ (j:=j) (Lv d0) (yW (Lv d0) (QO U)) hw)];exact aV (eV n _) y ⟨rfl,⟨EY (Lv d0),ti hn (QB d0 U)⟩,r4,X.trans p4⟩
 refine bC (bA ..) ?_;by_cases h8:kind=8
 ·refine EK (UL h8)<|bC (bn (gB (Q8 z x o)) (gB (by decide)))<|bC (bn (gB (P2 z x o)) (gB (by decide)))<|bW (bh (j:=j) r2) λk3 F e3 a3 b3 Y X=>az e3<|bC (bn (gB (R0 a3 b3)) (gB (by decide)) ..)<|bC (cZ ..)<|bW (bh (j:=j) Y) λk4 y e4 a4 b4 r4 p4=>az e4<|gR _<|last _ y (P4 z x o a3 b3 a4 b4) r4 (((p1.trans S).trans X).trans p4)
 ·refine Bi (UC h8)<|gR _<|last _ J (Ro z x o) r2 (p1.trans S)
def rJ(ds:List Int)(n:Nat):Prop:=dD ds=n/\(∀d∈ds,0<d/\d<=9)/\ds.length<=2
section
variable {β:Type} {h:List O} {P:R β->Prop} {x y:M β} {a n:Int}
theorem EZ(e:a=n)(q:P (x h)):P (iq .Eq (.int a) (.int n) x y h):=qR e q
theorem E0(e:¬a=n)(q:P (y h)):P (iq .Eq (.int a) (.int n) x y h):=sZ e q
theorem Nr(e:a>n)(q:P (x h)):P (iq .Gt (.int a) (.int n) x y h):=qR e q
theorem Nt(e:¬a>n)(q:P (y h)):P (iq .Gt (.int a) (.int n) x y h):=sZ e q
end
theorem O2(c:n<=9)(q:(n:Int)>0):rJ [(n:Int)] n:=⟨by simp[dD],λd hd=>by rw[TW]at hd;exact Sa c q hd,by simp⟩
theorem O3(c:n<=9)(a:(n:Int).fmod 2=0)(q:(n:Int)>0):rJ [2,(n:Int).fdiv 2] n:=by
 rw[SU _ (by decide)]at a;rw[ST _ (by decide)];refine⟨?_,λd hd=>?_,by simp⟩
 ·show(1*2)*((n:Int)/2)=n;exact Q4 a
 ·simp at hd;exact P8 c a q hd
theorem O4(c:n<=9)(a:(n:Int).fmod 3=0)(q:(n:Int)>0):rJ [(n:Int).fdiv 3,3] n:=by
 rw[SU _ (by decide)]at a;rw[ST _ (by decide)];refine⟨?_,λd hd=>?_,by simp⟩
 ·show(1*((n:Int)/3))*3=n;exact P5 a
 ·simp at hd;exact PY c a q hd
theorem yY(W:c8 r h)(A:n<=9):∃v h',T ai wf 24 (j+2) "_law_shaped" [.ref r,.int n] h=.ok v h'/\c8 r h'/\Keep (λm=>m≠r) h h'/\
  (v=.none\/ ∃m ds,v=.ref m/\h.length<=m/\h'[m]?=some (.list (bH ds))/\rJ ds n):=by
 rw[aK (by kernel_rfl) (by kernel_rfl),yo];refine bW (bh (j:=j) W) λk1 x e1 Z Z F z=>bO (pk (Tj wf (j+1)) h.length (.ref r) (.int n) h) λJ S=>az e1<|bC (aD (by decide))<|af (cM k1 (k:=7) (by decide)) λX Y=>?_;generalize k1.fmod 7=kind at X Y ⊢;have c:∀ds,rJ ds n->J (mq (aC (.list (bH ds))) (λr=>mr r) x):=λds hf=>az (aH _ _) (S _ (by
  have L:Gr x (x++ [O.list (bH ds)]):=Keep.app _;exact aV _ _ ⟨rfl,F.gr L,z.trans L.keep,.inr ⟨_,ds,rfl,z.len,ay _ _,hf⟩⟩))
 have no:J (mr V.none x):=S _ (aV _ _ ⟨rfl,F,z,.inl rfl⟩);have o:J (fY (.int n) (.int kind) x):=by
  by_cases U:kind=6
  ·refine EZ U<|bC (aD (by decide)) ?_
   by_cases g:(n:Int).fmod 3=0
   ·refine EZ g ?_
    by_cases q:(n:Int)>0
    ·refine Nr q<|bC (bu (by decide) (gB (by decide)))<|c _ (O4 A g q)
    ·exact Nt q no
   ·exact E0 g no
  ·exact E0 U no
 have y:J (iV (.int n) (.int kind) x):=by
  by_cases k5:kind=5
  ·refine EZ k5<|bC (aD (by decide)) ?_
   by_cases g:(n:Int).fmod 2=0
   ·refine EZ g ?_
    by_cases q:(n:Int)>0
    ·refine Nr q<|bC (bu (by decide) (gB (by decide)))<|c _ (O3 A g q)
    ·exact Nt q o
   ·exact E0 g o
  ·exact E0 k5 o
 by_cases G:kind=4
 ·refine EZ G ?_
  by_cases q:(n:Int)>0
  ·exact Nr q (c _ (O2 A q))
  ·exact Nt q y
 ·exact E0 G y
theorem Nu {i:Int}(h0:0<=i)(c:i<128):builtin "chr" [.int i]=mr (.str ⟨#[i.toNat]⟩):=by
 funext h
 have e:builtin "chr" [.int i] h=if 0<=i/\i<128 then .ok (.str ⟨#[i.toNat]⟩) h else .bad:=by kernel_rfl
 rw[e,Vw ⟨h0,c⟩];rfl
noncomputable def aP.upd(F:aP)(k:Str)(q:Str×List V):aP:=λx=>if x=k then some q else F x
def dG(F:aP)(n:Nat):Option (List Int)->Prop
 |none=>F "dim"=none
 |some ds=>F "dim"=some (("integer":Str),bH ds)/\rJ ds n/\F "names"=none
structure AOk (F:aP) (n:Nat):Prop where
 dim:∃d,dG F n d
 data:iP F
theorem dG.dims {F:aP}{d:Option (List Int)}(h:dG F l.length d):dZ ⟨k,l,F⟩ d:=by
 induction d using Vx with
 |none=>exact h
 |some ds=>exact⟨h.1,h.2.1.1,h.2.1.2.1,h.2.1.2.2⟩
theorem AOk.upd {F:aP}{n:Nat}{k:Str}{q:Str×List V}(a:AOk F n)(G:k≠ "dim")(A:k≠ "names")(z:∀v∈q.2,Dv v):AOk (F.upd k q) n:=by
 refine⟨?_,λx p c v o=>?_⟩
 ·obtain⟨d,hd⟩:=a.dim
  have g:F.upd k q "dim"=F "dim":=Vv (λe=>G e.symm);have y:F.upd k q "names"=F "names":=Vv (λe=>A e.symm);refine⟨d, ?_⟩;induction d using Vx with
  |none=>show F.upd k q "dim"=none;rw[g];exact hd
  |some ds=>exact⟨by rw[g];exact hd.1,hd.2.1,by rw[y];exact hd.2.2⟩
 ·unfold aP.upd at c
  split at c
  ·cases c;exact z v o
  ·exact a.data x p c v o
theorem AOk.names {n:Nat}{q:Str×List V}(g:∀v∈q.2,Dv v):AOk (aP.upd (λZ=>none) "names" q) n:=by
 refine⟨⟨none, ?_⟩,λx p c v o=>?_⟩
 ·show(if("dim":Str)= "names" then some q else none)=none
  rw[Vv (by decide)]
 ·unfold aP.upd at c
  split at c
  ·cases c;exact g v o
  ·cases c
theorem AOk.dims(o:rJ ds n):AOk (aP.upd (λZ=>none) "dim" ("integer",bH ds)) n:=by
 refine⟨⟨some ds, ?_,o, ?_⟩,λx p c v q=>?_⟩
 ·show(if("dim":Str)= "dim" then some _ else none)=_
  rw[Vw rfl]
 ·show(if("names":Str)= "dim" then some _ else none)=none
  rw[Vv (by decide)]
 ·unfold aP.upd at c
  split at c
  ·cases c
   refine aa (U3.mp q) λi Z g=>?_;subst g;exact .int i
  ·cases c
theorem AOk.nil:AOk (λZ=>none) n:=⟨⟨none,rfl⟩,λx p c=>by cases c⟩
structure DS (r b n i fd:Nat) (k:Str) (items:List V) (h0 h:List O) (F:aP):Prop where
 cell:h[b]?=some (.cell (some (.ref r)))
 row:c8 r h
 vec:h[n]?=some (bp (.str k) (.ref i) .none)
 its:h[i]?=some (.list items)
 isd:∃D,IsD (λm=>h0.length<=m) h fd F D
 keep:Keep (λm=>m≠r) h0 h
 old:h0.length<=fd
 lt:r<h0.length
 ne:i≠r
 nlt:n<h0.length
theorem DS.gr {r b n i fd:Nat}{k:Str}{items:List V}{h0 h h':List O}{F:aP}(d:DS r b n i fd k items h0 h F)(g:Gr h h'):DS r b n i fd k items h0 h' F:=by
 refine am (d.isd) λD c=>⟨g.get _ _ trivial d.cell,d.row.gr g,g.get _ _ trivial d.vec,g.get _ _ trivial d.its,⟨D,c.p,g.get _ _ trivial c.get,c.dk,c.at_.keep (Q:=λm=>h0.length<=m) g.keep⟩,d.keep.trans g.keep,d.old,d.lt,d.ne,d.nlt⟩
theorem DS.row' {items:List V}{F:aP}(d:DS r b n i fd k items h0 h F)(o:c8 r h')(g:Keep (λm=>m≠r) h h'):DS r b n i fd k items h0 h' F:=by
 refine am (d.isd) λD c=>aa (d.row) λl el Z=>?_;have x:b≠r:=λe=>by have:=d.cell;rw[e,el]at this;cases this
 have nn:n≠r:=λe=>by have:=d.vec;rw[e,el]at this;cases this
 have y:=c.p;exact⟨g.get _ _ x d.cell,o,g.get _ _ nn d.vec,g.get _ _ d.ne d.its,⟨D,c.p,g.get _ _ (by have:=d.lt;exact qC y this) c.get,c.dk,c.at_.keep (Q:=λm=>h0.length<=m) (g.mono λm Z q=>by have:=d.lt;exact qC q this)⟩,d.keep.trans g,d.old,d.lt,d.ne,d.nlt⟩
theorem fT.set {P:Nat->Prop}{h:List O}{D E:List (Str×V)}{F:aP}{fd:Nat}(a:fT P h D F)(hd:h[fd]?=some (.dict D)):fT P (h.set fd (.dict E)) D F:=λx=>by
 have:=a x;induction hF:F x using Vx with
 |none=>rw[hF]at this;exact this
 |some q=>
  rw[hF]at this;refine aB λL o=>?_;obtain⟨m,e,i,A,y,G,g,c⟩:=this;have z:fd≠m:=λe=>by subst e;rw[hd]at g;cases g
  have J:fd≠i:=λe=>by subst e;rw[hd]at c;cases c
  refine o<|⟨m,e,i,A,y,G,by rw[Ty z];exact g,by rw[Ty J];exact c⟩
theorem fT.put {P:Nat->Prop}{h:List O}{D:List (Str×V)}{F:aP}{m:Nat}{key kd:Str}{its:List V}(a:fT P h D F)(v:fu P h m kd its):fT P h (put key (.ref m) D) (F.upd key (kd,its)):=λx=>by
 unfold aP.upd;rw[pC];by_cases c:x=key
 ·rw[Vw c,Vw c]
  exact⟨m,rfl,v⟩
 ·rw[Vv c,Vv c]
  exact a x
theorem DS.add {wf j r b n i fd l:Nat}{k key kd:Str}{items its:List V}{F:aP}(d:DS r b n i fd k items h0 h F)(hl:h[l]?=some (.list its))(L:h0.length<=l)(J:its.length<=4096)(A:key∈Ks)(K:M V):
  ∃h',(mq (T ai wf 24 (j+1) "Vector" [.str kd,.ref l]) λv=>mq (cH (.ref fd) (.str key) v) λZ=>K) h=K h'/\DS r b n i fd k items h0 h' (F.upd key (kd,its)):=by
 refine bO ((mq (T ai wf 24 (j+1) "Vector" [.str kd,.ref l]) λv=>mq (cH (.ref fd) (.str key) v) λZ=>K) h) λgQ gR=>az gX ?_;have g:Gr h (h++ [bp (.str kd) (.ref l) .none]):=Keep.app _;have x:=d.gr g;have y:=g.get _ _ trivial hl;have z:=ay h (bp (.str kd) (.ref l) .none);have hrl:r<h.length:=by obtain⟨_,e,_⟩:=d.row;exact aA e
 have G:=d.keep.len;generalize Y:h++ [bp (.str kd) (.ref l) .none]=h1 at*;refine am (x.isd) λD c=>az ((pB c.get (U7 c.dk.len (by decide))))<|gR _<|⟨_,rfl, ?_⟩;have nb:fd≠b:=λe=>by have:=x.cell;rw[<-e,c.get]at this;cases this
 have nn:fd≠n:=λe=>by have:=x.vec;rw[<-e,c.get]at this;cases this
 have W:fd≠i:=λe=>by have:=x.its;rw[<-e,c.get]at this;cases this
 have nr:fd≠r:=by have:=d.old;have:=d.lt;omega
 have X:fd≠h.length:=λe=>by rw[<-e,c.get]at z;cases z
 have U:fd≠l:=λe=>by rw[<-e,c.get]at y;cases y
 refine aa (x.row) λlr er S=>?_;refine⟨by rw[Ty nb];exact x.cell,⟨lr,by rw[Ty nr];exact er,S⟩,by rw[Ty nn];exact x.vec,by rw[Ty W];exact x.its,
  ⟨_,c.p,bg c.get,c.dk.put A, ?_⟩,⟨λm o q e=>by rw[Ty (by have:=aA e;have:=d.old;omega)];exact x.keep.get _ _ q e,by simpa using x.keep.len⟩,d.old,d.lt,d.ne,d.nlt⟩
 ·refine(c.at_.set (E:=put key (.ref h.length) D) c.get).put ⟨l,by exact o9 G,L,J, ?_, ?_⟩
  ·rw[Ty X];exact z
  ·rw[Ty U];exact y
theorem E3 {β:Type}(x:c8 r h)(K:V->M β):∃c h',(mq (T ai wf 24 (j+1) "_law_next" [.ref r]) λg=>mq (ah .Mod g (.int 26)) λq=>mq (ah .Add (.int 97) q) λo=>mq (builtin "chr" [o]) K) h=K (.str c) h'/\c8 r h'/\Keep (λm=>m≠r) h h':=by
 refine bO ((mq (T ai wf 24 (j+1) "_law_next" [.ref r]) λg=>mq (ah .Mod g (.int 26)) λq=>mq (ah .Add (.int 97) q) λo=>mq (builtin "chr" [o]) K) h) λU A=>aB λW F=>bW (bh (wf:=wf) (j:=j) x) λk1 L G Z Z z J=>af (cM k1 (k:=26) (by decide)) λS y=>F ?_;rw[ac G,aD (by decide),ae,cZ,ae,Nu (Int.add_nonneg (by decide) S) (UY (Int.add_lt_add_left y 97) (by decide)),ae];refine A _<|aV _ L ⟨rfl,z,J⟩
theorem G6 {items:List V}{F:aP}(d:DS r b n i fd k items h0 h F)(y:many<=9)(hw:40<wf):
  ∃acc h',cF wf (Ic (Tj wf (j+1)) 19) (aw "_law_dressed" (aq "_law_dressed") b) (aX (bG (aG "_law_dressed" [3,1,0,0,0])) [1]) (.range many) h=.ok acc h'/\DS r b n i fd k items h0 h' F/\(∀v∈acc,Dv v)/\acc.length=many:=by
 have W:=fQ (C:=Tj wf (j+1)) (m:=19) (c:=aw "_law_dressed" (aq "_law_dressed") b) (e:=aX (bG (aG "_law_dressed" [3,1,0,0,0])) [1]) (it:=.range many) (by kernel_rfl) (by kernel_rfl);refine aB λgP A=>?_;obtain⟨acc,h',e,G,i2,L⟩:=fR (turn:=λv=>bS (Tj wf (j+1)) 19 (aw "_law_dressed" (aq "_law_dressed") b) (aX (bG (aG "_law_dressed" [3,1,0,0,0])) [1]) v mr) (it:=.range many) (rng many)
  (λt acc h'=>DS r b n i fd k items h0 h' F/\(∀v∈acc,Dv v)/\acc.length=t)
  (λt acc h' Z=>cK many t h')
  (λt v acc h' g X=>by
   refine cQ (X) λo z Y=>?_;show ∃q h'',bS (Tj wf (j+1)) 19 (aw "_law_dressed" (aq "_law_dressed") b) (aX (bG (aG "_law_dressed" [3,1,0,0,0])) [1]) v mr h'=_/\_;rw[sX];unfold lh;rw[ac (aE o.cell)];refine aW (E3 (j:=j) o.row (λU=>(mr (some U):M (Option V)))) λc J x r2 S=>aV (some (.str c)) J ⟨x,o.row' r2 S, ?_,by simp[Y]⟩;intro v g;rcases Uy.mp g with q|q
   ·exact z v q
   ·rw[TW]at q;subst q;exact .str c)
  wf 0 [] h o1 (by simp;exact HU y hw) ⟨d,(λv g=>by cases g),rfl⟩
 refine A<|aV acc h' ⟨(congrFun W h).trans e,G,i2,by simpa using L⟩
theorem C2 {f:V->V->Option Bool}(D:List (Str×V)):∃r,eK f [] D=some r:=by
 induction D using List.rec with
 |nil=>exact⟨_,rfl⟩
 |cons p t ih=>exact am ih λr e=>⟨false,by show(eK f [] t).bind _=_;rw[e];rfl⟩
theorem G7 {d:Nat}(hd:h[d]?=some (.dict D))(c:h[e]?=some (.dict [])):cmp .NotEq (.ref d) (.ref e) h=.ok (!D.isEmpty) h:=by
 refine gb ?_;rw[pF hd c,tB hd c];refine am (C2 (f:=cT h 8) D) λr e=>?_;rw[e,Option.map_some];induction D using Vz with
 |nil=>rw[<-UB e];rfl
 |cons=>rw[show decide ((_::_:List (Str×V)).length=([]:List (Str×V)).length)=false from rfl,UF];rfl
def we(g o:V):M V:=mq (aC (.dict [])) λc=>iq .NotEq o c (mq (dF g "attrs" o) λZ=>mr g) (mr g)
def tH(C:Tb)(b:Nat)(F y:V):M V:=mq (aZ b) λg=>mq (C.f "_law_next" [g]) λq=>mq (ah .Mod q (.int 6)) λA=>iq .Eq A (.int 1) (mq (aZ b) λc=>mq (C.f "_law_next" [c]) λx=>mq (aC (.list [x])) λo=>mq (C.f "Vector" [(.str "integer"),o]) λz=>mq (cH y (.str "of") z) λZ=>we F y) (we F y)
def mW(C:Tb)(b:Nat)(L y:V):M V:=mq (aZ b) λg=>mq (C.f "_law_next" [g]) λz=>mq (ah .Mod z (.int 4)) λG=>iq .Eq G (.int 1) (mq (aZ b) λc=>mq (C.f "_law_next" [c]) λA=>mq (ah .Mod A (.int 26)) λq=>mq (ah .Add (.int 97) q) λx=>mq (builtin "chr" [x]) λJ=>mq (aC (.list [J])) λF=>mq (C.f "Vector" [(.str "character"),F]) λo=>mq (cH y (.str "unit") o) λZ=>tH C b L y) (tH C b L y)
def jv(C:Tb)(b:Nat)(o z:V):M V:=mq (fL b o) λZ=>mq (aN z "items") λY=>mq (builtin "len" [Y]) λW=>mq (aZ b) λy=>mq (C.f "_law_shaped" [y,W]) λX=>mq (aC (.dict [])) λq=>
  mq (cmp .IsNot X .none) λJ=>bif J then(mq (C.f "Vector" [(.str "integer"),X]) λL=>mq (cH q (.str "dim") L) λZ=>mW C b z q)else(mq (aZ b) λc=>mq (C.f "_law_next" [c]) λG=>mq (ah .Mod G (.int 3)) λF=>mq (cmp .Eq F (.int 1)) λA=>bif A then(mq (bt W) λg=>mq (cF C.wf (Ic C 19) (aw "_law_dressed" (aq "_law_dressed") b) (aX (bG (aG "_law_dressed" [3,1,0,0,0])) [1]) g) λx=>mq (aC (.list x)) λS=>mq (C.f "Vector" [(.str "character"),S]) λU=>mq (cH q (.str "names") U) λZ=>mW C b z q)else(mW C b z q))
theorem wT(C:Tb)(b:Nat)(c g:V)(h:List O):Bd C "_law_dressed" [c,g] b h=jv C b c g h:=by kernel_rfl
def fC(m:M V)(r n:Nat)(k:Str)(items:List V)(h0 h:List O):Prop:=∃h' F,m h=.ok (.ref n) h'/\IsV (λm=>r<m) h' (.ref n) ⟨k,items,F⟩/\AOk F items.length/\c8 r h'/\Keep (λm=>m≠r/\m≠n) h0 h'
theorem fC.pre {m m':M V}{items:List V}(e:m h=m' h')(d:fC m' r n k items h0 h'):fC m r n k items h0 h:=by
 unfold fC;rw[e];exact d
theorem E4 {items:List V}{F:aP}(d:DS r b n i fd k items h0 h F)(X:AOk F items.length)(hk:k≠ "NULL")(A:items.length<=9)(g:r<n)(y:r<i):fC (we (.ref n) (.ref fd)) r n k items h0 h:=by
 have c:=d.gr (Keep.app [O.dict []]);refine am (c.isd) λD o=>?_;have U:=G7 o.get (ay h (O.dict []));generalize G:h++ [O.dict []]=W at*;have nn:n≠fd:=λe=>by have:=c.vec;rw[e,o.get]at this;cases this
 have ni:n≠i:=λe=>by have Y:=c.its;rw[<-e,c.vec]at Y;cases Y
 unfold fC we;unfold iq;rw[ac (aH _ _),G,ac U];rcases D with _|⟨p,t⟩
 ·refine aV W F ⟨rfl,.vec hk (o2 A) g y c.vec c.its (.none λx=>?_),X,c.row,c.keep.mono λm Z q=>q.1⟩
  have:=o.at_ x;induction hF:F x using Vx with
  |none=>rfl
  |some q=>rw[hF]at this;obtain⟨m,e,_⟩:=this;exact ns e
 ·show ∃h' F,mq (dF (.ref n) "attrs" (.ref fd)) _ W=_/\_
  rw[ac (ln c.vec)];refine aa (c.row) λlr er br=>aV _ F ⟨rfl,.vec (i:=i) hk (o2 A) g y (bg c.vec) (by rw[Ty ni];exact c.its) (.dict (D:=p::t) ⟨by have:=d.old;have:=d.lt;show r<fd;omega,by rw[Ty nn];exact o.get,o.dk, ?_⟩),X,⟨lr,by rw[Ty (rR g)];exact er,br⟩, ?_⟩
  ·intro x
   have:=o.at_ x;induction hF:F x using Vx with
   |none=>rw[hF]at this;exact this
   |some q=>
    rw[hF]at this;obtain⟨m,e,L,J,S,A,e1,e2⟩:=this;have z:=d.nlt;have q1:h0.length<=m:=J;have q2:h0.length<=L:=S;refine⟨m,e,L,by show r<m;have:=d.lt;exact PB g J z,by show r<L;have:=d.lt;exact PB g S z,A,by rw[Ty (Aw J z)];exact e1,by rw[Ty (Aw S z)];exact e2⟩
  ·exact(c.keep.mono λm Z q=>q.1).trans (Keep.set (by simp))
theorem E5 {items:List V}{F:aP}(d:DS r b n i fd k items h0 h F)(L:AOk F items.length)(U:k≠ "NULL")(X:items.length<=9)(g:r<n)(q:r<i):fC (tH (Tj wf (j+1)) b (.ref n) (.ref fd)) r n k items h0 h:=by
 unfold tH;refine bW (bh (wf:=wf) (j:=j) d.row) λk1 h1 e1 Z Z r1 p1=>?_;have x:=d.row' r1 p1;refine fC.pre (m':=mq (cmp .Eq (.int (k1.fmod 6)) (.int 1)) λz=>bif z then(mq (aZ b) λc=>mq (T ai wf 24 (j+1) "_law_next" [c]) λA=>mq (aC (.list [A])) λy=>mq (T ai wf 24 (j+1) "Vector" [(.str "integer"),y]) λG=>mq (cH (.ref fd) (.str "of") G) λZ=>we (.ref n) (.ref fd))else(we (.ref n) (.ref fd))) (h':=h1) (by rw[ac (aE d.cell),ac e1,aD (by decide),ae]) ?_;rw[bA,ae];refine aB λgP S=>?_;by_cases J:k1.fmod 6=1
 ·refine S ?_
  rw[UL J,Vr];refine bW (bh (wf:=wf) (j:=j) x.row) λk2 h2 e2 Z Z r2 p2=>?_;have W:=x.row' r2 p2;have d3:=W.gr (Keep.app [O.list [.int k2]]);have o:=W.keep.len;refine aa (d3.add (j:=j) (key:= "of") (kd:= "integer") (ay h2 (O.list [.int k2])) o (by simp) (by decide) (we (.ref n) (.ref fd))) λh4 e4 d4=>fC.pre (h':=h4) (m':=we (.ref n) (.ref fd)) (by rw[ac (aE x.cell),ac e2,ac (aH _ _)];exact e4) ?_;exact E4 d4 (L.upd (by decide) (by decide) λv Y=>by rw[TW]at Y;subst Y;exact .int k2) U X g q
 ·refine S ?_
  rw[UC J,Vm];exact E4 x L U X g q
theorem yZ {items:List V}{F:aP}(d:DS r b n i fd k items h0 h F)(X:AOk F items.length)(hk:k≠ "NULL")(hl:items.length<=9)(y:r<n)(A:r<i):fC (mW (Tj wf (j+1)) b (.ref n) (.ref fd)) r n k items h0 h:=by
 unfold mW;refine bW (bh (wf:=wf) (j:=j) d.row) λk1 h1 e1 Z Z r1 p1=>?_;have G:=d.row' r1 p1;refine fC.pre (m':=mq (cmp .Eq (.int (k1.fmod 4)) (.int 1)) λU=>bif U then(mq (aZ b) λg=>mq (T ai wf 24 (j+1) "_law_next" [g]) λJ=>mq (ah .Mod J (.int 26)) λS=>mq (ah .Add (.int 97) S) λL=>mq (builtin "chr" [L]) λq=>mq (aC (.list [q])) λo=>mq (T ai wf 24 (j+1) "Vector" [(.str "character"),o]) λx=>mq (cH (.ref fd) (.str "unit") x) λZ=>tH (Tj wf (j+1)) b (.ref n) (.ref fd))else(tH (Tj wf (j+1)) b (.ref n) (.ref fd))) (h':=h1) (by rw[ac (aE d.cell),ac e1,aD (by decide),ae]) ?_;rw[bA,ae];refine aB λgP Y=>?_;by_cases W:k1.fmod 4=1
 ·refine Y ?_
  rw[UL W,Vr];refine aW (E3 (wf:=wf) (j:=j) G.row (λq=>mq (aC (.list [q])) λo=>mq (T ai wf 24 (j+1) "Vector" [(.str "character"),o]) λx=>mq (cH (.ref fd) (.str "unit") x) λZ=>tH (Tj wf (j+1)) b (.ref n) (.ref fd))) λc h2 e2 r2 p2=>?_;have d2:=G.row' r2 p2;have d3:=d2.gr (Keep.app [O.list [.str c]]);have z:=d2.keep.len;refine aa (d3.add (j:=j) (key:= "unit") (kd:= "character") (ay h2 (O.list [.str c])) z (by simp) (by decide) (tH (Tj wf (j+1)) b (.ref n) (.ref fd))) λh4 e4 d4=>fC.pre (h':=h4) (m':=tH (Tj wf (j+1)) b (.ref n) (.ref fd)) (by rw[ac (aE G.cell)];refine e2.trans ?_;rw[ac (aH _ _)];exact e4) ?_;exact E5 d4 (X.upd (by decide) (by decide) λv hv=>by rw[TW]at hv;subst hv;exact .str c) hk hl y A
 ·refine Y ?_
  rw[UC W,Vm];exact E5 G X hk hl y A
theorem oG {items:List V}(hr:c8 r h)(hv:h[n]?=some (bp (.str k) (.ref i) .none))(hi:h[i]?=some (.list items))(hk:k≠ "NULL")(z:items.length<=9)(y:r<n)(o:r<i)(hw:40<wf):
  fC (T ai wf 24 (j+3) "_law_dressed" [.ref r,.ref n]) r n k items h h:=by
 refine fC.pre (h':=h++ [.cell none]) (m':=jv (Tj wf (j+2)) h.length (.ref r) (.ref n)) (by rw[yQ (by kernel_rfl) (by kernel_rfl),wT]) ?_;unfold jv;have hlt:r<h.length:=by obtain⟨_,e,_⟩:=hr;exact aA e
 have hb:=ay h (O.cell (some (.ref r)));have W:Gr h (h++ [O.cell (some (.ref r))]):=Keep.app _;have r1:=hr.gr W;have v1:=W.get _ _ trivial hv;have i1:=W.get _ _ trivial hi;have l1:=W.len;generalize hh1:h++ [O.cell (some (.ref r))]=h1 at*;refine bM (yY (wf:=wf) (j:=j) r1 z) λv4 c e2 r2 Y q2=>?_;have mk:∃fdh,fdh=c++ [O.dict []]:=⟨_,rfl⟩;refine am (mk) λh3 J=>?_;have nb:h.length≠r:=rR hlt;have X:=Y.len;have U:Gr c h3:=by rw[J];exact Keep.app _
 have d3:DS r h.length n i c.length k items h h3 (λZ=>none):=
  ⟨U.get _ _ trivial (Y.get _ _ nb hb),r2.gr U,U.get _ _ trivial (Y.get _ _ (rR y) v1),U.get _ _ trivial (Y.get _ _ (rR o) i1),⟨[],by show h.length<=c.length;exact o5 l1 X,by rw[J];exact ay _ _,Dk.nil,λx=>rfl⟩,
   (W.keep.trans Y).trans U.keep,by exact o5 l1 X,hlt,by exact rR o,aA hv⟩
 refine fC.pre (h':=h3) (m':=mq (cmp .IsNot v4 .none) λr41=>bif r41 then(mq (T ai wf 24 (j+2) "Vector" [(.str "integer"),v4]) λr31=>mq (cH (.ref c.length) (.str "dim") r31) λZ=>mW (Tj wf (j+2)) h.length (.ref n) (.ref c.length))else(mq (aZ h.length) λG=>mq (T ai wf 24 (j+2) "_law_next" [G]) λr38=>mq (ah .Mod r38 (.int 3)) λr39=>mq (cmp .Eq r39 (.int 1)) λA=>bif A then(mq (bt (.int items.length)) λg=>mq (cF wf (Ic (Tj wf (j+2)) 19) (aw "_law_dressed" (aq "_law_dressed") h.length) (aX (bG (aG "_law_dressed" [3,1,0,0,0])) [1]) g) λq=>mq (aC (.list q)) λL=>mq (T ai wf 24 (j+2) "Vector" [(.str "character"),L]) λS=>mq (cH (.ref c.length) (.str "names") S) λZ=>mW (Tj wf (j+2)) h.length (.ref n) (.ref c.length))else(mW (Tj wf (j+2)) h.length (.ref n) (.ref c.length)))) (by
  rw[ac vc,hh1,ac (hW v1),ac (eX i1 (vd (o2 z))),ac (aE hb),ac e2,ac (aH _ _),<-J]) ?_
 refine aB λgP F=>?_;rcases q2 with rfl|⟨m,ds,rfl,hm,em,hf⟩
 ·refine F ?_
  rw[dU,ae,Vm];refine bW (bh (wf:=wf) (j:=j+1) d3.row) λk4 h4 e4 Z Z r4 p4=>?_;have d4:=d3.row' r4 p4;refine fC.pre (h':=h4) (m':=mq (cmp .Eq (.int (k4.fmod 3)) (.int 1)) λA=>bif A then(mq (bt (.int items.length)) λg=>mq (cF wf (Ic (Tj wf (j+2)) 19) (aw "_law_dressed" (aq "_law_dressed") h.length) (aX (bG (aG "_law_dressed" [3,1,0,0,0])) [1]) g) λq=>mq (aC (.list q)) λL=>mq (T ai wf 24 (j+2) "Vector" [(.str "character"),L]) λS=>mq (cH (.ref c.length) (.str "names") S) λZ=>mW (Tj wf (j+2)) h.length (.ref n) (.ref c.length))else(mW (Tj wf (j+2)) h.length (.ref n) (.ref c.length))) (by
   rw[ac (aE d3.cell),ac e4,aD (by decide),ae]) ?_
  rw[bA,ae];refine aB λgP F=>?_;by_cases hc:k4.fmod 3=1
  ·refine F ?_
   rw[UL hc,Vr,cW (xq z),ae];refine bM (G6 (j:=j+1) d4 z hw) λacc h5 e5 d5 a5 l5=>?_;have d6:=d5.gr (Keep.app [O.list acc]);refine aa (d6.add (j:=j+1) (key:= "names") (kd:= "character") (ay h5 (O.list acc)) d5.keep.len (P9 z l5) (by decide) (mW (Tj wf (j+2)) h.length (.ref n) (.ref c.length))) λh7 e7 d7=>fC.pre (h':=h7) (m':=mW (Tj wf (j+2)) h.length (.ref n) (.ref c.length)) (by rw[ac e5,ac (aH _ _)];exact e7) ?_;exact yZ d7 (AOk.names a5) hk z y o
  ·refine F ?_
   rw[UC hc,Vm];exact yZ d4 AOk.nil hk z y o
 ·refine F ?_
  rw[fU,ae,Vr];refine aB λgP F=>aa (d3.add (j:=j+1) (key:= "dim") (kd:= "integer") (its:=bH ds) (l:=m) (U.get _ _ trivial em) (o5 l1 hm) (by have:=hf.2.2;simp[bH];exact LX this) (by decide) (mW (Tj wf (j+2)) h.length (.ref n) (.ref c.length))) λh7 e7 d7=>F<|fC.pre e7<|yZ d7 (AOk.dims hf) hk z y o
noncomputable def vi:Option Int->V
 |none=>.none
 |some i=>.int i
noncomputable def fF:Option Int->Prop
 |none=>True
 |some i=>i.natAbs<=2147483647
inductive Kd:Str->List V->Prop
 |null:Kd "NULL" []
 |logical (l:List (Option Int)):(∀o∈l,fF o)->Kd "logical" (l.map vi)
 |integer (l:List (Option Int)):(∀o∈l,fF o)->Kd "integer" (l.map vi)
 |double (l:List Q):(∀q∈l,c7 q)->Kd "double" (l.map vq)
 |character (l:List Str):Kd "character" (l.map .str)
structure Wf (x:Vc):Prop where
 a:AOk x.att x.items.length
 len:x.items.length<=9
 kd:Kd x.kind x.items
def bU(m:M V)(r:Nat)(h0 h:List O):Prop:=∃v x h',m h=.ok v h'/\IsV (λm=>r<m) h' v x/\Wf x/\c8 r h'/\Keep (λm=>m≠r) h0 h'
theorem bU.pre {m m':M V}(e:m h=m' h')(d:bU m' r h0 h'):bU m r h0 h:=by
 unfold bU;rw[e];exact d
theorem mX(A:c8 r h)(J:h[i]?=some (.list l))(G:h0.length<=i)(W:k≠ "NULL")(kd:Kd k l)(z:l.length<=9)(K:Keep (λm=>m≠r) h0 h)(x:r<h0.length)(X:40<wf):
  bU (mq (T ai wf 24 (j+3) "Vector" [.str k,.ref i]) λv=>mq (T ai wf 24 (j+3) "_law_dressed" [.ref r,v]) λr=>mr r) r h0 h:=by
 have g:Gr h (h++ [bp (.str k) (.ref i) .none]):=Keep.app _;have Y:=ay h (bp (.str k) (.ref i) .none);have c:=K.len;refine aB λZ U=>bW (oG (j:=j) (A.gr g) Y (g.get _ _ trivial J) W z (Pm x c) (RD G x) X) λh' F e S a L y=>U<|⟨_,⟨k,l,F⟩,h', ?_,S,⟨a,z,kd⟩,L, ?_⟩
 ·refine aM gX<|aM e ?_;rfl
 ·exact⟨λm o q e=>y.get m o ⟨q,by have:=aA e;exact Aw c this⟩ (g.get _ _ trivial (K.get m o q e)),by have:=y.len;have:=g.len;omega⟩
structure VS (r b:Nat) (h0 h:List O):Prop where
 cell:h[b]?=some (.cell (some (.ref r)))
 row:c8 r h
 keep:Keep (λm=>m≠r) h0 h
 lt:r<h0.length
 le:h0.length<=b
theorem VS.ne(d:VS r b h0 h):b≠r:=by have:=d.lt;have:=d.le;omega
theorem VS.gr {r b:Nat}{h0 h h':List O}(d:VS r b h0 h)(g:Gr h h'):VS r b h0 h':=⟨g.get _ _ trivial d.cell,d.row.gr g,d.keep.trans g.keep,d.lt,d.le⟩
theorem VS.row'(d:VS r b h0 h)(c:c8 r h')(g:Keep (λm=>m≠r) h h'):VS r b h0 h':=⟨g.get _ _ d.ne d.cell,c,d.keep.trans g,d.lt,d.le⟩
theorem E6(d:VS r b h0 h)(W:many<=9)(hw:40<wf):
  ∃(l:List (Option Int)) (h':List O),cF wf (Ic (Tj wf (j+1)) 19) (aw "_law_vector" (aq "_law_vector") b) (aX (bG (aG "_law_vector" [2,0,0])) [1,1]) (.range many) h=.ok (l.map vi) h'/\VS r b h0 h'/\(∀o∈l,fF o)/\l.length=many:=by
 have ec:=fQ (C:=Tj wf (j+1)) (m:=19) (c:=aw "_law_vector" (aq "_law_vector") b) (e:=aX (bG (aG "_law_vector" [2,0,0])) [1,1]) (it:=.range many) (by kernel_rfl) (by kernel_rfl);refine aB λgP gH=>?_;obtain⟨acc,h',e,i1,l,i2,i3,Y⟩:=fR (turn:=λv=>bS (Tj wf (j+1)) 19 (aw "_law_vector" (aq "_law_vector") b) (aX (bG (aG "_law_vector" [2,0,0])) [1,1]) v mr) (it:=.range many) (rng many)
  (λt acc h'=>VS r b h0 h'/\ ∃l:List (Option Int),acc=l.map vi/\(∀o∈l,fF o)/\l.length=t)
  (λt acc h' Z=>cK many t h')
  (λt v acc h' S hI=>by
   obtain⟨F,l,rfl,X,a2⟩:=hI;show ∃q h'',bS (Tj wf (j+1)) 19 (aw "_law_vector" (aq "_law_vector") b) (aX (bG (aG "_law_vector" [2,0,0])) [1,1]) v mr h'=_/\_;rw[u6];unfold mQ;rw[ac (aH _ _)];have A:=F.gr (Keep.app [O.list [.int 1,.int 0,.none]]);rw[ac (aE A.cell)];refine bW (bh (wf:=wf) (j:=j) A.row) λk2 h2 U Z Z r2 L=>af (cM k2 (k:=3) (by decide)) λy z=>?_;rw[ac U,aD (by decide),ae];generalize k2.fmod 3=g at y z ⊢;have G:=F.lt;have J:=F.keep.len;have gl:=L.get _ _ (rS G J) (ay h' (O.list [.int 1,.int 0,.none]));obtain⟨o,ho,hs⟩:∃o:Option Int,[V.int 1,V.int 0,V.none][g.toNat]?=some (vi o)/\fF o:=by
    rcases(show g=0\/g=1\/g=2 from nB _ 3 (by decide+kernel) y z)with rfl|rfl|rfl
    ·exact⟨some 1,rfl,by show 1<=2147483647;decide⟩
    ·exact⟨some 0,rfl,by show 0<=2147483647;decide⟩
    ·exact⟨none,rfl,trivial⟩
   rw[ac (iY gl y ho (Q9 z))];refine aV _ h2 ⟨rfl,A.row' r2 L,l++ [o],by simp,λx hx=>?_,by simp[a2]⟩;rcases Uy.mp hx with q|q
   ·exact X x q
   ·rw[TW]at q;subst q;exact hs)
  wf 0 [] h o1 (by simp;exact HU W hw) ⟨d,[],rfl,(λv S=>by cases S),rfl⟩
 subst i2;refine gH<|aV l h' ⟨(congrFun ec h).trans e,i1,i3,by simpa using Y⟩
theorem C3(d:VS r b h0 h)(F:many<=9)(y:2000<wf):
  ∃(l:List Q) (h':List O),cF wf (Ic (Tj wf (j+2)) 19) (aw "_law_vector" (aq "_law_vector") b) (aX (bG (aG "_law_vector" [4,0,0])) [1,1]) (.range many) h=.ok (l.map vq) h'/\VS r b h0 h'/\(∀o∈l,c7 o)/\l.length=many:=by
 have ec:=fQ (C:=Tj wf (j+2)) (m:=19) (c:=aw "_law_vector" (aq "_law_vector") b) (e:=aX (bG (aG "_law_vector" [4,0,0])) [1,1]) (it:=.range many) (by kernel_rfl) (by kernel_rfl);refine aB λgP L=>?_;obtain⟨acc,h',e,S,l,i2,X,J⟩:=fR (turn:=λv=>bS (Tj wf (j+2)) 19 (aw "_law_vector" (aq "_law_vector") b) (aX (bG (aG "_law_vector" [4,0,0])) [1,1]) v mr) (it:=.range many) (rng many)
  (λt acc h'=>VS r b h0 h'/\ ∃l:List Q,acc=l.map vq/\(∀o∈l,c7 o)/\l.length=t)
  (λt acc h' Z=>cK many t h')
  (λt v acc h' z hI=>by
   obtain⟨g,l,rfl,G,a2⟩:=hI;show ∃q h'',bS (Tj wf (j+2)) 19 (aw "_law_vector" (aq "_law_vector") b) (aX (bG (aG "_law_vector" [4,0,0])) [1,1]) v mr h'=_/\_;rw[u7];unfold mR;rw[ac (aE g.cell)];refine bM (yX (j:=j) g.row y) λq U A W r2 Y=>?_;rw[ac A];refine aV _ U ⟨rfl,g.row' r2 Y,l++ [q],by simp,λx hx=>?_,by simp[a2]⟩;rcases Uy.mp hx with q|q
   ·exact G x q
   ·rw[TW]at q;subst q;exact W)
  wf 0 [] h o1 (by simp;exact Lk F y) ⟨d,[],rfl,(λv z=>by cases z),rfl⟩
 subst i2;refine L<|aV l h' ⟨(congrFun ec h).trans e,S,X,by simpa using J⟩
noncomputable def pN(k m i:V):Loc:= [("kind",k),("many",m),("items",i)]
noncomputable def jI(k m i a b:V):Loc:= [("kind",k),("many",m),("items",i),("lap",a),("pick_at",b)]
theorem C4 {l:List (Option Int)}{w k m:V}(d:VS r b h0 h)(hI:h[I]?=some (.list (l.map vi)))(x:h0.length<=I)(hl:l.length<=9)(hs:∀o∈l,fF o):
  ∃(o:Option Int) (p:V) (h':List O),fE (Tj wf (j+1)) b w k m (.ref I) (λW l=>mr (W,l)) h=.ok (.next,jI k m (.ref I) w p) h'/\VS r b h0 h'/\h'[I]?=some (.list ((l++ [o]).map vi))/\fF o:=by
 refine bO (fE (Tj wf (j+1)) b w k m (.ref I) (λW l=>mr (W,l)) h) λgQ gR=>?_;refine az ((aE d.cell))<|bW (bh (j:=j) d.row) λk2 L e2 Z Z r2 p2=>af (cM k2 (k:=16) (by decide)) λJ U=>az e2<|bC (aD (by decide) ..) ?_;generalize k2.fmod 16=c at J U ⊢;have A:=d.row' r2 p2;have y:=d.lt;have G:=p2.get _ _ (qC x y) hI;refine az ((cP G (by decide)))<|bC (jE ..) ?_;have nb:b≠I:=λe=>by have:=A.cell;rw[e,G]at this;cases this
 have app:∀(o:Option Int) (z:List O),VS r b h0 z->z[I]?=some (.list (l.map vi))->fF o-> ∃(p:V) (h':List O),(mq (bN (.ref I) "append" [vi o]) λr12=>(mr (Fl.next,jI k m (.ref I) w (.int c)):M (Fl×Loc))) z=.ok (.next,jI k m (.ref I) w p) h'/\VS r b h0 h'/\h'[I]?=some (.list ((l++ [o]).map vi))/\fF o:=λo z d3 I3 S=>by
  rw[ac (dj I3 (T1 (by simp;exact Ll hl:(l.map vi).length<=9) (by decide)))];refine aa (d3.row) λlr er br=>aV _ _ ⟨rfl,⟨by rw[Ty (Vu nb)];exact d3.cell,⟨lr,by rw[Ty (qC x y)];exact er,br⟩,⟨λm o q e=>by rw[Ty (by have:=aA e;exact qC x this)];exact d3.keep.get _ _ q e,by simpa using d3.keep.len⟩,d3.lt,d3.le⟩,by rw[bg I3];simp,S⟩
 by_cases F:c<4
 ·refine EK (UL F)<|az ((aH _ _)) ?_
  have g:Gr L (L++ [O.list [.none,.int 2147483647,.int (-2147483647),.int 0]]):=Keep.app _;obtain⟨o,S,hs⟩:∃o:Option Int,[V.none,.int 2147483647,.int (-2147483647),.int 0][c.toNat]?=some (vi o)/\fF o:=by
   rcases(show c=0\/c=1\/c=2\/c=3 from Mt J F)with rfl|rfl|rfl|rfl
   ·exact⟨none,rfl,trivial⟩
   ·exact⟨some 2147483647,rfl,by show 2147483647<=2147483647;decide⟩
   ·exact⟨some (-2147483647),rfl,by show 2147483647<=2147483647;decide⟩
   ·exact⟨some 0,rfl,by show 0<=2147483647;decide⟩
  refine az ((iY (ay L _) J S (PD F)))<|gR _<|⟨o,app o _ (A.gr g) (g.get _ _ trivial G) hs⟩
 ·refine Bi (UC F)<|az ((aE A.cell))<|bW (bh (j:=j) A.row) λk3 z e3 Z Z r3 Y=>af (cM k3 (k:=30) (by decide)) λq0 X=>az e3<|bC (aD (by decide) ..)<|gR _<|⟨_,app (some (k3.fmod 30-10)) z (A.row' r3 Y) (Y.get _ _ (qC x y) G) (by show(k3.fmod 30-10).natAbs<=2147483647;exact RN q0 X)⟩
theorem G8 {k m:V}(d:VS r b h0 h)(hI:h[I]?=some (.list []))(g:h0.length<=I)(G:many<=9)(hw:40<wf):
  ∃(l:List (Option Int)) (lc:Loc) (h':List O),bF (Tj wf (j+1)) 22 "_law_vector" b [3,0,1] (.range many) (pN k m (.ref I)) h=.ok (.next,lc) h'/\(lc=pN k m (.ref I)\/ ∃x y,lc=jI k m (.ref I) x y)/\VS r b h0 h'/\h'[I]?=some (.list (l.map vi))/\(∀o∈l,fF o)/\l.length=many:=by
 refine aB λgP gH=>?_;obtain⟨lc,h',e,i1,i2,l,i3,W,X⟩:=bX (body:=λv l=>aJ (Tj wf (j+1)) 22 "_law_vector" b [3,0,1] v l λfl l=>mr (fl,l)) (it:=.range many) (rng many)
  (λt lc h'=>(lc=pN k m (.ref I)\/ ∃x y,lc=jI k m (.ref I) x y)/\VS r b h0 h'/\ ∃l:List (Option Int),h'[I]?=some (.list (l.map vi))/\(∀o∈l,fF o)/\l.length=t)
  (λt lc h' Z=>cK many t h')
  (λt v lc h' A c=>by
   obtain⟨z,d',l,S,L,J⟩:=c;have U:=(gV A).1;refine kH (C4 (wf:=wf) (j:=j) (w:=v) (k:=k) (m:=m) d' S g (Qm G J U) L) λo p h2 F d2 a4 Y=>bJ .next _ h2 ⟨?_,.inl rfl,.inr ⟨v,p,rfl⟩,d2,l++ [o],a4,λx hx=>?_,by simp[J]⟩
   ·rcases z with rfl|⟨x,y,rfl⟩
    ·show aJ (Tj wf (j+1)) 22 "_law_vector" b [3,0,1] v (pN k m (.ref I)) _ h'=_
     unfold pN;rw[tj];exact F
    ·show aJ (Tj wf (j+1)) 22 "_law_vector" b [3,0,1] v (jI k m (.ref I) x y) _ h'=_
     unfold jI;rw[tm];exact F
   ·rcases Uy.mp hx with q|q
    ·exact L x q
    ·rw[TW]at q;subst q;exact Y)
  wf 0 (pN k m (.ref I)) h o1 (by simp;exact HU G hw) ⟨.inl rfl,d,[],hI,(λv A=>by cases A),rfl⟩
 refine gH<|bJ l lc h' ⟨(cC (by kernel_rfl)).trans e,i1,i2,i3,W,by simpa using X⟩
theorem y3 {y:Nat}(g:h[n]?=some (.list [v]))(c:y<=9):ah .Mult (.ref n) (.int y) h=.ok (.ref h.length) (h++ [.list (List.replicate y v)]):=by
 refine(gp (f:=λl=>bif decide (0<=(y:Int))&&(decide ((y:Int)<=line)&&decide (l.length*(y:Int).toNat<=line))then R.ok (V.ref h.length) (h++ [O.list (List.replicate (y:Int).toNat l).flatten])else R.bad) g).trans ?_;rw[qc (Tu.mpr ⟨UL qE,Tu.mpr ⟨UL (by unfold line;exact R9 c),UL (by unfold line;simp;exact o2 c)⟩⟩),Int.toNat_natCast];rw[List.flatten_replicate_singleton]
theorem fv {β:Type}(C:Tb)(m:Nat)(c:Cx)(s:List Stmt)(k:Fl->Loc->M β)(l:Loc):cm C m c s k .next l=bj ((kK ai C.wf C.f m).ex c) s l k:=rfl
theorem Ah {β:Type}(C:Tb)(b:Nat)(K:Fl->Loc->M β){k m i:V}(h:List O)(g:lc=pN k m i\/ ∃x y,lc=jI k m i x y):
  cm C 23 (aw "_law_vector" (aq "_law_vector") b) (aG "_law_vector" [3,0,2]) K .next lc h=(mq (aZ b) λc=>mq (C.f "Vector" [(.str "integer"),i]) λo=>mq (C.f "_law_dressed" [c,o]) λq=>K (.ret q) lc) h:=by
 rw[fv];rcases g with rfl|⟨x,y,rfl⟩
 ·unfold pN;rw[tr];rfl
 ·unfold jI;rw[tv];rfl
theorem y4 {kind:V}(d:VS r b h0 h)(g:many<=9)(x:2000<wf):
  bU (oy (Tj wf (j+3)) b kind (.int many)) r h0 h:=by
 refine bU.pre (ac (aH _ _)) ?_;have y:=d.gr (Keep.app [O.list []]);have c:=d.keep.len;refine aB λS z=>kJ (G8 (j:=j+2) (k:=kind) (m:=.int many) y (ay h (O.list [])) (o9 c) g (qD x)) λl lc A F o q G L J=>z<|bU.pre (aO (cW (xq g)) (ac F))<|bU.pre (Ah _ _ _ A o)<|bU.pre (ac (aE q.cell))<|mX (j:=j) q.row G (o9 c) (by decide) (.integer l L) (by simp;exact Lj g J) q.keep d.lt (qD x)
theorem y5(hr:c8 r h)(G:2000<wf):bU (T ai wf 24 (j+4) "_law_vector" [.ref r]) r h h:=by
 refine bU.pre (h':=h++ [.cell none]) (m':=pn (Tj wf (j+3)) h.length (.ref r)) (by rw[yQ (by kernel_rfl) (by kernel_rfl),yp]) ?_;have q:r<h.length:=by obtain⟨_,e,_⟩:=hr;exact aA e
 have Y:VS r h.length h (h++ [O.cell (some (.ref r))]):=⟨ay _ _,hr.gr (Keep.app _),Keep.app _,q,Vi _⟩;refine bU.pre (ac vc) ?_;generalize h++ [O.cell (some (.ref r))]=h1 at Y;refine bU.pre (ac (aE Y.cell))<|bW (bh (wf:=wf) (j:=j+2) Y.row) λk2 h2 e2 Z Z r2 p2=>?_;have d2:=Y.row' r2 p2;refine bU.pre (aM e2 (aO (aD (by decide)) rfl))<|af (cM k2 (k:=8) (by decide)) λn0 n8=>?_;generalize k2.fmod 8=kind at n0 n8 ⊢;refine bU.pre (ac (aH _ _)) ?_;have d3:=d2.gr (Keep.app [O.list [.int 1,.int 2,.int 3,.int 4,.int 6,.int 9,.int 0,.int 1]]);refine bU.pre (ac (aE d3.cell))<|bW (bh (wf:=wf) (j:=j+2) d3.row) λk4 h4 e4 Z Z r4 p4=>?_;have F:=d3.row' r4 p4;refine bU.pre (aM e4 (aO (aD (by decide)) rfl))<|af (cM k4 (k:=8) (by decide)) λm0 m8=>?_;generalize k4.fmod 8=c at m0 m8 ⊢;have hle:=d2.keep.len;have gl:=p4.get _ _ (rS q hle) (ay h2 (O.list [.int 1,.int 2,.int 3,.int 4,.int 6,.int 9,.int 0,.int 1]));obtain⟨many,ho,g⟩:∃many:Nat,[V.int 1,.int 2,.int 3,.int 4,.int 6,.int 9,.int 0,.int 1][c.toNat]?=some (.int many)/\many<=9:=by
  rcases(show c=0\/c=1\/c=2\/c=3\/c=4\/c=5\/c=6\/c=7 from Rm m0 m8)with rfl|rfl|rfl|rfl|rfl|rfl|rfl|rfl
  ·exact⟨1,rfl,by decide⟩
  ·exact⟨2,rfl,by decide⟩
  ·exact⟨3,rfl,by decide⟩
  ·exact⟨4,rfl,by decide⟩
  ·exact⟨6,rfl,by decide⟩
  ·exact⟨9,rfl,by decide⟩
  ·exact⟨0,rfl,by decide⟩
  ·exact⟨1,rfl,by decide⟩
 refine bU.pre (ac (iY gl m0 ho (R8 m8))) ?_;by_cases k0:kind=0
 ·refine bU.pre (u4 k0 (aM (aE F.cell) (aO (cW (xq g)) rfl)))<|bM (E6 (j:=j+2) F g (qD G)) λl J L y a5 l5=>bU.pre (ac L)<|bU.pre (ac (aH _ _)) ?_
  have A:=y.gr (Keep.app [O.list (l.map vi)]);have x:=y.keep.len;exact mX (j:=j) A.row (ay J (O.list (l.map vi))) (o9 x) (by decide) (.logical l a5) (by simp;exact Lj g l5) A.keep q (qD G)
 refine bU.pre (rF k0 rfl) ?_;by_cases W:kind<4
 ·refine bU.pre (CK W rfl)<|y4 (j:=j) F g G
 refine bU.pre (CL W rfl) ?_;by_cases k6:kind<6
 ·refine bU.pre (CK k6 (aM (aE F.cell) (aO (cW (xq g)) rfl)))<|bM (C3 (j:=j+1) F g G) λl J L y a5 l5=>bU.pre (ac L)<|bU.pre (ac (aH _ _)) ?_
  have A:=y.gr (Keep.app [O.list (l.map vq)]);have x:=y.keep.len;exact mX (j:=j) A.row (ay J (O.list (l.map vq))) (o9 x) (by decide) (.double l a5) (by simp;exact Lj g l5) A.keep q (qD G)
 refine bU.pre (CL k6 rfl) ?_;by_cases X:kind=6
 ·refine bU.pre (u4 X (ac Nn)) ?_
  have y:=F.gr (Keep.app [qh]);have S:=F.keep.len;exact⟨_,⟨"NULL",[],λZ=>none⟩,_,rfl,.null (by show r<h4.length;exact Pm q S) (ay _ _) (λZ=>rfl),⟨AOk.nil,by simp,.null⟩,y.row,y.keep⟩
 refine bU.pre (rF X rfl)<|bU.pre (ac (aE F.cell))<|bU.pre (ac (aE F.cell))<|bW (bh (wf:=wf) (j:=j+2) F.row) λk5 J L Z Z r5 p5=>?_;have y:=F.row' r5 p5;refine bU.pre (aM L (aO (aD (by decide)) rfl)) ?_;have x:=y.keep.len;by_cases k3:k5.fmod 3=2
 ·refine bU.pre (u4 k3 (ac (aH _ _))) ?_
  have A:=y.gr (Keep.app [O.list [.str "1"]]);have z:=A.keep.len;refine bU.pre (ac (y3 (ay J _) g)) ?_;have U:=A.gr (Keep.app [O.list (List.replicate many (.str "1"))]);refine mX (j:=j) U.row (ay _ (O.list (List.replicate many (.str "1")))) (o9 z) (by decide) ?_ (by simp;exact Ll g) U.keep q (qD G);have:=Kd.character (List.replicate many "1");rwa [List.map_replicate]at this
 ·refine bU.pre (rF k3 (ac (aH _ _))) ?_
  have A:=y.gr (Keep.app [O.list [.int 1]]);have z:=A.keep.len;refine bU.pre (ac (y3 (ay J _) g)) ?_;have U:=A.gr (Keep.app [O.list (List.replicate many (.int 1))]);refine mX (j:=j) U.row (ay _ (O.list (List.replicate many (.int 1)))) (o9 z) (by decide) ?_ (by simp;exact Ll g) U.keep q (qD G);have:=Kd.integer (List.replicate many (some 1)) (λo ho=>by rw[List.eq_of_mem_replicate ho];show 1<=2147483647;decide);rwa [List.map_replicate]at this
inductive Op where
 |add|sub|mul|div|pow|mod|idiv
noncomputable def Op.s:Op->Str
 |.add=> "+"
 |.sub=> "-"
 |.mul=> "*"
 |.div=> "/"
 |.pow=> "^"
 |.mod=> "%%"
 |.idiv=> "%/%"
noncomputable def Op.whole:Op->Bool
 |.div=>false
 |.pow=>false
 |_=>true
noncomputable def iJ(x:Int):Option Int:=if(x.natAbs:Int)>2147483647 then none else some x
def tI(o:Op):Option Int->Option Int->Option Int
 |some a,some b=>match o with
  |.add=>iJ (a+b)
  |.sub=>iJ (a-b)
  |.mul=>iJ (a*b)
  |.idiv=>if b=0 then none else iJ (a.fdiv b)
  |.mod=>if b=0 then none else iJ (a.fmod b)
  |_=>none
 |_,_=>none
def fw(f:V):M V:=mq (builtin "abs" [f]) λg=>mq (cmp .Gt g (.int 2147483647)) λc=>bif c then(mr .none)else(mr f)
theorem eu(x:Int):fw (.int x)=mr (vi (iJ x)):=by
 unfold fw iJ;rw[show builtin "abs" [.int x]=mr (.int x.natAbs) from rfl,ae,cJ,ae];by_cases h:(x.natAbs:Int)>2147483647
 ·rw[UL h,Vw h];rfl
 ·rw[UC h,Vv h];rfl
theorem Nv(C:Tb)(b:Nat)(x y:Int)(h:List O):cX C b (.str "+") (.int x) (.int y) h=fw (.int (x+y)) h:=by kernel_rfl
theorem Nw(C:Tb)(b:Nat)(x y:Int)(h:List O):cX C b (.str "-") (.int x) (.int y) h=fw (.int (x-y)) h:=by kernel_rfl
theorem Nx(C:Tb)(b:Nat)(x y:Int)(h:List O):cX C b (.str "*") (.int x) (.int y) h=mq (ah .Mult (.int x) (.int y)) fw h:=by kernel_rfl
theorem J4(C:Tb)(b:Nat)(x y:Int)(h:List O):cX C b (.str "%/%") (.int x) (.int y) h=(bif decide (y=0)then mr .none else mq (ah .FloorDiv (.int x) (.int y)) fw) h:=by kernel_rfl
theorem Ny(C:Tb)(b:Nat)(x y:Int)(h:List O):cX C b (.str "%%") (.int x) (.int y) h=(bif decide (y=0)then mr .none else mq (ah .Mod (.int x) (.int y)) fw) h:=by kernel_rfl
theorem G9(C:Tb)(b:Nat)(o y:V)(h:List O):cX C b o .none y h=.ok .none h:=by kernel_rfl
theorem Ha(C:Tb)(b:Nat)(o:V)(x:Int)(h:List O):cX C b o (.int x) .none h=.ok .none h:=by kernel_rfl
theorem Iu(h:a.natAbs<=2147483647):a.natAbs<2^2000:=gB (Qg h)
theorem y6 {o:Op}{a b:Option Int}(g:o.whole=true)(q:fF a)(z:fF b):T ai wf 24 (j+1) "integer_op" [.str o.s,vi a,vi b] h=.ok (vi (tI o a b)) h:=by
 rw[aK (by kernel_rfl) (by kernel_rfl),yi];rcases a with _|x
 ·exact G9 _ _ _ _ _
 rcases b with _|y
 ·exact Ha _ _ _ _ _
 have A:=Iu q;have c:=Iu z;induction o using Mine.Op.casesOn with
 |add=>exact(Nv _ _ _ _ _).trans (by rw[eu];rfl)
 |sub=>exact(Nw _ _ _ _ _).trans (by rw[eu];rfl)
 |mul=>exact(Nx _ _ _ _ _).trans (by rw[bn A c,ae,eu];rfl)
 |div=>cases g
 |pow=>cases g
 |mod=>
  refine(Ny _ _ _ _ _).trans ?_;show _=R.ok (vi (if y=0 then none else iJ (x.fmod y))) h;by_cases h0:y=0
  ·rw[UL h0,Vw h0];rfl
  ·rw[UC h0,Vv h0,Vm,aD h0,ae,eu];rfl
 |idiv=>
  refine(J4 _ _ _ _ _).trans ?_;show _=R.ok (vi (if y=0 then none else iJ (x.fdiv y))) h;by_cases h0:y=0
  ·rw[UL h0,Vw h0];rfl
  ·rw[UC h0,Vv h0,Vm,bu h0 c,ae,eu];rfl
def lJ(x y:V)(op:V)(q:V->M V):M V:=mq (ah .Add x y) λg=>mq (ah .Sub x y) λo=>mq (ah .Mult x y) λz=>mq (aC (.dict (put "*" z (put "-" o (put "+" g []))))) λc=>mq (bQ c "get") λZ=>mq (bN c "get" [op,.none]) q
theorem Nz(C:Tb)(b:Nat)(x y:Int)(h:List O):cg C b (.str "+") (.int x) (.int y) h=lJ (.int x) (.int y) (.str "+") fw h:=by kernel_rfl
theorem NA(C:Tb)(b:Nat)(x y:Int)(h:List O):cg C b (.str "-") (.int x) (.int y) h=lJ (.int x) (.int y) (.str "-") fw h:=by kernel_rfl
theorem NB(C:Tb)(b:Nat)(x y:Int)(h:List O):cg C b (.str "*") (.int x) (.int y) h=lJ (.int x) (.int y) (.str "*") fw h:=by kernel_rfl
theorem J5(C:Tb)(b:Nat)(x y:Int)(h:List O):cg C b (.str "%/%") (.int x) (.int y) h=(bif decide (y=0)then mr .none else lJ (.int x) (.int y) (.str "%/%") λZ=>mq (ah .FloorDiv (.int x) (.int y)) fw) h:=by kernel_rfl
theorem NC(C:Tb)(b:Nat)(x y:Int)(h:List O):cg C b (.str "%%") (.int x) (.int y) h=(bif decide (y=0)then mr .none else lJ (.int x) (.int y) (.str "%%") λZ=>mq (ah .FloorDiv (.int x) (.int y)) λc=>mq (ah .Mult c (.int y)) λg=>mq (ah .Sub (.int x) g) fw) h:=by kernel_rfl
theorem Hb(C:Tb)(b:Nat)(o y:V)(h:List O):cg C b o .none y h=.ok .none h:=by kernel_rfl
theorem Hc(C:Tb)(b:Nat)(o:V)(x:Int)(h:List O):cg C b o (.int x) .none h=.ok .none h:=by kernel_rfl
theorem kz {x y:Int}{op:Str}{K:V->M V}{h:List O}{r:V}(z:x.natAbs<2^2000)(q:y.natAbs<2^2000)
  (o:K ((look op (put "*" (V.int (x*y)) (put "-" (V.int (x-y)) (put "+" (V.int (x+y)) [])))).getD .none)=mr r):∃t,lJ (.int x) (.int y) (.str op) K h=.ok r (h++t):=by
 refine bO (lJ (.int x) (.int y) (.str op) K h) λA c=>?_;unfold lJ;rw[cZ,ae,ch,ae,bn z q,ae,ac (aH _ _)];have g:=ay h (O.dict (put "*" (V.int (x*y)) (put "-" (V.int (x-y)) (put "+" (V.int (x+y)) []))));refine az ((vV g))<|az ((ET g)) ?_;rw[o];refine c _<|⟨_,rfl⟩
theorem C5 {x y:Int}(h:x.natAbs<=2147483647):(x.fdiv y).natAbs<2^60:=by
 have c:(x.fdiv y).natAbs<=x.natAbs:=Int.natAbs_fdiv_le_natAbs x y;exact T1 (tt c h) (by decide)
theorem wU {o:Op}{a b:Option Int}{h:List O}(z:o.whole=true)(q:fF a)(A:fF b):∃t,T ai wf 24 (j+1) "_law_integer" [.str o.s,vi a,vi b] h=.ok (vi (tI o a b)) (h++t):=by
 rw[aK (by kernel_rfl) (by kernel_rfl),wP];rcases a with _|x
 ·exact⟨[],(Hb _ _ _ _ _).trans (by rw[Uu];rfl)⟩
 rcases b with _|y
 ·exact⟨[],(Hc _ _ _ _ _).trans (by rw[Uu];rfl)⟩
 have g:=Iu q;have c:=Iu A;induction o using Mine.Op.casesOn with
 |add=>
  have:=(kz (op:= "+") (K:=fw) (h:=h) (r:=vi (iJ (x+y))) g c (eu _));obtain⟨t,e⟩:=this;exact⟨t,(Nz _ _ _ _ _).trans e⟩
 |sub=>
  have:=(kz (op:= "-") (K:=fw) (h:=h) (r:=vi (iJ (x-y))) g c (eu _));obtain⟨t,e⟩:=this;exact⟨t,(NA _ _ _ _ _).trans e⟩
 |mul=>
  have:=(kz (op:= "*") (K:=fw) (h:=h) (r:=vi (iJ (x*y))) g c (eu _));obtain⟨t,e⟩:=this;exact⟨t,(NB _ _ _ _ _).trans e⟩
 |div=>exact ff z
 |pow=>exact ff z
 |mod=>
  rw[NC (Tj wf j) h.length x y h|>λe=>show cg (Tj wf j) h.length (.str Op.mod.s) (vi (some x)) (vi (some y)) h=_ from e];show ∃t,_=R.ok (vi (if y=0 then none else iJ (x.fmod y))) (h++t);by_cases h0:y=0
  ·rw[UL h0,Vw h0];exact⟨[],by rw[Uu];rfl⟩
  ·rw[UC h0,Vv h0,Vm]
   refine kz g c ?_;rw[bu h0 c,ae,bn (gB (C5 q)) c,ae,ch,ae,eu];rw[Int.fmod_def,UZ]
 |idiv=>
  rw[J5 (Tj wf j) h.length x y h|>λe=>show cg (Tj wf j) h.length (.str Op.idiv.s) (vi (some x)) (vi (some y)) h=_ from e];show ∃t,_=R.ok (vi (if y=0 then none else iJ (x.fdiv y))) (h++t);by_cases h0:y=0
  ·rw[UL h0,Vw h0];exact⟨[],by rw[Uu];rfl⟩
  ·rw[UC h0,Vv h0,Vm]
   refine kz g c ?_;rw[bu h0 c,ae,eu]
noncomputable def dH(x:Q)(k:Int):Q:=match x with
 |none=>if k=0 then some (1,1)else none
 |some (a,b)=>if(a=1/\b=1)\/k=0 then some (1,1)else if a=0/\b=0 then some (0,0)else if a=0/\b=1 then(if k>0 then some (0,1)else some (1,0))
  else if b=0 then(if k<0 then some (0,1)else if a<0/\k.fmod 2=0 then some (1,0)else some (a,b))else if k>0 then some (a^k.toNat,b^k.toNat)else b8 (b^(-k).toNat) (a^(-k).toNat)
theorem y7 {k l:Nat}(g:a.natAbs<2^k)(q:0<k)(o:l<=4)(c:4*k<m):(a^l).natAbs<2^m:=by
 rw[Int.natAbs_pow];refine T1 (Nat.pow_le_pow_left (U6 g) l) ?_;rw[<-Nat.pow_mul];refine Nat.pow_lt_pow_right (by decide) ?_;have:k*l<=k*4:=TO _ o;exact T1 this (Nat.mul_comm 4 _▸c)
theorem gG {k:Int}(h0:0<=k)(g:k<=4096)(c:a.natAbs<2^2000):ah .Pow (.int a) (.int k)=mr (.int (a^k.toNat)):=by
 funext h;exact qc (Tu.mpr ⟨UL h0,Tu.mpr ⟨UL g,UL c⟩⟩)
theorem wV {a b k:Int}{h:List O}(z:a.natAbs<2^40)(F:b.natAbs<2^40)(G:¬(a=1/\b=1))(h0:k≠0)(q:k.natAbs<=4)(A:b≠0)(y:a≠0)(L:2000<wf):
  T ai wf 24 (j+3) "whole_power" [vq (some (a,b)),.int k] h=.ok (vq (dH (some (a,b)) k)) h:=by
 rw[aK (by kernel_rfl) (by kernel_rfl),wv];unfold oo;have ep:dH (some (a,b)) k=if k>0 then some (a^k.toNat,b^k.toNat)else b8 (b^(-k).toNat) (a^(-k).toNat):=by
  show(if(a=1/\b=1)\/k=0 then some (1,1)else if a=0/\b=0 then some (0,0)else if a=0/\b=1 then(if k>0 then some (0,1)else some (1,0))else if b=0 then _ else _)=_
  rw[Vv (λh=>h.elim G h0),Vv (Qf y),Vv (RM y),Vv A]
 have c:iA (Tj wf (j+2)) (vq (some (a,b))) (.int k) h=R.ok (vq (dH (some (a,b)) k)) h:=by
  rw[ep];refine aO (show builtin "abs" [.int k]=mr (.int k.natAbs) from rfl ..)<|Nj (Vj.mpr (U1.mpr (tt q (by decide))))<|aO (sY ..) ?_;by_cases g:k>0
  ·refine qP (RW g) ?_;rw[Vw g]
   refine aO (bz ..)<|aO (gG (Lp g) (Py q) (aS z (by decide)))<|aO (bL ..)<|aO (gG (Lp g) (Py q) (aS F (by decide))) rfl
  ·refine qQ (λh=>g (Tw.mpr ⟨h,Vu h0⟩)) ?_;rw[Vv g]
   have J:ah .Sub (.int 0) (.int k)=mr (.int (-k)):=(ch ..).trans (by rw[show(0:Int)-k= -k from Dx]);refine aO (bL ..)<|aO J<|aO (gG (Pq g) (LQ q) (aS F (by decide)))<|aO (bz ..)<|aO J<|aO (gG (Pq g) (LQ q) (aS z (by decide)))<|aM ((s9 (j:=j) (y7 z (by decide) (Mb q) (by decide)) L)) ?_;rw[mO];rfl
 refine oB G ?_;by_cases x:a= -1
 ·refine xf x ?_
  by_cases o:b=1
  ·refine cG o<|aO (aD (by decide)) ?_
   subst x;subst o
   rcases(show k= -4\/k= -3\/k= -2\/k= -1\/k=1\/k=2\/k=3\/k=4 from Q3 h0 q)with rfl|rfl|rfl|rfl|rfl|rfl|rfl|rfl<;>rfl
  ·refine cA o<|c
 ·refine xg x<|c
theorem J6 {x:Q}{k:Int}(hx:c7 x)(hk:k.natAbs<=4)(hw:2000<wf):T ai wf 24 (j+4) "power" [vq x,vq (some (k,1))] h=.ok (vq (dH x k)) h:=by
 rw[aK (by kernel_rfl) (by kernel_rfl),JR];unfold Be;have W:=qf (wf:=wf) (j:=j+2) x (h:=h);have z:=qf (wf:=wf) (j:=j+2) (some (k,1)) (h:=h);have S:=yG (wf:=wf) (j:=j+2) x (some (k,1)) (h:=h);have U:bx (some (k,1))=false:=by show(decide (k=0)&&decide ((1:Int)=0))=false;simp
 rw[U]at z;by_cases k0:k=0
 ·subst k0
  have:dH x 0=some (1,1):=by
   rcases x with _|⟨a,b⟩
   ·rfl
   ·exact Vw (.inr rfl)
  rw[this];rcases x with _|⟨a,b⟩
  ·rfl
  ·by_cases q:a=1/\b=1
   ·exact qV q rfl
   ·exact oB q (qV ⟨rfl,rfl⟩ rfl)
 have A:¬(k=0/\(1:Int)=1):=λq=>k0 q.1;rcases x with _|⟨a,b⟩
 ·have L:dH none k=none:=Vv k0
  rw[L];refine aO (iE ..)<|km<|oB A ?_;simp only[vq,iE,gw,ae,Vm,UC k0,UG]at W S ⊢;refine aM W<|aO (aT ..)<|oA (show bx none=true from rfl)<|aM S ?_;rfl
 by_cases G:a=1/\b=1
 ·rw[show dH (some (a,b)) k=some (1,1) from Vw (.inl G)];exact qV G rfl
 refine oB G<|oB A<|aM W<|aO (aT ..) ?_;by_cases y:a=0/\b=0
 ·refine oA (show bx (some (a,b))=true by show(decide (a=0)&&decide (b=0))=true;simpa using y) ?_;refine aM S ?_
  rw[show dH (some (a,b)) k=some (0,0) from(Vv (LB k0 y)).trans (Vw y)];rfl
 refine mM (show bx (some (a,b))=false by show(decide (a=0)&&decide (b=0))=false;simpa using y) ?_;refine aM z<|aO (aT ..)<|km ?_;by_cases hz:a=0/\b=1
 ·refine qV hz ?_;rw[show dH (some (a,b)) k=if k>0 then some (0,1)else some (1,0) from(Vv (LH k0 hz)).trans ((Vv y).trans (Vw hz))]
  by_cases J:k>0
  ·rw[Vw J];exact xh J rfl
  ·rw[Vv J];exact xi J rfl
 refine oB hz<|cA (by decide) ?_;obtain⟨⟨up,X⟩,Z,sb⟩:=hx;by_cases o:b=0
 ·refine cG o ?_
  have ha1:a.natAbs=1:=by
   rcases X with q|q
   ·exact absurd q y
   ·subst o;simpa using q
  have ei:T ai wf 24 (j+3) "infinite_power" [vq (some (a,b)),vq (some (k,1))] h=.ok (vq (dH (some (a,b)) k)) h:=by
   rw[aK (by kernel_rfl) (by kernel_rfl),rm];unfold kh;have L:dH (some (a,b)) k=if k<0 then some (0,1)else if a<0/\k.fmod 2=0 then some (1,0)else some (a,b):=(Vv (Ml k0 o)).trans ((Vv y).trans ((Vv hz).trans (Vw o)));rw[L];have f:fM (vq (some (a,b))) (vq (some (k,1))) h=.ok (vq (if k<0 then some (0,1)else if a<0/\k.fmod 2=0 then some (1,0)else some (a,b))) h:=by
    by_cases g:k<0
    ·rw[Vw g];exact qd g rfl
    ·rw[Vv g];refine qe g ?_
     by_cases c:a<0
     ·refine qd c<|aO (bz ..)<|aO (aD (by decide)) ?_
      by_cases F:k.fmod 2=0
      ·rw[Vw ⟨c,F⟩];exact u4 F rfl
      ·rw[Vv λq=>F q.2];exact rF F rfl
     ·rw[Vv λq=>c q.1];exact qe c rfl
   by_cases c:a<0
   ·exact qd c (aO (bL ..) (aO (dY ..) (km f)))
   ·exact qe c f
  refine aM ei ?_;rfl
 ·refine cA o ?_
  have Y:=wV (j:=j) (a:=a) (b:=b) (k:=k) (h:=h) Z sb G k0 hk o (by
   intro q;subst q;rcases X with q|q
   ·exact o q.2
   ·simp at q;omega) hw
  refine cG rfl<|aO (bz ..)<|aM Y rfl
theorem Hd {n:Int}(h:Nat.gcd n.natAbs d.natAbs=1):eV n d=some (n,d):=by
 unfold eV;rw[h];simp
theorem E7 {n:Int}(hd:0<d)(h:Nat.gcd n.natAbs d.natAbs=1):b8 n d=some (n,d):=by
 unfold b8;rw[Vv (HX hd),Vv (L8 hd),Hd h]
theorem J7 {b:Int}(h:Nat.gcd a.natAbs b.natAbs=1)(i:Nat):Nat.gcd (a^i).natAbs (b^i).natAbs=1:=by
 rw[Int.natAbs_pow,Int.natAbs_pow];exact Nat.Coprime.pow i i h
theorem He {b:Int}(c:0<b)(h:Nat.gcd a.natAbs b.natAbs=1)(i:Nat):iW (some (a^i,b^i)) (some (a,b))=some (a^(i+1),b^(i+1)):=by
 have o:0<b^(i+1):=Vg c;have g:0<b^i:=Vg c
 show(if(a^i=0/\b^i=0)\/(a=0/\b=0)then cB else b8 (a^i*a) (b^i*b))=_
 rw[Vv (Qp c g),<-Int.pow_succ,<-Int.pow_succ];exact E7 o (J7 h _)
theorem E8 {b:Int}(g:a.natAbs<2^40)(o:b.natAbs<2^40)(c:i<=4):Sm 400 (some (a^i,b^i)):=⟨y7 g (by decide) c (by decide),y7 o (by decide) c (by decide)⟩
theorem Ai {x:Q}{k:Int}(hx:c7 x)(S:k.natAbs<=4)(hw:2000<wf):T ai wf 24 (j+3) "_law_power" [vq x,.int k] h=.ok (vq (dH x k)) h:=by
 rw[aK (by kernel_rfl) (by kernel_rfl),z0];by_cases k0:k=0
 ·subst k0
  have:dH x 0=some (1,1):=by
   rcases x with _|⟨a,b⟩
   ·rfl
   ·exact Vw (.inr rfl)
  rw[this];rcases x with _|⟨a,b⟩
  ·rfl
  ·by_cases q:a=1/\b=1
   ·exact qV q rfl
   ·exact oB q rfl
 rcases x with _|⟨a,b⟩
 ·have e2:dH none k=none:=Vv k0
  rw[e2];unfold qN;unfold iq;refine aO (iE ..)<|km ?_;rw[bA,UC k0];rfl
 obtain⟨⟨up,hg⟩,X,sb⟩:=hx;have J:¬(a=1/\b=1)-> ¬(a=0/\b=0)-> ¬(a=0/\b=1)->b≠0->pj (Tj wf (j+2)) h.length (vq (some (a,b))) (.int k) h=R.ok (vq (dH (some (a,b)) k)) h:=λG g hz F=>by
  have z:0<b:=RB up F;have U:Nat.gcd a.natAbs b.natAbs=1:=hg.resolve_left g;refine aO (show builtin "abs" [.int k]=mr (.int k.natAbs) from rfl ..)<|aO (cW (Qo S) ..) ?_;obtain⟨lc,h',e,rfl,i2⟩:=bX (body:=λv l=>aJ (Tj wf (j+2)) 23 "_law_power" h.length [5] v l λfl l=>mr (fl,l)) (it:=.range k.natAbs) (rng k.natAbs)
   (λi lc h'=>h'=h/\(lc=([("x",vq (some (a,b))),("n",.int k),("found",vq (some (a^i,b^i)))]:Loc)\/ ∃p,lc=([("x",vq (some (a,b))),("n",.int k),("found",vq (some (a^i,b^i))),("lap",p)]:Loc)))
   (λi lc h' Z=>cK _ i h')
   (λi v lc h' hv hI=>by
    obtain⟨hi,_⟩:=gV hv;obtain⟨rfl,hI⟩:=hI;have W:=oE (j:=j) (x:=some (a^i,b^i)) (y:=some (a,b)) (h:=h') (E8 X sb (Qx S hi)) (eW ⟨X,sb⟩ (by decide)) (show 0<=b^i from UW (Vg z)) up hw;rw[th,He z U]at W;refine bJ .next [("x",vq (some (a,b))),("n",.int k),("found",vq (some (a^(i+1),b^(i+1)))),("lap",v)] h' ⟨?_,.inl rfl,rfl,.inr ⟨v,rfl⟩⟩;rcases hI with rfl|⟨p,rfl⟩
    ·rw[uO]
     refine aM W ?_;rfl
    ·rw[uP]
     refine aM W ?_;rfl)
   wf 0 [("x",vq (some (a,b))),("n",.int k),("found",(.tup [(.int 1),(.int 1)]))] h o1 (by simp;exact Rw S hw) ⟨rfl,.inl (by simp[vq])⟩
  refine aM (((cC (by kernel_rfl)).trans e)) ?_;rw[iX]at i2;have ep:dH (some (a,b)) k=if k>0 then some (a^k.toNat,b^k.toNat)else b8 (b^(-k).toNat) (a^(-k).toNat):=by
   show(if(a=1/\b=1)\/k=0 then some (1,1)else if a=0/\b=0 then some (0,0)else if a=0/\b=1 then(if k>0 then some (0,1)else some (1,0))else if b=0 then _ else _)=_
   rw[Vv (Rx k0 G),Vv (QF z),Vv (QM hz),Vv F]
  have last:(mq (cmp .Gt (.int k) (.int 0)) λr4=>bif r4 then(mr (vq (some (a^k.natAbs,b^k.natAbs))))else(mq (T ai wf 24 (j+2) "_law_quotient" [(.tup [(.int 1),(.int 1)]),vq (some (a^k.natAbs,b^k.natAbs))]) λr3=>mr r3)) h'=.ok (vq (dH (some (a,b)) k)) h':=by
   refine aO (cJ ..) ?_;rw[ep];by_cases o:k>0
   ·rw[UL o,Vw o,show k.natAbs=k.toNat from RU o];rfl
   ·rw[UC o,Vv o,show k.natAbs=(-k).toNat from RZ o,Vm]
    have Y:=mN (j:=j) (x:=some (1,1)) (y:=some (a^(-k).toNat,b^(-k).toNat)) (h:=h') ⟨T3 (by decide),T3 (by decide)⟩ (E8 X sb (Mb S)) (show(0:Int)<=1 by decide) (show 0<=b^(-k).toNat from UW (Vg z)) (show(1:Int)=0->_ from λq=>by decide) hw;rw[pA]at Y;have hbp:0<b^(-k).toNat:=Vg z;have ed:de (some (1,1)) (some (a^(-k).toNat,b^(-k).toNat))=b8 (b^(-k).toNat) (a^(-k).toNat):=by
     show(if((1:Int)=0/\(1:Int)=0)\/(a^(-k).toNat=0/\b^(-k).toNat=0)then cB else if(1:Int)=0 then _ else b8 (1*b^(-k).toNat) (1*a^(-k).toNat))=_
     rw[Vv (by omega),Vv (by decide),Int.one_mul,Int.one_mul]
    rw[ed]at Y;show mq (T ai wf 24 (j+2) "_law_quotient" [vq (some (1,1)),vq (some (a^(-k).toNat,b^(-k).toNat))]) _ h'=_;refine aM Y ?_;rfl
  rcases i2 with rfl|⟨p,rfl⟩
  ·rw[fv,uQ];exact last
  ·rw[fv,uR];exact last
 by_cases G:a=1/\b=1
 ·rw[show dH (some (a,b)) k=some (1,1) from Vw (.inl G)];exact qV G rfl
 refine oB G<|rF k0<|GR (l:= [.int a,.int b]) (x:=mr (vq (some (a,b)))) ?_;by_cases g:a=0/\b=0
 ·rw[show dH (some (a,b)) k=some (0,0) from(Vv (LB k0 g)).trans (Vw g)];refine qV g ?_
  obtain⟨rfl,rfl⟩:=g;rfl
 refine oB g ?_;by_cases hz:a=0/\b=1
 ·rw[show dH (some (a,b)) k=if k>0 then some (0,1)else some (1,0) from(Vv (LH k0 hz)).trans ((Vv g).trans (Vw hz))];refine qV hz ?_
  by_cases o:k>0
  ·rw[Vw o];exact Sq o rfl
  ·rw[Vv o];exact Nj o rfl
 refine oB hz ?_;by_cases F:b=0
 ·rw[show dH (some (a,b)) k=if k<0 then some (0,1)else if a<0/\k.fmod 2=0 then some (1,0)else some (a,b) from(Vv (Ml k0 F)).trans ((Vv g).trans ((Vv hz).trans (Vw F)))]
  refine cG F ?_;by_cases A:k<0
  ·rw[Vw A];exact CK A rfl
  ·rw[Vv A];refine CL A ?_
   by_cases c:a>0
   ·rw[Vv (Sb c)];exact xh c rfl
   ·refine xi c<|aO (aD (by decide)) ?_
    by_cases L:k.fmod 2=1
    ·rw[Vv (QI L)];exact u4 L rfl
    ·rw[Vw (Rz g F (cM k (k:=2) (by decide)) c L)];exact rF L rfl
 ·refine cA F<|J G g hz F
theorem Hf {g n:Int}(c:0<g)(hd:0<d):eV (g*n) (g*d)=eV n d:=by
 have o:(0:Int)<(Nat.gcd n.natAbs d.natAbs:Int):=by have:=Tc n.natAbs (show 0<d.natAbs from DC hd);exact Pp this
 have e:(Nat.gcd (g*n).natAbs (g*d).natAbs:Int)=g*(Nat.gcd n.natAbs d.natAbs:Int):=by
  rw[UJ,UJ,Nat.gcd_mul_left,Int.natCast_mul];rw[show((g.natAbs:Nat):Int)=g from HZ c]
 unfold eV;rw[e,Te _ _ c,Te _ _ c]
theorem tJ {n d:Int}(hd:0<d):∃g p q:Int,0<g/\0<q/\n=g*p/\d=g*q/\eV n d=some (p,q):=by
 have x:0<Nat.gcd n.natAbs d.natAbs:=Tc n.natAbs (show 0<d.natAbs from DC hd);obtain⟨p,y⟩:(Nat.gcd n.natAbs d.natAbs:Int)∣n:=Int.ofNat_dvd_left.mpr (Nat.gcd_dvd_left _ _);obtain⟨q,o⟩:(Nat.gcd n.natAbs d.natAbs:Int)∣d:=Int.ofNat_dvd_left.mpr (Nat.gcd_dvd_right _ _);have c:(0:Int)<(Nat.gcd n.natAbs d.natAbs:Int):=Pp x;refine bJ _ p q ⟨c, ?_,y,o, ?_⟩
 ·rw[o]at hd;exact Int.pos_of_mul_pos_right hd c|>λh=>h
 ·unfold eV
  have A:n/(Nat.gcd n.natAbs d.natAbs:Int)=p:=by
   conv=>lhs;lhs;rw[y]
   exact S9 _ (vu x)
  have z:d/(Nat.gcd n.natAbs d.natAbs:Int)=q:=by
   conv=>lhs;lhs;rw[o]
   exact S9 _ (vu x)
  rw[A,z]
theorem C6 {n d:Int}(hd:d≠0):dW (b8 n d)=some (n.fdiv d,1)/\rG (b8 n d)=true:=by
 have pos:∀n d:Int,0<d->dW (eV n d)=some (n.fdiv d,1)/\rG (eV n d)=true:=λn d hd=>by
  refine jc (tJ (n:=n) hd) λg p q y x o c e=>?_;subst o;subst c;rw[e];refine⟨?_,UL x⟩
  show(if q>0 then some (p/q,1)else _)=_
  rw[Vw x,ST _ (UW hd),Te _ _ y]
 unfold b8;rw[Vv hd];by_cases h:d<0
 ·rw[Vw h]
  have:=pos (-n) (-d) (Ly h);rwa [Int.neg_fdiv_neg]at this
 ·rw[Vv h];exact pos n d (Pu hd h)
theorem wg {n:Int}(h:0<d):b8 n d=eV n d:=by
 unfold b8;rw[Vv (HX h),Vv (L8 h)]
theorem J8 {b c f:Int}(x:0<b)(hd:0<d):lY (some (a,b)) (fP (iW (some (f,1)) (some (c,d))))=eV (a*d-f*c*b) (b*d):=by
 have F:iW (some (f,1)) (some (c,d))=eV (f*c) d:=by
  show(if(f=0/\(1:Int)=0)\/(c=0/\d=0)then cB else b8 (f*c) (1*d))=_
  rw[Vv (by omega),Int.one_mul,wg hd]
 rw[F];refine aB λJ z=>jc (tJ (n:=f*c) hd) λg p q G o y A e=>z ?_;rw[e,y,A]
 show(if(a=0/\b=0)\/(-p=0/\q=0)then cB else if b=0 then _ else if q=0 then _ else b8 (a*q+ -p*b) (b*q))=_
 rw[Vv (λh=>h.elim (λh=>U0 x h.2) λh=>U0 o h.2),Vv (HX x),Vv (HX o),wg (Vf x o)];rw[show a*(g*q)-g*p*b=g*(a*q+ -p*b) by
  rw[Int.mul_add,Int.neg_mul,Int.mul_neg,<-Int.sub_eq_add_neg,<-UM,<-UM,<-UM,UZ a g]]
 rw[show b*(g*q)=g*(b*q) by rw[<-UM,<-UM,UZ b g]];rw[Hf G (Vf x o)]
theorem y8 {n:Int}:b8 n 0=some (n.sign,0):=by
 unfold b8;rw[Vw rfl];by_cases h0:n=0
 ·subst h0;rfl
 ·rw[Vv h0]
  by_cases c:n>0
  ·rw[Vw c,Tm c]
  ·rw[Vv c,SV (Mp h0 c)]
theorem y9(hd:d≠0):b8 0 d=some (0,1):=by
 have h:=lj hd;rw[mO]at h;rcases hq:b8 0 d with _|⟨p,q⟩
 ·rw[hq]at h;cases h
 ·rw[hq]at h;cases h;rfl
noncomputable def qi(x y:Q):V:=.tup [vq (cV x y),vq (lZ x y)]
theorem rK {x y:Q}(h:de x y=cB):cV x y=cB:=by unfold cV;rw[h];rfl
theorem rL {x y:Q}{n:Int}(h:de x y=some (n,0)):cV x y=some (n,0):=by unfold cV;rw[h];rfl
theorem Hg {b c:Int}(x:a.natAbs<2^2000)(o:b.natAbs<2^2000)(q:c.natAbs<2^2000)(g:d.natAbs<2^2000)(h0:b*c≠0)(A:(b*c).natAbs<2^2000)(y:((a*d).fdiv (b*c)).natAbs<2^2000)(z:((a*d).fdiv (b*c)*c).natAbs<2^2000):
  mG C (vq (some (a,b))) (vq (some (c,d))) h=mq (C.f "_law_reduced" [.int (a*d-(a*d).fdiv (b*c)*c*b),.int (b*d)]) (λr=>mr (.tup [.tup [.int ((a*d).fdiv (b*c)),.int 1],r])) h:=by
 refine fO (bz ..) (bL ..) x g<|fO (bL ..) (bz ..) o q<|aO (bu h0 A)<|fO (bz ..) (bL ..) x g<|Im (bz ..) y q<|Im (bL ..) z o<|aO (ch ..)<|fO (bL ..) (bL ..) o g rfl
theorem oH {x y:Q}(hx:c7 x)(hy:c7 y)(hw:2000<wf):T ai wf 24 (j+2) "_law_divided" [vq x,vq y] h=.ok (qi x y) h:=by
 rw[aK (by kernel_rfl) (by kernel_rfl),wJ];unfold ow qi;rcases x with _|⟨a,b⟩
 ·have e1:cV none y=none:=by rcases y with _|⟨c,d⟩<;>rfl
  have e2:lZ none y=none:=by rcases y with _|⟨c,d⟩<;>rfl
  rw[e1,e2];rfl
 rcases y with _|⟨c,d⟩
 ·have e1:cV (some (a,b)) none=none:=rfl
  have e2:lZ (some (a,b)) none=none:=rfl;rw[e1,e2];rfl
 have o:lZ (some (a,b)) (some (c,d))=if(a=0/\b=0)\/(c=0/\d=0)then cB else if c=0\/b=0 then cB else if d=0 then(if a*c<0 then some (c,d)else some (a,b))else lY (some (a,b)) (fP (iW (dW (de (some (a,b)) (some (c,d)))) (some (c,d)))):=rfl;have g:de (some (a,b)) (some (c,d))=if(a=0/\b=0)\/(c=0/\d=0)then cB else if b=0 then(if d=0 then cB else if c<0 then fP (some (a,b))else some (a,b))else b8 (a*d) (b*c):=rfl;obtain⟨⟨ub,hg⟩,sa,sb⟩:=hx;obtain⟨⟨ud,hg2⟩,sc,sd⟩:=hy;have W:a.natAbs<2^40:=sa;have X:b.natAbs<2^40:=sb;have L:c.natAbs<2^40:=sc;have Y:d.natAbs<2^40:=sd;refine GR<|GR ?_;by_cases A:a=0/\b=0
 ·refine qV A ?_;rw[o,Vw (.inl A),rK (g.trans (Vw (.inl A)))];rfl
 refine oB A ?_;by_cases F:c=0/\d=0
 ·refine qV F ?_;rw[o,Vw (.inr F),rK (g.trans (Vw (.inr F)))];rfl
 refine oB F ?_;have nn:¬((a=0/\b=0)\/(c=0/\d=0)):=λq=>q.elim A F;rw[Vv nn]at o g;by_cases J:c=0
 ·have Z:d=1:=by
   rcases hg2 with q|q
   ·exact absurd q F
   ·subst J;simp at q;exact PT ud q
  have ei:cV (some (a,b)) (some (c,d))=some (a.sign,0):=by
   refine rL ?_;rw[g];by_cases z:b=0
   ·rw[Vw z,Vv (Qb Z),Vv (Qh J)]
    have ha1:a.natAbs=1:=by
     rcases hg with q|q
     ·exact absurd q A
     ·subst z;simpa using q
    have:a.sign=a:=by rcases(show a=1\/a= -1 from Pj ha1)with rfl|rfl<;>rfl
    rw[this,z]
   ·rw[Vv z,J,Z,Int.mul_zero,Int.mul_one,y8]
  rw[ei,o,Vw (.inl J)];refine xf J ?_;by_cases h1:a>0
  ·rw[Tm h1];exact xh h1 rfl
  ·refine xi h1 ?_
   by_cases h2:a<0
   ·rw[SV h2];exact qd h2 rfl
   ·refine qe h2 ?_;rw[show a=0 from LP h1 h2];rfl
 refine xg J ?_;by_cases z:b=0
 ·rw[o,Vw (.inr z)]
  rw[Vw z]at g;refine cG z ?_;by_cases hd:d=0
  ·rw[rK (g.trans (Vw hd))];exact cG hd rfl
  ·rw[Vv hd]at g
   refine cA hd<|cG z ?_;by_cases S:c<0
   ·rw[Vw S]at g
    rw[rL (n:= -a) (by rw[g];show some (-a,b)=_;rw[z])];exact xi (RX S) rfl
   ·rw[Vv S]at g
    rw[rL (n:=a) (by rw[g,z])];exact xh (H0 J S) rfl
 rw[Vv z]at g;rw[Vv (λq=>q.elim J z)]at o;have U:b*c≠0:=Int.mul_ne_zero z J;refine cA z<|cA z ?_;by_cases hd:d=0
 ·rw[Vw hd]at o
  have ei:cV (some (a,b)) (some (c,d))=if a*c<0 then some (-1,1)else some (0,1):=by
   have e1:de (some (a,b)) (some (c,d))=some (0,1):=by rw[g,hd,Int.mul_zero,y9 U]
   unfold cV;rw[e1]
   show(if rG (some (0,1))=false then _ else if d=0 then _ else _)=_
   rw[Vv (by decide),Vw hd]
  rw[ei,o];refine cG hd<|fO (bz ..) (bz ..) (aS W (by decide)) (aS L (by decide))<|aO (aT _) ?_;by_cases G:a*c<0
  ·rw[UL G,Vw G,Vw G];rfl
  ·rw[UC G,Vv G,Vv G];rfl
 rw[Vv hd]at o;refine af (C6 (n:=a*d) U) λfl fi=>?_;have ei:cV (some (a,b)) (some (c,d))=some ((a*d).fdiv (b*c),1):=by
  unfold cV;rw[g,fi]
  show(if true=false then _ else if d=0 then _ else dW (b8 (a*d) (b*c)))=_
  rw[Vv (by decide),Vv hd,fl]
 rw[ei,o,g,fl,J8 (o6 ub z) (o6 ud hd)];have m1:(a*d).natAbs<2^80:=bo W Y (by decide);have m2:(b*c).natAbs<2^80:=bo X L (by decide);have m3:((a*d).fdiv (b*c)).natAbs<2^80:=T1 (Int.natAbs_fdiv_le_natAbs _ _) m1;have m4:((a*d).fdiv (b*c)*c).natAbs<2^120:=bo m3 L (by decide);have m5:(b*d).natAbs<2^80:=bo X Y (by decide);have ba:a.natAbs<2^2000:=aS W (by decide);have bb:b.natAbs<2^2000:=aS X (by decide);have bc:c.natAbs<2^2000:=aS L (by decide);have bd:d.natAbs<2^2000:=aS Y (by decide);refine cA hd<|(Hg ba bb bc bd U (aS m2 (by decide)) (aS m3 (by decide)) (aS m4 (by decide))).trans<|aM ((dJ (j:=j) (Vf (o6 ub z) (o6 ud hd)) (T2 m5 (TE (by decide) (by decide))) hw)) ?_;rw[Nq];rfl
noncomputable def Sr:Q->Int
 |none=>0
 |some (k,_)=>k
noncomputable def C7(o:Op)(x y:Q):Q:=match o with
 |.add=>lY x y
 |.sub=>lY x (fP y)
 |.mul=>iW x y
 |.div=>de x y
 |.pow=>dH x (Sr y)
 |.idiv=>cV x y
 |.mod=>lZ x y
def Pw(o:Op)(y:Q):Prop:=match o with
 |.pow=>∃k:Int,y=some (k,1)/\k.natAbs<=4
 |_=>True
theorem ND(C:Tb)(b:Nat)(x y:V)(h:List O):dg C b (.str "+") x y h=mq (C.f "add" [x,y]) mr h:=by kernel_rfl
theorem NE(C:Tb)(b:Nat)(x y:V)(h:List O):dg C b (.str "-") x y h=mq (C.f "sub" [x,y]) mr h:=by kernel_rfl
theorem NF(C:Tb)(b:Nat)(x y:V)(h:List O):dg C b (.str "*") x y h=mq (C.f "mul" [x,y]) mr h:=by kernel_rfl
theorem NG(C:Tb)(b:Nat)(x y:V)(h:List O):dg C b (.str "/") x y h=mq (C.f "div" [x,y]) mr h:=by kernel_rfl
theorem NI(C:Tb)(b:Nat)(x y:V)(h:List O):dg C b (.str "^") x y h=mq (C.f "power" [x,y]) mr h:=by kernel_rfl
theorem J9(C:Tb)(b:Nat)(x y:V)(h:List O):dg C b (.str "%/%") x y h=mq (C.f "int_div" [x,y]) mr h:=by kernel_rfl
theorem NJ(C:Tb)(b:Nat)(x y:V)(h:List O):dg C b (.str "%%") x y h=mq (C.f "remainder" [x,y]) mr h:=by kernel_rfl
theorem c7.sm {x:Q}(h:c7 x):Sm 400 x:=eW h.2 (by decide)
theorem Aj {o:Op}{x y:Q}(g:c7 x)(q:c7 y)(A:Pw o y)(c:2000<wf):T ai wf 24 (j+6) "double_op" [.str o.s,vq x,vq y] h=.ok (vq (C7 o x y)) h:=by
 rw[aK (by kernel_rfl) (by kernel_rfl),zX];induction o using Mine.Op.casesOn with
 |add=>exact(ND _ _ _ _ _).trans ((ac (Ip (j:=j+2) g.sm q.sm c)).trans (by rw[pz];rfl))
 |sub=>exact(NE _ _ _ _ _).trans ((ac (Iq (j:=j+1) g.sm q.sm c)).trans (by rw[pz];rfl))
 |mul=>exact(NF _ _ _ _ _).trans ((ac (Io (j:=j+2) g.sm q.sm c)).trans (by rw[th];rfl))
 |div=>exact(NG _ _ _ _ _).trans ((ac (CN (j:=j+2) g.sm q.sm c)).trans (by rw[pA];rfl))
 |pow=>
  refine aa (A) λk z F=>?_;subst z;exact(NI _ _ _ _ _).trans ((ac (J6 (j:=j+1) g F c)).trans rfl)
 |idiv=>exact(J9 _ _ _ _ _).trans ((ac (EM (j:=j+1) g.sm q.sm c)).trans rfl)
 |mod=>exact(NJ _ _ _ _ _).trans ((ac (Ab (j:=j) (eW g.2 (by decide)) (eW q.2 (by decide)) c)).trans rfl)
theorem NK(C:Tb)(b:Nat)(x y:V)(h:List O):cO C b (.str "+") x y h=mq (C.f "_law_sum" [x,y]) mr h:=by kernel_rfl
theorem NL(C:Tb)(b:Nat)(x y:V)(h:List O):cO C b (.str "-") x y h=(mq (cmp .Is y .none) λg=>bif g then(mq (C.f "_law_sum" [x,.none]) mr)else(mq (ak y (.int 0)) λo=>mq (nz o) λc=>mq (ak y (.int 1)) λq=>mq (C.f "_law_sum" [x,.tup [c,q]]) mr)) h:=by kernel_rfl
theorem NM(C:Tb)(b:Nat)(x y:V)(h:List O):cO C b (.str "*") x y h=mq (C.f "_law_product" [x,y]) mr h:=by kernel_rfl
theorem NN(C:Tb)(b:Nat)(x y:V)(h:List O):cO C b (.str "/") x y h=mq (C.f "_law_quotient" [x,y]) mr h:=by kernel_rfl
theorem NO(C:Tb)(b:Nat)(x y:V)(h:List O):cO C b (.str "^") x y h=(mq (ak y (.int 0)) λc=>mq (C.f "_law_power" [x,c]) mr) h:=by kernel_rfl
theorem Kb(C:Tb)(b:Nat)(x y:V)(h:List O):cO C b (.str "%/%") x y h=(mq (C.f "_law_divided" [x,y]) λc=>mq (ak c (.int 0)) mr) h:=by kernel_rfl
theorem NP(C:Tb)(b:Nat)(x y:V)(h:List O):cO C b (.str "%%") x y h=(mq (C.f "_law_divided" [x,y]) λc=>mq (ak c (.int 1)) mr) h:=by kernel_rfl
theorem NQ {y:Q}(h:Up y):Up (fP y):=by rcases y with _|⟨a,b⟩<;>exact h
theorem wW {o:Op}{x y:Q}{h:List O}(q:c7 x)(z:c7 y)(G:Pw o y)(A:2000<wf):∃t,T ai wf 24 (j+4) "_law_doubled" [.str o.s,vq x,vq y] h=.ok (vq (C7 o x y)) (h++t):=by
 rw[aK (by kernel_rfl) (by kernel_rfl),wQ];have g:∀ {m:M V} {r:V},m h=.ok r h-> ∃t,m h=.ok r (h++t):=λe=>⟨[],by rw[Uu];exact e⟩;induction o using Mine.Op.casesOn with
 |add=>
  refine am (vU (j:=j+1) (h:=h) q.sm z.sm q.1.up z.1.up A) λt e=>?_;rw[pz]at e;exact⟨t,(NK _ _ _ _ _).trans (ac e)⟩
 |sub=>
  refine am (vU (j:=j+1) (h:=h) (y:=fP y) q.sm (yH z.sm) q.1.up (NQ z.1.up) A) λt e=>?_;rw[pz]at e;refine⟨t,(NL _ _ _ _ _).trans ?_⟩;rcases y with _|⟨c,d⟩
  ·exact ac e
  ·exact ac e
 |mul=>exact g ((NM _ _ _ _ _).trans ((ac (oE (j:=j+1) q.sm z.sm q.1.up z.1.up A)).trans (by rw[th];rfl)))
 |div=>exact g ((NN _ _ _ _ _).trans ((ac (mN (j:=j+1) q.sm z.sm q.1.up z.1.up q.1.end_ A)).trans (by rw[pA];rfl)))
 |pow=>
  refine aa (G) λk F J=>?_;subst F;exact g ((NO _ _ _ _ _).trans (by
   show mq (ak (.tup [.int k,.int 1]) (.int 0)) _ h=_;refine aO (bz ..)<|aM ((Ai (j:=j) q J A)) ?_;rfl))
 |idiv=>exact g ((Kb _ _ _ _ _).trans ((ac (oH (j:=j+1) q z A)).trans (by unfold qi;rw[bz];rfl)))
 |mod=>exact g ((NP _ _ _ _ _).trans ((ac (oH (j:=j+1) q z A)).trans (by unfold qi;rw[bL];rfl)))
theorem C8 {C:Tb}{k:Nat}{c:Cx}{e:Expr}{f:Nat->V}(z:GT e=true)(x:b6 (.range k) (GU e)=true)(A:k<C.wf)
  (y:∀i,i<k->bS C m c e (.int i) mr h=.ok (some (f i)) h):cF C.wf (Ic C m) c e (.range k) h=.ok ((List.range k).map f) h:=by
 rw[fQ z x];obtain⟨acc,h',e,o,g⟩:=fR (turn:=λv=>bS C m c e v mr) (it:=.range k) (rng k) (λi acc h'=>h'=h/\acc=(List.range i).map f) (λi acc h' Z=>cK k i h')
  (λi v acc h' G q=>by
   obtain⟨F,rfl⟩:=gV G;obtain⟨rfl,rfl⟩:=q;exact aV _ h' ⟨y i F,rfl,by simp[UA]⟩) C.wf 0 [] h o1 (by simp;exact LT A) ⟨rfl,rfl⟩
 subst o;rw[iX]at g;rw[e,g]
theorem jO(c:0<n):ah .Mod (.int i) (.int n)=mr (.int (i%n:Nat)):=by
 rw[aD (vu c),SU _ qE];rfl
noncomputable def tK(o:Op)(l r:List Q)(i:Nat):Q:=C7 o (l.getD (i%l.length) none) (r.getD (i%r.length) none)
theorem jP {c:Type}{f:c->V}{l:List c}{d:c}(x:h[n]?=some (.list (l.map f)))(q:0<l.length)(o:l.length<=4096):ak (.ref n) (.int (i%l.length:Nat)) h=.ok (f (l.getD (i%l.length) d)) h:=by
 have g:=Vk i q;refine pu x ?_ (tt g (tt o (by decide)));rw[T6,Ta g,List.getD_eq_getElem?_getD,Ta g];rfl
theorem NR {x:Str}(c:ai.fn x=some (aq x))(g:cellN (aq x).scope.names=3):T ai wf 24 (j+1) x vs h=Bd (Tj wf j) x vs h.length (h++ [.cell none,.cell none,.cell none]):=by
 rw[xc c,g];rfl
theorem ey {c:Type}{l:List c}{d:c}(h:i<l.length):l.getD i d∈l:=by
 rw[List.getD_eq_getElem?_getD,Ta h];exact Ue h
theorem tL {wf j L R n:Nat}{o:Op}{l r:List Q}(hL:h[L]?=some (.list (l.map vq)))(hR:h[R]?=some (.list (r.map vq)))(F:n<=9)(h0:0<n->0<l.length/\0<r.length)(U:l.length<=9)(z:r.length<=9)
  (gl:∀q∈l,c7 q)(gr:∀q∈r,c7 q)(Y:∀q∈r,Pw o q)(S:2000<wf):
  ∃D h',T ai wf 24 (j+7) "double_result" [.str o.s,.ref L,.ref R,.int n] h=.ok (.ref D) h'/\Gr h h'/\h.length<=D/\h'[D]?=some (.list ((List.range n).map λi=>vq (tK o l r i))):=by
 refine bO (T ai wf 24 (j+7) "double_result" [.str o.s,.ref L,.ref R,.int n] h) λgQ gR=>?_;rw[NR (by kernel_rfl) (by kernel_rfl),sJ];unfold kX;have s1:fL h.length (.str o.s) (h++ [.cell none,.cell none,.cell none])=.ok () (h++ [.cell (some (.str o.s)),.cell none,.cell none]):=by
  rw[fS (c:=none) (by simp)];simp
 have X:fL (h.length+1) (.ref L) (h++ [.cell (some (.str o.s)),.cell none,.cell none])=.ok () (h++ [.cell (some (.str o.s)),.cell (some (.ref L)),.cell none]):=by
  rw[fS (c:=none) (by simp)];simp
 have s3:fL (h.length+2) (.ref R) (h++ [.cell (some (.str o.s)),.cell (some (.ref L)),.cell none])=.ok () (h++ [.cell (some (.str o.s)),.cell (some (.ref L)),.cell (some (.ref R))]):=by
  rw[fS (c:=none) (by simp)];simp
 refine az s1<|az X<|az s3<|bC (cW (xq F)) ?_;have Z:(h++ [O.cell (some (.str o.s)),.cell (some (.ref L)),.cell (some (.ref R))])[h.length]?=some (.cell (some (.str o.s))):=by simp
 have J:(h++ [O.cell (some (.str o.s)),.cell (some (.ref L)),.cell (some (.ref R))])[h.length+1]?=some (.cell (some (.ref L))):=by simp
 have W:(h++ [O.cell (some (.str o.s)),.cell (some (.ref L)),.cell (some (.ref R))])[h.length+2]?=some (.cell (some (.ref R))):=by simp
 have g:Gr h (h++ [O.cell (some (.str o.s)),.cell (some (.ref L)),.cell (some (.ref R))]):=Keep.app _;have G:=g.get _ _ trivial hL;have A:=g.get _ _ trivial hR;have x:=g.len;generalize h++ [O.cell (some (.str o.s)),.cell (some (.ref L)),.cell (some (.ref R))]=h1 at*;have ec:=C8 (C:=Tj wf (j+6)) (m:=22) (k:=n) (c:=aw "double_result" (aq "double_result") h.length) (e:=aX (bG (aG "double_result" [0])) []) (f:=λi=>vq (tK o l r i)) (h:=h1) (by kernel_rfl) (by kernel_rfl) (by show n<wf;exact Lk F S) (λi hi=>by
  refine af (h0 (HR hi)) λl0 y=>?_;rw[qB];unfold jy;rw[ac (aE Z),ac (aE J),ac (aE J),ac (eX G (by simp;exact Au U)),Uw,jO l0,ae,ac (jP (d:=none) G l0 (o2 U)),
   ac (aE W),ac (aE W),ac (eX A (by simp;exact Au z)),Uw,jO y,ae,ac (jP (d:=none) A y (o2 z))]
  refine aM ((Aj (j:=j) (gl _ (ey (Vk _ l0))) (gr _ (ey (Vk _ y))) (Y _ (ey (Vk _ y))) S)) ?_;rfl)
 refine az ec<|az ((aH _ _))<|gR _<|aV _ _ ⟨rfl,g.trans (Keep.app _),x,ay _ _⟩
def df(o:Op)(l r:List (Option Int))(i:Nat):Option Int:=tI o (l.getD (i%l.length) none) (r.getD (i%r.length) none)
noncomputable def Op.three:Op->Bool
 |.add=>true
 |.sub=>true
 |.mul=>true
 |_=>false
def SO(o:Op)(a b:Option Int):Bool:=(tI o a b).isNone&&o.three&&a.isSome&&b.isSome
def zc(o:Op)(l r:List (Option Int))(i:Nat):Bool:=SO o (l.getD (i%l.length) none) (r.getD (i%r.length) none)
def lM(o:Op)(l r:List (Option Int))(n:Nat):Bool:=(List.range n).any (zc o l r)
theorem zd(o:Op)(l r:List (Option Int))(n:Nat):lM o l r (n+1)=(lM o l r n||zc o l r n):=by
 unfold lM;rw[UA,List.any_append];simp
theorem ze(o:Op):cmp .In (.str o.s) (.tup [.str "+",.str "-",.str "*"])=mr o.three:=by
 cases o<;>kernel_rfl
theorem Iv(a:Option Int):cmp .Is (vi a) .none=mr a.isNone:=by cases a<;>rfl
theorem og(a:Option Int):cmp .IsNot (vi a) .none=mr a.isSome:=by cases a<;>rfl
noncomputable def iK:V:=.str "NAs produced by integer overflow"
theorem Hh {wf j L R D b:Nat}{o:Op}{l r:List (Option Int)}{ov:Bool}{i n:Nat}{notes nn:V}(y:h[L]?=some (.list (l.map vi)))(F:h[R]?=some (.list (r.map vi)))(z:h[D]?=some (.list acc))(G:acc.length<=9)
  (l0:0<l.length)(g:0<r.length)(A:l.length<=9)(x:r.length<=9)(W:∀q∈l,fF q)(gr:∀q∈r,fF q)(J:o.whole=true):
  ∃p q v,dA (Tj wf (j+1)) b (.int i) (.str o.s) (.ref L) (.ref R) nn notes (.ref D) (.bool ov) (λc l=>mr (c,l)) h=.ok (.next,[("op",.str o.s),("left",.ref L),("right",.ref R),("n",nn),("notes",notes),("found",.ref D),("overflow",.bool (ov||zc o l r i)),("i",.int i),("a",p),("b",q),("value",v)]) (h.set D (.list (acc++ [vi (df o l r i)]))):=by
 refine bO (dA (Tj wf (j+1)) b (.int i) (.str o.s) (.ref L) (.ref R) nn notes (.ref D) (.bool ov) (λc l=>mr (c,l)) h) λY S=>?_;refine az ((eX y (by simp;exact Au A))) ?_;rw[Uw];refine bC (jO l0 ..)<|az ((jP (d:=none) y l0 (o2 A)))<|az ((eX F (by simp;exact Au x))) ?_;rw[Uw];refine bC (jO g ..)<|az ((jP (d:=none) F g (o2 x)))<|az ((y6 (j:=j) J (W _ (ey (Vk _ l0))) (gr _ (ey (Vk _ g)))))<|S _<|bJ (vi (l.getD (i%l.length) none)) (vi (r.getD (i%r.length) none)) (vi (df o l r i)) ?_;have app:∀v:V,(mq (bQ (.ref D) "append") λZ=>mq (bN (.ref D) "append" [vi (df o l r i)]) λX=>(mr (Fl.next,([("op",.str o.s),("left",.ref L),("right",.ref R),("n",nn),("notes",notes),("found",.ref D),("overflow",v),("i",.int i),("a",vi (l.getD (i%l.length) none)),("b",vi (r.getD (i%r.length) none)),("value",vi (df o l r i))]:Loc)):M (Fl×Loc))) h
   =.ok (.next,[("op",.str o.s),("left",.ref L),("right",.ref R),("n",nn),("notes",notes),("found",.ref D),("overflow",v),("i",.int i),("a",vi (l.getD (i%l.length) none)),("b",vi (r.getD (i%r.length) none)),("value",vi (df o l r i))]) (h.set D (.list (acc++ [vi (df o l r i)]))):=λv=>by
  refine aM ((cP z (by decide)))<|aM ((dj z (T1 G (by decide)))) ?_;rfl
 have U:zc o l r i=((df o l r i).isNone&&o.three&&(l.getD (i%l.length) none).isSome&&(r.getD (i%r.length) none).isSome):=rfl;rw[U];dsimp only;unfold iq;rw[show tI o (l.getD (i%l.length) none) (r.getD (i%r.length) none)=df o l r i from rfl,Iv,ae,ze,ae,og,ae,og,ae];cases (df o l r i).isNone
 ·refine km ?_;rw[show(ov||(false&&o.three&&(l.getD (i%l.length) none).isSome&&(r.getD (i%r.length) none).isSome))=ov by simp];exact app _
 refine vR ?_;cases o.three
 ·refine km ?_;rw[show(ov||(true&&false&&(l.getD (i%l.length) none).isSome&&(r.getD (i%r.length) none).isSome))=ov by simp];exact app _
 refine vR ?_;cases (l.getD (i%l.length) none).isSome
 ·refine km ?_;rw[show(ov||(true&&true&&false&&(r.getD (i%r.length) none).isSome))=ov by simp];exact app _
 refine vR ?_;cases (r.getD (i%r.length) none).isSome
 ·refine km ?_;rw[show(ov||(true&&true&&true&&false))=ov by simp];exact app _
 ·refine vR ?_;rw[show(ov||(true&&true&&true&&true))=true by simp];exact app _
theorem rM {wf j L R N n:Nat}{o:Op}{l r:List (Option Int)}{notes:List V}(hL:h[L]?=some (.list (l.map vi)))(hR:h[R]?=some (.list (r.map vi)))(hN:h[N]?=some (.list notes))(S:n<=9)(h0:0<n->0<l.length/\0<r.length)(hl:l.length<=9)(hr:r.length<=9)
  (gl:∀q∈l,fF q)(gr:∀q∈r,fF q)(ho:o.whole=true)(U:notes.length<=4000)(hw:2000<wf):
  ∃D h',T ai wf 24 (j+2) "integer_result" [.str o.s,.ref L,.ref R,.int n,.ref N] h=.ok (.ref D) h'/\Keep (λm=>m≠N) h h'/\h.length<=D/\h'[D]?=some (.list ((List.range n).map λi=>vi (df o l r i)))/\h'[N]?=some (.list (ca (lM o l r n) notes iK)):=by
 rw[aK (by kernel_rfl) (by kernel_rfl),rs];unfold kj;rw[ac (aH _ _),cW (xq S),ae];have g:Gr h (h++ [O.list []]):=Keep.app _;have D1:=ay h (O.list []);have L1:=g.get _ _ trivial hL;have R1:=g.get _ _ trivial hR;have N1:=g.get _ _ trivial hN;have lL:=aA hL;have lR:=aA hR;have lN:=aA hN;generalize h++ [O.list []]=X at*;refine aB λgP c=>?_;obtain⟨lc,F,e,i1,W,J⟩:=bX (body:=λv l=>aJ (Tj wf (j+1)) 23 "integer_result" h.length [2] v l λfl l=>mr (fl,l)) (it:=.range n) (rng n)
  (λi lc h'=>(lc=([("op",.str o.s),("left",.ref L),("right",.ref R),("n",.int n),("notes",.ref N),("found",.ref h.length),("overflow",.bool (lM o l r i))]:Loc)\/ ∃x p q v,lc=([("op",.str o.s),("left",.ref L),("right",.ref R),("n",.int n),("notes",.ref N),("found",.ref h.length),("overflow",.bool (lM o l r i)),("i",x),("a",p),("b",q),("value",v)]:Loc))
   /\Keep (λm=>m≠h.length) X h'/\h'[h.length]?=some (.list ((List.range i).map λi=>vi (df o l r i))))
  (λi lc h' Z=>cK n i h')
  (λi v lc h' hv hI=>by
   refine af (gV hv) λY G=>?_;subst G;refine cQ (hI) λA K hD=>af (h0 (HR Y)) λl0 r0=>pP (Hh (wf:=wf) (j:=j) (b:=h.length) (i:=i) (n:=n) (ov:=lM o l r i) (notes:=.ref N) (nn:=.int n) (K.get _ _ (o8 lL) L1) (K.get _ _ (o8 lR) R1) hD (by simp;exact Lm S Y) l0 r0 hl hr gl gr ho) λp q v z=>?_;rw[<-zd]at z;refine bJ .next _ (h'.set h.length (.list ((List.range i).map (λi=>vi (df o l r i))++ [vi (df o l r i)]))) ⟨?_,.inl rfl,.inr ⟨.int i,p,q,v,rfl⟩,K.trans (Keep.set (by simp)), ?_⟩
   ·rcases A with rfl|⟨x,p',q',v',rfl⟩
    ·rw[oJ];exact z
    ·rw[oK];exact z
   ·rw[bg hD,UA,Ux];rfl)
  wf 0 [("op",.str o.s),("left",.ref L),("right",.ref R),("n",.int n),("notes",.ref N),("found",.ref h.length),("overflow",.bool false)] X o1 (by simp;exact Lk S hw) ⟨.inl rfl,Keep.refl,D1⟩
 rw[iX]at i1 J;refine c ?_;rw[ac ((cC (by kernel_rfl)).trans e)];have y:=W.get _ _ (o8 lN) N1;have last:∃D h',(mq (truth (.bool (lM o l r n))) λr3=>bif r3 then(mq (bQ (.ref N) "append") λZ=>mq (bN (.ref N) "append" [(.str "NAs produced by integer overflow")]) λr2=>mr (V.ref h.length))else(mr (V.ref h.length))) F=.ok (.ref D) h'/\Keep (λm=>m≠N) h h'/\h.length<=D/\h'[D]?=some (.list ((List.range n).map λi=>vi (df o l r i)))/\h'[N]?=some (.list (ca (lM o l r n) notes iK)):=by
  have gg:Gr h F:=⟨λm o Z e=>W.get m o (by have:=aA e;exact o8 this) (g.get m o trivial e),by have:=W.len;have:=g.len;omega⟩;rw[aT,ae];unfold ca;induction lM o l r n using VA with
  |false=>exact aV _ F ⟨rfl,gg.keep,Vi _,J,y⟩
  |true=>
   rw[Vr,ac (cP y (by decide)),ac (dj y (T1 U (by decide)))];exact aV _ _ ⟨rfl,gg.keep.trans (Keep.set (by simp)),Vi _,by rw[Ty (o8 lN)];exact J,bg y⟩
 refine aB λgP c=>?_;rcases i1 with rfl|⟨x,p,q,v,rfl⟩
 ·refine c ?_
  rw[fv,oM];exact last
 ·refine c ?_
  rw[fv,oN];exact last
theorem IsV.ks {x:Vc}(o:IsV P h v x){q:Str×List V}(e:x.att k=some q):k∈Ks:=by
 refine aa (o.attrs) λa Z c=>?_;cases c with
 |none f=>rw[f]at e;cases e
 |@dict d D hd=>
  have:=hd.at_ k;rw[e]at this;refine aa (this) λm g Z=>hd.dk.sub k (U3.mpr ⟨_,kq g,rfl⟩)
theorem IsV.no {x:Vc}(c:IsV P h v x){k:Str}(e:k∉Ks):x.att k=none:=by
 induction hq:x.att k using Vx with
 |none=>rfl
 |some q=>exact absurd (c.ks hq) e
theorem fu.mono {P Q:Nat->Prop}{kd:Str}{its:List V}(a:fu P h m kd its)(q:∀n,P n->Q n):fu Q h m kd its:=by
 refine aQ (a) λi c g r=>⟨i,q _ c,q _ g,r⟩
theorem fu.keep {P:Nat->Prop}{kd:Str}{its:List V}(a:fu P h m kd its)(k:Keep P h h'):fu P h' m kd its:=by
 refine wZ (a) λi g c x q o=>⟨i,g,c,x,k.get _ _ g q,k.get _ _ c o⟩
theorem fu.set {P:Nat->Prop}{h:List O}{m fd:Nat}{kd:Str}{its:List V}{D E:List (Str×V)}(a:fu P h m kd its)(hd:h[fd]?=some (.dict D)):fu P (h.set fd (.dict E)) m kd its:=by
 refine wZ (a) λi x o y g c=>?_;have q:fd≠m:=λe=>by subst e;rw[hd]at g;cases g
 have z:fd≠i:=λe=>by subst e;rw[hd]at c;cases c
 exact⟨i,x,o,y,by rw[Ty q];exact g,by rw[Ty z];exact c⟩
structure FS (lo R fd:Nat) (h0 h:List O) (F:aP):Prop where
 K:Keep (λm=>m<h0.length) h0 h
 isd:∃D,IsD (λm=>lo<=m/\m≠R) h fd F D
 old:h0.length<=fd
theorem FS.gr {lo R:Nat}{F:aP}(a:FS lo R fd h0 h F)(g:Gr h h'):FS lo R fd h0 h' F:=by
 obtain⟨D,c⟩:=a.isd;exact⟨a.K.trans g.keep,⟨D,c.p,g.get _ _ trivial c.get,c.dk,c.at_.keep (Q:=λm=>lo<=m/\m≠R) g.keep⟩,a.old⟩
theorem FS.put {lo R fd m:Nat}{h0 h:List O}{F:aP}{key:Str}{q:Str×List V}(a:FS lo R fd h0 h F)(g:key∈Ks)(v:fu (λm=>lo<=m/\m≠R) h m q.1 q.2):
  ∃h',cH (.ref fd) (.str key) (.ref m) h=.ok () h'/\FS lo R fd h0 h' (F.upd key q):=by
 refine am (a.isd) λD c=>⟨_,pB c.get (U7 c.dk.len (by decide)), ?_,⟨_,c.p,bg c.get,c.dk.put g,(c.at_.set (E:=Mine.put key (.ref m) D) c.get).put (v.set c.get)⟩,a.old⟩;exact⟨λm o p e=>by rw[Ty (by have:=a.old;exact rS p this)];exact a.K.get _ _ p e,by simpa using a.K.len⟩
inductive RA (lo R:Nat) (h0 h:List O) (F:aP):V->Prop
 |none:(∀k,F k=none)->RA lo R h0 h F .none
 |dict {fd:Nat} {D:List (Str×V)}:IsD (λm=>lo<=m/\m≠R) h fd F D->h0.length<=fd->RA lo R h0 h F (.ref fd)
structure RS (lo R I:Nat) (k:Str) (items:List V) (h0 h:List O) (F:aP):Prop where
 K:Keep (λm=>m<h0.length/\m≠R) h0 h
 res:∃a,h[R]?=some (bp (.str k) (.ref I) a)/\RA lo R h0 h F a
 its:h[I]?=some (.list items)
theorem RS.isV {lo R:Nat}{items:List V}{F:aP}(a:RS lo R I k items h0 h F)(g:k≠ "NULL")(o:items.length<=4096)(q:lo<=R)(c:lo<=I):IsV (λm=>lo<=m) h (.ref R) ⟨k,items,F⟩:=by
 refine aa (a.res) λv e r=>.vec g o q c e a.its ?_;cases r with
 |none f=>exact .none f
 |dict d _=>exact(IsA.dict d).mono λn Z p=>p.1
noncomputable def c9(t:Nat)(F:aP)(z:Vc):aP:=if z.items.length=t then(match z.att "names" with|some q=>F.upd "names" q|none=>F)else F
noncomputable def jJ:aP:=λZ=>none
structure Side (lo R:Nat) (h:List O) (v:V) (z:Vc):Prop where
 isv:IsV (λm=>lo<=m/\m<R) h v z
 dims:∃d,dG z.att z.items.length d
theorem C9 {wf j lo R I fd b t:Nat}{items:List V}{F:aP}{w u v shape:V}{z:Vc}(a:FS lo R fd h0 h F)(s:Side lo R h0 w z)(hR:h0[R]?=some (bp (.str k) (.ref I) .none))(hI:h0[I]?=some (.list items))(hk:k≠ "NULL")(A:items.length=t)(L:t<=9):
  ∃x h',fq (Tj wf (j+2)) b w u v (.ref R) (.ref fd) shape (λW l=>mr (W,l)) h=.ok (.next,[("u",u),("v",v),("result",.ref R),("found",.ref fd),("shape",shape),("operand",w),("heads",x)]) h'/\FS lo R fd h0 h' (c9 t F z):=by
 refine bO (fq (Tj wf (j+2)) b w u v (.ref R) (.ref fd) shape (λW l=>mr (W,l)) h) λgQ gR=>?_;have o:=aA hR;have KR:∀ {h'},Keep (λm=>m<h0.length) h0 h'->Keep (λm=>lo<=m/\m<R) h0 h':=λk=>k.mono λm Z q=>by omega
 have U:=s.isv.keep (KR a.K);have ir:IsV (λZ=>True) h (.ref R) ⟨k,items,jJ⟩:=.vec hk (Lr A L) trivial trivial (a.K.get _ _ (LT o) hR) (a.K.get _ _ (aA hI) hI) (.none λZ=>rfl);refine aB λX c=>aa (qW (j:=j+1) U "names") λr er g=>c<|az er<|gR _<|⟨r, ?_⟩;unfold c9;induction hq:z.att "names" using Vx with
 |none=>
  rw[hq]at g;dsimp only at g;subst g;exact⟨h,rfl,by split<;>exact a⟩
 |some q=>
  rw[hq]at g;refine aa (g) λm S av=>?_;subst S;dsimp only;unfold iq;rw[fU,ae,Vr,ac (dy (j:=j+1) U),ac (dy (j:=j+1) ir),bA,ae];refine aB λX c=>?_;by_cases hz:z.items.length=t
  ·refine c ?_
   rw[show decide ((z.items.length:Int)=(items.length:Nat))=true from UL (LZ A hz),Vr,Vw hz];refine aB λX c=>aW (kt (wf:=wf) (j:=j) U) λr4 h4 e4 Y y=>?_;obtain⟨d,hd⟩:=s.dims;have G:d=none:=by
    induction d using Vx with
    |none=>rfl
    |some ds=>have:=hd.2.2;rw[hq]at this;cases this
   subst G;have J:z.att "dim"=none:=hd;unfold kr at y;rw[J]at y;dsimp only at y;subst y;refine c ?_;rw[ac e4,cu,ae,Vr];obtain⟨h5,e5,a5⟩:=(a.gr Y).put (key:= "names") (q:=q) (by decide) ((av.mono (Q:=λm=>lo<=m/\m≠R) λn p=>⟨p.1,by exact LW p⟩).keep (P:=λm=>lo<=m/\m≠R) Y.keep);rw[ac e5];exact⟨h5,rfl,a5⟩
  ·refine c ?_
   rw[show decide ((z.items.length:Int)=(items.length:Nat))=false from UC (LC A hz),Vm,Vv hz];exact⟨h,rfl,a⟩
noncomputable def qX(u v r f s:V):Loc:= [("u",u),("v",v),("result",r),("found",f),("shape",s)]
noncomputable def l8(u v r f s o d:V):Loc:= [("u",u),("v",v),("result",r),("found",f),("shape",s),("operand",o),("heads",d)]
theorem E9 {wf j lo R fd b:Nat}{F:aP}{w u v shape:V}{z:Vc}(a:FS lo R fd h0 h F)(s:Side lo R h0 w z)(y:R<h0.length):
  gS (Tj wf (j+2)) b w u v (.ref R) (.ref fd) shape (λo l=>mr (o,l)) h=.ok (.next,[("u",u),("v",v),("result",.ref R),("found",.ref fd),("shape",shape),("operand",w),("heads",.none)]) h:=by
 have g:=s.isv.keep (a.K.mono λm Z q=>by omega);refine aa (qW (j:=j+1) g "dimnames") λr x c=>aM x ?_;rw[g.no (k:= "dimnames") (by decide)]at c;dsimp only at c;subst c;rfl
theorem Fa {wf j lo R fd b:Nat}{F:aP}{u v shape:V}{x y:Vc}(a:FS lo R fd h0 h F)(U:Side lo R h0 u x)(G:Side lo R h0 v y)(hR:R<h0.length)(Y:40<wf):
  ∃o d,bF (Tj wf (j+2)) 22 "shape_attrs" b [2,0,1] (.vals [v,u]) (qX u v (.ref R) (.ref fd) shape) h=.ok (.next,l8 u v (.ref R) (.ref fd) shape o d) h:=by
 refine aB λgP L=>?_;obtain⟨lc,h',e,S,i2⟩:=bX (body:=λv l=>aJ (Tj wf (j+2)) 22 "shape_attrs" b [2,0,1] v l λX l=>mr (X,l)) (it:=.vals [v,u]) [v,u]
  (λi lc h'=>h'=h/\((i=0/\lc=qX u v (.ref R) (.ref fd) shape)\/ ∃o d,lc=l8 u v (.ref R) (.ref fd) shape o d))
  (λi lc h' Z=>rfl)
  (λi w lc h' g W=>by
   obtain⟨rfl,c⟩:=W
   have⟨z,sz⟩:∃z,Side lo R h0 w z:=by
    have J:i<2:=by have:=(S6.mp g).1;simpa using this
    rcases(show i=0\/i=1 from DA J)with rfl|rfl
    ·cases g;exact⟨y,G⟩
    ·cases g;exact⟨x,U⟩
   have A:=E9 (wf:=wf) (j:=j) (b:=b) (u:=u) (v:=v) (shape:=shape) a sz hR;refine bJ .next (l8 u v (.ref R) (.ref fd) shape w .none) h' ⟨?_,.inl rfl,rfl,.inr ⟨_,_,rfl⟩⟩;rcases c with⟨_,rfl⟩|⟨o,d,rfl⟩
   ·unfold qX;rw[rA];exact A
   ·unfold l8;rw[rB];exact A)
  wf 0 (qX u v (.ref R) (.ref fd) shape) h o1 (by simp;exact HW Y) ⟨rfl,.inl ⟨rfl,rfl⟩⟩
 subst S;rcases i2 with⟨q,_⟩|⟨o,d,rfl⟩
 ·simp at q
 ·refine L<|aV o d ((cC (by kernel_rfl)).trans e)
theorem Da {wf j lo R I fd b t:Nat}{items:List V}{F:aP}{u v shape:V}{x y:Vc}(a:FS lo R fd h0 h F)(su:Side lo R h0 u x)(L:Side lo R h0 v y)(hR:h0[R]?=some (bp (.str k) (.ref I) .none))(hI:h0[I]?=some (.list items))(hk:k≠ "NULL")(U:items.length=t)(g:t<=9)(hw:40<wf):
  ∃o d h',bF (Tj wf (j+2)) 22 "shape_attrs" b [2,1,0] (.vals [v,u]) (qX u v (.ref R) (.ref fd) shape) h=.ok (.next,l8 u v (.ref R) (.ref fd) shape o d) h'/\FS lo R fd h0 h' (c9 t (c9 t F y) x):=by
 refine aB λgP X=>?_;obtain⟨lc,h',e,Y,i2⟩:=bX (body:=λv l=>aJ (Tj wf (j+2)) 22 "shape_attrs" b [2,1,0] v l λfl l=>mr (fl,l)) (it:=.vals [v,u]) [v,u]
  (λi lc h'=>FS lo R fd h0 h' (([y,x].take i).foldl (c9 t) F)/\((i=0/\lc=qX u v (.ref R) (.ref fd) shape)\/ ∃o d,lc=l8 u v (.ref R) (.ref fd) shape o d))
  (λi lc h' Z=>rfl)
  (λi w lc h' G A=>by
   obtain⟨S,c⟩:=A
   have⟨z,sz,ez⟩:∃z,Side lo R h0 w z/\([y,x].take (i+1)).foldl (c9 t) F=c9 t (([y,x].take i).foldl (c9 t) F) z:=by
    have W:i<2:=by have:=(S6.mp G).1;simpa using this
    rcases(show i=0\/i=1 from DA W)with rfl|rfl
    ·cases G;exact⟨y,L,rfl⟩
    ·cases G;exact⟨x,su,rfl⟩
   refine cY (C9 (wf:=wf) (j:=j) (b:=b) (u:=u) (v:=v) (shape:=shape) S sz hR hI hk U g) λdd h2 J a2=>?_;rw[ez];refine bJ .next (l8 u v (.ref R) (.ref fd) shape w dd) h2 ⟨?_,.inl rfl,a2,.inr ⟨_,_,rfl⟩⟩;rcases c with⟨_,rfl⟩|⟨o,d,rfl⟩
   ·unfold qX;rw[rC];exact J
   ·unfold l8;rw[rD];exact J)
  wf 0 (qX u v (.ref R) (.ref fd) shape) h o1 (by simp;exact HW hw) ⟨a,.inl ⟨rfl,rfl⟩⟩
 rcases i2 with⟨q,_⟩|⟨o,d,rfl⟩
 ·simp at q
 ·refine X<|bJ o d h' ⟨(cC (by kernel_rfl)).trans e,Y⟩
theorem Db(C:Tb)(b:Nat)(u v r f s o d:V)(h:List O):cm C 23 (aw "shape_attrs" (aq "shape_attrs") b) (aG "shape_attrs" [2,0,2]) (cm C 24 (aw "shape_attrs" (aq "shape_attrs") b) (aG "shape_attrs" [3]) cb) .next (l8 u v r f s o d) h=ft C b u v r f s h:=by kernel_rfl
theorem Dc(C:Tb)(b:Nat)(u v r f s o d:V)(h:List O):cm C 23 (aw "shape_attrs" (aq "shape_attrs") b) (aG "shape_attrs" [2,1,1]) (cm C 24 (aw "shape_attrs" (aq "shape_attrs") b) (aG "shape_attrs" [3]) cb) .next (l8 u v r f s o d) h=ft C b u v r f s h:=by kernel_rfl
theorem Bx {lo R:Nat}{items:List V}{F:aP}{s:V}(a:FS lo R fd h0 h F)(y:h0[R]?=some (bp (.str k) (.ref I) .none))(A:h0[I]?=some (.list items)):
  ∃h',ft C b u v (.ref R) (.ref fd) s h=.ok .none h'/\RS lo R I k items h0 h' F:=by
 refine bO (ft C b u v (.ref R) (.ref fd) s h) λgQ L=>?_;obtain⟨D,c⟩:=a.isd;have G:=aA y;have lI:=aA A;have z:=a.K.get _ _ G y;have U:=a.K.get _ _ lI A;have nI:R≠I:=λe=>by rw[e,A]at y;cases y
 refine az ((CU c.get (by have:=c.dk.len;exact Qv this)))<|aB λX g=>?_;rcases D with _|⟨p,r⟩
 ·refine g<|L _<|⟨h,rfl,a.K.mono λm Z q=>q.1,⟨.none,z,.none λx=>?_⟩,U⟩
  have:=c.at_ x;induction hF:F x using Vx with
  |none=>rfl
  |some q=>rw[hF]at this;obtain⟨m,e,_⟩:=this;exact ns e
 ·refine g<|L _ ?_
  show ∃h',mq (dF (.ref R) "attrs" (.ref fd)) _ h=_/\_;rw[ac (ln z)];have Y:R≠fd:=by have:=a.old;exact Dz G this
  refine⟨_,rfl,⟨λm o q e=>by rw[Ty (λe=>q.2 e.symm)];exact a.K.get _ _ q.1 e,by simpa using a.K.len⟩,⟨_,bg z,.dict (D:=p::r) ⟨c.p,by rw[Ty Y];exact c.get,c.dk, ?_⟩ a.old⟩,by rw[Ty nI];exact U⟩;intro x;have:=c.at_ x;induction hF:F x using Vx with
  |none=>rw[hF]at this;exact this
  |some q=>
   rw[hF]at this;refine aB λX g=>?_;obtain⟨m,e,i',J,S,hl,e1,W⟩:=this;refine g<|⟨m,e,i',J,S,hl,by rw[Ty (λe=>J.2 e.symm)];exact e1,by rw[Ty (λe=>S.2 e.symm)];exact W⟩
def tM(q:DR)(t:Nat)(x y:Vc):aP:=match q with
 |.dim ds=>jJ.upd "dim" ("integer",bH ds)
 |_=>c9 t (c9 t jJ y) x
theorem Side.gr {lo R:Nat}{z:Vc}(s:Side lo R h v z)(g:Gr h h'):Side lo R h' v z:=⟨s.isv.keep g.keep,s.dims⟩
theorem wi {a:List Int}(e:ce a n m=.dim ds):ds=a:=by
 by_cases p:(n=1/\m>1)\/(m=0/\n>0)
 ·exact DR.noConfusion ((Vw p).symm.trans e)
 ·have c:=(Vv p).symm.trans e
  by_cases q:n=aL n m
  ·exact(DR.dim.inj ((Vw q).symm.trans c)).symm
  ·exact DR.noConfusion ((Vv q).symm.trans c)
theorem Dd {x y:Vc}{z o:Option (List Int)}(A:dG x.att x.items.length z)(F:dG y.att y.items.length o)(g:cf z o n m=.dim ds):ds.length<=2:=by
 induction z using Vx with
 |none=>
  induction o using Vx with
  |none=>cases g
  |some b=>rw[wi g];exact F.2.1.2.2
 |some a=>
  induction o using Vx with
  |none=>rw[wi g];exact A.2.1.2.2
  |some b=>
   have c:(if a=b then DR.dim a else .bad "non-conformable arrays")=.dim ds:=g;by_cases q:a=b
   ·rw[<-DR.dim.inj ((Vw q).symm.trans c)];exact A.2.1.2.2
   ·exact DR.noConfusion ((Vv q).symm.trans c)
theorem wX {lo R:Nat}{items:List V}{x y:Vc}{L S:Option (List Int)}(hu:IsV (λm=>lo<=m/\m<R) h u x)(hv:IsV (λm=>lo<=m/\m<R) h v y)
  (h1:dG x.att x.items.length L)(h2:dG y.att y.items.length S)(hx:x.items.length<=9)(hy:y.items.length<=9)(Y:h[R]?=some (bp (.str k) (.ref I) .none))(hI:h[I]?=some (.list items))(hk:k≠ "NULL")(ht:items.length=t)(ht9:t<=9)(F:lo<=h.length)
  (hq:∀e,cf L S x.items.length y.items.length≠ .bad e)(hw:40<wf):
  ∃h',T ai wf 24 (j+4) "shape_attrs" [u,v,.ref R] h=.ok .none h'/\RS lo R I k items h h' (tM (cf L S x.items.length y.items.length) t x y):=by
 rw[aK (by kernel_rfl) (by kernel_rfl),wA];refine bO (ot (Tj wf (j+3)) h.length u v (.ref R) h) λJ mk=>az (aH _ _) ?_;have W:=aA Y;have g:Gr h (h++ [O.dict []]):=Keep.app _;have a1:FS lo R h.length h (h++ [O.dict []]) jJ:=⟨Keep.app _,⟨[],⟨F,by exact rR W⟩,ay _ _,Dk.nil,λx=>rfl⟩,Vi _⟩;generalize h++ [O.dict []]=h1' at*;have hd1:dZ x L:=h1.dims;have hd2:dZ y S:=h2.dims;have rd:=pI (j:=j) (hu.keep (g.keep (P:=λm=>lo<=m/\m<R))) (hv.keep (g.keep (P:=λm=>lo<=m/\m<R))) hd1 hd2 hx hy hw;have su:Side lo R h u x:=⟨hu,L,h1⟩;have sv:Side lo R h v y:=⟨hv,S,h2⟩;induction hr:cf L S x.items.length y.items.length using VC with
 |bad e=>exact absurd hr (hq e)
 |no=>
  rw[hr]at rd;refine aa (rd) λc Z g2=>az Z<|bC dU<|qS<|bC (show bY (.tup [v,u])=mr (It.vals [v,u]) from rfl) ?_;have X:=a1.gr g2;refine dK (Da (j:=j+1) (b:=h.length) (shape:=.none) X su sv Y hI hk ht ht9 hw) λo d G e3 a3=>?_;unfold qX at e3;refine az e3 (mk _ ?_);rw[Dc,hr];exact Bx a3 Y hI
 |dim ds=>
  rw[hr]at rd;refine aW (rd) λr c Z g2 l2=>az Z<|bC (fU _)<|yE ?_;have X:=a1.gr g2;have hds:=Dd (x:=x) (y:=y) h1 h2 hr;have U:(bH ds).length<=4096:=by simp[bH];exact LX hds
  refine az (hU l2 (lz U)) ?_;have g3:Gr c (c++ [O.list (bH ds)]):=Keep.app _;have n3:=ay c (O.list (bH ds));have z:=X.K.len;have a3:=X.gr g3;have A:=g3.len;generalize c++ [O.list (bH ds)]=G at*;refine az gX ?_;have g4:Gr G (G++ [bp (.str "integer") (.ref c.length) .none]):=Keep.app _;have n4:=ay G (bp (.str "integer") (.ref c.length) .none);have a4:=a3.gr g4;have n4':=g4.get _ _ trivial n3;generalize G++ [bp (.str "integer") (.ref c.length) .none]=h4 at*;refine aa (a4.put (key:= "dim") (q:=("integer",bH ds)) (m:=G.length) (by decide) ⟨c.length,⟨by exact Qa F z A,by exact U9 (tt W (tt z A))⟩,⟨by exact o5 F z,by exact rS W z⟩,U,n4,n4'⟩) λh5 e5 a5=>?_;refine az e5<|bC (show bY (.tup [v,u])=mr (It.vals [v,u]) from rfl)<|cI (Fa (j:=j+1) (b:=h.length) (shape:=.ref r) a5 su sv W hw) λo d e6=>?_;unfold qX at e6;refine az e6 (mk _ ?_);rw[Db,hr];exact Bx a5 Y hI
theorem fT.setR {F:aP}{R:Nat}{o:O}(a:fT P h D F)(y:∀m,P m->m≠R):fT P (h.set R o) D F:=λx=>by
 have:=a x;induction hF:F x using Vx with
 |none=>rw[hF]at this;exact this
 |some q=>
  rw[hF]at this;obtain⟨m,e,i,g,c,G,A,z⟩:=this;refine⟨m,e,i,g,c,G,by rw[Ty (Vu (y m g))];exact A,by rw[Ty (Vu (y i c))];exact z⟩
theorem RS.keep {lo R:Nat}{items:List V}{F:aP}(a:RS lo R I k items h0 h F){P:Nat->Prop}(q:∀m,P m->m<h0.length/\m≠R):Keep P h0 h:=a.K.mono λm Z p=>q m p
theorem RS.put {lo R I m:Nat}{k:Str}{items:List V}{h0 h:List O}{F:aP}{key:Str}{q:Str×List V}{β:Type}(a:RS lo R I k items h0 h F)(c:key∈Ks)(v:fu (λm=>lo<=m/\m≠R) h m q.1 q.2)(hlo:lo<=h0.length)(hR:R<h0.length)(K:M β):
  ∃h',(mq (aN (.ref R) "attrs") λW=>mq (cmp .Is W .none) λY=>bif Y then(mq (aC (.dict [])) λX=>mq (dF (.ref R) "attrs" X) λZ=>mq (aN (.ref R) "attrs") λy=>mq (cH y (.str key) (.ref m)) λZ=>K)else(mq (aN (.ref R) "attrs") λy=>mq (cH y (.str key) (.ref m)) λZ=>K)) h=K h'/\RS lo R I k items h0 h' (F.upd key q):=by
 refine bO ((mq (aN (.ref R) "attrs") λW=>mq (cmp .Is W .none) λY=>bif Y then(mq (aC (.dict [])) λX=>mq (dF (.ref R) "attrs" X) λZ=>mq (aN (.ref R) "attrs") λy=>mq (cH y (.str key) (.ref m)) λZ=>K)else(mq (aN (.ref R) "attrs") λy=>mq (cH y (.str key) (.ref m)) λZ=>K)) h) λgQ gR=>aa (a.res) λav J ra=>?_;have len:=a.K.len;have nI:R≠I:=λe=>by have:=a.its;rw[<-e,J]at this;cases this
 refine az ((dn J)) ?_;cases ra with
 |none f=>
  refine bC cu<|yE<|az ((aH _ _)) ?_;have g:Gr h (h++ [O.dict []]):=Keep.app _;have A:=g.get _ _ trivial J;have d1:=ay h (O.dict []);have U:=g.get _ _ trivial a.its;have v1:=v.keep (P:=λm=>lo<=m/\m≠R) g.keep;have k1:Keep (λm=>m<h0.length/\m≠R) h0 (h++ [O.dict []]):=a.K.trans g.keep;have l1:(h++ [O.dict []]).length=h.length+1:=by simp
  generalize h++ [O.dict []]=h1 at*;have S:R≠h.length:=Dz hR len;have L:(h1.set R (bp (.str k) (.ref I) (.ref h.length)))[h.length]?=some (.dict []):=by rw[Ty S];exact d1
  refine az ((ln A))<|az ((dn (bg A)))<|az ((pB L (by show 0<=line;decide))) ?_;have hp:∀m:Nat,(lo<=m/\m≠R)->m≠R:=λm p=>p.2;refine gR _<|⟨_,rfl,⟨λm' o G e=>by rw[Ty (LK len G),Ty (Vu G.2)];exact k1.get _ _ G e,by simpa using k1.len⟩,⟨.ref h.length,by rw[Ty (Vu S)];exact bg A, ?_⟩, ?_⟩
  ·refine .dict (D:=Mine.put key (.ref m) []) ⟨⟨by exact o5 hlo len,by exact rS hR len⟩,bg L,Dk.nil.put c, ?_⟩ len
   have base:fT (λm=>lo<=m/\m≠R) (h1.set R (bp (.str k) (.ref I) (.ref h.length))) [] F:=λx=>by rw[f x];rfl
   refine(base.set (E:=Mine.put key (.ref m) []) L).put (fu.set ?_ L);refine aB λgP gH=>wZ (v1) λi p1 p2 hl e1 e2=>gH<|⟨i,p1,p2,hl,by rw[Ty (Vu p1.2)];exact e1,by rw[Ty (Vu p2.2)];exact e2⟩
  ·have z:h.length≠I:=λe=>by rw[<-e,d1]at U;cases U
   rw[Ty z,Ty nI];exact U
 |@dict fd D hD old=>
  refine bC (mS ..)<|qS<|az ((dn J))<|az ((pB hD.get (U7 hD.dk.len (by decide)))) ?_;have S:fd≠R:=rS hR old;have z:fd≠I:=λe=>by have:=a.its;rw[<-e,hD.get]at this;cases this
  refine gR _<|⟨_,rfl,⟨λm' o G e=>by rw[Ty (LK old G)];exact a.K.get _ _ G e,by simpa using len⟩,⟨.ref fd,by rw[Ty S];exact J,.dict ⟨hD.p,bg hD.get,hD.dk.put c,(hD.at_.set hD.get).put (v.set hD.get)⟩ old⟩,by rw[Ty z];exact a.its⟩
noncomputable def wj(z:Vc)(F:aP):aP:=λk=>if(z.att k).isSome=true/\k≠ "names"/\k≠ "dim" then z.att k else F k
noncomputable def qY(z:Vc)(ks:List Str)(F:aP):aP:=λk=>if k∈ks/\k≠ "names"/\k≠ "dim" then z.att k else F k
theorem Kc(z:Vc)(F:aP):qY z [] F=F:=by funext k;unfold qY;rw[Vv (λq=>by cases q.1)]
theorem Hi(z:Vc)(ks:List Str)(F:aP)(n:Str)(q:Str×List V)(o:z.att n=some q):qY z (ks++ [n]) F=if n≠ "names"/\n≠ "dim" then(qY z ks F).upd n q else qY z ks F:=by
 by_cases g:n≠ "names"/\n≠ "dim"
 ·rw[Vw g]
  funext k
  unfold qY aP.upd;by_cases c:k=n
  ·subst c
   rw[Vw ⟨by simp,g⟩,Vw rfl,o]
  ·rw[Vv c]
   have:k∈ks++ [n]↔k∈ks:=by simp[c]
   simp only[this]
 ·rw[Vv g]
  funext k
  unfold qY;by_cases c:k=n
  ·subst c
   rw[Vv (λq=>g q.2),Vv (λq=>g q.2)]
  ·have:k∈ks++ [n]↔k∈ks:=by simp[c]
   simp only[this]
noncomputable def lO(u v r o:V):Loc:= [("u",u),("v",v),("result",r),("operand",o)]
noncomputable def iM(u v r o a b:V):Loc:= [("u",u),("v",v),("result",r),("operand",o),("name",a),("value",b)]
theorem De {C:Tb}{lo R I b m:Nat}{items:List V}{F:aP}{u v o:V}{n:Str}{q:Str×List V}(a:RS lo R I k items h0 h F)(z:n∈Ks)(A:fu (λm=>lo<=m/\m≠R) h m q.1 q.2)(g:lo<=h0.length)(L:R<h0.length):
  ∃h',eJ C b (.tup [.str n,.ref m]) u v (.ref R) o (λJ l=>mr (J,l)) h=.ok (.next,iM u v (.ref R) o (.str n) (.ref m)) h'/\RS lo R I k items h0 h' (if n≠ "names"/\n≠ "dim" then F.upd n q else F):=by
 unfold eJ;rw[show dS (.tup [.str n,.ref m])=mr (V.str n,V.ref m) from rfl,ae];dsimp only;unfold iq;rw[pG,ae];have G:n≠ "dimnames":=λe=>by subst e;exact absurd z (by decide)
 by_cases c:n≠ "names"/\n≠ "dim"
 ·rw[Vw c,UC (λq=>by rcases q with q|q|q;exact c.1 q;exact c.2 q;exact G q),UH,Vr]
  exact a.put z A g L _
 ·rw[Vv c,UL (by
   by_cases y:n= "names"
   ·exact .inl y
   ·by_cases x:n= "dim"
    ·exact .inr (.inl x)
    ·exact absurd ⟨y,x⟩ c)]
  exact⟨h,rfl,a⟩
theorem Df {wf j lo R I b d:Nat}{items:List V}{F:aP}{o:V}{z:Vc}{l0:Loc}(a:RS lo R I k items h0 h F)(hd:IsD (λm=>lo<=m/\m<R) h0 d z.att D)(hlo:lo<=h0.length)(hR:R<h0.length)(hw:40<wf)
  (W:l0=lO u v (.ref R) o\/ ∃x y,l0=iM u v (.ref R) o x y):
  ∃lc h',bF (Tj wf j) 21 "result_attrs" b [1,0,0,0,0] (.items d (D.map (·.1))) l0 h=.ok (.next,lc) h'/\(lc=lO u v (.ref R) o\/ ∃x y,lc=iM u v (.ref R) o x y)/\RS lo R I k items h0 h' (wj z F):=by
 have hp:∀m:Nat,(lo<=m/\m<R)->m<h0.length/\m≠R:=λm p=>by exact LV hR p
 refine aB λgP gH=>?_;obtain⟨lc,h',e,i1,i2⟩:=bX (body:=λv l=>aJ (Tj wf j) 21 "result_attrs" b [1,0,0,0,0] v l λfl l=>mr (fl,l)) (it:=.items d (D.map (·.1))) (D.map λp=>V.tup [.str p.1,p.2])
  (λi lc h'=>RS lo R I k items h0 h' (qY z ((D.take i).map (·.1)) F)/\(lc=lO u v (.ref R) o\/ ∃x y,lc=iM u v (.ref R) o x y))
  (λi lc h' X=>CT ((X.1.keep hp).get _ _ hd.p hd.get))
  (λi w lc h' hv X=>by
   refine af (X) λa' S=>am (S6.mp hv) λJ G=>?_;simp only[Uw]at J;simp only[List.getElem_map]at G;have c:look D[i].1 D=some D[i].2:=iF hd.dk.nd (Ue J);obtain⟨q,hq⟩:∃q,z.att D[i].1=some q:=by
    have:=hd.at_ D[i].1;induction hF:z.att D[i].1 using Vx with
    |none=>rw[hF]at this;rw[c]at this;cases this
    |some q=>exact⟨q,rfl⟩
   have A:=hd.at_ D[i].1;rw[hq]at A;refine aa (A) λm em av=>?_;rw[c]at em;have Y:D[i].2=.ref m:=UB em;have L:D[i].1∈Ks:=hd.dk.sub _ (U3.mpr ⟨_,Ue J,rfl⟩);have U:fu (λm=>lo<=m/\m≠R) h' m q.1 q.2:=(av.keep (a'.keep hp)).mono λn p=>⟨p.1,by exact LW p⟩;refine aa (De (C:=Tj wf j) (b:=b) (u:=u) (v:=v) (o:=o) a' L U hlo hR) λh2 et a2=>?_;rw[<-Hi z _ F _ q hq]at a2;rw[<-G,Y];refine bJ .next _ h2 ⟨?_,.inl rfl, ?_,.inr ⟨.str D[i].1,.ref m,rfl⟩⟩
   ·rcases S with rfl|⟨x,y,rfl⟩
    ·show aJ (Tj wf j) 21 "result_attrs" b [1,0,0,0,0] _ (lO u v (.ref R) o) _ h'=_
     unfold lO;rw[qx];exact et
    ·show aJ (Tj wf j) 21 "result_attrs" b [1,0,0,0,0] _ (iM u v (.ref R) o x y) _ h'=_
     unfold iM;rw[qy];exact et
   ·rw[bv J,Ux];exact a2)
  wf 0 l0 h o1 (by have:=hd.dk.len;simp;exact Lu hw this) ⟨by rw[List.take_zero,List.map_nil,Kc];exact a,W⟩
 refine gH<|aV lc h' ⟨(cC (by kernel_rfl)).trans e,i2, ?_⟩;have eF:qY z ((D.take (D.map λp=>V.tup [.str p.1,p.2]).length).map (·.1)) F=wj z F:=by
  rw[Uw,List.take_length]
  funext x
  unfold qY wj;have:x∈D.map (·.1)↔(z.att x).isSome=true:=by
   have g:=hd.at_ x;induction hF:z.att x using Vx with
   |none=>rw[hF]at g;dsimp only at g;simp only[Option.isSome_none,TQ,iff_false];exact hZ.mp g
   |some q=>
    rw[hF]at g;refine aa (g) λm e Z=>?_;simp only[Option.isSome_some,iff_true];exact U3.mpr ⟨_,kq e,rfl⟩
  simp only[this]
 rw[eF]at i1;exact i1
noncomputable def fz(t:Nat)(F:aP)(z:Vc):aP:=if z.items.length=t then wj z F else F
theorem Hj {z:Vc}(F:aP)(h:∀k,z.att k=none):wj z F=F:=by
 funext k;unfold wj;rw[Vv (λq=>by rw[h k]at q;cases q.1)]
theorem NS {β:Type}(C:Tb)(b:Nat)(K:Fl->Loc->M β)(l:Loc):cm C 22 (aw "result_attrs" (aq "result_attrs") b) (aG "result_attrs" [1,0,0,0,1]) (cm C 23 (aw "result_attrs" (aq "result_attrs") b) (aG "result_attrs" [1,0,1]) K) .next l=K .next l:=by kernel_rfl
def Fb {β:Type}(C:Tb)(b:Nat)(w G J c:V)(l0:Loc)(k:Fl->Loc->M β):M β:=mq (aN w "attrs") λz=>mq (cmp .IsNot z .none) λo=>bif o then(mq (C.f "length" [w]) λy=>mq (C.f "length" [c]) λF=>mq (cmp .Eq y F) λx=>bif x then(mq (aN w "attrs") λA=>mq (dI A) λg=>mq (bF C 21 "result_attrs" b [1,0,0,0,0] g l0) λq=>cm C 22 (aw "result_attrs" (aq "result_attrs") b) (aG "result_attrs" [1,0,0,0,1]) (cm C 23 (aw "result_attrs" (aq "result_attrs") b) (aG "result_attrs" [1,0,1]) k) q.1 q.2)else(k .next l0))else(k .next l0)
theorem rN {wf j lo R I b t:Nat}{items:List V}{F:aP}{u v w:V}{z:Vc}{l0:Loc}(a:RS lo R I k items h0 h F)(s:Side lo R h0 w z)(hlo:lo<=h0.length)(hR:R<h0.length)(hk:k≠ "NULL")(L:items.length=t)(U:t<=9)(hw:40<wf)
  (g:l0=lO u v (.ref R) w\/ ∃x y,l0=iM u v (.ref R) w x y)(K:Fl->Loc->M (Fl×Loc))(hK:K=λfl l=>mr (fl,l)):
  ∃lc h',Fb (Tj wf (j+1)) b w u v (.ref R) l0 K h=.ok (.next,lc) h'/\(lc=lO u v (.ref R) w\/ ∃x y,lc=iM u v (.ref R) w x y)/\RS lo R I k items h0 h' (fz t F z):=by
 subst hK;have G:∀m:Nat,(lo<=m/\m<R)->m<h0.length/\m≠R:=λm p=>by exact LV hR p
 have iw:=s.isv.keep (a.keep G);unfold Fb fz;refine aa (iw.attrs) λav c Y=>?_;rw[ac c];cases Y with
 |none f=>
  refine aV l0 h ⟨rfl,g, ?_⟩
  split
  ·rw[Hj F f];exact a
  ·exact a
 |@dict d D hd=>
  rw[fU,ae,Vr,ac (dy (j:=j) iw)];refine aa (a.res) λra er Z=>?_;have el:T ai wf 24 (j+1) "length" [.ref R] h=.ok (.int items.length) h:=by
   rw[aK (by kernel_rfl) (by kernel_rfl),yh];unfold rn;have ev:=Bs er;refine aM ((rH er))<|mM (UC hk)<|aM ev<|aO (aT ..)<|vR<|aM ((hW er))<|aM ((eX a.its (vd (Lr L U)))) ?_;rfl
  rw[ac el,bA,ae];by_cases hz:z.items.length=t
  ·rw[show decide ((z.items.length:Int)=(items.length:Nat))=true from UL (LZ L hz),Vr,Vw hz,ac c,ac (yO hd.get)]
   refine aa (s.isv.attrs) λX A o=>?_;have q:X=.ref d:=by
    cases hs:s.isv with
    |null p e f=>
     have W:=(a.keep G).get _ _ p e;have:=(nZ W).symm.trans c;cases this
    |@vec n i k' l a' F' hk' hl p1 p2 e1 e2 ha=>
     have W:=(a.keep G).get _ _ p1 e1;have t1:=(dn W).symm.trans c;have t2:=(dn e1).symm.trans A;cases t1;cases t2;rfl
   subst q;cases o with
   |@dict d0 D0 hd0=>
    have J:D0=D:=by
     have h3:=(a.keep G).get _ _ hd0.p hd0.get;have:=h3.symm.trans hd.get;cases this;rfl
    subst J;refine aW (Df (j:=j+1) (b:=b) a hd0 hlo hR hw g) λlc h' e S a'=>?_;rw[ac e,NS];exact aV lc h' ⟨rfl,S,a'⟩
  ·rw[show decide ((z.items.length:Int)=(items.length:Nat))=false from UC (LC L hz),Vm,Vv hz]
   exact aV l0 h ⟨rfl,g,a⟩
def gZ(q:DR)(t:Nat)(x y:Vc):aP:=fz t (fz t (tM q t x y) y) x
theorem vk {lo R:Nat}{items:List V}{x y:Vc}{d1 d2:Option (List Int)}(hu:IsV (λm=>lo<=m/\m<R) h u x)(hv:IsV (λm=>lo<=m/\m<R) h v y)
  (h1:dG x.att x.items.length d1)(A:dG y.att y.items.length d2)(hx:x.items.length<=9)(hy:y.items.length<=9)(hR:h[R]?=some (bp (.str k) (.ref I) .none))(hI:h[I]?=some (.list items))(hk:k≠ "NULL")(ht:items.length=t)(J:t<=9)(L:lo<=h.length)
  (hq:∀e,cf d1 d2 x.items.length y.items.length≠ .bad e)(hw:40<wf):
  ∃h',T ai wf 24 (j+5) "result_attrs" [u,v,.ref R] h=.ok .none h'/\RS lo R I k items h h' (gZ (cf d1 d2 x.items.length y.items.length) t x y):=by
 refine bO (T ai wf 24 (j+5) "result_attrs" [u,v,.ref R] h) λgQ gR=>?_;rw[aK (by kernel_rfl) (by kernel_rfl),uE];unfold mC;have lR:=aA hR;have su:Side lo R h u x:=⟨hu,d1,h1⟩;have sv:Side lo R h v y:=⟨hv,d2,A⟩;refine aa (wX (j:=j) hu hv h1 A hx hy hR hI hk ht J L hq hw) λY e1 a1=>az e1<|gR _ ?_;show ∃h',mq (mr (It.vals [v,u])) _ Y=_/\_;rw[ae];generalize hF0:tM (cf d1 d2 x.items.length y.items.length) t x y=F0 at a1;refine aB λgP gH=>?_;obtain⟨lc,h',e,i1,i2⟩:=bX (body:=λv l=>aJ (Tj wf (j+4)) 23 "result_attrs" h.length [1] v l λg l=>mr (g,l)) (it:=.vals [v,u]) [v,u]
  (λi lc h'=>RS lo R I k items h h' (([y,x].take i).foldl (fz t) F0)/\((i=0/\lc=([("u",u),("v",v),("result",.ref R)]:Loc))\/(∃o,lc=lO u v (.ref R) o)\/ ∃o p q,lc=iM u v (.ref R) o p q))
  (λi lc h' Z=>rfl)
  (λi w lc h' U hI'=>by
   refine af (hI') λa' hlc=>?_
   have⟨z,sz,ez⟩:∃z,Side lo R h w z/\([y,x].take (i+1)).foldl (fz t) F0=fz t (([y,x].take i).foldl (fz t) F0) z:=by
    have hi:i<2:=by have:=(S6.mp U).1;simpa using this
    rcases(show i=0\/i=1 from DA hi)with rfl|rfl
    ·cases U;exact⟨y,sv,rfl⟩
    ·cases U;exact⟨x,su,rfl⟩
   rw[ez];have G:∀c A e2,aJ (Tj wf (j+4)) 23 "result_attrs" h.length [1] w lc (λg l=>mr (g,l)) h'=.ok (.next,c) A->(c=lO u v (.ref R) w\/ ∃x y,c=iM u v (.ref R) w x y)->RS lo R I k items h A e2->
     ∃g l' h'',aJ (Tj wf (j+4)) 23 "result_attrs" h.length [1] w lc (λg l=>mr (g,l)) h'=.ok (g,l') h''/\(g=.next\/g=.cont)/\RS lo R I k items h h'' e2/\((i+1=0/\l'=([("u",u),("v",v),("result",.ref R)]:Loc))\/(∃o,l'=lO u v (.ref R) o)\/ ∃o p q,l'=iM u v (.ref R) o p q):=λc A e2 S X W=>by
    refine bJ .next c A ⟨S,.inl rfl,W,.inr ?_⟩;rcases X with rfl|⟨p,q,rfl⟩
    ·exact .inl ⟨w,rfl⟩
    ·exact .inr ⟨w,p,q,rfl⟩
   rcases hlc with⟨_,rfl⟩|⟨o,rfl⟩|⟨o,p,q,rfl⟩
   ·refine aW (rN (j:=j+3) (b:=h.length) (u:=u) (v:=v) (l0:=lO u v (.ref R) w) a' sz L lR hk ht J hw (.inl rfl) (λg l=>mr (g,l)) rfl) λc A S F W=>G c A _ (by rw[qs];exact S) F W
   ·refine aW (rN (j:=j+3) (b:=h.length) (u:=u) (v:=v) (l0:=lO u v (.ref R) w) a' sz L lR hk ht J hw (.inl rfl) (λg l=>mr (g,l)) rfl) λc A S F W=>G c A _ (by unfold lO;rw[qt];exact S) F W
   ·refine aW (rN (j:=j+3) (b:=h.length) (u:=u) (v:=v) (l0:=iM u v (.ref R) w p q) a' sz L lR hk ht J hw (.inr ⟨p,q,rfl⟩) (λg l=>mr (g,l)) rfl) λc A S F W=>?_
    exact G c A _ (by unfold iM;rw[qw];exact S) F W)
  wf 0 [("u",u),("v",v),("result",.ref R)] Y o1 (by simp;exact HW hw) ⟨a1,.inl ⟨rfl,rfl⟩⟩
 refine gH ?_;rw[ac ((cC (by kernel_rfl)).trans e)];unfold gZ;rw[hF0];rcases i2 with⟨q,_⟩|⟨o,rfl⟩|⟨o,p,q,rfl⟩
 ·simp at q
 ·rw[fv];unfold lO;rw[qz];exact⟨h',rfl,i1⟩
 ·rw[fv];unfold iM;rw[qA];exact⟨h',rfl,i1⟩
noncomputable def NT(o:Option Int):Q:=o.map λi=>(i,1)
theorem Ke(o:Option Int):vh (vi o)=vq (NT o):=by cases o<;>rfl
theorem Hk {o:Option Int}(h:fF o):c7 (NT o):=by
 rcases o with _|i
 ·exact⟨trivial,trivial⟩
 ·have h':i.natAbs<=2147483647:=h
  refine⟨⟨by show(0:Int)<=1;decide,.inr (Nat.gcd_one_right _)⟩, ?_, ?_⟩
  ·show i.natAbs<2^40;exact Qy h'
  ·show 1<2^40;decide
structure DI (x:Vc) (l:List Q):Prop where
 eq:b7 "double" x=l.map vq
 good:∀q∈l,c7 q
theorem DI.len {x:Vc}{l:List Q}(d:DI x l):l.length=x.items.length:=by
 have:=Vs List.length d.eq;rw[eo,Uw]at this;exact this.symm
structure II (x:Vc) (l:List (Option Int)):Prop where
 eq:x.items=l.map vi
 sm:∀q∈l,fF q
theorem II.len {x:Vc}{l:List (Option Int)}(d:II x l):l.length=x.items.length:=by rw[d.eq,Uw]
theorem Wf.ii {x:Vc}(w:Wf x)(g:dE x.kind)(hd:x.kind≠ "double"):∃l,II x l:=by
 have kd:=w.kd;generalize o:x.kind=k at kd g hd;generalize c:x.items=its at kd;cases kd with
 |null=>exact⟨[],c,λq h=>by cases h⟩
 |logical l h=>exact⟨l,c,h⟩
 |integer l h=>exact⟨l,c,h⟩
 |double l h=>exact absurd rfl hd
 |character l=>rcases g with h|h|h|h<;>exact absurd h (by decide)
theorem Wf.di {x:Vc}(w:Wf x)(A:dE x.kind):∃l,DI x l:=by
 by_cases hd:x.kind= "double"
 ·have kd:=w.kd
  generalize y:x.items=its at kd;rw[hd]at kd;cases kd with
  |double l h=>exact⟨l,by unfold b7;rw[Vv (λq=>q.2 hd)];exact y,h⟩
 ·obtain⟨l,e,s⟩:=w.ii A hd
  refine⟨l.map NT, ?_,λq g=>?_⟩
  ·unfold b7
   rw[Vw ⟨rfl,hd⟩,e,List.map_map,List.map_map]
   congr 1;funext o;exact Ke o
  ·refine aa (U3.mp g) λo z c=>?_;subst c
   exact Hk (s o z)
theorem II.plain {x:Vc}{l:List (Option Int)}(d:II x l):∀v∈x.items,v=.none\/ ∃i:Int,v=.int i:=λv g=>by
 rw[d.eq]at g;refine aa (U3.mp g) λo Z c=>?_;subst c;induction o using Vx with
 |none=>exact .inl rfl
 |some i=>exact .inr ⟨i,rfl⟩
def lP(o:Op)(x y:Vc):Prop:=x.kind= "double"\/y.kind= "double"\/o.whole=false
theorem zf(o:Op):cmp .In (.str o.s) (.tup [.str "/",.str "^"])=mr (!o.whole):=by
 cases o<;>kernel_rfl
theorem zg {n m:Nat}(h:0<aL n m):0<n/\0<m:=by
 unfold aL at h;split at h<;>omega
theorem Kf {wf j N:Nat}{Q:Nat->Prop}{o u v:V}{x y:Vc}(F:IsV P h u x)(G:IsV Q h v y)(J:¬(dE x.kind/\dE y.kind)):∃h',T ai wf 24 (j+2) "arith" [o,u,v,.ref N] h=.exc (.str "non-numeric argument to binary operator") h'/\Gr h h':=by
 refine bO (T ai wf 24 (j+2) "arith" [o,u,v,.ref N] h) λL z=>?_;rw[aK (by kernel_rfl) (by kernel_rfl),Bh];refine aB λS A=>?_;by_cases c:dE x.kind
 ·refine aW (gc (j:=j) F c) λr h' e g Z=>A<|az e<|z _<|⟨h',gY (mT (j:=j) (G.keep g.keep) λq=>J ⟨c,q⟩),g⟩
 ·refine A<|z _<|⟨h,gY (mT (j:=j) F c),Keep.refl⟩
def zh(lo N:Nat)(h h':List O)(k:Str)(items:List V)(F:aP)(notes:List V)(r:V):Prop:=
 Keep (λm=>m≠N) h h'/\IsV (λm=>lo<=m) h' r ⟨k,items,F⟩/\h'[N]?=some (.list notes)
theorem wk {wf j lo B N D t:Nat}{k:Str}{items notes:List V}{x y:Vc}{U d2:Option (List Int)}(hu:IsV (λm=>lo<=m/\m<B) h u x)(hv:IsV (λm=>lo<=m/\m<B) h v y)
  (h1:dG x.att x.items.length U)(h2:dG y.att y.items.length d2)(hx:x.items.length<=9)(hy:y.items.length<=9)(hB:B<=h0.length)(G:lo<=B)(K:Keep (λm=>m≠N) h0 h)(hN:h[N]?=some (.list notes))(J:N<h0.length)
  (hD:h[D]?=some (.list items))(hD0:h0.length<=D)(hk:k≠ "NULL")(ht:items.length=t)(L:t<=9)(hq:∀e,cf U d2 x.items.length y.items.length≠ .bad e)(hw:40<wf):
  ∃r h',(mq (T ai wf 24 (j+5) "Vector" [.str k,.ref D]) λA=>mq (T ai wf 24 (j+5) "result_attrs" [u,v,A]) λr6=>mr A) h=.ok r h'/\zh lo N h0 h' k items (gZ (cf U d2 x.items.length y.items.length) t x y) notes r:=by
 refine bO ((mq (T ai wf 24 (j+5) "Vector" [.str k,.ref D]) λA=>mq (T ai wf 24 (j+5) "result_attrs" [u,v,A]) λr6=>mr A) h) λgQ gR=>az gX ?_;have g:Gr h (h++ [bp (.str k) (.ref D) .none]):=Keep.app _;have hR:=ay h (bp (.str k) (.ref D) .none);have c:=K.len;have F:B<=h.length:=U7 hB c;have W:IsV (λm=>lo<=m/\m<h.length) (h++ [bp (.str k) (.ref D) .none]) u x:=(hu.keep g.keep).mono λm Z p=>⟨p.1,by have:=p.2;exact Mj F p⟩;have hv1:IsV (λm=>lo<=m/\m<h.length) (h++ [bp (.str k) (.ref D) .none]) v y:=(hv.keep g.keep).mono λm Z p=>⟨p.1,by have:=p.2;exact Mj F p⟩;have Y:=g.get _ _ trivial hD;have hN1:=g.get _ _ trivial hN;have hl1:=g.len;have K1:Keep (λm=>m≠N) h0 (h++ [bp (.str k) (.ref D) .none]):=K.trans g.keep;have z:(h++ [bp (.str k) (.ref D) .none]).length=h.length+1:=by simp
 generalize h++ [bp (.str k) (.ref D) .none]=h1' at*;refine aa (vk (j:=j) W hv1 h1 h2 hx hy hR Y hk ht L (PZ G F z) hq hw) λX e2 S=>az e2<|gR _<|aV _ X ⟨rfl,⟨λm o q e=>S.K.get _ _ ⟨by have:=aA e;exact Qe c z this,by have:=aA e;exact Aw c this⟩ (K1.get _ _ q e),by have:=S.K.len;exact Rr c z this⟩,S.isV hk (Lr ht L) (o5 G F) (R7 hB G hD0),S.K.get _ _ ⟨by exact PV J c z,by exact Dz J c⟩ hN1⟩
structure Ans (o:Op) (x y:Vc) (t:Nat) (k:Str) (items:List V) (over:Bool):Prop where
 dbl:lP o x y-> ∃l r,DI x l/\DI y r/\k= "double"/\items=(List.range t).map (λi=>vq (tK o l r i))/\over=false
 int:¬lP o x y-> ∃l r,II x l/\II y r/\k= "integer"/\items=(List.range t).map (λi=>vi (df o l r i))/\over=lM o l r t
theorem wl(f:Nat->V):((List.range t).map f).length=t:=by simp
theorem Kg {lo:Nat}{o:Op}{x y:Vc}{W X:Option (List Int)}(hu:IsV (λm=>lo<=m/\m<B) h u x)(hv:IsV (λm=>lo<=m/\m<B) h v y)(wx:Wf x)(wy:Wf y)
  (h1:dG x.att x.items.length W)(h2:dG y.att y.items.length X)(nx:dE x.kind)(ny:dE y.kind)(hB:B<=N)(hlo:lo<=B)(hN:h[N]?=some (.list []))(hp:∀r,DI y r-> ∀q∈r,Pw o q)(hw:4200<wf):
  match cf W X x.items.length y.items.length with
  |.bad e=>∃h',T ai wf 24 (j+8) "arith" [.str o.s,u,v,.ref N] h=.exc (.str e) h'/\Gr h h'
  |q=>∃r h' k items over,T ai wf 24 (j+8) "arith" [.str o.s,u,v,.ref N] h=.ok r h'/\Ans o x y (aL x.items.length y.items.length) k items over/\
    zh lo N h h' k items (gZ q (aL x.items.length y.items.length) x y) (ca over (bE W X x.items.length y.items.length []) iK) r:=by
 have ea:T ai wf 24 (j+8) "arith" [.str o.s,u,v,.ref N] h=Bg (Tj wf (j+7)) h.length (.str o.s) u v (.ref N) h:=by
  rw[aK (by kernel_rfl) (by kernel_rfl),Bh]
 have lN:=aA hN;refine aB λgP gH=>bM (gc (wf:=wf) (j:=j+6) hu nx) λL h1' e1 g1 eL pL=>bM (gc (wf:=wf) (j:=j+6) (hv.keep g1.keep) ny) λR h2' e2 g2 eR pR=>?_;have gj:Gr h h2':=g1.trans g2;have hu2:=hu.keep (gj.keep (P:=λm=>lo<=m/\m<B));have hv2:=hv.keep (gj.keep (P:=λm=>lo<=m/\m<B));have g:∀n,(lo<=n/\n<B)->n≠N:=λn p=>by exact Pk hB p
 have cl:=G5 (j:=j+3) hu2 hv2 h1.dims h2.dims g g (gj.get _ _ trivial hN) (by simp) wx.len wy.len (o4 hw);have ok:(∀e,cf W X x.items.length y.items.length≠ .bad e)->co (T ai wf 24 (j+7) "common_length" [u,v,.ref N]) N h2' (bE W X x.items.length y.items.length []) (.int (aL x.items.length y.items.length))->
   ∃r h' k items over,T ai wf 24 (j+8) "arith" [.str o.s,u,v,.ref N] h=.ok r h'/\Ans o x y (aL x.items.length y.items.length) k items over/\
    zh lo N h h' k items (gZ (cf W X x.items.length y.items.length) (aL x.items.length y.items.length) x y) (ca over (bE W X x.items.length y.items.length []) iK) r:=λhq nt=>by
  refine bO (T ai wf 24 (j+8) "arith" [.str o.s,u,v,.ref N] h) λJ mk=>aQ (nt) λh3 e3 k3 n3=>?_;have hu3:=hu2.keep (k3.mono λn Z p=>g n p);have hv3:=hv2.keep (k3.mono λn Z p=>g n p);have ht9:=mV wx.len wy.len;have hpos:=@zg x.items.length y.items.length;have K3:Keep (λm=>m≠N) h h3:=gj.keep.trans k3;rw[ea];refine az e1<|az e2<|az e3<|az hu3.kind<|bC (aY ..) ?_;have F:lP o x y->J (kZ (Tj wf (j+7)) (.str o.s) u v (.int (aL x.items.length y.items.length)) h3):=λhD=>by
   refine am (wx.di nx) λl dl=>am (wy.di ny) λr dr=>aW (mU (j:=j+5) hu3 nx (λq=>by obtain⟨l,Y⟩:=wx.ii nx q;exact Y.plain) hw) λA h4 e4 g4 eA=>?_;have hv4:=hv3.keep (g4.keep (P:=λm=>lo<=m/\m<B));refine aW (mU (j:=j+5) hv4 ny (λq=>by obtain⟨l,Y⟩:=wy.ii ny q;exact Y.plain) hw) λBb h5 e5 g5 eB=>?_;have eA5:=g5.get _ _ trivial eA;rw[dl.eq]at eA5;rw[dr.eq]at eB;refine bM (tL (j:=j) (o:=o) (n:=aL x.items.length y.items.length) eA5 eB ht9 (λq=>by rw[dl.len,dr.len];exact hpos q) (by rw[dl.len];exact wx.len) (by rw[dr.len];exact wy.len) dl.good dr.good (hp r dr) (HV hw)) λD h6 e6 g6 hD0 eD=>az e4<|az e5<|az e6 ?_;have z:Gr h3 h6:=(g4.trans g5).trans g6;have K6:Keep (λm=>m≠N) h h6:=K3.trans z.keep;have hl36:=z.len;have U:=K3.len;have h56:=(g4.trans g5).len;refine cY (wk (j:=j+2) (B:=B) (N:=N) (t:=aL x.items.length y.items.length) (k:= "double") (hu3.keep z.keep) (hv3.keep z.keep) h1 h2 wx.len wy.len (Mo hB lN) hlo K6 (z.get _ _ trivial n3) lN eD (tt U (tt h56 hD0)) (by decide) (wl _) ht9 hq (o4 hw)) λrr h7 e7 a7=>mk _ (xo rr h7 _ _ false ⟨e7,⟨λZ=>⟨l,r,dl,dr,rfl,rfl,rfl⟩,λq=>absurd hD q⟩,a7⟩)
  by_cases G:x.kind= "double"
  ·exact qR G (F (.inl G))
  refine sZ G<|az hv3.kind<|bC (aY ..) ?_;by_cases S:y.kind= "double"
  ·exact qR S (F (.inr (.inl S)))
  refine sZ S<|bC (zf ..) ?_;induction ho:o.whole using VA with
  |false=>exact F (.inr (.inr ho))
  |true=>
   have nD:¬lP o x y:=λq=>q.elim G λq=>q.elim S λq=>ff (q.symm.trans ho);refine am (wx.ii nx G) λl Y=>am (wy.ii ny S) λr ir=>?_;have lL:=aA eL;have lR:=aA eR;have hg1:=g1.len;have hLN:L≠N:=by rcases pL with q|q<;>omega
   have hRN:R≠N:=by rcases pR with q|q<;>omega
   have eL3:=k3.get _ _ hLN (g2.get _ _ trivial eL);have eR3:=k3.get _ _ hRN eR;rw[Y.eq]at eL3;rw[ir.eq]at eR3;obtain⟨D,h6,e6,k6,hD0,eD,n6⟩:=rM (j:=j+5) (n:=aL x.items.length y.items.length) eL3 eR3 n3 ht9 (λq=>by rw[Y.len,ir.len];exact hpos q) (by rw[Y.len];exact wx.len) (by rw[ir.len];exact wy.len) Y.sm ir.sm ho (by
    have a:=pK (c:=gz x.items.length y.items.length) (l:=ca (jh W X x.items.length y.items.length) [] eZ) (v:=eY);have b:=pK (c:=jh W X x.items.length y.items.length) (l:=([]:List V)) (v:=eZ);unfold bE;simp at b;exact tt a (tt (Uo b) (by decide))) (HV hw)
   refine qS<|az (by with_reducible exact e6) ?_;have K6:Keep (λm=>m≠N) h h6:=K3.trans k6;have U:=K3.len;refine cY (wk (j:=j+2) (B:=B) (N:=N) (t:=aL x.items.length y.items.length) (k:= "integer") (hu3.keep (k6.mono λn Z p=>g n p)) (hv3.keep (k6.mono λn Z p=>g n p)) h1 h2 wx.len wy.len (Mo hB lN) hlo K6 n6 lN eD (Av hD0 U) (by decide) (wl _) ht9 hq (o4 hw)) λrr h7 e7 a7=>mk _ (xo rr h7 _ _ _ ⟨e7,⟨λq=>absurd q nD,λZ=>⟨l,r,Y,ir,rfl,rfl,rfl⟩⟩,a7⟩)
 refine gH ?_;induction hr:cf W X x.items.length y.items.length using VC with
 |bad msg=>
  rw[hr]at cl;refine aB λgP gH=>aa (cl) λh3 e3 g3=>gH<|⟨h3, ?_,gj.trans g3⟩;rw[ea];refine aM e1<|aM e2<|gY e3
 |no=>rw[hr]at cl ok;exact ok (λe q=>by cases q) cl
 |dim ds=>rw[hr]at cl ok;exact ok (λe q=>by cases q) cl
theorem Dg {wf j R:Nat}{k i:V}{x:Vc}(J:IsV P h v x)(G:∀n,P n->n≠R)(q:h[R]?=some (bp k i .none)):
  ∃h' a,T ai wf 24 (j+1) "keep_all" [v,.ref R] h=.ok (.ref R) h'/\Keep (λm=>m≠R) h h'/\h'[R]?=some (bp k i a)/\IsA (λm=>P m\/h.length<=m) h' x.att a:=by
 refine bO (T ai wf 24 (j+1) "keep_all" [v,.ref R] h) λL y=>?_;rw[aK (by kernel_rfl) (by kernel_rfl),Cz];refine aa (J.attrs) λa z A=>?_;have F:=aA q;refine az z ?_;cases A with
 |none f=>
  refine bC dU<|qS<|y _<|aV h .none ⟨rfl,Keep.refl,q,.none f⟩
 |@dict d D hd=>
  refine bC (fU ..)<|yE<|az z<|az ((J3 hd.get (U7 hd.dk.len (by decide)))) ?_;have g:Gr h (h++ [O.dict D]):=Keep.app _;have c:=g.get _ _ trivial q;refine az ((ln c))<|y _<|aV _ _ ⟨rfl,g.keep.trans (Keep.set (by simp)),bg c,.dict (D:=D) ⟨.inr (Vi _),by rw[Ty (o8 F)];exact ay _ _,hd.dk, ?_⟩⟩;refine((hd.at_.keep (Q:=P) g.keep).setR (o:=_) G).mono λn Z p=>.inl p
noncomputable def kA:V->V
 |.int i=>.int (-i)
 |.tup [.int a,.int b]=>.tup [.int (-a),.int b]
 |v=>v
theorem Kh(q:Q):kA (vq q)=vq (fP q):=by rcases q with _|⟨a,b⟩<;>rfl
theorem By {x:Vc}(g:IsV P h v x)(c:x.kind= "logical"\/x.kind= "integer"\/x.kind= "double"):T ai wf 24 (j+1) "check_unary" [v] h=.ok .none h:=by
 rw[aK (by kernel_rfl) (by kernel_rfl),ou];unfold ju;unfold iq;rw[ac g.kind,pG,ae,UL c];rfl
theorem Ki {x:Vc}(g:IsV P h v x)(c:¬(x.kind= "logical"\/x.kind= "integer"\/x.kind= "double")):T ai wf 24 (j+1) "check_unary" [v] h=.exc (.str "invalid argument to unary operator") h:=by
 rw[aK (by kernel_rfl) (by kernel_rfl),ou];unfold ju;unfold iq;rw[ac g.kind,pG,ae,UC c];rfl
theorem zi {n:V}{x:Vc}(g:IsV P h v x)(c:¬(x.kind= "logical"\/x.kind= "integer"\/x.kind= "double")):T ai wf 24 (j+2) "negate" [v,n] h=.exc (.str "invalid argument to unary operator") h:=by
 rw[aK (by kernel_rfl) (by kernel_rfl),yk];exact gY (Ki (j:=j) g c)
theorem lQ {lo D:Nat}{items:List V}{x:Vc}(hv:IsV (λm=>lo<=m/\m<B) h v x)(S:B<=h.length)(J:lo<=B)(y:Gr h0 h)(U:h[D]?=some (.list items))(c:lo<=D)(Y:k≠ "NULL")(hl:items.length<=9):
  ∃r h',(mq (T ai wf 24 (j+1) "Vector" [.str k,.ref D]) λA=>mq (T ai wf 24 (j+1) "keep_all" [v,A]) λF=>mr F) h=.ok r h'/\Gr h0 h'/\IsV (λm=>lo<=m) h' r ⟨k,items,x.att⟩:=by
 refine bO ((mq (T ai wf 24 (j+1) "Vector" [.str k,.ref D]) λA=>mq (T ai wf 24 (j+1) "keep_all" [v,A]) λF=>mr F) h) λgQ gR=>az gX ?_;have g:Gr h (h++ [bp (.str k) (.ref D) .none]):=Keep.app _;have hR:=ay h (bp (.str k) (.ref D) .none);have G:=hv.keep (g.keep (P:=λm=>lo<=m/\m<B));have z:=g.get _ _ trivial U;have L:=aA U;have q:(h++ [bp (.str k) (.ref D) .none]).length=h.length+1:=by simp
 generalize h++ [bp (.str k) (.ref D) .none]=h1 at*;refine aB λgP X=>bM (Dg (j:=j) (R:=h.length) G (λn p=>by exact Pk S p) hR) λh' a e K W ia=>X<|az e<|gR _<|aV _ h' ⟨rfl,⟨λm o Z e=>K.get _ _ (by have:=aA e;have:=y.len;omega) (g.get _ _ trivial (y.get _ _ trivial e)),by have:=y.len;have:=K.len;omega⟩,.vec Y (o2 hl) (Av S J) c W (K.get _ _ (o8 L) z) (ia.mono λn Z p=>?_)⟩;rcases p with p|p
 ·exact p.1
 ·exact QL c L q p
theorem Hl {lo:Nat}{v n:V}{x:Vc}(F:IsV (λm=>lo<=m/\m<B) h v x)(U:Wf x)(G:B<=h.length)(c:lo<=B)(L:x.kind= "logical"\/x.kind= "integer"\/x.kind= "double")(X:4200<wf):
  ∃r h',T ai wf 24 (j+2) "negate" [v,n] h=.ok r h'/\Gr h h'/\IsV (λm=>lo<=m) h' r ⟨if x.kind= "double" then "double" else "integer",x.items.map kA,x.att⟩:=by
 rw[aK (by kernel_rfl) (by kernel_rfl),yk];refine bO (yj (Tj wf (j+1)) h.length v n h) λJ z=>?_;have nn:x.kind≠ "NULL":=λe=>by rcases L with q|q|q<;>(rw[e]at q;exact absurd q (by decide))
 have A:=U.len;refine aQ (F.items nn) λi Z W y=>az (By (j:=j) F L)<|az F.kind<|bC (aY ..) ?_;have Y:dE x.kind:=.inr L;have g:Gr h (h++ [O.list (x.items.map kA)]):=Keep.app _;by_cases hd:x.kind= "double"
 ·rw[Vw hd]at z;refine qR hd<|az W<|az (dh y) ?_
  have kd:=U.kd;rw[hd]at kd;generalize hit:x.items=its at kd y A g z ⊢;cases kd with
  |double l hg=>
   refine az (ku (f:=kA) (by kernel_rfl) (by kernel_rfl) y (by show(l.map vq).length<wf;exact Lw X A) λw o=>by
    refine aa (U3.mp o) λq Z S=>?_;subst S;rw[CI];refine aM ((CM (j:=j) q)) ?_;rw[Kh];rfl) ?_
   refine az (aH _ _) (z _ ?_);exact lQ (j:=j) (F.keep g.keep) (by have:=g.len;exact o5 G this) c g (ay _ _) (Av G c) (by decide) (by simpa using A)
 ·rw[Vv hd]at z;refine sZ hd<|az W<|az (dh y)<|am (U.ii Y hd) λl il=>?_
  refine az (ku (f:=kA) (by kernel_rfl) (by kernel_rfl) y (by show x.items.length<wf;exact Lw X A) λw o=>by
   rw[CJ];unfold sW;rcases il.plain w o with rfl|⟨i,rfl⟩
   ·rfl
   ·refine aO (qT ..)<|km<|aO (ch ..) ?_;rw[show(0:Int)-i= -i from Dx];rfl) ?_
  refine az (aH _ _) (z _ ?_);exact lQ (j:=j) (F.keep g.keep) (by have:=g.len;exact o5 G this) c g (ay _ _) (Av G c) (by decide) (by simpa using A)
theorem NU {lo:Nat}{v n:V}{x:Vc}(o:IsV (λm=>lo<=m/\m<B) h v x)(L:Wf x)(z:B<=h.length)(c:lo<=B)(G:x.kind= "logical"\/x.kind= "integer"\/x.kind= "double")(U:4200<wf):
  ∃r h',T ai wf 24 (j+2) "plus" [v,n] h=.ok r h'/\Gr h h'/\IsV (λm=>lo<=m) h' r ⟨if x.kind= "double" then "double" else "integer",x.items,x.att⟩:=by
 refine bO (T ai wf 24 (j+2) "plus" [v,n] h) λS y=>?_;rw[aK (by kernel_rfl) (by kernel_rfl),Ni];unfold EF;have nn:x.kind≠ "NULL":=λe=>by rcases G with q|q|q<;>(rw[e]at q;exact absurd q (by decide))
 have A:=L.len;refine aQ (o.items nn) λi Z J F=>az ((By (j:=j) o G))<|az o.kind<|bC (aY ..) ?_;have g:Gr h (h++ [O.list x.items]):=Keep.app _;by_cases hd:x.kind= "double"
 ·rw[Vw hd]at y;refine qR hd<|az J<|az (hU F (lz (o2 A))) (y _ ?_)
  exact lQ (j:=j) (o.keep g.keep) (by have:=g.len;exact o5 z this) c g (ay _ _) (Av z c) (by decide) A
 ·rw[Vv hd]at y;refine sZ hd<|az J<|az (hU F (lz (o2 A))) (y _ ?_)
  exact lQ (j:=j) (o.keep g.keep) (by have:=g.len;exact o5 z this) c g (ay _ _) (Av z c) (by decide) A
noncomputable abbrev zj:Nat->Prop:=λZ=>True
structure SM (fd:Nat) (h0 h:List O) (F:aP):Prop where
 K:Keep (λm=>m<h0.length) h0 h
 isS:∃D,IsS zj h fd F D
 old:h0.length<=fd
theorem SM.gr {F:aP}(a:SM fd h0 h F)(g:Gr h h'):SM fd h0 h' F:=by
 refine am (a.isS) λD c=>⟨a.K.trans g.keep,⟨D,c.keep g⟩,a.old⟩
theorem SM.put {fd i:Nat}{h0 h:List O}{F:aP}{key:Str}{q:Str×List V}(a:SM fd h0 h F)(y:key∈Ks)(G:h[i]?=some (.list q.2)):
  ∃h',cH (.ref fd) (.str key) (.tup [.str q.1,.ref i]) h=.ok () h'/\SM fd h0 h' (F.upd key q)/\Keep (λm=>m≠fd) h h':=by
 refine am (a.isS) λD g=>⟨_,pB g.get (U7 g.dk.len (by decide)),⟨⟨λm o p e=>by rw[Ty (by have:=a.old;exact rS p this)];exact a.K.get _ _ p e,by simpa using a.K.len⟩,⟨_,trivial,bg g.get,g.dk.put y,λx=>?_⟩,a.old⟩,Keep.set (by simp)⟩;have c:∀(j:Nat) (l:List V),h[j]?=some (.list l)->(h.set fd (.dict (Mine.put key (.tup [.str q.1,.ref i]) D)))[j]?=some (.list l):=λj l e=>by
  rw[Ty (λA=>by subst A;rw[g.get]at e;cases e)];exact e
 unfold aP.upd;rw[pC];by_cases z:x=key
 ·rw[Vw z,Vw z]
  exact⟨i,rfl,trivial,c _ _ G⟩
 ·rw[Vv z,Vv z]
  have:=g.at_ x;induction hF:F x using Vx with
  |none=>rw[hF]at this;exact this
  |some q'=>
   rw[hF]at this;refine aQ (this) λj e Z A=>⟨j,e,trivial,c _ _ A⟩
noncomputable def eb(sn:Bool)(k:Str):Bool:= !decide (k= "dim")&&(!decide (k= "names")||sn)
noncomputable def Fc(u v n m s t x f:V):Loc:= [("u",u),("v",v),("n",n),("m",m),("shape",s),("total",t),("extra",x),("found",f)]
noncomputable def iZ(u v n m s t x f a b c:V):Loc:= [("u",u),("v",v),("n",n),("m",m),("shape",s),("total",t),("extra",x),("found",f),("side",a),("size",b),("seen",c)]
noncomputable def ja(u v n m s t x f a b c d:V):Loc:= [("u",u),("v",v),("n",n),("m",m),("shape",s),("total",t),("extra",x),("found",f),("side",a),("size",b),("seen",c),("name",d)]
theorem Kj {C:Tb}{b fd z t sz:Nat}{sn:Bool}{Q:Nat->Prop}{F G:aP}{u v n m shape side:V}{nm:Str}{q:Str×List V}(a:SM fd h0 h F)(s:IsS Q h z G E)(X:G nm=some q)(hs:cmp .Is shape .none=mr sn):
  ∃h',fZ C b (.str nm) u v n m shape (.int t) (.bool true) (.ref fd) side (.int sz) (.ref z) (λfl l=>mr (fl,l)) h=.ok (.next,ja u v n m shape (.int t) (.bool true) (.ref fd) side (.int sz) (.ref z) (.str nm)) h'/\SM fd h0 h' (if sz=t/\eb sn nm=true then F.upd nm q else F)/\Keep (λm=>m≠fd) h h':=by
 have c:=s.at_ nm;rw[X]at c;refine aQ (c) λi S Z W=>?_;have x:nm∈Ks:=s.dk.sub _ (U3.mpr ⟨_,kq S,rfl⟩);have J:=lw s.get S;refine aQ (a.put x W) λL A U k2=>?_;unfold fZ;dsimp only;unfold iq;rw[aY,ae,No,ae,hs,ae,bA,ae,aT,ae];have y:decide ((sz:Int)=(t:Nat))=decide (sz=t):=Ur.mpr (Int.ofNat_inj);rw[y];by_cases g:nm= "names"
 ·subst g
  have Y:decide (("names":Str)= "names"\/("names":Str)= "dim")=true:=UL (.inl rfl);rw[Y,UL rfl,Vr,Bool.not_true];simp only[Vm];have o:eb sn "names"=sn:=by
   unfold eb;rw[UC (by decide),UL rfl];rfl
  rw[o];by_cases hz:sz=t
  ·rw[UL hz]
   induction sn using VA with
   |false=>exact⟨h,rfl,by rw[Vv (λq=>by cases q.2)];exact a,Keep.refl⟩
   |true=>
    rw[Vr,Vr,ac J,ac A];exact⟨L,rfl,by rw[Vw ⟨hz,rfl⟩];exact U,k2⟩
  ·rw[UC hz,Vv (λq=>hz q.1)]
   cases sn<;>exact⟨h,rfl,a,Keep.refl⟩
 ·rw[UC g,Vm]
  by_cases hd:nm= "dim"
  ·subst hd
   rw[UL (.inr rfl),Bool.not_true,Vm,Vv (λq=>by
    have:=q.2;unfold eb at this;rw[UL rfl]at this;cases this)]
   exact⟨h,rfl,a,Keep.refl⟩
  ·have o:eb sn nm=true:=by unfold eb;rw[UC hd,UC g];rfl
   rw[UC (λq=>q.elim g hd),UH,Vr,o];by_cases hz:sz=t
   ·rw[UL hz,Vr,ae,Vr,ac J,ac A]
    exact⟨L,rfl,by rw[Vw ⟨hz,rfl⟩];exact U,k2⟩
   ·rw[UC hz,Vv (λq=>hz q.1)]
    exact⟨h,rfl,a,Keep.refl⟩
def qZ(sn:Bool)(c:Prop)[Decidable c](G:aP)(ks:List Str)(F:aP):aP:=λk=>if k∈ks/\c/\eb sn k=true then G k else F k
theorem Kk(sn:Bool)(c:Prop)[Decidable c](G F:aP):qZ sn c G [] F=F:=by funext k;unfold qZ;rw[Vv (λq=>by cases q.1)]
theorem Hm(sn:Bool)(c:Prop)[Decidable c](G F:aP)(ks:List Str)(n:Str)(q:Str×List V)(x:G n=some q):qZ sn c G (ks++ [n]) F=if c/\eb sn n=true then(qZ sn c G ks F).upd n q else qZ sn c G ks F:=by
 by_cases o:c/\eb sn n=true
 ·rw[Vw o]
  funext k
  unfold qZ aP.upd;by_cases g:k=n
  ·subst g
   rw[Vw ⟨by simp,o⟩,Vw rfl,x]
  ·rw[Vv g]
   have:k∈ks++ [n]↔k∈ks:=by simp[g]
   simp only[this]
 ·rw[Vv o]
  funext k
  unfold qZ;by_cases g:k=n
  ·subst g
   rw[Vv (λq=>o q.2),Vv (λq=>o q.2)]
  ·have:k∈ks++ [n]↔k∈ks:=by simp[g]
   simp only[this]
def fb(sn:Bool)(t:Nat)(F:aP)(z:Vc):aP:=λk=>if(z.att k).isSome=true/\z.items.length=t/\eb sn k=true then z.att k else F k
theorem Kl {wf j b fd c t sz:Nat}{sn:Bool}{Q:Nat->Prop}{F:aP}{z:Vc}{u v n m shape side:V}{l0:Loc}(a:SM fd h0 h F)(s:IsS Q h c z.att E)(g:c≠fd)(hQ:∀n,Q n->n≠fd)(hs:cmp .Is shape .none=mr sn)(S:sz=z.items.length)(hw:40<wf)
  (U:l0=iZ u v n m shape (.int t) (.bool true) (.ref fd) side (.int sz) (.ref c)\/ ∃x,l0=ja u v n m shape (.int t) (.bool true) (.ref fd) side (.int sz) (.ref c) x):
  ∃lc h',bF (Tj wf j) 22 "_law_attrs" b [2,0,1] (.keys c (E.map (·.1))) l0 h=.ok (.next,lc) h'/\(lc=iZ u v n m shape (.int t) (.bool true) (.ref fd) side (.int sz) (.ref c)\/ ∃x,lc=ja u v n m shape (.int t) (.bool true) (.ref fd) side (.int sz) (.ref c) x)/\SM fd h0 h' (fb sn t F z)/\Keep (λm=>m≠fd) h h':=by
 refine aB λgP L=>?_;obtain⟨lc,h',e,Y,i2,i3⟩:=bX (body:=λv l=>aJ (Tj wf j) 22 "_law_attrs" b [2,0,1] v l λfl l=>mr (fl,l)) (it:=.keys c (E.map (·.1))) (E.map λp=>V.str p.1)
  (λi lc h'=>SM fd h0 h' (qZ sn (sz=t) z.att ((E.take i).map (·.1)) F)/\Keep (λm=>m≠fd) h h'/\(lc=iZ u v n m shape (.int t) (.bool true) (.ref fd) side (.int sz) (.ref c)\/ ∃x,lc=ja u v n m shape (.int t) (.bool true) (.ref fd) side (.int sz) (.ref c) x))
  (λi lc h' W=>vX (W.2.1.get _ _ g s.get))
  (λi w lc h' hv W=>by
   refine cQ (W) λa' K J=>am (S6.mp hv) λG y=>?_;simp only[Uw]at G;simp only[List.getElem_map]at y;subst y;have A:look E[i].1 E=some E[i].2:=iF s.dk.nd (Ue G);obtain⟨q,hq⟩:∃q,z.att E[i].1=some q:=by
    have:=s.at_ E[i].1;induction hF:z.att E[i].1 using Vx with
    |none=>rw[hF]at this;rw[A]at this;cases this
    |some q=>exact⟨q,rfl⟩
   have s':IsS Q h' c z.att E:=⟨s.p,K.get _ _ g s.get,s.dk,s.at_.keep (K.mono λn Z p=>hQ n p)⟩;refine aQ (Kj (C:=Tj wf j) (b:=b) (t:=t) (sz:=sz) (u:=u) (v:=v) (n:=n) (m:=m) (side:=side) a' s' hq hs) λh2 X a2 k2=>?_;rw[<-Hm sn (sz=t) z.att F _ _ q hq]at a2;refine bJ .next _ h2 ⟨?_,.inl rfl, ?_,K.trans k2,.inr ⟨.str E[i].1,rfl⟩⟩
   ·rcases J with rfl|⟨x,rfl⟩
    ·show aJ (Tj wf j) 22 "_law_attrs" b [2,0,1] _ (iZ u v n m shape (.int t) (.bool true) (.ref fd) side (.int sz) (.ref c)) _ h'=_
     unfold iZ;rw[uW];exact X
    ·show aJ (Tj wf j) 22 "_law_attrs" b [2,0,1] _ (ja u v n m shape (.int t) (.bool true) (.ref fd) side (.int sz) (.ref c) x) _ h'=_
     unfold ja;rw[uX];exact X
   ·rw[bv G,Ux];exact a2)
  wf 0 l0 h o1 (by have:=s.dk.len;simp;exact Lu hw this) ⟨by rw[List.take_zero,List.map_nil,Kk];exact a,Keep.refl,U⟩
 refine L<|aV lc h' ⟨(cC (by kernel_rfl)).trans e,i3, ?_,i2⟩;have eF:qZ sn (sz=t) z.att ((E.take (E.map λp=>V.str p.1).length).map (·.1)) F=fb sn t F z:=by
  rw[Uw,List.take_length]
  funext x
  unfold qZ fb;have:x∈E.map (·.1)↔(z.att x).isSome=true:=by
   have o:=s.at_ x;induction hF:z.att x using Vx with
   |none=>rw[hF]at o;dsimp only at o;simp only[Option.isSome_none,TQ,iff_false];exact hZ.mp o
   |some q=>
    rw[hF]at o;refine aB λgP L=>aa (o) λm e Z=>L ?_;simp only[Option.isSome_some,iff_true];exact U3.mpr ⟨_,kq e,rfl⟩
  simp only[this,S]
 rw[eF]at Y;exact Y
theorem NV {β:Type}(C:Tb)(b:Nat)(K:Fl->Loc->M β)(l:Loc):cm C 23 (aw "_law_attrs" (aq "_law_attrs") b) (aG "_law_attrs" [2,0,2]) K .next l=K .next l:=by kernel_rfl
def Fd {β:Type}(C:Tb)(b:Nat)(w u v n m s t x f:V)(lc:V->V->V->Loc)(k:Fl->Loc->M β):M β:=mq (dS w) λc=>mq (C.f "_law_seen" [c.1]) λo=>mq (bY o) λg=>mq (bF C 22 "_law_attrs" b [2,0,1] g (lc c.1 c.2 o)) λq=>cm C 23 (aw "_law_attrs" (aq "_law_attrs") b) (aG "_law_attrs" [2,0,2]) k q.1 q.2
theorem rO {wf j b fd t sz:Nat}{sn:Bool}{F:aP}{z:Vc}{u v n m shape w:V}{lc:V->V->V->Loc}(a:SM fd h0 h F)(iw:IsV P h w z)(hs:cmp .Is shape .none=mr sn)(L:sz=z.items.length)(X:40<wf)
  (G:(∀x y z,lc x y z=iZ u v n m shape (.int t) (.bool true) (.ref fd) x y z)\/ ∃q,∀x y z,lc x y z=ja u v n m shape (.int t) (.bool true) (.ref fd) x y z q):
  ∃c h',Fd (Tj wf (j+1)) b (.tup [w,.int sz]) u v n m shape (.int t) (.bool true) (.ref fd) lc (λU l=>mr (U,l)) h=.ok (.next,c) h'/\((∃x y z,c=iZ u v n m shape (.int t) (.bool true) (.ref fd) x y z)\/ ∃x y z q,c=ja u v n m shape (.int t) (.bool true) (.ref fd) x y z q)/\SM fd h0 h' (fb sn t F z)/\Keep (λm=>m≠fd) h h':=by
 refine bO (Fd (Tj wf (j+1)) b (.tup [w,.int sz]) u v n m shape (.int t) (.bool true) (.ref fd) lc (λU l=>mr (U,l)) h) λgQ gR=>?_;refine bC (show dS (.tup [w,.int sz])=mr (w,V.int sz) from rfl)<|bw (dX (j:=j) iw X) λY E h1 e1 J W=>?_;have g:fd<h.length:=by obtain⟨D,hD⟩:=a.isS;exact aA hD.get
 have A:h.length<=Y:=J.p;refine az e1<|az ((vW J.get))<|aB λgP o=>?_;obtain⟨c,h2,Z,S,a2,k2⟩:=Kl (j:=j+1) (b:=b) (sz:=sz) (side:=w) (u:=u) (v:=v) (n:=n) (m:=m) (t:=t) (l0:=lc w (.int sz) (.ref Y)) (a.gr W) J (rS g A) (λn p=>by exact rS g p) hs L X (by
  rcases G with q|⟨q,hq⟩
  ·exact .inl (q _ _ _)
  ·exact .inr ⟨q,hq _ _ _⟩)
 refine o<|az Z ?_;rw[NV];refine gR _<|aV c h2 ⟨rfl, ?_,a2, ?_⟩
 ·refine aB λgP o=>?_
  rcases S with q|⟨p,q⟩
  ·refine o<|.inl ⟨_,_,_,q⟩
  ·refine o<|.inr ⟨_,_,_,p,q⟩
 ·exact W.keep.trans k2
def tN(sn:Bool)(t:Nat)(F:aP)(x y:Vc):aP:=fb sn t (fb sn t F y) x
def Dh(q:DR):aP:=match q with
 |.dim ds=>jJ.upd "dim" ("integer",bH ds)
 |_=>jJ
noncomputable def DR.sn:DR->Bool
 |.dim _=>false
 |_=>true
def zk(h:List O)(q:DR)(s:V):Prop:=match q with
 |.dim ds=>∃r,s=.ref r/\h[r]?=some (.list (bH ds))
 |_=>s=.none
theorem Km {wf j fd t U:Nat}{sn:Bool}{Q:Nat->Prop}{F:aP}{x y:Vc}{shape:V}(a:SM fd h0 h F)(hu:IsV P h0 u x)(hv:IsV Q h0 v y)(hs:cmp .Is shape .none=mr sn)(hL:h[U]?=some (.list [.tup [v,.int y.items.length],.tup [u,.int x.items.length]]))(Y:40<wf):
  ∃h',(mq (bY (.ref U)) λit5=>mq (bF (Tj wf (j+1)) 23 "_law_attrs" h0.length [2] it5 [("u",u),("v",v),("n",.int x.items.length),("m",.int y.items.length),("shape",shape),("total",.int t),("extra",.bool true),("found",.ref fd)]) λp3=>cm (Tj wf (j+1)) 24 (aw "_law_attrs" (aq "_law_attrs") h0.length) (aG "_law_attrs" [3]) cb p3.1 p3.2) h=.ok (.ref fd) h'/\SM fd h0 h' (tN sn t F x y):=by
 rw[ac (dh hL)];have hfd:h[U]?=some (.list [.tup [v,.int y.items.length],.tup [u,.int x.items.length]])->U≠fd:=λq e=>by
  refine am (a.isS) λD hD=>?_;rw[e,hD.get]at q;cases q
 refine aB λgP X=>?_;obtain⟨lc,h',e,i1,_,i3⟩:=bX (body:=λv l=>aJ (Tj wf (j+1)) 23 "_law_attrs" h0.length [2] v l λfl l=>mr (fl,l)) (it:=.list U) [.tup [v,.int y.items.length],.tup [u,.int x.items.length]]
  (λi lc h'=>SM fd h0 h' (([y,x].take i).foldl (fb sn t) F)/\Keep (λm=>m≠fd) h h'/\((i=0/\lc=Fc u v (.int x.items.length) (.int y.items.length) shape (.int t) (.bool true) (.ref fd))\/(∃p q r,lc=iZ u v (.int x.items.length) (.int y.items.length) shape (.int t) (.bool true) (.ref fd) p q r)\/ ∃p q r s,lc=ja u v (.int x.items.length) (.int y.items.length) shape (.int t) (.bool true) (.ref fd) p q r s))
  (λi lc h' hI=>lm (hI.2.1.get _ _ (hfd hL) hL))
  (λi w lc h' A hI=>by
   refine cQ (hI) λL K hlc=>?_;obtain⟨z,w0,sz,P',iz,ez,ew,G⟩:∃(z:Vc) (w0:V) (sz:Nat) (P':Nat->Prop),IsV P' h' w0 z/\([y,x].take (i+1)).foldl (fb sn t) F=fb sn t (([y,x].take i).foldl (fb sn t) F) z/\w=.tup [w0,.int sz]/\sz=z.items.length:=by
    have hi:i<2:=by have:=(S6.mp A).1;simpa using this
    rcases(show i=0\/i=1 from DA hi)with rfl|rfl
    ·cases A;exact vt y v _ Q ⟨hv.keep (L.K.mono λm hm Z=>hm),rfl,rfl,rfl⟩
    ·cases A;exact vt x u _ P ⟨hu.keep (L.K.mono λm hm Z=>hm),rfl,rfl,rfl⟩
   subst ew;rw[ez];rcases hlc with⟨_,rfl⟩|⟨p,q,r,rfl⟩|⟨p,q,r,s,rfl⟩
   ·refine bM (rO (j:=j) (b:=h0.length) (u:=u) (v:=v) (n:=.int x.items.length) (m:=.int y.items.length) (t:=t) (lc:=iZ u v (.int x.items.length) (.int y.items.length) shape (.int t) (.bool true) (.ref fd)) L iz hs G Y (.inl λZ Z Z=>rfl)) λg S J o W k2=>bJ .next g S ⟨by show aJ (Tj wf (j+1)) 23 "_law_attrs" h0.length [2] _ (Fc _ _ _ _ _ _ _ _) _ h'=_;unfold Fc;rw[uS];exact J,.inl rfl,W,K.trans k2,.inr o⟩
   ·refine bM (rO (j:=j) (b:=h0.length) (u:=u) (v:=v) (n:=.int x.items.length) (m:=.int y.items.length) (t:=t) (lc:=iZ u v (.int x.items.length) (.int y.items.length) shape (.int t) (.bool true) (.ref fd)) L iz hs G Y (.inl λZ Z Z=>rfl)) λg S J o W k2=>bJ .next g S ⟨by show aJ (Tj wf (j+1)) 23 "_law_attrs" h0.length [2] _ (iZ _ _ _ _ _ _ _ _ _ _ _) _ h'=_;unfold iZ;rw[uT];exact J,.inl rfl,W,K.trans k2,.inr o⟩
   ·refine bM (rO (j:=j) (b:=h0.length) (u:=u) (v:=v) (n:=.int x.items.length) (m:=.int y.items.length) (t:=t) (lc:=λa b c=>ja u v (.int x.items.length) (.int y.items.length) shape (.int t) (.bool true) (.ref fd) a b c s) L iz hs G Y (.inr ⟨s,λZ Z Z=>rfl⟩)) λg S J o W k2=>?_
    exact bJ .next g S ⟨by show aJ (Tj wf (j+1)) 23 "_law_attrs" h0.length [2] _ (ja _ _ _ _ _ _ _ _ _ _ _ _) _ h'=_;unfold ja;rw[uV];exact J,.inl rfl,W,K.trans k2,.inr o⟩)
  wf 0 (Fc u v (.int x.items.length) (.int y.items.length) shape (.int t) (.bool true) (.ref fd)) h o1 (by simp;exact HW Y) ⟨a,Keep.refl,.inl ⟨rfl,rfl⟩⟩
 unfold Fc at e;refine X ?_;rw[ac ((cC (by kernel_rfl)).trans e)];refine aB λgP X=>?_;rcases i3 with⟨q,_⟩|⟨p,q,r,rfl⟩|⟨p,q,r,s,rfl⟩
 ·simp at q
 ·refine X ?_
  rw[fv];unfold iZ;rw[uY];exact⟨h',rfl,i1⟩
 ·refine X ?_
  rw[fv];unfold ja;rw[uZ];exact⟨h',rfl,i1⟩
theorem Ak {wf j t:Nat}{Q:Nat->Prop}{x y:Vc}{shape:V}{q:DR}(hu:IsV P h u x)(hv:IsV Q h v y)(o:zk h q shape)(hw:40<wf):
  ∃d D h',T ai wf 24 (j+2) "_law_attrs" [u,v,.int x.items.length,.int y.items.length,shape,.int t,.bool true] h=.ok (.ref d) h'/\IsS zj h' d (tN q.sn t (Dh q) x y) D/\Gr h h':=by
 refine bO (T ai wf 24 (j+2) "_law_attrs" [u,v,.int x.items.length,.int y.items.length,shape,.int t,.bool true] h) λgQ J=>?_;rw[aK (by kernel_rfl) (by kernel_rfl),z6];refine az ((aH _ _)) ?_;have g:Gr h (h++ [O.dict []]):=Keep.app _;have A:SM h.length h (h++ [O.dict []]) jJ:=⟨Keep.app _,⟨[],trivial,ay _ _,Dk.nil,λx=>rfl⟩,Vi _⟩;generalize h++ [O.dict []]=U at*;have c:∀(sn:Bool) (F:aP) (z:List O),SM h.length h z F->cmp .Is shape .none=mr sn-> ∃d D h',(mq (aC (.list [(.tup [v,.int y.items.length]),(.tup [u,.int x.items.length])])) λr4=>mq (bY r4) λL=>mq (bF (Tj wf (j+1)) 23 "_law_attrs" h.length [2] L [("u",u),("v",v),("n",.int x.items.length),("m",.int y.items.length),("shape",shape),("total",.int t),("extra",.bool true),("found",.ref h.length)]) λW=>cm (Tj wf (j+1)) 24 (aw "_law_attrs" (aq "_law_attrs") h.length) (aG "_law_attrs" [3]) cb W.1 W.2) z=.ok (.ref d) h'/\IsS zj h' d (tN sn t F x y) D/\Gr h h':=λsn F z S hs=>by
  rw[ac (aH _ _)];refine aa (Km (j:=j) (t:=t) (S.gr (Keep.app [O.list [(.tup [v,.int y.items.length]),(.tup [u,.int x.items.length])]])) hu hv hs (ay z _) hw) λh3 e3 X=>am (X.isS) λD hD=>bJ _ D h3 ⟨e3,hD,X.K.mono λm hm Z=>hm⟩
 induction q using VC with
 |dim ds=>
  refine aa (o) λr G lr=>?_;subst G;refine bC (fU ..)<|yE<|aQ (A.put (key:= "dim") (q:=("integer",bH ds)) (by decide) (g.get _ _ trivial lr)) λz Y S Z=>az Y<|J _<|c false _ z S (mS r)
 |no=>
  obtain rfl:=o;refine bC dU<|qS<|J _<|c true _ U A cu
 |bad msg=>
  obtain rfl:=o;refine bC dU<|qS<|J _<|c true _ U A cu
theorem Hn(q:DR)(t:Nat)(x y:Vc):tN q.sn t (Dh q) x y=gZ q t x y:=by
 funext k
 have step:∀(sn:Bool) (F:aP) (z:Vc),fb sn t F z k=if(z.att k).isSome=true/\z.items.length=t/\eb sn k=true then z.att k else F k:=λZ Z Z=>rfl;have G:∀(F:aP) (z:Vc),fz t F z k=if z.items.length=t/\(z.att k).isSome=true/\k≠ "names"/\k≠ "dim" then z.att k else F k:=λF z=>by
  unfold fz;by_cases h:z.items.length=t
  ·rw[Vw h]
   unfold wj;by_cases L:(z.att k).isSome=true/\k≠ "names"/\k≠ "dim"
   ·rw[Vw L,Vw ⟨h,L⟩]
   ·rw[Vv L,Vv (λq=>L q.2)]
  ·rw[Vv h,Vv (λq=>h q.1)]
 have c:∀(F:aP) (z:Vc),c9 t F z k=if z.items.length=t/\k= "names"/\(z.att k).isSome=true then z.att k else F k:=λF z=>by
  unfold c9;by_cases h:z.items.length=t
  ·rw[Vw h]
   by_cases S:k= "names"
   ·subst S
    induction hz:z.att "names" using Vx with
    |none=>rw[Vv (λq=>by cases q.2.2)]
    |some p=>
     rw[Vw ⟨h,rfl,rfl⟩]
     show(if("names":Str)= "names" then some p else _)=_
     rw[Vw rfl]
   ·rw[Vv (λq=>S q.2.1)]
    induction z.att "names" using Vx with
    |none=>rfl
    |some p=>exact Vv S
  ·rw[Vv h,Vv (λq=>h q.1)]
 unfold tN gZ;rw[step,step,G,G];by_cases hd:k= "dim"
 ·have W:∀sn,eb sn k=false:=λsn=>by unfold eb;rw[UL hd];rfl
  rw[Vv (λq=>by rw[W]at q;cases q.2.2),Vv (λq=>by rw[W]at q;cases q.2.2),Vv (λq=>q.2.2.2 hd),Vv (λq=>q.2.2.2 hd)];have nn:k≠ "names":=λe=>by rw[hd]at e;exact absurd e (by decide)
  induction q using VC with
  |dim ds=>rfl
  |no=>unfold tM;dsimp only;rw[c,c,Vv (λq=>nn q.2.1),Vv (λq=>nn q.2.1)];rfl
  |bad m=>unfold tM;dsimp only;rw[c,c,Vv (λq=>nn q.2.1),Vv (λq=>nn q.2.1)];rfl
 by_cases A:k= "names"
 ·have Y:∀sn,eb sn k=sn:=λsn=>by unfold eb;rw[UC hd,UL A];rfl
  have X:∀z:Vc,¬(z.items.length=t/\(z.att k).isSome=true/\k≠ "names"/\k≠ "dim"):=λz q=>q.2.2.1 A;rw[Vv (X x),Vv (X y),Y];have J:∀(b:Bool) (F:aP),b=true->(if(x.att k).isSome=true/\x.items.length=t/\b=true then x.att k else if(y.att k).isSome=true/\y.items.length=t/\b=true then y.att k else F k)=c9 t (c9 t F y) x k:=λb F U=>by
   rw[c,c];by_cases g:(x.att k).isSome=true/\x.items.length=t
   ·rw[Vw ⟨g.1,g.2,U⟩,Vw ⟨g.2,A,g.1⟩]
   ·refine(Vv (λq=>g ⟨q.1,q.2.1⟩)).trans (Eq.trans ?_ (Vv (λq=>g ⟨q.2.2,q.1⟩)).symm)
    by_cases o:(y.att k).isSome=true/\y.items.length=t
    ·rw[Vw ⟨o.1,o.2,U⟩,Vw ⟨o.2,A,o.1⟩]
    ·exact(Vv (λq=>o ⟨q.1,q.2.1⟩)).trans (Vv (λq=>o ⟨q.2.2,q.1⟩)).symm
  induction q using VC with
  |dim ds=>
   rw[Vv (λq=>nomatch (show false=true from q.2.2)),Vv (λq=>nomatch (show false=true from q.2.2))];rfl
  |no=>exact J _ _ rfl
  |bad m=>exact J _ _ rfl
 ·have tt:∀sn,eb sn k=true:=λsn=>by unfold eb;rw[UC hd,UC A];rfl
  have base:Dh q k=tM q t x y k:=by
   induction q using VC with
   |dim ds=>rfl
   |no=>unfold tM;dsimp only;rw[c,c,Vv (λq=>A q.2.1),Vv (λq=>A q.2.1)];rfl
   |bad m=>unfold tM;dsimp only;rw[c,c,Vv (λq=>A q.2.1),Vv (λq=>A q.2.1)];rfl
  by_cases g:(x.att k).isSome=true/\x.items.length=t
  ·rw[Vw ⟨g.1,g.2,tt _⟩,Vw ⟨g.2,g.1,A,hd⟩]
  ·refine(Vv (λq=>g ⟨q.1,q.2.1⟩)).trans (Eq.trans ?_ (Vv (λq=>g ⟨q.2.1,q.1⟩)).symm)
   by_cases o:(y.att k).isSome=true/\y.items.length=t
   ·rw[Vw ⟨o.1,o.2,tt _⟩,Vw ⟨o.2,o.1,A,hd⟩]
   ·exact(Vv (λq=>o ⟨q.1,q.2.1⟩)).trans (base.trans (Vv (λq=>o ⟨q.2.1,q.1⟩)).symm)
noncomputable def cD(e:Expr):Expr:=by
 have d:=e;induction e using Expr.casesOn with
 |Lambda _ b=>exact b
 |_=>exact d
noncomputable def aR(e:Expr):Scope:=by
 induction e using Expr.casesOn with
 |Lambda _ _ sc=>exact sc
 |_=>exact default
noncomputable def xk(e:Expr):Bool:=by
 induction e using Expr.casesOn with
 |Lambda=>exact true
 |_=>exact false
abbrev fx:Expr:=aX (bG (aG "law" [9])) [0]
abbrev gf:Expr:=aX (bG (aG "law" [23,0,0,0,0])) [0,0]
abbrev gh:Expr:=aX (bG (aG "law" [24])) [0,0]
noncomputable def kB(r:R V):R V:=match r with
 |.ok v h'=>.ok v h'
 |.exc m h'=>.ok m h'
 |.bad=>.bad
def Fe(C:Tb)(n:Nat):M V:=B0 (Ic C 22) (.ref n)
noncomputable abbrev Iw (m:M V) (l:Loc):M (Fl×Loc):=xH m l
theorem NW(C:Tb)(n b:Nat)(h:List O):Bd C "_law_kept" [.ref n] b h=mq (Iw (Fe C n) [("ask",.ref n)]) (λp=>cm C 24 (aw "_law_kept" (aq "_law_kept") b) [] cb p.1 p.2) h:=by kernel_rfl
theorem zl {e:Expr}{c:List (Str×Nat)}(q:h[n]?=some (.clo (cD e) (aR e) c))(o:jC (aR e)=true):
  T ai wf 24 (j+1) "_law_kept" [.ref n] h=kB ((kK ai wf (T ai wf 24 j) 22).ev ⟨Str.empty,aR e,c⟩ [] (cD e) mr h):=by
 rw[aK (by kernel_rfl) (by kernel_rfl),NW];have g:Fe (Tj wf j) n h=(kK ai wf (T ai wf 24 j) 22).ev ⟨Str.empty,aR e,c⟩ [] (cD e) mr h:=by
  show(clo h[n]?).elim _ _=_
  rw[q]
  show(if jC (aR e)=true then _ else _)=_
  rw[Vw o,(nP ai wf (T ai wf 24 j) 22).ev,mB]
 unfold mq Iw xH;rw[g];generalize (kK ai wf (T ai wf 24 j) 22).ev ⟨Str.empty,aR e,c⟩ [] (cD e) mr h=r;cases r<;>rfl
theorem zn(e:Expr)(c:Cx)(g:xk e=true)(h0:h[0]?=some .tab):w9 e c h=.ok (.ref h.length) (h++ [.clo (cD e) (aR e) (cq c (aR e))]):=by
 induction e using Vy with
 |Lambda=>
  show(bif BZ h[0]? then _ else _)=_
  rw[h0];rfl
 |_=>exact ff g
theorem Kn(wf:Nat)(C:Str->List V->M V)(b:Nat)(h:List O):(kK ai wf C 22).ev ⟨Str.empty,aR fx,cq (aw "law" (aq "law") b) (aR fx)⟩ [] (cD fx) mr h=(mq (aZ (b+3)) λop=>mq (aZ (b+5)) λu=>mq (aZ (b+6)) λv=>mq (aZ (b+2)) λn=>mq (C "arith" [op,u,v,n]) mr) h:=by kernel_rfl
theorem Ko(wf:Nat)(C:Str->List V->M V)(b:Nat)(h:List O):(kK ai wf C 22).ev ⟨Str.empty,aR gf,cq (aw "law" (aq "law") b) (aR gf)⟩ [] (cD gf) mr h=(mq (aZ (b+4)) λs=>mq (aC (.list [])) λl=>mq (C "negate" [s,l]) mr) h:=by kernel_rfl
theorem Kq(wf:Nat)(C:Str->List V->M V)(b:Nat)(h:List O):(kK ai wf C 22).ev ⟨Str.empty,aR gh,cq (aw "law" (aq "law") b) (aR gh)⟩ [] (cD gh) mr h=(mq (aC (.list [.str "1"])) λl=>mq (C "Vector" [.str "character",l]) λv=>mq (aC (.list [])) λc=>mq (C "negate" [v,c]) mr) h:=by kernel_rfl
theorem Kr:jC (aR fx)=true:=by kernel_rfl
theorem Kt:jC (aR gf)=true:=by kernel_rfl
theorem Ku:jC (aR gh)=true:=by kernel_rfl
theorem Kv:xk fx=true:=by kernel_rfl
theorem Kw:xk gf=true:=by kernel_rfl
theorem Kx:xk gh=true:=by kernel_rfl
structure LL where
 sc:V
 kind:V
 held:V
 told:V
 left:V
 right:V
 due:V
 refused:V
 shape:V
 total:V
 items:V
noncomputable def LL.l12(x:LL)(over:V):Loc:= [("script",x.sc),("kind",x.kind),("held",x.held),("told",x.told),("left",x.left),("right",x.right),("due",x.due),("refused",x.refused),("shape",x.shape),("total",x.total),("items",x.items),("over",over)]
noncomputable def LL.l15(x:LL)(over s a b:V):Loc:= [("script",x.sc),("kind",x.kind),("held",x.held),("told",x.told),("left",x.left),("right",x.right),("due",x.due),("refused",x.refused),("shape",x.shape),("total",x.total),("items",x.items),("over",over),("spot",s),("a",a),("b",b)]
theorem Ix(C:Tb)(b:Nat)(w:V)(x:LL)(over:V)(k:Fl->Loc->M (Fl×Loc))(h:List O):aJ C 23 "law" b [19] w (x.l12 over) k h=gU C b w x.sc x.kind x.held x.told x.left x.right x.due x.refused x.shape x.total x.items over k h:=GY C b w _ _ _ _ _ _ _ _ _ _ _ _ k h
theorem Iy(C:Tb)(b:Nat)(w:V)(x:LL)(over s p q:V)(k:Fl->Loc->M (Fl×Loc))(h:List O):aJ C 23 "law" b [19] w (x.l15 over s p q) k h=gU C b w x.sc x.kind x.held x.told x.left x.right x.due x.refused x.shape x.total x.items over k h:=GZ C b w _ _ _ _ _ _ _ _ _ _ _ _ _ _ _ k h
theorem Bz {β q:Type}{Lf Rt:Nat}{f:q->V}{l r:List q}{d:q}{x:LL}{k:Fl->Loc->M β}(c:x.left=.ref Lf)(g:x.right=.ref Rt)(z:h[Lf]?=some (.list (l.map f)))(G:h[Rt]?=some (.list (r.map f)))(l0:0<l.length)(A:0<r.length)(F:l.length<=9)(y:r.length<=9):
  gU C b (.int i) x.sc x.kind x.held x.told x.left x.right x.due x.refused x.shape x.total x.items over k h=yM C b x.kind x.items over (f (l.getD (i%l.length) d)) (f (r.getD (i%r.length) d)) (λo=>k .next (x.l15 o (.int i) (f (l.getD (i%l.length) d)) (f (r.getD (i%r.length) d)))) h:=by
 have J:builtin "len" [x.left] h=.ok (.int l.length) h:=by rw[c,eX z (by simp;exact Au F),Uw]
 have L:builtin "len" [x.right] h=.ok (.int r.length) h:=by rw[g,eX G (by simp;exact Au y),Uw]
 have S:ak x.left (.int (i%l.length:Nat)) h=.ok (f (l.getD (i%l.length) d)) h:=by rw[c];exact jP z l0 (o2 F)
 have U:ak x.right (.int (i%r.length:Nat)) h=.ok (f (r.getD (i%r.length) d)) h:=by rw[g];exact jP G A (o2 y)
 exact aM J<|aO (jO l0)<|aM S<|aM L<|aO (jO A)<|aM U rfl
theorem Ky {β:Type}{It:Nat}{o:Op}{a c v:Option Int}{ov:Bool}{j:V->M β}(g:h[b+3]?=some (.cell (some (.str o.s))))(q:h[It]?=some (.list (acc++ [vi v])))(x:acc.length<=9):
  yK b (.str "integer") (.ref It) (.bool ov) (vi a) (vi c) j h=j (.bool (ov||(v.isNone&&o.three&&a.isSome&&c.isSome))) h:=by
 refine aO (aT ..) ?_;induction ov using VA with
 |true=>rfl
 |false=>
  refine km<|aO (aY ..)<|aO (aT ..)<|qP rfl<|aM (aE g)<|aO (ze o)<|aO (aT ..) ?_;induction o.three using VA with
  |false=>rw[UF];rfl
  |true=>
   refine vR<|aM (vT (v:=vi v) q (by simp) (by simp;exact T1 (Uo x) (by decide)))<|aO (Iv ..)<|aO (aT ..) ?_;induction v.isNone using VA with
   |false=>rfl
   |true=>
    refine vR<|aO (og ..)<|aO (aT ..) ?_;induction a.isSome using VA with
    |false=>rfl
    |true=>exact vR (aO (og ..) rfl)
theorem zo {wf j b Lf Rt It i:Nat}{o:Op}{l r:List (Option Int)}{ov:Bool}{x:LL}(Z:x.kind=.str "integer")(G:x.left=.ref Lf)(J:x.right=.ref Rt)(F:x.items=.ref It)
  (c:h[b+3]?=some (.cell (some (.str o.s))))(Y:h[Lf]?=some (.list (l.map vi)))(hR:h[Rt]?=some (.list (r.map vi)))(A:h[It]?=some (.list acc))(L:acc.length<=9)
  (l0:0<l.length)(S:0<r.length)(hl:l.length<=9)(U:r.length<=9)(gl:∀q∈l,fF q)(gr:∀q∈r,fF q)(ho:o.whole=true):
  ∃p q h',gU (Tj wf (j+1)) b (.int i) x.sc x.kind x.held x.told x.left x.right x.due x.refused x.shape x.total x.items (.bool ov) (λfl l=>mr (fl,l)) h=.ok (.next,x.l15 (.bool (ov||zc o l r i)) (.int i) p q) h'/\Keep (λm=>m≠It) h h'/\h'[It]?=some (.list (acc++ [vi (df o l r i)])):=by
 rw[Bz (d:=none) (f:=vi) G J Y hR l0 S hl U,Z,F];refine am (wU (wf:=wf) (j:=j) (h:=h) ho (gl _ (ey (d:=none) (Vk i l0))) (gr _ (ey (d:=none) (Vk i S)))) λt W=>?_;have g:Gr h (h++t):=Keep.app t;have y:=g.get _ _ trivial A;have z:=bg (o:=.list (acc++ [vi (df o l r i)])) y;have X:It≠b+3:=λe=>by rw[e,c]at A;cases A
 have k2:Keep (λm=>m≠It) (h++t) ((h++t).set It (.list (acc++ [vi (df o l r i)]))):=Keep.set λq=>q rfl;exact bJ _ _ _ ⟨aM (cP A (by decide))<|Ij rfl rfl<|aM (aE c)<|aM W<|aM (dj y (T1 L (by decide)))<|Ky (k2.get _ _ (Vu X) (g.get _ _ trivial c)) z L,(Gr.keep g).trans k2,z⟩
theorem zp {wf j b Lf Rt It i:Nat}{o:Op}{l r:List Q}{x:LL}(Y:x.kind=.str "double")(A:x.left=.ref Lf)(F:x.right=.ref Rt)(y:x.items=.ref It)
  (z:h[b+3]?=some (.cell (some (.str o.s))))(X:h[Lf]?=some (.list (l.map vq)))(hR:h[Rt]?=some (.list (r.map vq)))(J:h[It]?=some (.list acc))(W:acc.length<=9)
  (l0:0<l.length)(G:0<r.length)(hl:l.length<=9)(L:r.length<=9)(Z:∀q∈l,c7 q)(gr:∀q∈r,c7 q)(S:∀q∈r,Pw o q)(hw:2000<wf):
  ∃p q h',gU (Tj wf (j+4)) b (.int i) x.sc x.kind x.held x.told x.left x.right x.due x.refused x.shape x.total x.items (.bool false) (λfl l=>mr (fl,l)) h=.ok (.next,x.l15 (.bool false) (.int i) p q) h'/\Keep (λm=>m≠It) h h'/\h'[It]?=some (.list (acc++ [vq (tK o l r i)])):=by
 rw[Bz (d:=none) (f:=vq) A F X hR l0 G hl L,Y,y];refine am (wW (j:=j) (h:=h) (o:=o) (Z _ (ey (d:=none) (Vk i l0))) (gr _ (ey (d:=none) (Vk i G))) (S _ (ey (d:=none) (Vk i G))) hw) λt U=>?_;have g:Gr h (h++t):=Keep.app t;have c:=g.get _ _ trivial J;exact bJ _ _ _ ⟨aM (cP J (by decide))<|Ik rfl (by decide)<|aM (aE z)<|aM U<|aM (dj c (T1 W (by decide)))<|aO (aT ..)<|km<|aO (aY ..)<|aO (aT ..)<|qQ (by decide) rfl,(Gr.keep g).trans (Keep.set λq=>q rfl),bg c⟩
theorem vm {wf j b Lf Rt It:Nat}{o:Op}{x y:Vc}{items:List V}{over:Bool}{X:LL}(A:Ans o x y (aL x.items.length y.items.length) k items over)(hx:x.items.length<=9)(hy:y.items.length<=9)
  (hp:∀r,DI y r-> ∀q∈r,Pw o q)(hk:X.kind=.str k)(hl':X.left=.ref Lf)(hr':X.right=.ref Rt)(hi':X.items=.ref It)
  (L:h[b+3]?=some (.cell (some (.str o.s))))(hL:h[Lf]?=some (.list (b7 k x)))(hR:h[Rt]?=some (.list (b7 k y)))(hI:h[It]?=some (.list []))(nL:Lf≠It)(nR:Rt≠It)(hw:2000<wf):
  ∃lc h',bF (Tj wf (j+4)) 23 "law" b [19] (.range (aL x.items.length y.items.length)) (X.l12 (.bool false)) h=.ok (.next,lc) h'/\(lc=X.l12 (.bool over)\/ ∃s p q,lc=X.l15 (.bool over) s p q)/\Keep (λm=>m≠It) h h'/\h'[It]?=some (.list items):=by
 refine bO (bF (Tj wf (j+4)) 23 "law" b [19] (.range (aL x.items.length y.items.length)) (X.l12 (.bool false)) h) λgQ gR=>?_;have ht:=mV hx hy;have g:=@zg x.items.length y.items.length;have n3:b+3≠It:=λe=>by rw[<-e,L]at hI;cases hI
 generalize aL x.items.length y.items.length=t at*;refine aB λgP gH=>?_;by_cases hD:lP o x y
 ·refine bW (A.dbl hD) λl r dl dr S W F=>?_;subst S;subst W;subst F
  rw[dl.eq]at hL;rw[dr.eq]at hR;obtain⟨lc,h',e,i1,i2,i3⟩:=bX (body:=λv l=>aJ (Tj wf (j+4)) 23 "law" b [19] v l λfl l=>mr (fl,l)) (it:=.range t) (rng t)
   (λi lc h'=>(lc=X.l12 (.bool false)\/ ∃s p q,lc=X.l15 (.bool false) s p q)/\Keep (λm=>m≠It) h h'/\h'[It]?=some (.list ((List.range i).map λi=>vq (tK o l r i))))
   (λi lc h' Z=>cK t i h')
   (λi v lc h' hv c=>by
    refine af (gV hv) λhi U=>?_;subst U;refine cQ (c) λG K J=>af (g (HR hi)) λl0 r0=>?_;rw[<-dl.len]at l0;rw[<-dr.len]at r0;refine bw (zp (j:=j) (b:=b) (i:=i) hk hl' hr' hi' (K.get _ _ n3 L) (K.get _ _ nL hL) (K.get _ _ nR hR) J (by simp;exact Lm ht hi) l0 r0 (by rw[dl.len];exact hx) (by rw[dr.len];exact hy) dl.good dr.good (hp r dr) hw) λp q h2 Y K2 I2=>bJ .next _ h2 ⟨?_,.inl rfl,.inr ⟨.int i,p,q,rfl⟩,K.trans K2,by rw[I2,UA,Ux];rfl⟩;rcases G with rfl|⟨s,p',q',rfl⟩
    ·exact(Ix _ _ _ _ _ _ _).trans Y
    ·exact(Iy _ _ _ _ _ _ _ _ _ _).trans Y)
   wf 0 (X.l12 (.bool false)) h o1 (by simp;exact L9 hw ht) ⟨.inl rfl,Keep.refl,hI⟩
  rw[iX]at i3;refine gH<|gR _<|aV lc h' ⟨(cC (by kernel_rfl)).trans e,i1,i2,i3⟩
 ·refine bW (A.int hD) λl r il ir S W F=>?_;subst S;subst W;subst F
  have ei:∀z:Vc,b7 "integer" z=z.items:=λz=>Vv (λq=>absurd q.1 (by decide));rw[ei,il.eq]at hL;rw[ei,ir.eq]at hR;have ho:o.whole=true:=by
   induction hq:o.whole using VA with
   |true=>rfl
   |false=>exact absurd (.inr (.inr hq)) hD
  obtain⟨lc,h',e,i1,i2,i3⟩:=bX (body:=λv l=>aJ (Tj wf (j+4)) 23 "law" b [19] v l λfl l=>mr (fl,l)) (it:=.range t) (rng t)
   (λi lc h'=>(lc=X.l12 (.bool (lM o l r i))\/ ∃s p q,lc=X.l15 (.bool (lM o l r i)) s p q)/\Keep (λm=>m≠It) h h'/\h'[It]?=some (.list ((List.range i).map λi=>vi (df o l r i))))
   (λi lc h' Z=>cK t i h')
   (λi v lc h' hv c=>by
    refine af (gV hv) λhi U=>?_;subst U;refine cQ (c) λG K J=>af (g (HR hi)) λl0 r0=>?_;rw[<-il.len]at l0;rw[<-ir.len]at r0;refine bw (zo (wf:=wf) (j:=j+3) (b:=b) (i:=i) (ov:=lM o l r i) hk hl' hr' hi' (K.get _ _ n3 L) (K.get _ _ nL hL) (K.get _ _ nR hR) J (by simp;exact Lm ht hi) l0 r0 (by rw[il.len];exact hx) (by rw[ir.len];exact hy) il.sm ir.sm ho) λp q h2 Y K2 I2=>?_;rw[<-zd]at Y;refine bJ .next _ h2 ⟨?_,.inl rfl,.inr ⟨.int i,p,q,rfl⟩,K.trans K2,by rw[I2,UA,Ux];rfl⟩;rcases G with rfl|⟨s,p',q',rfl⟩
    ·exact(Ix _ _ _ _ _ _ _).trans Y
    ·exact(Iy _ _ _ _ _ _ _ _ _ _).trans Y)
   wf 0 (X.l12 (.bool false)) h o1 (by simp;exact L9 hw ht) ⟨.inl rfl,Keep.refl,hI⟩
  rw[iX]at i1 i3;refine gH<|gR _<|aV lc h' ⟨(cC (by kernel_rfl)).trans e,i1,i2,i3⟩
def rP {β:Type}(C:Tb)(b:Nat)(bad2:V->V->V->M β)(next2:V->V->V->M β)(x5:V):M β:=mq (fL (b+1) x5) λZ=>mq (aZ (b+4)) λF=>mq (aC (.list [])) λr7=>mq (C.f "negate" [F,r7]) λG=>mq (aZ (b+4)) λJ=>mq (aC (.list [])) λr10=>mq (C.f "plus" [J,r10]) λc=>mq (aZ (b+4)) λx=>mq (aN x "items") λr13=>mq (bY r13) λS=>mq (cF C.wf (Ic C 22) (aw "law" (aq "law") b) (aX (bG (aG "law" [23,0,4])) []) S) λL=>mq (aC (.list L)) λg=>mq (aN G "kind") λr27=>mq (aN c "kind") λr28=>mq (aN G "items") λr29=>mq (aN c "items") λU=>mq (aC (.list [r27,r28,r29,U])) λr31=>mq (aZ (b+1)) λA=>mq (aZ (b+1)) λy=>mq (aZ (b+4)) λo=>mq (aN o "items") λr35=>mq (builtin "list" [r35]) λr36=>mq (aC (.list [A,y,g,r36])) λr37=>mq (cmp .NotEq r31 r37) λX=>bif X then(bad2 G c g)else
 (mq (C.f "_law_seen" [G]) λY=>mq (aZ (b+4)) λz=>mq (C.f "_law_seen" [z]) λr25=>mq (cmp .NotEq Y r25) λr26=>bif r26 then(bad2 G c g)else(mq (C.f "_law_seen" [c]) λr19=>mq (aZ (b+4)) λq=>mq (C.f "_law_seen" [q]) λW=>mq (cmp .NotEq r19 W) λr22=>bif r22 then(bad2 G c g)else(next2 G c g)))
def tO {β:Type}(C:Tb)(b:Nat)(w:V)(bad1 cont1:M β)(bad2 next2:V->V->V->M β):M β:=mq (fL (b+4) w) λZ=>mq (aZ (b+4)) λc=>mq (aN c "kind") λq=>mq (cmp .Eq q (.str "NULL")) λy=>bif y then(mq (w9 gf (aw "law" (aq "law") b)) λo=>mq (C.f "_law_kept" [o]) λF=>mq (cmp .NotEq F (.str "invalid argument to unary operator")) λA=>bif A then bad1 else cont1)else
 (mq (aZ (b+4)) λg=>mq (aN g "kind") λz=>mq (cmp .Eq z (.str "double")) λx=>bif x then(rP C b bad2 next2 (.str "double"))else(rP C b bad2 next2 (.str "integer")))
noncomputable def LL.y12(x:LL)(over a b c:V):Loc:= [("script",x.sc),("kind",x.kind),("held",x.held),("told",x.told),("left",x.left),("right",x.right),("due",x.due),("refused",x.refused),("shape",x.shape),("total",x.total),("items",x.items),("over",over),("low",a),("high",b),("minus",c)]
noncomputable def LL.y15(x:LL)(over s p q a b c:V):Loc:= [("script",x.sc),("kind",x.kind),("held",x.held),("told",x.told),("left",x.left),("right",x.right),("due",x.due),("refused",x.refused),("shape",x.shape),("total",x.total),("items",x.items),("over",over),("spot",s),("a",p),("b",q),("low",a),("high",b),("minus",c)]
theorem O5 {β:Type}(C:Tb)(b:Nat)(w:V)(x:LL)(over:V)(k:Fl->Loc->M β)(h:List O):aJ C 23 "law" b [23] w (x.l12 over) k h=tO C b w (k (.ret (.bool false)) (x.l12 over)) (k .cont (x.l12 over)) (λa b c=>k (.ret (.bool false)) (x.y12 over a b c)) (λa b c=>k .next (x.y12 over a b c)) h:=by kernel_rfl
theorem O6 {β:Type}(C:Tb)(b:Nat)(w:V)(x:LL)(over g q o:V)(k:Fl->Loc->M β)(h:List O):aJ C 23 "law" b [23] w (x.y12 over g q o) k h=tO C b w (k (.ret (.bool false)) (x.y12 over g q o)) (k .cont (x.y12 over g q o)) (λa b c=>k (.ret (.bool false)) (x.y12 over a b c)) (λa b c=>k .next (x.y12 over a b c)) h:=by kernel_rfl
theorem O7 {β:Type}(C:Tb)(b:Nat)(w:V)(x:LL)(over s p q:V)(k:Fl->Loc->M β)(h:List O):aJ C 23 "law" b [23] w (x.l15 over s p q) k h=tO C b w (k (.ret (.bool false)) (x.l15 over s p q)) (k .cont (x.l15 over s p q)) (λa b c=>k (.ret (.bool false)) (x.y15 over s p q a b c)) (λa b c=>k .next (x.y15 over s p q a b c)) h:=by kernel_rfl
theorem O8 {β:Type}(C:Tb)(b:Nat)(w:V)(x:LL)(over s p q g y o:V)(k:Fl->Loc->M β)(h:List O):aJ C 23 "law" b [23] w (x.y15 over s p q g y o) k h=tO C b w (k (.ret (.bool false)) (x.y15 over s p q g y o)) (k .cont (x.y15 over s p q g y o)) (λa b c=>k (.ret (.bool false)) (x.y15 over s p q a b c)) (λa b c=>k .next (x.y15 over s p q a b c)) h:=by kernel_rfl
theorem Iz(q:Q):Dv (vq q):=by rcases q with _|⟨a,b⟩<;>first|exact .none|exact .pair a b
theorem Di(o:Option Int):Dv (vi o):=by cases o<;>first|exact .none|exact .int _
theorem Kd.dv(h:Kd k l):∀v∈l,Dv v:=by
 cases h with
 |null=>intro v c;cases c
 |logical l _=>intro v c;obtain⟨o,_,rfl⟩:=U3.mp c;exact Di o
 |integer l _=>intro v c;obtain⟨o,_,rfl⟩:=U3.mp c;exact Di o
 |double l _=>intro v c;obtain⟨o,_,rfl⟩:=U3.mp c;exact Iz o
 |character l=>intro v c;obtain⟨o,_,rfl⟩:=U3.mp c;exact .str o
theorem Kz(h:Dv v):Dv (kA v):=by cases h<;>first|exact .none|exact .int _|exact .str _|exact .pair _ _
theorem jK {x y:V}{q:Bool}(g:f x y=some p)(c:gC f xs ys=some q):gC f (x::xs) (y::ys)=some (p&&q):=jn g c
noncomputable def cp(z:Vc):Str:=if z.kind= "double" then "double" else "integer"
theorem Dj {z:Vc}(y:Wf z)(G:dE z.kind)(g:h[b+1]?=some (.cell (some (.str (cp z)))))(x:w∈z.items):
  bS C 22 (aw "law" (aq "law") b) (aX (bG (aG "law" [23,0,4])) []) w mr h=.ok (some (kA w)) h:=by
 rw[JY];unfold Bp;unfold cp at g;by_cases hd:z.kind= "double"
 ·rw[Vw hd]at g
  have kd:=y.kd;rw[hd]at kd;generalize F:z.items=its at kd x;cases kd with
  |double l hg=>
   refine aa (U3.mp x) λq Z o=>?_;subst o;rcases q with _|⟨a,c⟩
   ·rfl
   ·show mq (cmp .Is (.tup [.int a,.int c]) .none) _ h=_
    refine aO (jf ..)<|km ?_;dsimp only;refine aM ((aE g))<|aO (aY ..)<|oA (UL rfl) ?_;rw[show vq (some (a,c))=.tup [.int a,.int c] from rfl];refine aO (bz ..)<|aO (show nz (.int a)=mr (.int (-a)) from rfl) ?_;rw[bL];rfl
 ·rw[Vv hd]at g
  refine am (y.ii G hd) λl A=>?_;rcases A.plain w x with rfl|⟨i,rfl⟩
  ·rfl
  ·refine aO (qT ..)<|km ?_
   dsimp only;refine aM ((aE g))<|aO (aY ..)<|mM (UC (by decide)) ?_;rfl
structure SideOk (lo B:Nat) (h:List O) (w:V) (z:Vc):Prop where
 isv:IsV (λm=>lo<=m/\m<B) h w z
 wf:Wf z
 num:dE z.kind
noncomputable def Dl(b:Nat)(h:List O):Prop:=(∃c,h[b+1]?=some (.cell c))/\ ∃c,h[b+4]?=some (.cell c)
def bf {β:Type}(m cont1:M β)(next2:V->V->V->M β)(b:Nat)(h:List O):Prop:=
 (∃h',m h=cont1 h'/\Keep (λn=>n≠b+1/\n≠b+4) h h'/\Dl b h')\/ ∃r s t h',m h=next2 r s t h'/\Keep (λn=>n≠b+1/\n≠b+4) h h'/\Dl b h'
theorem bf.pre {β:Type}{m m' cont1:M β}{next2:V->V->V->M β}(e:m h=m' h')(k:Keep (λn=>n≠b+1/\n≠b+4) h h')(d:bf m' cont1 next2 b h'):bf m cont1 next2 b h:=by
 refine aB λq o=>?_;rcases d with⟨g,c,k2,cc⟩|⟨r,s,t,g,c,k2,cc⟩
 ·refine o<|.inl ⟨g,e.trans c,k.trans k2,cc⟩
 ·refine o<|.inr ⟨r,s,t,g,e.trans c,k.trans k2,cc⟩
theorem Al {β:Type}{lo:Nat}{z:Vc}{bad2 next2:V->V->V->M β}{cont1:M β}(s:SideOk lo B h w z)(hB:B<=h.length)(hlo:lo<=B)(hbl:b+6<lo)(hk:z.kind= "logical"\/z.kind= "integer"\/z.kind= "double")
  (F:∃c,h[b+1]?=some (.cell c))(h4:h[b+4]?=some (.cell (some w)))(hw:4200<wf):bf (rP (Tj wf (j+2)) b bad2 next2 (.str (cp z))) cont1 next2 b h:=by
 refine am (F) λc F=>?_;refine bf.pre (ac (fS F)) (Keep.set (by simp)) ?_;have c1:=bg (o:=.cell (some (.str (cp z)))) F;have c4:(h.set (b+1) (.cell (some (.str (cp z)))))[b+4]?=some (.cell (some w)):=by rw[Ty RF];exact h4
 have iw:IsV (λm=>lo<=m/\m<B) (h.set (b+1) (.cell (some (.str (cp z))))) w z:=s.isv.keep (Keep.set (λh=>absurd (tt hbl h.1) (Nat.not_le_of_lt (TN (by decide:1<7) _))));have hB':B<=(h.set (b+1) (.cell (some (.str (cp z))))).length:=by simpa using hB
 generalize h.set (b+1) (.cell (some (.str (cp z))))=F at*;have nn:z.kind≠ "NULL":=λe=>by rcases hk with q|q|q<;>(rw[e]at q;exact absurd q (by decide))
 refine bf.pre (ac (aE c4)) Keep.refl ?_;have g2:Gr F (F++ [O.list []]):=Keep.app _;refine bf.pre (ac (aH _ _)) g2.keep ?_;have iw2:=iw.keep (g2.keep (P:=λm=>lo<=m/\m<B));have cc1:=g2.get _ _ trivial c1;have cc4:=g2.get _ _ trivial c4;have hB2:B<=(F++ [O.list []]).length:=by have:=g2.len;exact o5 hB' this
 generalize F++ [O.list []]=h2 at*;refine aB λY x=>aW (Hl (j:=j) (n:=.ref F.length) iw2 s.wf hB2 hlo hk hw) λs5 h3 e3 g3 il3=>x<|bf.pre (ac e3) g3.keep<|bf.pre (ac (aE (g3.get _ _ trivial cc4))) Keep.refl ?_;have g4:Gr h3 (h3++ [O.list []]):=Keep.app _;refine bf.pre (ac (aH _ _)) g4.keep ?_;have W:Gr h2 (h3++ [O.list []]):=g3.trans g4;have il4:=il3.keep (g4.keep (P:=λm=>lo<=m));have iw4:=iw2.keep (W.keep (P:=λm=>lo<=m/\m<B));have c14:=W.get _ _ trivial cc1;have c44:=W.get _ _ trivial cc4;have hB4:B<=(h3++ [O.list []]).length:=by have:=W.len;exact o5 hB2 this
 generalize h3++ [O.list []]=h4' at*;refine aB λY x=>aW (NU (j:=j) (n:=.ref h3.length) iw4 s.wf hB4 hlo hk hw) λhigh J e5 g5 ih5=>x<|bf.pre (ac e5) g5.keep ?_;have il5:=il4.keep (g5.keep (P:=λm=>lo<=m));have iw5:=iw4.keep (g5.keep (P:=λm=>lo<=m/\m<B));have c15:=g5.get _ _ trivial c14;have c45:=g5.get _ _ trivial c44;refine bf.pre (ac (aE c45)) Keep.refl<|aB λY x=>aQ (iw5.items nn) λi5 Z xo li5=>x<|bf.pre (ac xo) Keep.refl<|bf.pre (ac (dh li5)) Keep.refl<|bf.pre (ac (ku (f:=kA) (by kernel_rfl) (by kernel_rfl) li5 (by have:=s.wf.len;show _<wf;exact Lw hw this) λv hv=>Dj s.wf s.num c15 hv)) Keep.refl ?_;have g6:Gr J (J++ [O.list (z.items.map kA)]):=Keep.app _;refine bf.pre (ac (aH _ _)) g6.keep ?_;have m6:=ay J (O.list (z.items.map kA));have U:=il5.keep (g6.keep (P:=λm=>lo<=m));have G:=ih5.keep (g6.keep (P:=λm=>lo<=m));have iw6:=iw5.keep (g6.keep (P:=λm=>lo<=m/\m<B));have c16:=g6.get _ _ trivial c15;have c46:=g6.get _ _ trivial c45;generalize J++ [O.list (z.items.map kA)]=h6 at*;have kn:(if z.kind= "double" then("double":Str)else "integer")≠ "NULL":=by split<;>decide
 refine aB λY x=>aQ (U.items kn) λil Z eil lil=>aQ (G.items kn) λih Z eih lih=>x<|bf.pre (ac U.kind) Keep.refl<|bf.pre (ac G.kind) Keep.refl<|bf.pre (ac eil) Keep.refl<|bf.pre (ac eih) Keep.refl ?_;have sk:(if z.kind= "double" then("double":Str)else "integer")=cp z:=rfl;rw[sk]at U G ⊢;have L:Gr h6 (h6++ [O.list [.str (cp z),.str (cp z),.ref il,.ref ih]]):=Keep.app _;refine bf.pre (ac (aH _ _)) L.keep ?_;have a7:=ay h6 (O.list [.str (cp z),.str (cp z),.ref il,.ref ih]);have il7:=U.keep (L.keep (P:=λm=>lo<=m));have ih7:=G.keep (L.keep (P:=λm=>lo<=m));have iw7:=iw6.keep (L.keep (P:=λm=>lo<=m/\m<B));have c17:=L.get _ _ trivial c16;have c47:=L.get _ _ trivial c46;have m7:=L.get _ _ trivial m6;have lil7:=L.get _ _ trivial lil;have lih7:=L.get _ _ trivial lih;generalize h6++ [O.list [.str (cp z),.str (cp z),.ref il,.ref ih]]=y at*;refine bf.pre (ac (aE c17)) Keep.refl<|bf.pre (ac (aE c17)) Keep.refl<|bf.pre (ac (aE c47)) Keep.refl<|aB λY x=>aQ (iw7.items nn) λi7 Z HJ li7=>x<|bf.pre (ac HJ) Keep.refl ?_;have g8:Gr y (y++ [O.list z.items]):=Keep.app _;refine bf.pre (ac (hU li7 (lz iw7.len))) g8.keep ?_;have m8:=ay y (O.list z.items);have g9:Gr (y++ [O.list z.items]) (y++ [O.list z.items]++ [O.list [.str (cp z),.str (cp z),.ref J.length,.ref y.length]]):=Keep.app _;refine bf.pre (ac (aH _ _)) g9.keep ?_;have a9:=ay (y++ [O.list z.items]) (O.list [.str (cp z),.str (cp z),.ref J.length,.ref y.length]);have g:Gr y (y++ [O.list z.items]++ [O.list [.str (cp z),.str (cp z),.ref J.length,.ref y.length]]):=g8.trans g9;have il9:=il7.keep (g.keep (P:=λm=>lo<=m));have ih9:=ih7.keep (g.keep (P:=λm=>lo<=m));have iw9:=iw7.keep (g.keep (P:=λm=>lo<=m/\m<B));have c49:=g.get _ _ trivial c47;have m9:=g.get _ _ trivial m7;have b9:=g9.get _ _ trivial m8;have lil9:=g.get _ _ trivial lil7;have lih9:=g.get _ _ trivial lih7;have a79:=g.get _ _ trivial a7;generalize y++ [O.list z.items]++ [O.list [.str (cp z),.str (cp z),.ref J.length,.ref y.length]]=h9 at*;have dv:=s.wf.kd.dv;have ene:cmp .NotEq (.ref h6.length) (.ref (y++ [O.list z.items]).length) h9=.ok false h9:=by
  refine gb (r:=true) ?_;rw[jH a79 a9];have vs:eM h9 (.str (cp z)) (.str (cp z))=some true:=v6 (.str _);have v1:eM h9 (.ref il) (.ref J.length)=some true:=lC lil9 m9 λv hv=>by
   refine aa (U3.mp hv) λv' hv' gz2=>?_;subst gz2;refine Kz (dv v' hv')
  have v2:eM h9 (.ref ih) (.ref y.length)=some true:=lC lih9 b9 dv;rw[jK vs (jK vs (lA v1 v2))];rfl
 refine bf.pre (ac ene) Keep.refl ?_;rw[Vm];refine aB λY x=>bw (dX (j:=j+1) il9 (o4 hw)) λd1 D1 h10 e10 s10 S=>x<|bf.pre (ac e10) S.keep<|bf.pre (ac (aE (S.get _ _ trivial c49))) Keep.refl<|aB λY x=>bw (dX (j:=j+1) (iw9.keep (S.keep (P:=λm=>lo<=m/\m<B))) (o4 hw)) λd2 D2 h11 e11 s11 g11=>x<|bf.pre (ac e11) g11.keep ?_;have da:=s.wf.a.data;refine bf.pre (ac (vf (s10.keep g11.keep) s11 da)) Keep.refl ?_;rw[Vm];have g911:Gr h9 h11:=S.trans g11;refine aB λY x=>bw (dX (j:=j+1) (ih9.keep (g911.keep (P:=λm=>lo<=m))) (o4 hw)) λd3 D3 h12 e12 s12 gj=>x<|bf.pre (ac e12) gj.keep ?_;have A:Gr h9 h12:=g911.trans gj;refine bf.pre (ac (aE (A.get _ _ trivial c49))) Keep.refl<|aB λY x=>bw (dX (j:=j+1) (iw9.keep (A.keep (P:=λm=>lo<=m/\m<B))) (o4 hw)) λd4 D4 h13 e13 s13 g13=>x<|bf.pre (ac e13) g13.keep<|bf.pre (ac (vf (s12.keep g13.keep) s13 da)) Keep.refl ?_;rw[Vm];have X:Gr y h13:=g.trans (A.trans g13);exact .inr ⟨s5,high,_,h13,rfl,Keep.refl,⟨_,X.get _ _ trivial c17⟩,⟨_,X.get _ _ trivial c47⟩⟩
theorem oh {β:Type}{lo:Nat}{z:Vc}{bad1 cont1:M β}{bad2 next2:V->V->V->M β}(s:SideOk lo B h w z)(hB:B<=h.length)(hlo:lo<=B)(y:b+6<lo)(h0:h[0]?=some .tab)
  (x:∃c,h[b+1]?=some (.cell c))(F:∃c,h[b+4]?=some (.cell c))(hw:4200<wf):bf (tO (Tj wf (j+3)) b w bad1 cont1 bad2 next2) cont1 next2 b h:=by
 refine am (F) λc4 F=>am (x) λc1 x=>?_;refine bf.pre (ac (fS F)) (Keep.set (by simp)) ?_;have t0:(h.set (b+4) (.cell (some w)))[0]?=some .tab:=by rw[Ty RY];exact h0
 have U:=bg (o:=.cell (some w)) F;have d1:(h.set (b+4) (.cell (some w)))[b+1]?=some (.cell c1):=by rw[Ty QA];exact x
 have S:IsV (λm=>lo<=m/\m<B) (h.set (b+4) (.cell (some w))) w z:=s.isv.keep (Keep.set (λh=>absurd (tt y h.1) (Nat.not_le_of_lt (TN (by decide:4<7) _))));have Y:B<=(h.set (b+4) (.cell (some w))).length:=by simpa using hB
 generalize h.set (b+4) (.cell (some w))=x at*;refine bf.pre (ac (aE U)) Keep.refl<|bf.pre (ac S.kind) Keep.refl ?_;rw[aY,ae];by_cases L:z.kind= "NULL"
 ·rw[UL L,Vr]
  have W:Gr x (x++ [.clo (cD gf) (aR gf) (cq (aw "law" (aq "law") b) (aR gf))]):=Keep.app _;refine bf.pre (ac (zn gf _ Kw t0)) W.keep ?_;have cl:=ay x (.clo (cD gf) (aR gf) (cq (aw "law" (aq "law") b) (aR gf)));have A:=W.get _ _ trivial U;have X:=S.keep (W.keep (P:=λm=>lo<=m/\m<B));generalize x++ [.clo (cD gf) (aR gf) (cq (aw "law" (aq "law") b) (aR gf))]=G at*;have Z:=zl (wf:=wf) (j:=j+2) cl Kt;rw[Ko]at Z;have J:Gr G (G++ [O.list []]):=Keep.app _;have ex:(mq (aZ (b+4)) λs=>mq (aC (.list [])) λl=>mq (T ai wf 24 (j+2) "negate" [s,l]) mr) G=.exc (.str "invalid argument to unary operator") (G++ [O.list []]):=by
   refine aM ((aE A))<|aM ((aH _ _))<|gY (zi (j:=j) (X.keep J.keep) λq=>?_);rcases q with q|q|q<;>(rw[L]at q;exact absurd q (by decide))
  rw[ex]at Z;refine bf.pre (ac Z) J.keep ?_;rw[iG,ae,UL rfl];exact .inl ⟨_,rfl,Keep.refl,⟨_,J.get _ _ trivial (W.get _ _ trivial d1)⟩,⟨_,J.get _ _ trivial A⟩⟩
 ·rw[UC L,Vm]
  refine bf.pre (ac (aE U)) Keep.refl<|bf.pre (ac S.kind) Keep.refl ?_;rw[aY,ae];have g:=Al (j:=j+1) (bad2:=bad2) (next2:=next2) (cont1:=cont1) ⟨S,s.wf,s.num⟩ Y hlo y (s.num.resolve_left L) ⟨_,d1⟩ U hw;unfold cp at g;by_cases hd:z.kind= "double"
  ·rw[Vw hd]at g
   rw[UL hd,Vr];exact g
  ·rw[Vv hd]at g
   rw[UC hd,Vm];exact g
def mc(X:LL)(over:V)(lc:Loc):Prop:=lc=X.l12 over\/(∃a b c,lc=X.y12 over a b c)\/(∃s p q,lc=X.l15 over s p q)\/ ∃s p q a b c,lc=X.y15 over s p q a b c
theorem Ho {wf j b lo B:Nat}{z:Vc}{X:LL}(s:SideOk lo B h w z)(L:B<=h.length)(x:lo<=B)(g:b+6<lo)(h0:h[0]?=some .tab)
  (J:∃c,h[b+1]?=some (.cell c))(G:∃c,h[b+4]?=some (.cell c))(S:4200<wf)(U:mc X over lc):
  ∃A l' h',aJ (Tj wf (j+3)) 23 "law" b [23] w lc (λA l=>mr (A,l)) h=.ok (A,l') h'/\(A=.next\/A=.cont)/\mc X over l'/\Keep (λn=>n≠b+1/\n≠b+4) h h'/\Dl b h':=by
 refine bO (aJ (Tj wf (j+3)) 23 "law" b [23] w lc (λA l=>mr (A,l)) h) λW y=>?_;rcases U with rfl|⟨a,F,c,rfl⟩|⟨o,p,q,rfl⟩|⟨o,p,q,a,F,c,rfl⟩
 ·rw[O5]
  rcases oh (j:=j) (bad1:=(mr (Fl.ret (.bool false),X.l12 over):M (Fl×Loc))) (cont1:=mr (Fl.cont,X.l12 over)) (bad2:=λa b c=>mr (Fl.ret (.bool false),X.y12 over a b c)) (next2:=λa b c=>mr (Fl.next,X.y12 over a b c)) s L x g h0 J G S with⟨h',e,k⟩|⟨r,t,u,h',e,k⟩
  ·refine y _<|bJ _ _ h' ⟨e,.inr rfl,.inl rfl,k⟩
  ·refine y _<|bJ _ _ h' ⟨e,.inl rfl,.inr (.inl ⟨_,_,_,rfl⟩),k⟩
 ·rw[O6]
  rcases oh (j:=j) (bad1:=(mr (Fl.ret (.bool false),X.y12 over a F c):M (Fl×Loc))) (cont1:=mr (Fl.cont,X.y12 over a F c)) (bad2:=λa b c=>mr (Fl.ret (.bool false),X.y12 over a b c)) (next2:=λa b c=>mr (Fl.next,X.y12 over a b c)) s L x g h0 J G S with⟨h',e,k⟩|⟨r,t,u,h',e,k⟩
  ·refine y _<|bJ _ _ h' ⟨e,.inr rfl,.inr (.inl ⟨_,_,_,rfl⟩),k⟩
  ·refine y _<|bJ _ _ h' ⟨e,.inl rfl,.inr (.inl ⟨_,_,_,rfl⟩),k⟩
 ·rw[O7]
  rcases oh (j:=j) (bad1:=(mr (Fl.ret (.bool false),X.l15 over o p q):M (Fl×Loc))) (cont1:=mr (Fl.cont,X.l15 over o p q)) (bad2:=λa b c=>mr (Fl.ret (.bool false),X.y15 over o p q a b c)) (next2:=λa b c=>mr (Fl.next,X.y15 over o p q a b c)) s L x g h0 J G S with⟨h',e,k⟩|⟨r,t,u,h',e,k⟩
  ·refine y _<|bJ _ _ h' ⟨e,.inr rfl,.inr (.inr (.inl ⟨_,_,_,rfl⟩)),k⟩
  ·refine y _<|bJ _ _ h' ⟨e,.inl rfl,.inr (.inr (.inr ⟨_,_,_,_,_,_,rfl⟩)),k⟩
 ·rw[O8]
  rcases oh (j:=j) (bad1:=(mr (Fl.ret (.bool false),X.y15 over o p q a F c):M (Fl×Loc))) (cont1:=mr (Fl.cont,X.y15 over o p q a F c)) (bad2:=λa b c=>mr (Fl.ret (.bool false),X.y15 over o p q a b c)) (next2:=λa b c=>mr (Fl.next,X.y15 over o p q a b c)) s L x g h0 J G S with⟨h',e,k⟩|⟨r,t,u,h',e,k⟩
  ·refine y _<|bJ _ _ h' ⟨e,.inr rfl,.inr (.inr (.inr ⟨_,_,_,_,_,_,rfl⟩)),k⟩
  ·refine y _<|bJ _ _ h' ⟨e,.inl rfl,.inr (.inr (.inr ⟨_,_,_,_,_,_,rfl⟩)),k⟩
theorem Dm {wf j b lo B G:Nat}{x y:Vc}{X:LL}(su:SideOk lo B h u x)(sv:SideOk lo B h v y)(F:h[G]?=some (.list [u,v]))(hB:B<=h.length)(hlo:lo<=B)(o:b+6<lo)(h0:h[0]?=some .tab)(hb:0<b)
  (L:∃c,h[b+1]?=some (.cell c))(J:∃c,h[b+4]?=some (.cell c))(hw:4200<wf)(A:mc X over lc):
  ∃g h',bF (Tj wf (j+3)) 23 "law" b [23] (.list G) lc h=.ok (.next,g) h'/\mc X over g/\Keep (λn=>n≠b+1/\n≠b+4) h h':=by
 refine aB λgP gH=>am (L) λc1 L=>am (J) λc4 J=>?_;have nL1:G≠b+1:=λe=>by rw[e,L]at F;cases F
 have nL4:G≠b+4:=λe=>by rw[e,J]at F;cases F
 obtain⟨g,h',e,i1,i2,_⟩:=bX (body:=λv l=>aJ (Tj wf (j+3)) 23 "law" b [23] v l λfl l=>mr (fl,l)) (it:=.list G) [u,v]
  (λi lc h'=>mc X over lc/\Keep (λn=>n≠b+1/\n≠b+4) h h'/\(∃c,h'[b+1]?=some (.cell c))/\ ∃c,h'[b+4]?=some (.cell c))
  (λi lc h' hI=>lm (hI.2.1.get _ _ ⟨nL1,nL4⟩ F))
  (λi w lc h' q hI=>by
   refine fD (hI) λA K S U=>?_
   have⟨z,sz⟩:∃z,SideOk lo B h w z:=by
    have hi:i<2:=by have:=(S6.mp q).1;simpa using this
    rcases(show i=0\/i=1 from DA hi)with rfl|rfl
    ·cases q;exact⟨x,su⟩
    ·cases q;exact⟨y,sv⟩
   have W:SideOk lo B h' w z:=⟨sz.isv.keep (K.mono λm Z p=>by exact⟨U9 (tt (tt (TL (by decide:2<=7) _) o) p.1),U9 (tt (tt (TL (by decide:5<=7) _) o) p.1)⟩),sz.wf,sz.num⟩;refine jc (Ho (j:=j) (b:=b) W (by have:=K.len;exact o5 hB this) hlo o (K.get _ _ L4 h0) S U hw A) λfl l' h2 e2 hf Y k2 cc=>?_;exact bJ fl l' h2 ⟨e2,hf,Y,K.trans k2,cc⟩)
  wf 0 lc h o1 (by simp;exact R2 hw) ⟨A,Keep.refl,⟨c1,L⟩,⟨c4,J⟩⟩
 refine gH<|aV g h' ⟨(cC (by kernel_rfl)).trans e,i1,i2⟩
def Dn(C:Tb)(b:Nat)(c g z J F G A p q t:V):M V:=mq (aC (.list [])) λy=>mq (bt t) λx=>mq (bF C 23 "law" b [19] x [("script",c),("kind",g),("held",z),("told",J),("left",F),("right",G),("due",A),("refused",p),("shape",q),("total",t),("items",y),("over",(.bool false))]) λo=>cm C 24 (aw "law" (aq "law") b) (aG "law" [20]) cb o.1 o.2
def xl(C:Tb)(b:Nat)(c o y q A F z:V)(g:V×V×V):M V:=iq .NotEq g.1 (.str "") (mq (cmp .Eq q g.1) λx=>mr (.bool x)) (Dn C b c o y q A F z g.1 g.2.1 g.2.2)
def O9(C:Tb)(b:Nat)(c g y J q x o:V):M V:=mq (aZ (b+5)) λA=>mq (aZ (b+6)) λF=>mq (builtin "len" [q]) λz=>mq (builtin "len" [x]) λG=>mq (C.f "_law_shape" [A,F,z,G,o]) λL=>mq (j7 L) (xl C b c g y J q x o)
def zq(C:Tb)(b:Nat)(g c o A:V):M V:=mq (aZ (b+5)) λz=>mq (C.f "_law_items" [z,c]) λx=>mq (aZ (b+6)) λF=>mq (C.f "_law_items" [F,c]) λy=>mq (aC (.list [])) λq=>O9 C b g c o A x y q
def IA(C:Tb)(b:Nat)(c g x o:V):M V:=mq (aZ (b+5)) λA=>mq (aN A "kind") λF=>mq (aZ (b+6)) λz=>mq (aN z "kind") λy=>iq .In (.str "character") (.tup [F,y]) (mq (cmp .Eq o (.str "non-numeric argument to binary operator")) λq=>mr (.bool q)) (zq C b c g x o)
def Hp(C:Tb)(b:Nat)(x c:V)(k:V->M V):M V:=mq (aZ (b+6)) λq=>mq (C.f "_law_items" [q,.str ""]) λo=>mq (aZ (b+6)) λg=>mq (C.f "_law_seen" [g]) λy=>mq (aC (.list [x,c,o,y])) k
def qj(C:Tb)(b:Nat)(k:V->M V):M V:=mq (aZ (b+5)) λg=>mq (C.f "_law_items" [g,.str ""]) λq=>mq (aZ (b+5)) λc=>mq (C.f "_law_seen" [c]) λo=>Hp C b q o k
def tP(C:Tb)(b:Nat)(c g o x:V):M V:=qj C b λq=>iq .NotEq o q (mr (.bool false)) (IA C b c g o x)
def IB(C:Tb)(b:Nat)(c g q:V):M V:=mq (aC (.list [])) λx=>mq (fL (b+2) x) λZ=>mq (w9 (aX (bG (aG "law" [9])) [0]) (aw "law" (aq "law") b)) λo=>mq (C.f "_law_kept" [o]) λy=>tP C b c g q y
def jp(C:Tb)(b:Nat)(c g:V):M V:=qj C b λo=>IB C b c g o
def kC(C:Tb)(b:Nat)(c:V):M V:=mq (aZ (b+5)) λo=>mq (aN o "kind") λq=>iq .Eq q (.str "double") (jp C b c (.str "double")) (mq (aZ (b+6)) λy=>mq (aN y "kind") λx=>iq .Eq x (.str "double") (jp C b c (.str "double")) (mq (aZ (b+3)) λg=>iq .In g (.tup [(.str "/"),(.str "^")]) (jp C b c (.str "double")) (jp C b c (.str "integer"))))
def Do(C:Tb)(b:Nat)(c:V):M V:=mq (aZ b) λo=>mq (aZ b) λg=>mq (C.f "_law_next" [g]) λF=>mq (ah .Mod F (.int 3)) λG=>mq (ah .Add (.int 1) G) λA=>mq (bt A) λx=>mq (cF C.wf (Ic C 19) (aw "law" (aq "law") b) (aX (bG (aG "law" [4,0,0])) [1,1]) x) λq=>mq (aC (.list q)) λJ=>mq (C.f "Vector" [(.str "double"),J]) λz=>mq (C.f "_law_dressed" [o,z]) λy=>mq (fL (b+6) y) λZ=>kC C b c
def Dp(C:Tb)(b:Nat)(c:V):M V:=mq (aZ (b+3)) λg=>iq .Eq g (.str "^") (Do C b c) (kC C b c)
def qk(C:Tb)(b k:Nat)(f:M V):M V:=mq (aZ b) λc=>mq (C.f "_law_vector" [c]) λg=>mq (fL (b+k) g) λZ=>f
def Pa(C:Tb)(b:Nat)(c:V):M V:=qk C b 5 (qk C b 6 (Dp C b c))
def Pb(C:Tb)(b:Nat)(c:V):M V:=mq (aC (.list [(.str "+"),(.str "-"),(.str "*"),(.str "/"),(.str "^"),(.str "%%"),(.str "%/%")])) λx=>mq (aZ b) λg=>mq (C.f "_law_next" [g]) λy=>mq (ah .Mod y (.int 7)) λq=>mq (ak x q) λo=>mq (fL (b+3) o) λZ=>Pa C b c
def IC(C:Tb)(b:Nat)(c:V):M V:=mq (C.f "_law_row" [c]) λg=>mq (fL b g) λZ=>Pb C b c
theorem Pc(C:Tb)(b:Nat)(c:V)(h:List O):Bd C "law" [c] b h=IC C b c h:=by kernel_rfl
structure LS (b lo:Nat) (o:Op) (u v:V) (x y:Vc) (h:List O):Prop where
 tab:h[0]?=some .tab
 c1:∃c,h[b+1]?=some (.cell c)
 c2:∃c,h[b+2]?=some (.cell c)
 c3:h[b+3]?=some (.cell (some (.str o.s)))
 c4:∃c,h[b+4]?=some (.cell c)
 c5:h[b+5]?=some (.cell (some u))
 c6:h[b+6]?=some (.cell (some v))
 iu:IsV (λm=>lo<=m) h u x
 iv:IsV (λm=>lo<=m) h v y
 wx:Wf x
 wy:Wf y
 pw:∀r,DI y r-> ∀q∈r,Pw o q
 bl:b+6<lo
 pos:0<b
theorem NX {p q:Q}(h:vq p=vq q):p=q:=by
 rcases p with _|⟨a,b⟩<;>rcases q with _|⟨c,d⟩
 ·rfl
 ·cases h
 ·cases h
 ·cases h;rfl
theorem tQ:∀ {l r:List Q},l.map vq=r.map vq->l=r
 | [],[],_=>rfl
 | [],_::_,h=>by cases h
 |_::_,[],h=>by cases h
 |a::l,b::r,h=>by
  rw[UQ,UQ]at h;injection h with h1 h2;rw[NX h1,tQ h2]
theorem KB {i:Int}(h0:0<=i)(c:i<7):∃o:Op,[V.str "+",.str "-",.str "*",.str "/",.str "^",.str "%%",.str "%/%"][i.toNat]?=some (.str o.s):=by
 rcases(show i=0\/i=1\/i=2\/i=3\/i=4\/i=5\/i=6 from QJ h0 c)with rfl|rfl|rfl|rfl|rfl|rfl|rfl
 ·exact⟨.add,rfl⟩
 ·exact⟨.sub,rfl⟩
 ·exact⟨.mul,rfl⟩
 ·exact⟨.div,rfl⟩
 ·exact⟨.pow,rfl⟩
 ·exact⟨.mod,rfl⟩
 ·exact⟨.idiv,rfl⟩
theorem Ff {wf j r b many:Nat}(o:c8 r h)(g:h[b]?=some (.cell (some (.ref r))))(G:many<=9)(hw:40<wf):
  ∃(l:List Q) (h':List O),cF wf (Ic (Tj wf (j+1)) 19) (aw "law" (aq "law") b) (aX (bG (aG "law" [4,0,0])) [1,1]) (.range many) h=.ok (l.map vq) h'/\c8 r h'/\Keep (λm=>m≠r) h h'/\(∀q∈l,c7 q/\ ∃k:Int,q=some (k,1)/\k.natAbs<=4)/\l.length=many:=by
 have nb:b≠r:=λe=>by obtain⟨l,el,_⟩:=o;rw[e,el]at g;cases g
 have ec:=fQ (C:=Tj wf (j+1)) (m:=19) (c:=aw "law" (aq "law") b) (e:=aX (bG (aG "law" [4,0,0])) [1,1]) (it:=.range many) (by kernel_rfl) (by kernel_rfl);refine aB λgP W=>?_;obtain⟨acc,h',e,X,i2,l,i3,L,U⟩:=fR (turn:=λv=>bS (Tj wf (j+1)) 19 (aw "law" (aq "law") b) (aX (bG (aG "law" [4,0,0])) [1,1]) v mr) (it:=.range many) (rng many)
  (λt acc h'=>c8 r h'/\Keep (λm=>m≠r) h h'/\ ∃l:List Q,acc=l.map vq/\(∀q∈l,c7 q/\ ∃k:Int,q=some (k,1)/\k.natAbs<=4)/\l.length=t)
  (λt acc h' Z=>cK many t h')
  (λt v acc h' A hI=>by
   obtain⟨S,K,l,rfl,J,a2⟩:=hI;show ∃q h'',bS (Tj wf (j+1)) 19 (aw "law" (aq "law") b) (aX (bG (aG "law" [4,0,0])) [1,1]) v mr h'=_/\_;rw[JX];unfold Bo;rw[ac (aE (K.get _ _ nb g))];refine bW (bh (wf:=wf) (j:=j) S) λk2 Y F Z Z r2 p2=>af (cM k2 (k:=9) (by decide)) λy z=>?_;rw[ac F,aD (by decide),ae,ch,ae];refine aV _ Y ⟨rfl,r2,K.trans p2,l++ [some (k2.fmod 9-4,1)],by simp[vq],λx hx=>?_,by simp[a2]⟩;rcases Uy.mp hx with q|q
   ·exact J x q
   ·rw[TW]at q;subst q
    refine⟨⟨⟨by show(0:Int)<=1;decide,.inr (Nat.gcd_one_right _)⟩, ?_, ?_⟩,_,rfl,by exact Qk y z⟩
    ·show(k2.fmod 9-4).natAbs<2^40;exact Rp y z
    ·show 1<2^40;decide)
  wf 0 [] h o1 (by simp;exact HU G hw) ⟨o,Keep.refl,[],rfl,(λv A=>by cases A),rfl⟩
 subst i3;refine W<|aV l h' ⟨(congrFun ec h).trans e,X,i2,L,by simpa using U⟩
theorem Hq(o:Op):(o=.pow/\cmp .Eq (.str o.s) (.str "^")=mr true)\/(o≠ .pow/\cmp .Eq (.str o.s) (.str "^")=mr false):=by
 cases o
 case pow=>exact .inl ⟨rfl,by kernel_rfl⟩
 all_goals exact .inr ⟨(λh=>by cases h),by kernel_rfl⟩
structure LR (b r:Nat) (h0 h:List O):Prop where
 pos:0<b
 lr:b+7<=r
 tab:h[0]?=some .tab
 row:c8 r h
 cell:h[b]?=some (.cell (some (.ref r)))
 cs:∀k,k<7-> ∃c,h[b+k]?=some (.cell c)
 keep:Keep (λm=>m<b) h0 h
theorem NY {c:Type}{P:c->Prop}{a b:c}(e:a=b)(q:P b):P a:=e▸q
theorem LR.ne {b r k:Nat}(s:LR b r h0 h)(c:k<7):b+k<r:=T2 (TN c b) s.lr
theorem LR.next(s:LR b r h0 h)(R:c8 r h')(K:Keep (λm=>m≠r) h h'):LR b r h0 h':=
 ⟨s.pos,s.lr,K.get _ _ (Va (Nat.zero_lt_of_lt (s.ne (k:=0) (by decide)))) s.tab,R,K.get _ _ (Va (s.ne (k:=0) (by decide))) s.cell,λk g=>(s.cs k g).elim λc e=>⟨c,K.get _ _ (Va (s.ne g)) e⟩,
  s.keep.trans (K.mono λm Z q=>Va (U8 q (s.ne (k:=0) (by decide))))⟩
theorem LR.write {b r k:Nat}(s:LR b r h0 h)(g:0<k)(x:k<7)(v:V):LR b r h0 (h.set (b+k) (.cell (some v)))/\Keep (λm=>m≠b+k) h (h.set (b+k) (.cell (some v))):=by
 have K:Keep (λm=>m≠b+k) h (h.set (b+k) (.cell (some v))):=Keep.set λq=>q rfl;refine⟨⟨s.pos,s.lr,K.get _ _ (Va (Um k s.pos)) s.tab,s.row.keep K (U9 (s.ne x)),K.get _ _ (Va (Nat.lt_add_of_pos_right g)) s.cell,λi o=>?_,s.keep.trans (K.mono λm Z q=>Va (Um k q))⟩,K⟩;refine am (s.cs i o) λc e=>?_;by_cases q:i=k
 ·subst q;exact⟨_,bg e⟩
 ·exact⟨c,K.get _ _ (λe=>q (TM e)) e⟩
theorem LR.rlt(s:LR b r h0 h):r<h.length:=by obtain⟨_,e,_⟩:=s.row;exact aA e
theorem BA {wf j b r k:Nat}(s:LR b r h0 h)(z:0<k)(g:k<7)(f:M V)(J:2000<wf):
  ∃v x h',qk (Tj wf (j+4)) b k f h=f h'/\LR b r h0 h'/\IsV (λm=>r<m) h' v x/\Wf x/\h'[b+k]?=some (.cell (some v))/\Keep (λm=>m≠r/\m≠b+k) h h':=by
 refine jc (y5 (j:=j) s.row J) λv x h' e G A F p=>?_;have y:=s.next F p;refine am (y.cs k g) λc o=>?_;have w:=y.write z g v;exact bJ v x _ ⟨aM (aE s.cell) (aM e (aM (fS o) rfl)),w.1,G.keep (w.2.mono λm Z q=>U9 (U8 (s.ne g) q)),A,bg o,(p.mono λm Z q=>q.1).trans (w.2.mono λm Z q=>q.2)⟩
theorem Fg {S:V}(s:LR b r h0 h)(hw:2000<wf):
  ∃v y h',Do (Tj wf (j+4)) b S h=kC (Tj wf (j+4)) b S h'/\LR b r h0 h'/\IsV (λm=>r<m) h' v y/\Wf y/\h'[b+6]?=some (.cell (some v))/\Keep (λm=>m≠r/\m≠b+6) h h'/\ ∀r',DI y r'-> ∀q∈r',Pw .pow q:=by
 refine bO (Do (Tj wf (j+4)) b S h) λJ mk=>az (aE s.cell)<|az (aE s.cell)<|bW (bh (j:=j+3) s.row) λz h10 e10 Z Z r10 W=>az e10<|bC (aD (by decide))<|bC (cZ ..)<|af (cM z (k:=3) (by decide)) λm0 m3=>bC (Ac (QG m0) (QH m3)) ?_;have s1:=s.next r10 W;refine bW (Ff (j:=j+3) (many:=(1+z.fmod 3).toNat) r10 s1.cell (QZ m3) (qD hw)) λl g e11 Y A hl X=>az e11<|az ((aH _ _))<|az gX ?_;have s2:=s1.next Y A;have gj:Gr g (g++ [O.list (l.map vq)]):=Keep.app _;have n12:=ay g (O.list (l.map vq));have g13:Gr (g++ [O.list (l.map vq)]) (g++ [O.list (l.map vq)]++ [bp (.str "double") (.ref g.length) .none]):=Keep.app _;have n13:=ay (g++ [O.list (l.map vq)]) (bp (.str "double") (.ref g.length) .none);have gg:=gj.trans g13;have x:=s2.rlt;have U:r<(g++ [O.list (l.map vq)]).length:=T2 x gj.len;have l9:(l.map vq).length<=9:=by rw[Uw];exact PU m3 X
 refine bW (oG (j:=j+1) (Y.gr gg) n13 (g13.get _ _ trivial n12) (by decide) l9 U x (qD hw)) λh14 F e14 iv14 aF r14 G=>az e14 ?_;have L:Keep (λm=>m≠r) g h14:=⟨λm o q e=>G.get _ _ ⟨q,Va (T2 (aA e) gj.len)⟩ (gg.get _ _ trivial e),U7 gg.len G.len⟩;have s3:=s2.next r14 L;refine am (s3.cs 6 (by decide)) λc ec=>?_;have w:=s3.write (k:=6) (by decide) (by decide) (.ref (g++ [O.list (l.map vq)]).length);refine az (fS ec) (mk _ ?_);refine bJ _ ⟨"double",l.map vq,F⟩ _ ⟨rfl,w.1,iv14.keep (w.2.mono λm Z q=>U9 (U8 (s.ne (k:=6) (by decide)) q)),⟨aF,l9,.double l λq hq=>(hl q hq).1⟩,bg ec,(((W.trans A).trans L).mono λm Z q=>q.1).trans (w.2.mono λm Z q=>q.2),λr' dr q hq=>?_⟩;have e:=dr.eq;unfold b7 at e;rw[Vv (λq=>q.2 rfl)]at e;have e':l=r':=tQ e;subst e';exact(hl q hq).2
theorem LR.ls {o:Op}{x y:Vc}(s:LR b r h0 h)(A:h[b+3]?=some (.cell (some (.str o.s))))(G:h[b+5]?=some (.cell (some u)))(g:h[b+6]?=some (.cell (some v)))(c:IsV (λm=>r<m) h u x)(z:IsV (λm=>r<m) h v y)(J:Wf x)(F:Wf y)(L:∀r,DI y r-> ∀q∈r,Pw o q):LS b (r+1) o u v x y h:=
 ⟨s.tab,s.cs 1 (by decide),s.cs 2 (by decide),A,s.cs 4 (by decide),G,g,c,z,J,F,L,Nat.lt_succ_of_lt (s.ne (k:=6) (by decide)),s.pos⟩
theorem Fh {S:Nat}(h0:h[0]?=some .tab)(hS:h[S]?=some (.flist l))(hl:qg l)(hll:l.length<=line*line)(F:0<h.length)(hw:2000<wf):
  ∃h' lo o u v x y,IC (Tj wf (j+4)) h.length (.ref S) (h++List.replicate 7 (.cell none))=kC (Tj wf (j+4)) h.length (.ref S) h'/\LS h.length lo o u v x y h'/\Keep (λm=>m<h.length) h h':=by
 refine @bO _ (λz=>∃h' lo o u v x y,z=kC (Tj wf (j+4)) h.length (.ref S) h'/\LS h.length lo o u v x y h'/\Keep (λm=>m<h.length) h h') _ λJ mk=>?_;have g0:Gr h (h++List.replicate 7 (.cell none)):=Keep.app _;have cs:∀k,k<7->(h++List.replicate 7 (O.cell none))[h.length+k]?=some (.cell none):=λk hk=>by
  rw[SW QR,List.getElem?_replicate,Vw (Q7 hk)]
 have G:(h++List.replicate 7 (O.cell none)).length=h.length+7:=by simp
 have t0:=g0.get _ _ trivial h0;have s0:=g0.get _ _ trivial hS;generalize h++List.replicate 7 (O.cell none)=ha at*;refine bM (EQ (j:=j+3) s0 hl hll (qD hw)) λr h1 e1 r1 hr g1=>az e1 ?_;generalize hb:h.length=b at*;have q0:=g1.get _ _ trivial (cs 0 (by decide));refine az (fS q0) ?_;have k1:Keep (λm=>m≠b) h1 (h1.set b (.cell (some (.ref r)))):=Keep.set λq=>q rfl;have s2:LR b r h (h1.set b (.cell (some (.ref r)))):=⟨F,G▸hr,k1.get _ _ (Va F) (g1.get _ _ trivial t0),r1.keep k1 (Rb G hr),bg q0,λk hk=>by
  by_cases q:k=0
  ·subst q;exact⟨_,bg q0⟩
  ·exact⟨_,k1.get _ _ (λe=>q (TM e)) (g1.get _ _ trivial (cs k hk))⟩,(Gr.keep (g0.trans g1)).trans (k1.mono λm Z q=>Va q)⟩
 generalize h1.set b (.cell (some (.ref r)))=h2 at s2 ⊢;refine az ((aH _ _)) ?_;have g3:Gr h2 (h2++ [O.list [.str "+",.str "-",.str "*",.str "/",.str "^",.str "%%",.str "%/%"]]):=Keep.app _;have l3:=ay h2 (O.list [.str "+",.str "-",.str "*",.str "/",.str "^",.str "%%",.str "%/%"]);have s3:=s2.next (s2.row.gr g3) g3.keep;refine az (aE s3.cell)<|bW (bh (j:=j+3) s3.row) λk4 h4 e4 Z Z r4 p4=>az e4<|bC (aD (by decide))<|af (cM k4 (k:=7) (by decide)) λn0 n7=>am (KB n0 n7) λo ho=>az (iY (p4.get _ _ (U9 s2.rlt) l3) n0 ho (QD n7)) ?_;have s4:=s3.next r4 p4;refine am (s4.cs 3 (by decide)) λc L=>az (fS L) ?_;have w:=(s4.write (k:=3) (by decide) (by decide) (.str o.s)).1;have U:=bg (o:=.cell (some (.str o.s))) L;generalize h4.set (b+3) (.cell (some (.str o.s)))=h5 at w U ⊢;have g:∀k m,k<7->m≠k->b+m≠b+k:=λk m Z q e=>q (TM e);refine kJ (BA (j:=j) (k:=5) w (by decide) (by decide) (qk (Tj wf (j+4)) b 6 (Dp (Tj wf (j+4)) b (.ref S))) hw) λu x h6 e6 s6 Y wx X k6=>kJ (BA (j:=j) (k:=6) s6 (by decide) (by decide) (Dp (Tj wf (j+4)) b (.ref S)) hw) λv y h7 e7 A iv wy c6 k7=>?_;have U:=k7.get _ _ ⟨Va (A.ne (by decide)),g _ _ (by decide) (by decide)⟩ (k6.get _ _ ⟨Va (A.ne (by decide)),g _ _ (by decide) (by decide)⟩ U);have X:=k7.get _ _ ⟨Va (A.ne (by decide)),g _ _ (by decide) (by decide)⟩ X;have Y:=Y.keep (k7.mono λm Z q=>⟨U9 q,U9 (U8 (A.ne (k:=6) (by decide)) q)⟩);refine NY (P:=J) (e6.trans e7)<|az (aE U) ?_;rcases Hq o with⟨rfl,L⟩|⟨W,L⟩
 ·refine bC L<|yE<|HL (Fg (j:=j) (S:=.ref S) A hw) λv' y' h8 e8 s8 iv8 wy8 c68 k8 pw=>mk _ (HJ h8 (r+1) .pow u v' x y' ⟨e8,s8.ls (k8.get _ _ ⟨Va (A.ne (by decide)),g _ _ (by decide) (by decide)⟩ U) (k8.get _ _ ⟨Va (A.ne (by decide)),g _ _ (by decide) (by decide)⟩ X) c68 (Y.keep (k8.mono λm Z q=>⟨U9 q,U9 (U8 (A.ne (k:=6) (by decide)) q)⟩)) iv8 wx wy8 pw,s8.keep⟩)
 ·refine bC L<|qS<|mk _ (HJ h7 (r+1) o u v x y ⟨rfl,A.ls U X c6 Y iv wx wy λr' Z q Z=>?_,A.keep⟩)
  cases o
  case pow=>exact absurd rfl W
  all_goals trivial
def pO(lo N:Nat)(h':List O)(o:Op)(x y:Vc)(g c:Option (List Int))(told:V):Prop:=
 (¬(dE x.kind/\dE y.kind)/\told=.str "non-numeric argument to binary operator")\/((dE x.kind/\dE y.kind)/\match cf g c x.items.length y.items.length with
  |.bad e=>told=.str e
  |q=>∃k items over,Ans o x y (aL x.items.length y.items.length) k items over/\IsV (λm=>lo<=m) h' told ⟨k,items,gZ q (aL x.items.length y.items.length) x y⟩/\h'[N]?=some (.list (ca over (bE g c x.items.length y.items.length []) iK)))
structure Held (h:List O) (H:Nat) (x y:Vc):Prop where
 ex:∃i1 d1 i2 d2 D1 D2,h[H]?=some (.list [.ref i1,.ref d1,.ref i2,.ref d2])/\h[i1]?=some (.list x.items)/\IsS zj h d1 x.att D1/\h[i2]?=some (.list y.items)/\IsS zj h d2 y.att D2
structure HS (b lo B N H:Nat) (o:Op) (u v:V) (x y:Vc) (h:List O):Prop where
 tab:h[0]?=some .tab
 c1:∃c,h[b+1]?=some (.cell c)
 c2:h[b+2]?=some (.cell (some (.ref N)))
 c3:h[b+3]?=some (.cell (some (.str o.s)))
 c4:∃c,h[b+4]?=some (.cell c)
 c5:h[b+5]?=some (.cell (some u))
 c6:h[b+6]?=some (.cell (some v))
 iu:IsV (λm=>lo<=m/\m<B) h u x
 iv:IsV (λm=>lo<=m/\m<B) h v y
 wx:Wf x
 wy:Wf y
 pw:∀r,DI y r-> ∀q∈r,Pw o q
 bl:b+6<lo
 pos:0<b
 lB:lo<=B
 BN:B<=N
 NH:N<h.length
 held:Held h H x y
theorem wY(x:Vc):b7 "" x=x.items:=Vv (λq=>absurd q.1 (by decide))
structure Sees (h0 h:List O) (H:Nat) (x y:Vc):Prop where
 le:h0.length<=H
 ex:∃i1 d1 i2 d2 D1 D2,h[H]?=some (.list [.ref i1,.ref d1,.ref i2,.ref d2])/\h[i1]?=some (.list x.items)/\IsS (λn=>h0.length<=n) h d1 x.att D1/\h[i2]?=some (.list y.items)/\IsS (λn=>h0.length<=n) h d2 y.att D2/\h0.length<=i1/\h0.length<=i2
theorem Sees.held {x y:Vc}(s:Sees h0 h H x y)(K:Keep (λn=>h0.length<=n) h h'):Held h' H x y:=
 s.ex.elim λg t=>t.elim λc t=>t.elim λz t=>t.elim λA t=>t.elim λo t=>t.elim λF q=>⟨g,c,z,A,o,F,K.get _ _ s.le q.1,K.get _ _ q.2.2.2.2.2.1 q.2.1,(q.2.2.1.keep K).mono λZ Z Z=>trivial,K.get _ _ q.2.2.2.2.2.2 q.2.2.2.1,(q.2.2.2.2.1.keep K).mono λZ Z Z=>trivial⟩
theorem BC {x y:Vc}(U:h[b+5]?=some (.cell (some u)))(G:h[b+6]?=some (.cell (some v)))(iu:IsV P h u x)(W:IsV P h v y)(k:V->M V)(A:4200<wf):
  ∃H h',qj (Tj wf (j+1)) b k h=k (.ref H) h'/\Gr h h'/\Sees h h' H x y:=by
 refine bO (qj (Tj wf (j+1)) b k h) λJ mk=>az (aE U)<|bM (jg (j:=j) iu "" A) λX h1 e1 z p1 S=>az e1<|az (aE (z.get _ _ trivial U))<|bw (dX (j:=j) (iu.keep z.keep) (o4 A)) λY D1 h2 e2 q2 g2=>?_;have gj:Gr h h2:=z.trans g2;refine az e2<|az (aE (gj.get _ _ trivial G))<|bM (jg (j:=j) (W.keep gj.keep) "" A) λi2 h3 e3 g3 p3 F=>?_;have c:Gr h h3:=gj.trans g3;refine az e3<|az (aE (c.get _ _ trivial G))<|bw (dX (j:=j) (W.keep c.keep) (o4 A)) λL D2 q e4 q4 g4=>az e4<|az (aH _ _) (mk _ ?_);have g5:Gr q (q++ [O.list [.ref X,.ref Y,.ref i2,.ref L]]):=Keep.app _;have o:=g4.trans g5;have g:=g3.trans o;rw[wY]at S F;exact aV q.length _ ⟨rfl,gj.trans g,(c.trans g4).len,X,Y,i2,L,D1,D2,ay q _,(g2.trans g).get _ _ trivial S,(q2.keep (Gr.keep g)).mono λn Z p=>U7 z.len p,o.get _ _ trivial F,(q4.keep g5.keep).mono λn Z p=>U7 c.len p,p1,U7 gj.len p3⟩
theorem NZ {lo:Nat}{o:Op}{x y:Vc}{F J:Option (List Int)}(W:IsV (λm=>lo<=m/\m<B) h u x)(X:IsV (λm=>lo<=m/\m<B) h v y)(wx:Wf x)(wy:Wf y)
  (Z:dG x.att x.items.length F)(h2:dG y.att y.items.length J)(hB:B<=N)(U:lo<=B)(hN:h[N]?=some (.list []))(hp:∀r,DI y r-> ∀q∈r,Pw o q)(hw:4200<wf):
  ∃told h',kB (T ai wf 24 (j+8) "arith" [.str o.s,u,v,.ref N] h)=.ok told h'/\pO lo N h' o x y F J told/\Keep (λm=>m≠N) h h':=by
 by_cases g:dE x.kind/\dE y.kind
 ·have A:=Kg (j:=j) (o:=o) W X wx wy Z h2 g.1 g.2 hB U hN hp hw
  unfold pO;induction hq:cf F J x.items.length y.items.length using VC with
  |bad msg=>
   rw[hq]at A;refine aa (A) λc z S=>aV _ c ⟨Vs kB z,.inr ⟨g,rfl⟩,S.keep⟩
  |no=>
   rw[hq]at A;obtain⟨Y,c,k,items,over,z,an,G,L,nn⟩:=A;exact aV _ c ⟨Vs kB z,.inr ⟨g,k,items,over,an,L,nn⟩,G⟩
  |dim ds=>
   rw[hq]at A;obtain⟨Y,c,k,items,over,z,an,G,L,nn⟩:=A;exact aV _ c ⟨Vs kB z,.inr ⟨g,k,items,over,an,L,nn⟩,G⟩
 ·refine aa (Kf (j:=j+6) (N:=N) (o:=.str o.s) W X g) λc z S=>aV _ c ⟨Vs kB z,.inl ⟨g,rfl⟩,S.keep⟩
theorem IsV.lo {P:Nat->Prop}{lo:Nat}{h:List O}{w:V}{z:Vc}(c:IsV P h w z)(q:∀n,P n->lo<=n):lo<=h.length:=by
 cases c with
 |null p e f=>exact U7 (q _ p) (U6 (aA e))
 |vec hk hl p1 p2 e1 e2 ha=>exact U7 (q _ p1) (U6 (aA e1))
theorem Fi {lo:Nat}{o:Op}{u v S kind:V}{x y:Vc}{d1 d2:Option (List Int)}(s:LS b lo o u v x y h)(h1:dG x.att x.items.length d1)(h2:dG y.att y.items.length d2)(hw:4200<wf):
  ∃told h' N H,jp (Tj wf (j+9)) b S kind h=tP (Tj wf (j+9)) b S kind (.ref H) told h'/\HS b lo h.length N H o u v x y h'/\pO lo N h' o x y d1 d2 told/\Keep (λm=>m<b) h h':=by
 refine bO (jp (Tj wf (j+9)) b S kind h) λJ mk=>?_;have lB:=s.iu.lo λn p=>p;have iu:IsV (λm=>lo<=m/\m<h.length) h u x:=s.iu.mono λn hn p=>⟨p,hn⟩;have iv:IsV (λm=>lo<=m/\m<h.length) h v y:=s.iv.mono λn hn p=>⟨p,hn⟩;refine aW (BC (j:=j+8) s.c5 s.c6 iu iv (λr22=>IB (Tj wf (j+9)) b S kind r22) hw) λH g e5 U se=>NY (P:=J) e5<|az (aH _ _) ?_;have g6:Gr g (g++ [O.list []]):=Keep.app _;have n6:=ay g (O.list []);have g16:Gr h (g++ [O.list []]):=U.trans g6;refine am (s.c2) λc2 F=>?_;have c26:=g16.get _ _ trivial F;have l2:b+2<g.length:=T2 (aA F) U.len;refine az (fS c26) ?_;have k7:Keep (λm=>m≠b+2) (g++ [O.list []]) ((g++ [O.list []]).set (b+2) (.cell (some (.ref g.length)))):=Keep.set λq=>q rfl;have w7:=bg (o:=.cell (some (.ref g.length))) c26;have n7:=k7.get _ _ (U9 l2) n6;have lH:g.length<((g++ [O.list []]).set (b+2) (.cell (some (.ref g.length)))).length:=by simp
 generalize (g++ [O.list []]).set (b+2) (.cell (some (.ref g.length)))=h7 at*;have A:Keep (λm=>m≠b+2) g h7:=g6.keep.trans k7;refine az (zn fx _ Kv (A.get _ _ Pr (U.get _ _ trivial s.tab))) ?_;have G:Gr h7 (h7++ [O.clo (cD fx) (aR fx) (cq (aw "law" (aq "law") b) (aR fx))]):=Keep.app _;have cl:=ay h7 (O.clo (cD fx) (aR fx) (cq (aw "law" (aq "law") b) (aR fx)));have ek:=zl (wf:=wf) (j:=j+8) cl Kr;generalize h7++ [O.clo (cD fx) (aR fx) (cq (aw "law" (aq "law") b) (aR fx))]=h8 at*;have z:Keep (λm=>m≠b+2) h h8:=U.keep.trans (A.trans G.keep);have nk:∀k,k≠2->b+k≠b+2:=λk q e=>q (TM e);have r3:=z.get _ _ (nk 3 (by decide)) s.c3;have r5:=z.get _ _ (nk 5 (by decide)) s.c5;have r6:=z.get _ _ (nk 6 (by decide)) s.c6;have hbl:=s.bl;have iu8:IsV (λm=>lo<=m/\m<h.length) h8 u x:=iu.keep (z.mono λm Z p=>by exact Mn hbl p);have iv8:IsV (λm=>lo<=m/\m<h.length) h8 v y:=iv.keep (z.mono λm Z p=>by exact Mn hbl p);refine aW (NZ (j:=j) (o:=o) iu8 iv8 s.wx s.wy h1 h2 U.len lB (G.get _ _ trivial n7) s.pw hw) λtold h9 e9 t9 L=>az (ek.trans ((Vs kB ((Kn ..).trans (aM (aE r3) (aM (aE r5) (aM (aE r6) (aM (aE (G.get _ _ trivial w7)) (congrFun (mB _) _))))))).trans e9)) (mk _ ?_);have X:∀ {m},m<h.length->m≠g.length:=λq=>Va (T2 q U.len);have W:Keep (λm=>m≠b+2/\m≠g.length) h h9:=(z.mono λm Z q=>q.1).trans (L.mono λm Z q=>q.2);have kc:∀ {k c},k≠2->h[b+k]?=some c->h9[b+k]?=some c:=λq e=>W.get _ _ ⟨nk _ q,X (aA e)⟩ e;have Y:=aA F;refine vt told h9 g.length H ⟨rfl,⟨W.get _ _ ⟨by exact Pr,X (aA s.tab)⟩ s.tab,s.c1.elim λc e=>⟨c,kc (by decide) e⟩,L.get _ _ (X Y) (G.get _ _ trivial w7),kc (by decide) s.c3,s.c4.elim λc e=>⟨c,kc (by decide) e⟩,kc (by decide) s.c5,kc (by decide) s.c6,
  iu8.keep (L.mono λm Z p=>X p.2),iv8.keep (L.mono λm Z p=>X p.2),s.wx,s.wy,s.pw,s.bl,s.pos,lB,U.len,T2 lH (U7 G.len L.len),se.held ⟨λm o q e=>?_, ?_⟩⟩,t9,W.mono λm hm q=>⟨Va (Um 2 q),X hm⟩⟩
 ·exact L.get _ _ (Va (aA e)) (G.get _ _ trivial (A.get _ _ (U9 (T2 Y q)) e))
 ·exact U7 A.len (U7 G.len L.len)
def tR(C:Tb)(b:Nat)(X:LL)(lc:Loc):M V:=mq (C.f "_law_seen" [X.told]) λJ=>mq (aZ (b+5)) λy=>mq (aZ (b+6)) λF=>mq (builtin "len" [X.left]) λo=>mq (builtin "len" [X.right]) λg=>mq (C.f "_law_attrs" [y,F,o,g,X.shape,X.total,(.bool true)]) λc=>iq .NotEq J c (mr (.bool false)) (mq (aZ (b+5)) λA=>mq (aZ (b+6)) λz=>mq (aC (.list [A,z])) λG=>mq (bY G) λq=>mq (bF C 23 "law" b [23] q lc) λx=>cm C 24 (aw "law" (aq "law") b) (aG "law" [24]) cb x.1 x.2)
def kE(C:Tb)(b:Nat)(X:LL)(lc:Loc):M V:=iq .Eq X.told (.str "non-conformable arrays") (mr (.bool false)) (mq (isV "str" X.told) λg=>mq (truth g) λo=>bif o then(mr (.bool false))else(mq (aN X.told "kind") λx=>iq .NotEq x X.kind (mr (.bool false)) (mq (aN X.told "items") λq=>iq .NotEq q X.items (mr (.bool false)) (mq (aZ (b+2)) λc=>iq .NotEq c X.due (mr (.bool false)) (tR C b X lc)))))
def ql(C:Tb)(b:Nat)(X:LL)(over:V)(lc:Loc):M V:=mq (truth over) λc=>bif c then(mq (bQ X.due "append") λZ=>mq (bN X.due "append" [(.str "NAs produced by integer overflow")]) λg=>kE C b X lc)else(kE C b X lc)
theorem Pd(C:Tb)(b:Nat)(X:LL)(over:V)(h:List O):cm C 24 (aw "law" (aq "law") b) (aG "law" [20]) cb .next (X.l12 over) h=ql C b X over (X.l12 over) h:=by kernel_rfl
theorem Pe(C:Tb)(b:Nat)(X:LL)(over s p q:V)(h:List O):cm C 24 (aw "law" (aq "law") b) (aG "law" [20]) cb .next (X.l15 over s p q) h=ql C b X over (X.l15 over s p q) h:=by kernel_rfl
def Dq(C:Tb)(b:Nat):M V:=mq (w9 gh (aw "law" (aq "law") b)) λc=>mq (C.f "_law_kept" [c]) λg=>mq (cmp .Eq g (.str "invalid argument to unary operator")) λo=>mr (.bool o)
theorem KC {X:LL}(g:mc X over lc)(h:List O):cm C 24 (aw "law" (aq "law") b) (aG "law" [24]) cb .next lc h=Dq C b h:=by
 rcases g with rfl|⟨a,o,c,rfl⟩|⟨x,p,q,rfl⟩|⟨x,p,q,a,o,c,rfl⟩<;>kernel_rfl
theorem KD {wf j b:Nat}(h0:h[0]?=some .tab):∃h',Dq (Tj wf (j+3)) b h=.ok (.bool true) h'/\Gr h h':=by
 refine bO (Dq (Tj wf (j+3)) b h) λgQ S=>?_;unfold Dq;rw[ac (zn gh _ Kx h0)];have U:=ay h (O.clo (cD gh) (aR gh) (cq (aw "law" (aq "law") b) (aR gh)));have L:Gr h (h++ [O.clo (cD gh) (aR gh) (cq (aw "law" (aq "law") b) (aR gh))]):=Keep.app _;generalize h++ [O.clo (cD gh) (aR gh) (cq (aw "law" (aq "law") b) (aR gh))]=c at*;have x:=zl (wf:=wf) (j:=j+2) U Ku;rw[Kq]at x;have J:=ay c (O.list [.str "1"]);have y:∃h',(mq (aC (.list [.str "1"])) λl=>mq (T ai wf 24 (j+2) "Vector" [.str "character",l]) λv=>mq (aC (.list [])) λY=>mq (T ai wf 24 (j+2) "negate" [v,Y]) mr) c=.exc (.str "invalid argument to unary operator") h'/\Gr c h':=by
  rw[ac (aH _ _)];have X:Gr c (c++ [O.list [.str "1"]]):=Keep.app _;generalize c++ [O.list [.str "1"]]=g at*;rw[ac gX];have z:Gr g (g++ [bp (.str "character") (.ref c.length) .none]):=Keep.app _;have A:=ay g (bp (.str "character") (.ref c.length) .none);have o:=z.get _ _ trivial J;generalize g++ [bp (.str "character") (.ref c.length) .none]=F at*;have G:IsV zj F (.ref g.length) ⟨"character",[.str "1"],jJ⟩:=.vec (by decide) (by simp) trivial trivial A o (.none λZ=>rfl);rw[ac (aH _ _)];exact⟨_,gY (zi (j:=j) (G.keep (Keep.app _)) (λq=>by rcases q with q|q|q<;>exact absurd q (by decide))),(X.trans z).trans (Keep.app _)⟩
 refine aa (y) λh' y W=>?_;rw[y]at x;rw[ac x,aY,ae,UL rfl];refine S _<|⟨h',rfl,L.trans W⟩
theorem N0 {q:DR}{x y:Vc}(o:iP x.att)(g:iP y.att):iP (tM q t x y):=by
 have up:∀ {F:aP} {k:Str} {p:Str×List V},iP F->(∀v∈p.2,Dv v)->iP (F.upd k p):=λ{F k p} hF hp k' q' e v c=>by
  unfold aP.upd at e
  split at e
  ·cases e;exact hp v c
  ·exact hF k' q' e v c
 have nn:iP jJ:=λk q e=>by cases e
 have nm:∀ {F:aP} {z:Vc},iP F->iP z.att->iP (c9 t F z):=λ{F z} hF hz=>by
  unfold c9
  split
  ·induction hq:z.att "names" using Vx with
   |none=>exact hF
   |some p=>exact up hF (hz _ _ hq)
  ·exact hF
 induction q using VC with
 |dim ds=>exact up nn λv c=>by obtain⟨i,_,rfl⟩:=U3.mp c;exact .int i
 |no=>exact nm (nm nn g) o
 |bad m=>exact nm (nm nn g) o
theorem KE {q:DR}{x y:Vc}(o:iP x.att)(c:iP y.att):iP (gZ q t x y):=by
 have g:∀ {F:aP} {z:Vc},iP F->iP z.att->iP (fz t F z):=λ{F z} hF hz k p e v hv=>by
  unfold fz at e
  split at e
  ·unfold wj at e
   split at e
   ·exact hz k p e v hv
   ·exact hF k p e v hv
  ·exact hF k p e v hv
 exact g (g (N0 o c) c) o
theorem HS.keep {b lo B N H:Nat}{o:Op}{u v:V}{x y:Vc}{h h':List O}(s:HS b lo B N H o u v x y h)(K:Keep (λm=>m<h.length) h h'):HS b lo B N H o u v x y h':=by
 have c:∀ {n:Nat} {o:O},h[n]?=some o->h'[n]?=some o:=λe=>K.get _ _ (aA e) e;have g:Gr h h':=⟨λn o Z e=>c e,K.len⟩;refine aB λgP S=>?_;obtain⟨A,J⟩:=s.c1;obtain⟨X,F⟩:=s.c4;obtain⟨U,L,i2,W,D1,D2,Y,z,G,e4,q⟩:=s.held;refine S<|⟨c s.tab,⟨A,c J⟩,c s.c2,c s.c3,⟨X,c F⟩,c s.c5,c s.c6,s.iu.keep g.keep,s.iv.keep g.keep,s.wx,s.wy,s.pw,s.bl,s.pos,s.lB,s.BN,by have:=s.NH;have:=K.len;omega,⟨U,L,i2,W,D1,D2,c Y,c z,G.keep g,c e4,q.keep g⟩⟩
theorem HS.gr {lo:Nat}{o:Op}{x y:Vc}(s:HS b lo B N H o u v x y h)(K:Gr h h'):HS b lo B N H o u v x y h':=s.keep K.keep
structure TS (b lo B N H:Nat) (o:Op) (u v:V) (x y:Vc) (q:DR) (k:Str) (items:List V) (X:LL) (Lf Rt:Nat) (h:List O):Prop where
 hs:HS b lo B N H o u v x y h
 nx:dE x.kind
 ny:dE y.kind
 told:IsV zj h X.told ⟨k,items,gZ q (aL x.items.length y.items.length) x y⟩
 left:X.left=.ref Lf
 right:X.right=.ref Rt
 lL:∃l,h[Lf]?=some (.list l)/\l.length=x.items.length
 lR:∃l,h[Rt]?=some (.list l)/\l.length=y.items.length
 shape:zk h q X.shape
 total:X.total=.int (aL x.items.length y.items.length:Nat)
theorem Fj {lo Lf Rt:Nat}{o:Op}{x y:Vc}{q:DR}{items:List V}{X:LL}(s:TS b lo B N H o u v x y q k items X Lf Rt h)(S:mc X over lc)(hw:4200<wf):
  ∃h',tR (Tj wf (j+3)) b X lc h=.ok (.bool true) h'/\Keep (λm=>m<b) h h':=by
 refine bO (tR (Tj wf (j+3)) b X lc h) λgQ gR=>?_;unfold tR;have G:=s.hs;refine aB λJ z=>bw (dX (wf:=wf) (j:=j+2) s.told (o4 hw)) λd1 D1 h1 e1 s1 F=>z<|az e1 ?_;have g:=G.gr F;refine az ((aE g.c5))<|az ((aE g.c6))<|aB λJ z=>aa (s.lL) λl el ll=>aa (s.lR) λr er lr=>z ?_;rw[s.left,s.right];refine az ((eX (F.get _ _ trivial el) (by have:=G.wx.len;exact LD ll this)))<|az ((eX (F.get _ _ trivial er) (by have:=G.wy.len;exact LD lr this))) ?_;rw[ll,lr,s.total];have sh1:zk h1 q X.shape:=by
  have:=s.shape;induction q using VC with
  |dim ds=>refine aa (this) λr e l=>?_;exact⟨r,e,F.get _ _ trivial l⟩
  |no=>exact this
  |bad m=>exact this
 refine aB λJ z=>bw (Ak (wf:=wf) (j:=j+1) (t:=aL x.items.length y.items.length) g.iu g.iv sh1 (o4 hw)) λd2 D2 U e2 s2 Y=>z<|az e2 ?_;rw[Hn]at s2;refine az ((vf (s1.keep (Y.keep (P:=λn=>h.length<=n))) s2 (KE G.wx.a.data G.wy.a.data)))<|qS ?_;have A:=g.gr Y;refine az ((aE A.c5))<|az ((aE A.c6))<|az ((aH _ _)) ?_;have c:=A.gr (Keep.app [O.list [u,v]]);have n3:=ay U (O.list [u,v]);have L:Gr h (U++ [O.list [u,v]]):=F.trans (Y.trans (Keep.app _));generalize U++ [O.list [u,v]]=h3 at*;refine az ((dh n3))<|aB λJ z=>aW (Dm (wf:=wf) (j:=j) (lo:=lo) (B:=B) ⟨c.iu,c.wx,s.nx⟩ ⟨c.iv,c.wy,s.ny⟩ n3 (by have:=c.BN;have:=c.NH;omega) c.lB c.bl c.tab c.pos c.c1 c.c4 hw S) λlc' h4 e4 W k4=>z<|az e4 ?_;rw[KC W];refine aB λJ z=>aa (KD (wf:=wf) (j:=j) (b:=b) (k4.get _ _ (by have:=c.pos;exact L4) c.tab)) λh' e' g'=>z<|gR _<|⟨h',e',(L.keep.trans (k4.mono λm Z p=>by exact⟨Va (Nat.lt_succ_of_lt p),Va (Um 4 p)⟩)).trans g'.keep⟩
theorem Dr {k i a:V}{t:Str}(g:h[n]?=some (bp k i a)):cmp .Eq (.ref n) (.str t) h=.ok false h:=by
 have c:ig h (.ref n)=true:=by show(oP h[n]?).isSome=true;rw[g];rfl
 show(bif ig h (.ref n)then R.ok false h else .bad)=_
 rw[c];rfl
theorem KG {k i a:V}(c:h[n]?=some (bp k i a)):isV "str" (.ref n) h=.ok (.bool false) h:=by
 unfold isV;rw[Vv (by decide),Vw rfl]
 show(nC h (.ref n)).elim _ _=_
 rw[Br c,Option.elim_some,Vw rfl]
theorem Am {wf j b lo B N H Lf Rt Du It:Nat}{o:Op}{x y:Vc}{q:DR}{items notes:List V}{X:LL}(s:TS b lo B N H o u v x y q k items X Lf Rt h)(G:mc X over lc)(hw:4200<wf)
  (hk:X.kind=.str k)(g:k≠ "NULL")(W:X.items=.ref It)(hd:X.due=.ref Du)(eI:h[It]?=some (.list items))(Y:h[Du]?=some (.list notes))(eN:h[N]?=some (.list notes))(F:∀v∈items,Dv v)(J:∀v∈notes,Dv v):
  ∃h',kE (Tj wf (j+3)) b X lc h=.ok (.bool true) h'/\Keep (λm=>m<b) h h':=by
 have last:=Fj (j:=j) s G hw;unfold kE;refine aB λgP gH=>?_;obtain⟨n,A,L,U⟩:∃n,X.told=.ref n/\cmp .Eq (.ref n) (.str "non-conformable arrays") h=.ok false h/\isV "str" (.ref n) h=.ok (.bool false) h:=by
  have:=s.told;generalize X.told=w at this;generalize hz:(⟨k,items,gZ q (aL x.items.length y.items.length) x y⟩:Vc)=z at this;cases this with
  |null p e f=>cases hz;exact absurd rfl g
  |vec hk' hl p1 p2 A L ha=>exact⟨_,rfl,Dr A,KG A⟩
 refine aQ (s.told.items g) λi Z S li=>?_;have c:=s.told.kind;refine gH ?_;rw[A]at S c ⊢;unfold iq;rw[ac L,Vm,ac U,aT,ae,Vm,ac c,hk,iG,ae,UL rfl,Bool.not_true,Vm,ac S,W,ac (EU li eI F),Vm,ac (aE s.hs.c2),hd,ac (EU eN Y J),Vm];exact last
theorem TS.keep {b lo B N H Lf Rt:Nat}{o:Op}{u v:V}{x y:Vc}{q:DR}{k:Str}{items:List V}{X:LL}{h h':List O}(s:TS b lo B N H o u v x y q k items X Lf Rt h)(Du:Nat)(L:h.length<=h'.length)
  (K:Keep (λm=>m≠Du) h h')(F:HS b lo B N H o u v x y h')(told:IsV (λm=>m≠Du) h X.told ⟨k,items,gZ q (aL x.items.length y.items.length) x y⟩)(z:Lf≠Du)(J:Rt≠Du)(g:∀r,X.shape=.ref r->r≠Du):TS b lo B N H o u v x y q k items X Lf Rt h':=by
 refine aa (s.lL) λl el G=>aa (s.lR) λr c A=>⟨F,s.nx,s.ny,(told.keep K).mono λZ Z Z=>trivial,s.left,s.right,⟨l,K.get _ _ z el,G⟩,⟨r,K.get _ _ J c,A⟩, ?_,s.total⟩;have:=s.shape;induction q using VC with
 |dim ds=>refine aa (this) λr e l=>?_;exact⟨r,e,K.get _ _ (g r e) l⟩
 |no=>exact this
 |bad m=>exact this
theorem N3 {g c:Option (List Int)}{e:Str}(x:n<=9)(o:m<=9)(h:cf g c n m=.bad e):e≠ "":=by
 have k:∀a t:Nat,CZ a t≠ "":=λa t q=>by
  have:=Vs Str.length q;unfold CZ at this;rw[bB,bB,bB,bB]at this;have k1:(Str.ofString "dims [product ").length=14:=by decide
  have k2:(Str.ofString "").length=0:=by decide
  rw[k1,k2]at this;exact Qc this
 have fc:∀(a:List Int) (n m:Nat),ce a n m=.bad e->e≠ "":=λa n m q=>by
  by_cases p:(n=1/\m>1)\/(m=0/\n>0)
  ·exact DR.noConfusion ((Vw p).symm.trans q)
  ·have q:=(Vv p).symm.trans q
   by_cases r:n=aL n m
   ·exact DR.noConfusion ((Vw r).symm.trans q)
   ·exact DR.bad.inj ((Vv r).symm.trans q)▸k _ _
 induction g using Vx with
 |none=>
  induction c using Vx with
  |none=>cases h
  |some b=>exact fc _ _ _ h
 |some a=>
  induction c using Vx with
  |none=>exact fc _ _ _ h
  |some b=>
   have h':(if a=b then DR.dim a else .bad "non-conformable arrays")=.bad e:=h;by_cases p:a=b
   ·exact DR.noConfusion ((Vw p).symm.trans h')
   ·exact DR.bad.inj ((Vv p).symm.trans h')▸(by decide)
theorem An(g o:Option (List Int))(n m:Nat)(over:Bool):(∀v∈ca over (bE g o n m []) iK,Dv v)/\(bE g o n m []).length<=2:=by
 unfold bE ca;refine⟨λv c=>?_, ?_⟩
 ·repeat' split at c
  all_goals simp at c
  all_goals rcases c with rfl|rfl|rfl
  all_goals exact .str _
 ·repeat' split
  all_goals simp
theorem Ans.dv {o:Op}{x y:Vc}{items:List V}{over:Bool}(a:Ans o x y t k items over):(∀v∈items,Dv v)/\(k= "double"\/k= "integer"):=by
 by_cases A:lP o x y
 ·refine bW (a.dbl A) λl r Z Z g q c=>?_;subst g;subst q;subst c
  exact⟨λv z=>by obtain⟨i,_,rfl⟩:=U3.mp z;exact Iz _,.inl rfl⟩
 ·refine bW (a.int A) λl r Z Z g q c=>?_;subst g;subst q;subst c
  exact⟨λv z=>by obtain⟨i,_,rfl⟩:=U3.mp z;exact Di _,.inr rfl⟩
theorem Fk {wf j b lo B N H Lf Rt Du:Nat}{o:Op}{u v S told shape:V}{x y:Vc}{q:DR}{d1 d2:Option (List Int)}{items:List V}{over:Bool}{z g:List O}(c:HS b lo B N H o u v x y z)(nx:dE x.kind)(ny:dE y.kind)
  (A:Ans o x y (aL x.items.length y.items.length) k items over)(it:IsV (λm=>m<z.length) z told ⟨k,items,gZ q (aL x.items.length y.items.length) x y⟩)(eN:z[N]?=some (.list (ca over (bE d1 d2 x.items.length y.items.length []) iK)))
  (eL:z[Lf]?=some (.list (b7 k x)))(eR:z[Rt]?=some (.list (b7 k y)))(K:Keep (λm=>m<z.length) z g)(hD:z.length<=Du)(eD:g[Du]?=some (.list (bE d1 d2 x.items.length y.items.length [])))(sh:zk g q shape)(nS:∀r,shape=.ref r->r≠Du)(hw:4200<wf):
  ∃h',Dn (Tj wf (j+4)) b S (.str k) (.ref H) told (.ref Lf) (.ref Rt) (.ref Du) (.str "") shape (.int (aL x.items.length y.items.length:Nat)) g=.ok (.bool true) h'/\Keep (λm=>m<b) g h':=by
 refine bO (Dn (Tj wf (j+4)) b S (.str k) (.ref H) told (.ref Lf) (.ref Rt) (.ref Du) (.str "") shape (.int (aL x.items.length y.items.length:Nat)) g) λgQ gR=>?_;have ht:=mV c.wx.len c.wy.len;have lL:=aA eL;have lR:=aA eR;have lN:=aA eN;have lD:=aA eD;have lK:=K.len;refine az ((aH _ _))<|bC (cW (xq ht)) ?_;have g5:Gr g (g++ [O.list []]):=Keep.app _;have n5:=ay g (O.list []);have l5:(g++ [O.list []]).length=g.length+1:=by simp
 generalize g++ [O.list []]=h5 at*;have K5:Keep (λm=>m<z.length) z h5:=K.trans g5.keep;have L:=aA c.c3;refine bM (vm (j:=j) (b:=b) (X:=⟨S,.str k,.ref H,told,.ref Lf,.ref Rt,.ref Du,.str "",shape,.int (aL x.items.length y.items.length:Nat),.ref g.length⟩) A c.wx.len c.wy.len c.pw rfl rfl rfl rfl (K5.get _ _ L c.c3) (K5.get _ _ lL eL) (K5.get _ _ lR eR) n5 (Dz lL lK) (Dz lR lK) (HV hw)) λlc h6 e6 hl6 k6 eI=>az ((show bF (Tj wf (j+4)) 23 "law" b [19] (.range (aL x.items.length y.items.length)) [("script",S),("kind",.str k),("held",.ref H),("told",told),("left",.ref Lf),("right",.ref Rt),("due",.ref Du),("refused",.str ""),("shape",shape),("total",.int (aL x.items.length y.items.length:Nat)),("items",.ref g.length),("over",(.bool false))] h5=_ from e6)) ?_;have K6:Keep (λm=>m<z.length) z h6:=K5.trans (k6.mono λm Z p=>by exact Aw lK p);have J:=k6.get _ _ (o8 lD) (g5.get _ _ trivial eD);have Y:zk h6 q shape:=by
  induction q using VC with
  |dim ds=>refine aa (sh) λr e l=>?_;exact⟨r,e,k6.get _ _ (by have:=aA l;exact o8 this) (g5.get _ _ trivial l)⟩
  |no=>exact sh
  |bad m=>exact sh
 refine af (An d1 d2 x.items.length y.items.length over) λdvN nl=>af (A.dv) λdvI hk=>?_;have hkn:k≠ "NULL":=by rcases hk with rfl|rfl<;>decide
 have len6:=k6.len;have U:∀(h7:List O),Keep (λm=>m≠Du) h6 h7->h7[Du]?=some (.list (ca over (bE d1 d2 x.items.length y.items.length []) iK))->mc ⟨S,.str k,.ref H,told,.ref Lf,.ref Rt,.ref Du,.str "",shape,.int (aL x.items.length y.items.length:Nat),.ref g.length⟩ (.bool over) lc->
   ∃h',kE (Tj wf (j+4)) b ⟨S,.str k,.ref H,told,.ref Lf,.ref Rt,.ref Du,.str "",shape,.int (aL x.items.length y.items.length:Nat),.ref g.length⟩ lc h7=.ok (.bool true) h'/\Keep (λm=>m<b) h7 h':=λh7 K7 eD7 G=>by
  have F:Keep (λm=>m<z.length) z h7:=K6.trans (K7.mono λm Z p=>by exact Aw hD p);have sh7:zk h7 q shape:=by
   induction q using VC with
   |dim ds=>refine aa (Y) λr e l=>?_;exact⟨r,e,K7.get _ _ (nS r e) l⟩
   |no=>exact Y
   |bad m=>exact Y
  exact Am (j:=j+1) (Lf:=Lf) (Rt:=Rt) (Du:=Du) (It:=g.length) (q:=q) (items:=items) (notes:=ca over (bE d1 d2 x.items.length y.items.length []) iK)
   ⟨c.keep F,nx,ny,(it.keep F).mono λZ Z Z=>trivial,rfl,rfl,⟨_,F.get _ _ lL eL,eo _ _⟩,⟨_,F.get _ _ lR eR,eo _ _⟩,sh7,rfl⟩ G hw rfl hkn rfl rfl (K7.get _ _ (rR lD) eI) eD7 (F.get _ _ lN eN) dvI dvN
 have W:mc ⟨S,.str k,.ref H,told,.ref Lf,.ref Rt,.ref Du,.str "",shape,.int (aL x.items.length y.items.length:Nat),.ref g.length⟩ (.bool over) lc-> ∃h',ql (Tj wf (j+4)) b ⟨S,.str k,.ref H,told,.ref Lf,.ref Rt,.ref Du,.str "",shape,.int (aL x.items.length y.items.length:Nat),.ref g.length⟩ (.bool over) lc h6=.ok (.bool true) h'/\Keep (λm=>m<b) h6 h':=λG=>by
  unfold ql;rw[aT,ae];induction over using VA with
  |false=>exact U h6 Keep.refl J G
  |true=>
   rw[Vr];dsimp only;rw[ac (cP J (by decide)),ac (dj J (T1 nl (by decide)))];refine aa (U _ (Keep.set (by simp)) (bg J) G) λh' e' k'=>⟨h',e',(Keep.set (by have:=c.bl;have:=c.lB;have:=c.BN;have:=c.NH;exact λh=>absurd (tt (tt h (Ul _ 4)) (tt L hD)) (Nat.not_succ_le_self _))).trans k'⟩
 rcases hl6 with rfl|⟨s,p,q',rfl⟩
 ·refine aa (W (.inl rfl)) λh' e k'=>gR _<|⟨h',(Pd _ _ _ _ _).trans e,(g5.keep.trans (k6.mono λm Z p=>by have:=c.bl;have:=c.lB;have:=c.BN;have:=c.NH;exact LF hD lD L p)).trans k'⟩
 ·refine aa (W (.inr (.inr (.inl ⟨s,p,q',rfl⟩)))) λh' e k'=>gR _<|⟨h',(Pe _ _ _ _ _ _ _ _).trans e,(g5.keep.trans (k6.mono λm Z p=>by have:=c.bl;have:=c.lB;have:=c.BN;have:=c.NH;exact LF hD lD L p)).trans k'⟩
theorem Fm {lo:Nat}{o:Op}{u v S told:V}{x y:Vc}{Y d2:Option (List Int)}(G:HS b lo B N H o u v x y h)(nx:dE x.kind)(ny:dE y.kind)(h1:dG x.att x.items.length Y)(h2:dG y.att y.items.length d2)
  (hk:(lP o x y->k= "double")/\(¬lP o x y->k= "integer"))
  (T:match cf Y d2 x.items.length y.items.length with
  |.bad e=>told=.str e
  |q=>∃k items over,Ans o x y (aL x.items.length y.items.length) k items over/\IsV (λm=>lo<=m) h told ⟨k,items,gZ q (aL x.items.length y.items.length) x y⟩/\h[N]?=some (.list (ca over (bE Y d2 x.items.length y.items.length []) iK)))(hw:4200<wf):
  ∃h',zq (Tj wf (j+4)) b S (.str k) (.ref H) told h=.ok (.bool true) h'/\Keep (λm=>m<b) h h':=by
 refine bO (zq (Tj wf (j+4)) b S (.str k) (.ref H) told h) λJ mk=>az ((aE G.c5))<|bM (jg (wf:=wf) (j:=j+3) G.iu k hw) λLf h1' e1 g1 Z l1=>?_;have W:=G.gr g1;refine az e1<|az ((aE W.c6))<|bM (jg (wf:=wf) (j:=j+3) W.iv k hw) λRt c e2 g2 Z l2=>?_;have hs2:=W.gr g2;have l12:=g2.get _ _ trivial l1;refine az e2<|az ((aH _ _)) ?_;have g3:Gr c (c++ [O.list []]):=Keep.app _;have n3:=ay c (O.list []);generalize c++ [O.list []]=X at*;have L:=hs2.gr g3;have lx:=G.wx.len;have ly:=G.wy.len;have eL:builtin "len" [.ref Lf] X=.ok (.int x.items.length) X:=eo k x▸eX (g3.get _ _ trivial l12) (by rw[eo];exact Mi lx);have eR:builtin "len" [.ref Rt] X=.ok (.int y.items.length) X:=eo k y▸eX (g3.get _ _ trivial l2) (by rw[eo];exact Mi ly);refine az (aE L.c5)<|az (aE L.c6)<|az eL<|az eR ?_;have ls:=Ag (wf:=wf) (j:=j+2) L.iu L.iv h1.dims h2.dims n3 (by simp) lx ly;have F:Gr h c:=g1.trans g2;have lb:b<=c.length:=U7 (U7 (U6 (T1 (Ul b 6) G.bl)) (U7 G.lB G.BN)) (U7 (U6 G.NH) F.len);have K34:∀ {z},Keep (λi=>i≠c.length) X z->Keep (λm=>m<b) h z:=λK=>(Gr.keep (F.trans g3)).trans (K.mono λm Z p=>Va (T2 p lb));have g:∀ {q:DR} {shape:V} {z:List O},(∃k items over,Ans o x y (aL x.items.length y.items.length) k items over/\IsV (λm=>lo<=m) h told ⟨k,items,gZ q (aL x.items.length y.items.length) x y⟩/\h[N]?=some (.list (ca over (bE Y d2 x.items.length y.items.length []) iK)))->
   Keep (λi=>i≠c.length) X z->z[c.length]?=some (.list (bE Y d2 x.items.length y.items.length []))->zk z q shape->(∀r,shape=.ref r->r≠c.length)->
   J (mq (j7 (.tup [.str "",shape,.int (aL x.items.length y.items.length:Nat)])) (xl (Tj wf (j+4)) b S (.str k) (.ref H) told (.ref Lf) (.ref Rt) (.ref c.length)) z):=λ{q shape z} hA U n4 sh nS=>by
  refine bw (hA) λk' items over A it eN=>?_;have hkk:k'=k:=by
   by_cases hD:lP o x y
   ·exact bM (A.dbl hD) λl r Z Z e Z=>e.trans (hk.1 hD).symm
   ·exact bM (A.int hD) λl r Z Z e Z=>e.trans (hk.2 hD).symm
  subst hkk;refine bC (show j7 (.tup [.str "",shape,.int (aL x.items.length y.items.length:Nat)])=mr (.str "",shape,.int (aL x.items.length y.items.length:Nat)) from rfl) ?_;unfold xl;refine SL (show cmp .NotEq (.str "") (.str "")=mr false from(iG ..).trans (by rw[UL rfl];rfl)) (mk _ ?_);exact aa (Fk (S:=S) (H:=H) hs2 nx ny A ((it.keep (Gr.keep F)).mono λn hn Z=>hn) (F.get _ _ trivial eN) l12 l2 ((Gr.keep g3).trans (U.mono λm Z p=>by exact o8 p)) (Vi _) n4 sh nS hw) λh' e' k'=>⟨h',e',(K34 U).trans k'⟩
 induction hq:cf Y d2 x.items.length y.items.length using VC with
 |bad e=>
  rw[hq]at ls T;refine aa (ls) λz e4 U=>?_;have T':told=.str e:=T;refine az e4<|bC (show j7 (.tup [.str e,.none,.int (aL x.items.length y.items.length:Nat)])=mr (.str e,.none,.int (aL x.items.length y.items.length:Nat)) from rfl) ?_;unfold xl;refine SK (show cmp .NotEq (.str e) (.str "")=mr true from(iG ..).trans (by rw[UC (N3 lx ly hq)];rfl)) (mk _ ?_);exact⟨z,by rw[T'];exact aO (aY ..) (by rw[UL rfl];rfl),K34 U⟩
 |no=>
  rw[hq]at ls T;refine aQ (ls) λz e4 U n4=>az e4 (g (q:=.no) T U n4 rfl λr q=>by cases q)
 |dim ds=>
  rw[hq]at ls T;refine bW (ls) λr z e4 U n4 nr lr=>az e4 (g (q:=.dim ds) T U n4 ⟨r,rfl,lr⟩ λr' q=>by cases q;exact nr)
theorem qm {x:Vc}(w:Wf x):(x.kind= "character")↔ ¬dE x.kind:=by
 have kd:=w.kd;generalize x.kind=k at kd;generalize x.items=l at kd;cases kd with
 |null=>exact⟨λq=>absurd q (by decide),λq=>absurd (.inl rfl) q⟩
 |logical=>exact⟨λq=>absurd q (by decide),λq=>absurd (.inr (.inl rfl)) q⟩
 |integer=>exact⟨λq=>absurd q (by decide),λq=>absurd (.inr (.inr (.inl rfl))) q⟩
 |double=>exact⟨λq=>absurd q (by decide),λq=>absurd (.inr (.inr (.inr rfl))) q⟩
 |character=>exact⟨λZ q=>by rcases q with q|q|q|q<;>exact absurd q (by decide),λZ=>rfl⟩
theorem Fo {o:Nat}{x y:Vc}(a:Held h H x y)(b:Held h o x y)(g:Wf x)(c:Wf y):cmp .NotEq (.ref H) (.ref o) h=.ok false h:=by
 obtain⟨X,t1,j2,t2,Y,E2,q,S,J,G,A⟩:=a.ex;obtain⟨Z,s1,i2,W,D1,D2,U,b2,z,F,L⟩:=b.ex;refine gb (r:=true) ?_;rw[jH q U];exact Vs (Option.map _) (jK (lC S b2 g.kd.dv) (jK (pE J z g.a.data) (lA (lC G F c.kd.dv) (pE A L c.a.data))))
theorem pO.gr {lo:Nat}{o:Op}{x y:Vc}{c G:Option (List Int)}{told:V}(t:pO lo N h o x y c G told)(g:Gr h h'):pO lo N h' o x y c G told:=by
 unfold pO at t ⊢;refine t.imp id λq=>⟨q.1, ?_⟩;have T:=q.2;induction hq:cf c G x.items.length y.items.length using VC with
 |bad e=>rw[hq]at T;exact T
 |no=>rw[hq]at T;exact bw T λF items over A it z=>bJ F items over ⟨A,it.keep (Gr.keep g),g.get _ _ trivial z⟩
 |dim ds=>rw[hq]at T;exact bw T λF items over A it z=>bJ F items over ⟨A,it.keep (Gr.keep g),g.get _ _ trivial z⟩
theorem Fp {lo:Nat}{o:Op}{u v S told:V}{x y:Vc}{U X:Option (List Int)}(g:HS b lo B N H o u v x y h)(h1:dG x.att x.items.length U)(h2:dG y.att y.items.length X)
  (hk:(lP o x y->k= "double")/\(¬lP o x y->k= "integer"))(T:pO lo N h o x y U X told)(Z:4200<wf):∃h',tP (Tj wf (j+4)) b S (.str k) (.ref H) told h=.ok (.bool true) h'/\Keep (λm=>m<b) h h':=by
 refine bO (tP (Tj wf (j+4)) b S (.str k) (.ref H) told h) λJ Y=>aW (BC (wf:=wf) (j:=j+3) g.c5 g.c6 g.iu g.iv (λG=>mq (cmp .NotEq (.ref H) G) λF=>bif F then(mr (.bool false))else(IA (Tj wf (j+4)) b S (.str k) (.ref H) told)) Z) λH' h5 e5 A se=>?_;have c:=g.gr A;refine NY (P:=J) e5<|az (Fo c.held (se.held Keep.refl) g.wx g.wy)<|qS<|az (aE c.c5)<|az c.iu.kind<|az (aE c.c6)<|az c.iv.kind<|bC (SN ..) ?_;by_cases z:(("character":Str)=x.kind\/("character":Str)=y.kind)
 ·refine qR z (Y _ ?_)
  have hn:¬(dE x.kind/\dE y.kind):=λq=>z.elim (λz=>(qm g.wx).mp z.symm q.1) λz=>(qm g.wy).mp z.symm q.2;rcases T with⟨_,rfl⟩|⟨q,_⟩
  ·exact⟨h5,aO (aY ..) (by rw[UL rfl];rfl),A.keep⟩
  ·exact absurd q hn
 ·refine sZ z (Y _ ?_)
  have L:dE x.kind:=Classical.byContradiction λq=>z (.inl ((qm g.wx).mpr q).symm);have W:dE y.kind:=Classical.byContradiction λq=>z (.inr ((qm g.wy).mpr q).symm);rcases T.gr A with⟨q,_⟩|⟨_,T⟩
  ·exact absurd ⟨L,W⟩ q
  ·exact aa (Fm (wf:=wf) (j:=j) (S:=S) (told:=told) c L W h1 h2 hk T Z) λh' e' k'=>⟨h',e',(Gr.keep A).trans k'⟩
theorem Fq {lo:Nat}{o:Op}{u v S:V}{x y:Vc}(s:LS b lo o u v x y h)(U:4200<wf):∃h',kC (Tj wf (j+9)) b S h=.ok (.bool true) h'/\Keep (λm=>m<b) h h':=by
 refine bO (kC (Tj wf (j+9)) b S h) λJ mk=>?_;have go:∀k:Str,(lP o x y->k= "double")/\(¬lP o x y->k= "integer")->J (jp (Tj wf (j+9)) b S (.str k) h):=λk Y=>mk _ (by
  refine am s.wx.a.dim λd1 G=>am s.wy.a.dim λd2 L=>mZ (Fi (j:=j) (S:=S) (kind:=.str k) s G L U) λtold h' N H e hs T X=>?_;exact aa (Fp (wf:=wf) (j:=j+5) (S:=S) hs G L Y T U) λF W k2=>⟨F,e.trans W,X.trans k2⟩)
 have c:lP o x y->J (jp (Tj wf (j+9)) b S (.str "double") h):=λq=>go "double" ⟨λZ=>rfl,λn=>absurd q n⟩;refine az (aE s.c5)<|az s.iu.kind<|bC (aY ..) ?_;by_cases z:x.kind= "double"
 ·exact qR z (c (.inl z))
 refine sZ z<|az (aE s.c6)<|az s.iv.kind<|bC (aY ..) ?_;by_cases A:y.kind= "double"
 ·exact qR A (c (.inr (.inl A)))
 refine sZ A<|az (aE s.c3)<|bC (zf ..) ?_;by_cases g:o.whole=false
 ·exact EK (by rw[g];rfl) (c (.inr (.inr g)))
 ·exact Bi (by rw[Bool.of_not_eq_false g];rfl) (go "integer" ⟨λq=>q.elim (λq=>absurd q z) λq=>q.elim (λq=>absurd q A) λq=>absurd q g,λZ=>rfl⟩)
theorem Pf {wf j S:Nat}{h:List O}(h0:h[0]?=some .tab)(G:h[S]?=some (.flist l))(J:qg l)(g:l.length<=line*line)(z:4200<wf):
  ∃h',T ai wf 24 (j+10) "law" [.ref S] h=.ok (.bool true) h'/\Keep (λm=>m<h.length) h h':=by
 have c:0<h.length:=aA h0;refine aB λL F=>OD (Fh (wf:=wf) (j:=j+5) h0 G J g c (HV z)) λh' lo o u v x y e s k1=>aa (Fq (j:=j) (S:=.ref S) s z) λq A k2=>F<|⟨q, ?_,k1.trans k2⟩;rw[xc (by kernel_rfl),show cellN (aq "law").scope.names=7 by kernel_rfl,Pc,e];exact A
end Mine
end
noncomputable section
open PySem PySem.W PyProof.Rows
namespace Mine
noncomputable def qo(p:Program)(w:World)(a:Nat)(b:Option Value):Nat->SharedT->Thread->Option SharedT
 |0,_,_=>none
 |n+1,s,t=>match through t with
  |true=>some s
  |false=>match Fast.tw6613529449190102663 a b t with
   |false=>none
   |true=>match Fast.tw10156331382660048174 (Fast.tw11892475500146522536 Fast.tw14364793385576792824) p w s t with
    |some (s',t')=>qo p w a b n s' t'
    |none=>none
theorem tS {p:Program}{w:World}{a:Nat}{b:Option Value}:∀ {n:Nat} {s s':SharedT} {t:Thread},qo p w a b n s t=some s'->topRun treeTable p w a b n s.abs t=some s'.abs
 |0,s,s',t,h=>by cases h
 |n+1,s,s',t,h=>by
  unfold qo at h;unfold topRun;rw[<-Fast.te6613529449190102663,<-Fast.te10156331382660048174,<-Fast.te11892475500146522536,<-Fast.te14364793385576792824]at h;cases ht:through t with
  |true=>rw[ht]at h;cases h;rfl
  |false=>
   rw[ht]at h;dsimp only at h ⊢;cases hk:stepOk a b t with
   |false=>rw[hk]at h;cases h
   |true=>
    rw[hk]at h;dsimp only at h ⊢;cases hs:stepT (denote treeTable) p w s t with
    |none=>rw[hs]at h;cases h
    |some r=>obtain⟨c,d⟩:=r;rw[hs]at h;rw[stepT_spec hs];exact tS h
noncomputable def kF {b:Type}:List b->List b×List b
 | []=>([],[])
 |a::r=>(a::(kF r).2,(kF r).1)
theorem vn {c:Type}:∀(l:List c) (i:Nat),(kF l).1[i]?=l[2*i]? /\(kF l).2[i]?=l[2*i+1]?
 | [],i=>by simp[kF]
 |a::r,i=>by
  have b:=vn r;refine⟨?_, ?_⟩
  ·show(a::(kF r).2)[i]?=_
   cases i with
   |zero=>rfl
   |succ i=>
    rw[Tf,(b i).2,show 2*(i+1)=(2*i+1)+1 from rfl,Tf]
  ·show(kF r).1[i]?=_
   rw[(b i).1,Tf]
theorem BD {b:Type}:∀(l:List b),(kF l).1.length+(kF l).2.length=l.length
 | []=>rfl
 |a::r=>by
  have:=BD r
  show(a::(kF r).2).length+(kF r).1.length=_
  simp;exact Rc this
noncomputable def tT:Nat->List Obj->BT
 |0,_=>.nil
 |_+1,[]=>.nil
 |k+1,x::xs=>.node x (tT k (kF xs).1) (tT k (kF xs).2)
theorem vo:∀(k:Nat) (l:List Obj) (i:Nat),l.length<=k->(tT k l).get i=l[i]?
 |0,l,i,h=>by
  have:l= []:=List.eq_nil_of_length_eq_zero (PX h);subst this;rfl
 |k+1,[],i,h=>rfl
 |k+1,x::xs,i,h=>by
  have c:=BD xs;have h':xs.length<=k:=by simpa using h
  show(BT.node x (tT k (kF xs).1) (tT k (kF xs).2)).get i=_
  rw[BT.get_node];by_cases b:i=0
  ·subst b;rw[Vw rfl];rfl
  ·rw[Vv b]
   obtain⟨i,rfl⟩:∃j,i=j+1:=⟨i-1,by exact(Nat.sub_add_cancel (Nat.pos_of_ne_zero b)).symm⟩;rw[Tf];by_cases a:(i+1)%2=1
   ·rw[Vw a,vo k _ _ (Rg c h'),(vn xs _).1];congr 1;exact QV a
   ·rw[Vv a,vo k _ _ (RO c h'),(vn xs _).2];congr 1;exact Sc a
def PP(s:Shared):SharedT:=⟨tT s.heap.objs.size s.heap.objs.toList,s.heap.objs.size,s.heap.life,s.gens,s.drawn,s.toks,s.os⟩
theorem KH(s:Shared):(PP s).abs=s:=by
 obtain⟨⟨⟨a⟩,d⟩,f,b,c,h⟩:=s
 show(⟨⟨((tT a.length a).list a.length).toArray,d⟩,f,b,c,h⟩:Shared)=_
 have e:(tT a.length a).list a.length=a:=by
  unfold BT.list;refine List.ext_getElem? λi=>?_;rw[T6];by_cases g:i<a.length
  ·rw[List.getElem?_range g]
   show some (((tT a.length a).get i).getD default)=_;rw[vo _ _ _ (Vi _),Ta g];rfl
  ·rw[Tq (by simpa using g),Tq (DB g)];rfl
 rw[e]
noncomputable def Hr(T:BT)(n:Nat)(a:Addr):Option Obj:=bif Nat.blt a n then alive ((T.get a).getD default)else none
theorem KJ(T:BT)(n:Nat)(l:Life):(absHeap T n l).get?=Hr T n:=by
 funext a
 unfold Heap.get? Hr;rw[absHeap_at];by_cases h:a<n
 ·rw[Vw h,show Nat.blt a n=true from Nat.ble_eq.mpr h,Vr]
  generalize (T.get a).getD default=o;obtain⟨c,d,b,e⟩:=o;cases b<;>rfl
 ·rw[Vv h,show Nat.blt a n=false from T4.mpr λq=>h (Nat.ble_eq.mp q)];rfl
noncomputable abbrev Fr:=Fast.tw8920871248978507458
def N4(p q:Program)(loose:List Str)(Xt:Shared->Bool){b:Type}(F:Heap->(Addr->Option Obj)->(Str->Option Value)->(Str->Option Value)->b)(c:Bool)(a:Heap)(s:SharedT):=
 match staticsOk (importedModules p.main.body) a s.abs.heap&&namesBound p s.abs.heap&&gensDone s.abs&&laidKept a s.abs.heap with
 |true=>some (Fast.tw4187177175401517315 q loose (importedModules p.main.body) Xt c s.abs,F s.abs.heap (Hr s.tree s.n) (Fr s.abs.heap mainGlobals) (Fr s.abs.heap builtinsNs))
 |false=>none
theorem LeftO.of_fast {p q:Program}{loose:List Str}{Xt:Shared->Bool}{f:Type}{F:Heap->(Addr->Option Obj)->(Str->Option Value)->(Str->Option Value)->f}{Ya:World->f}{N:Nat}{j:Bool}{H:Params->Heap}{d:Drawn}{k:Nat}
  (o:∀w:World,(fencedOpening treeTable p w N).map (λs=>(s.heap,s.gens,s.drawn,s.toks))=some (H w.params, #[],d,k))
  (z:∀w:World,(H w.params).isNs mainGlobals=true)
  (h:∀w c,(qo p w (H w.params).objs.size (Fr (H w.params) mainGlobals "__annotations__") N (PP ⟨H w.params, #[],d,k,c⟩) (topStub p)).bind (N4 p q loose Xt F j (H w.params))=some (openGood q loose,Ya w)):
  LeftO p q loose Xt (λs=>F s.heap s.heap.get? (s.heap.nsMap mainGlobals) (s.heap.nsMap builtinsNs)) Ya N j:=λw=>by
 obtain⟨⟨i,gs,d,k,c⟩,e,l⟩:=Tn.mp (o w);cases l;obtain⟨a,m,b⟩:=Th.mp (h w c);have g:=tS m;rw[KH,Fr,<-Fast.te8920871248978507458]at g;unfold N4 at b;rw[Fr,<-Fast.te8920871248978507458,<-Fast.te4187177175401517315,<-KJ a.tree a.n a.life]at b;unfold openEnds;rw[e]
 show(topFrom treeTable p w N _).map _=_
 unfold topFrom;dsimp only;rw[z w];rw[show(true&&(#[]:Array GenState).size==0)=true from rfl];dsimp only;rw[g]
 show(match staticsOk (importedModules p.main.body) (H w.params) a.abs.heap&&namesBound p a.abs.heap&&gensDone a.abs&&laidKept (H w.params) a.abs.heap with|true=>some a.abs|false=>none).map _=_
 cases hc:(staticsOk (importedModules p.main.body) (H w.params) a.abs.heap&&namesBound p a.abs.heap&&gensDone a.abs&&laidKept (H w.params) a.abs.heap)with
 |false=>rw[hc]at b;cases b
 |true=>rw[hc]at b;exact b
end Mine
end
noncomputable section
open PySem PySem.W PyProof.Rows PySem.Calls
namespace Mine
variable {d:Data} {v:Value}
open Challenge
noncomputable def KA:List Addr:= [2,3,65,64,62,45,44,257,256,247,228,227,225,550]
noncomputable def oi(g:Addr->Option Obj):Frag:=KA.filterMap λa=>(g a).map λo=>(a,o)
abbrev zs (h:Heap):Frag:=oi h.get?
noncomputable def Fs(o:Obj):Bool:=o.cls==.type "list"
noncomputable def Hs(K:Frag)(C:Addr):Bool:=findIn K (.ref C) "__eq__"==some (some (.builtin "object.__eq__"))&&mroIn K C (.type "object")==some true&&findIn K (.ref C) "__getattribute__"==some (some (.builtin "object.__getattribute__"))&&
 findIn K (.ref C) "__setattr__"==some (some (.builtin "object.__setattr__"))&&hasDictIn K C&&plainOver K C&&(["kind", "items", "attrs", "shared", "loose"]:List Str).all λa=>findIn K (.ref C) a==some none
noncomputable def xm(K:Frag)(C b:Addr):Bool:=makesIn K C&&keepIn K (.ref C)&&findIn K (.ref C) "__init__"==some (some (.ref b))&&typeIn K (.ref b)==some (.type "function")
noncomputable def N5(K:Frag)(C:Addr):Bool:=kin_notT K C "str"&&plainGet K C "__class__"&&hasDictIn K C&&findIn K (.ref C) "__class__"==some (some (.builtin "object.__class__"))&&
 specialIn K (.builtin "object.__class__") "__get__"==some (some (.builtin "getset_descriptor.__get__"))&&takesIn K (.builtin "object.__class__")==some true&&mroIn K C (.type "object")==some true
theorem cw {a:Type}{o:Option a}{p:a->Bool}(h:o.any p=true):∃x,o=some x/\p x=true:=by
 induction o using Vx with
 |none=>exact ff h
 |some x=>exact⟨x,rfl,h⟩
theorem an {a b:Bool}(h:(a&&b)=true):a=true/\b=true:=Tu.mp h
noncomputable def Ht(d:Data):Option (Array Value):=by
 induction d using PySem.Data.casesOn with
 |seq vs=>exact some vs
 |_=>exact none
noncomputable def Hu(d:Data):Option (Array Value):=by
 induction d using PySem.Data.casesOn with
 |fields vs=>exact some vs
 |_=>exact none
noncomputable def Hv(d:Data):Option FuncData:=by
 induction d using PySem.Data.casesOn with
 |func fd=>exact some fd
 |_=>exact none
noncomputable def N6(d:Data):Bool:=by
 induction d using PySem.Data.casesOn with
 |plain=>exact true
 |_=>exact false
noncomputable def rQ(v:Value):Option Addr:=by
 induction v using PySem.Value.casesOn with
 |ref a=>exact some a
 |_=>exact none
noncomputable def N7(v:Value):Option Str:=by
 induction v using PySem.Value.casesOn with
 |str a=>exact some a
 |_=>exact none
noncomputable def ID(v:Value):Option Int:=by
 induction v using PySem.Value.casesOn with
 |int a=>exact some a
 |_=>exact none
noncomputable def Ds(v:Value):Bool:=by
 induction v using PySem.Value.casesOn with
 |none=>exact true
 |_=>exact false
noncomputable def Ss(k:Const):Bool:=by
 induction k using PySem.Const.casesOn with
 |none=>exact true
 |_=>exact false
def IE(e:Expr):Bool:=by
 induction e using PySem.Expr.casesOn with
 |Constant k=>exact Ss k
 |_=>exact false
theorem BE {vs:Array Value}(h:Ht d=some vs):∃n,d=.seq vs n:=by
 induction d using VF with
 |seq vs n=>rw[UB h];exact⟨n,rfl⟩
 |_=>exact ns h
theorem BF {vs:Array Value}(h:Hu d=some vs):d=.fields vs:=by
 induction d using VF with
 |fields vs=>exact Vs Data.fields (UB h)
 |_=>exact ns h
theorem KK {vs:FuncData}(h:Hv d=some vs):d=.func vs:=by
 induction d using VF with
 |func vs=>exact Vs Data.func (UB h)
 |_=>exact ns h
theorem KL(h:N6 d=true):d=.plain:=by
 induction d using VF with
 |plain=>rfl
 |_=>exact ff h
theorem mY {a:Addr}(h:rQ v=some a):v=.ref a:=by
 induction v using VG with
 |ref=>exact Vs Value.ref (UB h)
 |_=>exact ns h
theorem KM {a:Str}(h:N7 v=some a):∃t,v=.str a t:=by
 induction v using VG with
 |str a t=>rw[UB h];exact⟨t,rfl⟩
 |_=>exact ns h
theorem zv {i:Int}(h:ID v=some i):∃t,v=.int i t:=by
 induction v using VG with
 |int a t=>rw[UB h];exact⟨t,rfl⟩
 |_=>exact ns h
theorem vp(h:Ds v=true):v=.none:=by
 induction v using VG with
 |none=>rfl
 |_=>exact ff h
theorem KN {e:Expr}(h:IE e=true):∃k p,e=.Constant .none k p:=by
 induction e using VE with
 |Constant k i p=>induction k using PySem.Const.casesOn with
  |none=>exact aV i p rfl
  |_=>exact ff h
 |_=>exact ff h
noncomputable def Su(K:Frag):Bool:=(clsIn K 65).any (λa=>a.mro== [.ref 65,.ref 45,.type "Exception",.type "BaseException",.type "object"]&&(a.hasDict&& !a.hasDel))&&
 (specialIn K (.ref 65) "__call__"==some (some (.builtin "type.__call__"))&&(instIn K (.ref 65) (.type "type")==some true&&(keepIn K (.ref 65)&&(findIn K (.ref 65) "__setattr__"==some (some (.builtin "object.__setattr__"))&&
 (findIn K (.ref 65) "__getattribute__"==some (some (.builtin "BaseException.__getattribute__"))&&(findIn K (.ref 65) "__getattr__"==some none&&(findIn K (.ref 65) "message"==some none&&
 (findIn K (.ref 65) "__init__"==some (some (.ref 62))&&(typeIn K (.ref 62)==some (.type "function")&&
 (K.lookup 65).any λo=>o.cls==.type "type"&&(o.slots.size==6&&o.slots[4]?==some (some (.builtin "Exception.__new__"))))))))))))
def zx(g:Addr->Option Obj)(n:Str->Option Value)(x:Str)(a b:Int):Bool:=((n x).bind rQ).any λT=>T !=548&&(g T).any λo=>o.cls==.type "tuple"&&(Ht o.data).any λvs=>vs.toList.map ID== [some a,some b]
abbrev Sv (h:Heap):=zx h.get? (h.nsMap mainGlobals)
def Hw(n:Str->Option Value)(x:Str)(a:Int):Bool:=(n x).bind ID==some a
abbrev Sw (h:Heap):=Hw (h.nsMap mainGlobals)
noncomputable def zy(n b:Str->Option Value)(x:Str)(v:Value):Bool:=(n x).isNone&&b x==some v
noncomputable abbrev N8 (h:Heap):=zy (h.nsMap mainGlobals) (h.nsMap builtinsNs)
def Sx(g:Addr->Option Obj)(n:Str->Option Value):Bool:=((n "__builtins__").bind rQ).any λbm=>bm !=builtinsNs&&(bm !=mainGlobals&&(bm !=548&&(g bm).any λo=>o.cls==.type "module"&&(o.dict==some builtinsNs&&N6 o.data)))
def N9(g:Addr->Option Obj):Bool:=(g 548).any λo=>Ds o.cls&&(o.dict.isNone&&((Hu o.data).any (λps=>ps.size==0)&&o.slots.size==0))
theorem KO {g:Addr->Option Obj}(h:N9 g=true):g 548=some (tabObj #[]):=by
 refine aa (cw h) λo l h=>af (an h) λj h=>af (an h) λf h=>af (an h) λa e=>aa (cw a) λps a k=>?_;obtain⟨c,d,i,b⟩:=o;rw[l,show c=.none from vp j,show d=none from S8.mp f,show i=.fields ps from BF a,Array.eq_empty_of_size_eq_zero (Vl.mp k),show b= #[] from Array.eq_empty_of_size_eq_zero (Vl.mp e)]
def tU(n:Str->Option Value)(x:Str):Addr:=((n x).bind rQ).getD 548
abbrev xn (h:Heap):=tU (h.nsMap mainGlobals)
noncomputable def IF(s:Stmt):Option Str:=by
 induction s using Stmt.casesOn with
 |FunctionDef n=>exact some n
 |_=>exact none
noncomputable def defNames:List Str:=pw_nz0488_01.main.body.filterMap IF
def jb:Option Fn:=(pw_nz0488_01.main.body.find? (fe "Refusal")).bind xI
def IG(g:Addr->Option Obj)(a:Value)(q:Str):Bool:=(rQ a).any λc=>(g c).any λo=>(Hu o.data).any λvs=>(vs[1]?.bind N7).any λn=>Fast.sEq n q
theorem Hx {h:Heap}{a:Value}{q:Str}(x:IG h.get? a q=true):h.CodeRec a q:=
 aa (cw x) λc i x=>aa (cw x) λo f x=>aa (cw x) λvs b x=>aa (cw x) λn e x=>aa (Th.mp e) λv j g=>am (KM g) λt k=>
  ⟨c,o,vs,t,mY i,f,BF b,by rw[j,k,Fast.sEq_iff.mp x]⟩
def IH(g:Addr->Option Obj)(f:Fn)(fd:FuncData):Bool:=(f.params.defaults.isEmpty&&Ds fd.defaults)||((fI f.params.defaults).any IE&&(!f.params.args.isEmpty&&(rQ fd.defaults).any λT=>T !=548&&(g T).any λa=> !Fs a&&(Ht a.data).any λvs=>(fI vs.toList).any Ds))
def Ft(g:Addr->Option Obj)(x:Str)(f:Option Fn)(a:Addr):Bool:=f.any λf=>a !=548&&(g a).any λo=>(Hv o.data).any λfd=>
 IG g fd.code fd.qualname&&(fd.code !=.ref 548&&((if x== "law" then fd.code==.ref 550&&fd.qualname==("law":Str)else true)&&IH g f fd))
abbrev Oa (h:Heap):=Ft h.get?
def Sy(h:Heap)(g:Addr->Option Obj)(n b:Str->Option Value):List Bool:=
 [h.isNs mainGlobals,h.isNs builtinsNs,h.noLimitOk,(g sysModules).isSome,(oi g).all λp=> !Fs p.2,
 zx g n "NAN" 0 0,zx g n "INF" 1 0,zx g n "ZERO" 0 1,zx g n "ONE" 1 1,Hw n "MOST_POWER" 4096,Hw n "MOST_INTEGER" 2147483647,
 Hs (oi g) 257,Hs (oi g) 228,xm (oi g) 257 247,xm (oi g) 228 225,N5 (oi g) 257,Su (oi g),
 (["len", "abs", "max", "min", "list", "dict", "chr", "str"]:List Str).all (λx=>zy n b x (iS x)),zy n b "range" (.type "range"),zy n b "isinstance" (.builtin "isinstance"),
 n "Vector"==some (.ref 257),n "Null"==some (.ref 228),n "Refusal"==some (.ref 65),codeHdIn (oi g) 550 548,Sx g n,N9 g,
 defNames.all (λx=>(n x).isSome&&Ft g x (ai.fn x) (tU n x)),Ft g "__init__" (ai.init "Vector") 247,Ft g "__init__" (ai.init "Null") 225,Ft g "__init__" jb 62]
def Ob(h:Heap)(g:Addr->Option Obj)(n b:Str->Option Value):Bool:=(Sy h g n b).all id
theorem be {l:List Bool}(h:l.all id=true)(i:Nat){b:Bool}(e:l[i]?=some b):b=true:=Ud.mp h b (TB e)
abbrev obs (h:Heap):Bool:=Ob h h.get? (h.nsMap mainGlobals) (h.nsMap builtinsNs)
noncomputable abbrev zA:=FuncBody×Scope×Addr×Addr×List (Str×Addr)×Arguments
def zB(g:Addr->Option Obj)(a:Addr):Option zA:=(g a).bind λo=>(Hv o.data).map λfd=>(fd.body,fd.scope,fd.globals,fd.builtins,fd.closure,fd.params)
abbrev BG (h:Heap):=zB h.get?
noncomputable def kG(f:Fn):zA:=(.stmts f.body,f.scope,mainGlobals,builtinsNs,[],⟨[],f.params.args,none,[],[],none,f.params.defaults⟩)
def PQ(h:Heap)(g:Addr->Option Obj)(n b:Str->Option Value):Bool×List (Option zA):=(Ob h g n b,zB g 247::zB g 225::zB g 62::defNames.map λx=>zB g (tU n x))
abbrev Yf (s:Shared):Bool×List (Option zA):=PQ s.heap s.heap.get? (s.heap.nsMap mainGlobals) (s.heap.nsMap builtinsNs)
def Ya(_:World):Bool×List (Option zA):=(true,(ai.init "Vector").map kG::(ai.init "Null").map kG::jb.map kG::defNames.map λx=>(ai.fn x).map kG)
end Mine
end
noncomputable section
open PySem PySem.W PyProof.Rows
namespace Mine
open Challenge
def IJ(x:Stmt):Bool:=fe "law" x
def qv:Program:= {pw_nz0488_01 with main:= {pw_nz0488_01.main with body:=pw_nz0488_01.main.body.filter IJ} }
def KP(s:Stmt):List Str:=by
 induction s using Stmt.casesOn with
 |FunctionDef n=>exact [n]
 |ClassDef n=>exact [n]
 |Assign t=>exact(((fI t).bind mh).map λn=> [n]).getD []
 |_=>exact []
def zC:List Str:=(pw_nz0488_01.main.body.filter λs=> !IJ s).flatMap KP
theorem Pg(w:World):(fencedOpening treeTable pw_nz0488_01 w 6304).map (λs=>(s.heap,s.gens,s.drawn,s.toks))=some (boot_heap w.params, #[],boot_drawn,boot_toks):=
 boot_open (p:=pw_nz0488_01) (N:=6304) rfl rfl (λZ=>rfl) w
set_option maxRecDepth 1000000 in
set_option maxHeartbeats 0 in
theorem left:LeftO pw_nz0488_01 qv zC (λZ=>true) Yf Ya 6304:=LeftO.of_fast (F:=PQ) Pg (λw=>by kernel_rfl) (by
 intro w a
 kernel_rfl)
end Mine
end
noncomputable section
open PySem PySem.W PyProof.Rows PySem.Calls
set_option maxRecDepth 100000
namespace Mine
variable {a C:Addr} {o:Obj} {x:Str} {f:Fn} {h:Heap} {φ:al}
open Challenge
noncomputable def Ph:ScopeKind->Bool
 |.function=>true
 |_=>false
def oj(f:Fn):Bool:=Ph f.scope.kind&& !f.scope.isGenerator&& !f.scope.isCoroutine&&decide (f.scope.names.map (·.1)).Nodup&&decide (f.params.args.map (·.arg)).Nodup
def Pi:List Bool:= [defNames.all (λx=> !(x==("__debug__":Str))&&(ai.fn x).all oj),(ai.init "Vector").all oj,(ai.init "Null").all oj,jb.all oj]
noncomputable def KQ:Bool:=Pi.all id
theorem iN:KQ=true:=by kernel_rfl
structure RefShape (f:Fn):Prop where
 body:∃p1 p2 p3 p4,f.body= [.Assign [.Attribute (.Name "self" p1) "message" p2] (.Name "message" p3) p4]
 args:f.params.args.map (·.arg)=(["self", "message"]:List Str)
 dflt:f.params.defaults= []
 s:f.scope.names.lookup ("self":Str)=some .local
 m:f.scope.names.lookup ("message":Str)=some .local
 names:∀x∈f.scope.names,x.2≠ .cell
theorem BH:jb.isSome=true:=by kernel_rfl
noncomputable def IK:Fn:=jb.get BH
theorem Ao:∃f,jb=some f/\RefShape f:=by
 refine⟨IK,(Option.some_get BH).symm,⟨⟨20,8,20,12⟩,⟨20,8,20,20⟩,⟨20,23,20,30⟩,⟨20,8,20,30⟩,by kernel_rfl⟩,by kernel_rfl,by kernel_rfl,by kernel_rfl,by kernel_rfl,λx c e=>?_⟩;have a:(IK.scope.names.all λx=> !(x.2==.cell))=true:=by kernel_rfl
 have b:=Ud.mp a x c;rw[e]at b;exact absurd b (by decide)
theorem Dt {K:Frag}{d:ClassData}(h:K.lookup a=some o)(e:clsIn K a=some d):o.data=.cls d:=by
 unfold clsIn at e;rw[h]at e;obtain⟨i,j,b,g⟩:=o;induction b using VF with
 |cls c=>exact Vs Data.cls (UB e)
 |_=>exact ns e
theorem qq {b:Type}{n:Nat}{l:List b}(h:l.length=n+1):∃x r,l=x::r/\r.length=n:=by
 induction l using Vz with
 |nil=>exact nomatch h
 |cons x r=>exact aV x r ⟨rfl,Vd h⟩
theorem SP {j:Type}{a:Array j}(h:a.size=6):∃b c i d g e,a= #[b,c,i,d,g,e]:=by
 obtain⟨l⟩:=a;refine cY (qq h) λb r p h=>cY (qq h) λc r t h=>cY (qq h) λi r m h=>cY (qq h) λd r n h=>cY (qq h) λg r q h=>cY (qq h) λe r k h=>Lg b c i d g e (Vs Array.mk ((show l=b::_ from p).trans (by rw[t,m,n,q,k,Tg.mp h])))
theorem Hy {b:Stmt}(d:nj b=some f)(c:fe x b=true):IF b=some x:=by
 induction b using PySem.Stmt.casesOn with
 |FunctionDef n=>exact Vs some (Fast.sEq_iff.mp c)
 |_=>exact ns d
theorem BI(h:ai.fn x=some f):x∈Mine.defNames:=by
 refine aa (Th.mp (show(pw_nz0488_01.main.body.find? (fe x)).bind nj=some f from h)) λd b c=>TV.mpr ⟨_,List.mem_of_find?_eq_some b,Hy c (List.find?_some b)⟩
noncomputable def IL(x:Str):Option Addr:=if x= "Vector" then some 257 else if x= "Null" then some 228 else none
def fh(w:World)(s:Shared)(h:Heap)(c:Addr)(b:Obj):Wd:=⟨pw_nz0488_01,w,zs s.heap,s.heap.nsMap mainGlobals,s.heap.nsMap builtinsNs,⟨IL,550,548, #[],b⟩,hideAll h [548,c],65,ai⟩
structure Ran (w:World) (s:Shared) (h:Heap) (sa:Addr) (so:Obj):Prop where
 seen:Yf s=Ya w
 keep:∀b o,s.heap.get? b=some o->h.get? b=some o
 at_:h.get? sa=some so
 cls:so.cls=.type "list"
 seq:∃vs n,so.data=.seq vs n
section
variable {w:World} {s:Shared} {h:Heap} {sa:Addr} {so:Obj}
theorem Ran.toB(r:Ran w s h sa so)(e:s.heap.get? a=some o)(c:a≠548)(b:o.cls≠ .type "list"\/ ∀vs n,o.data≠ .seq vs n):(fh w s h sa so).B.get? a=some o:=by
 refine hideAll_get [548,sa] (r.keep _ _ e) λq=>?_;simp only[UR,Uj,or_false]at q;rcases q with q|q
 ·exact c q
 ·subst q
  have:=(r.keep _ _ e).symm.trans r.at_;cases this;rcases b with b|b
  ·exact b r.cls
  ·obtain⟨vs,n,d⟩:=r.seq;exact b vs n d
theorem Ran.obs(r:Ran w s h sa so):Mine.obs s.heap=true:=Vs Prod.fst r.seen
theorem KS {h:Heap}(e:(zs h).lookup a=some o):(a,o)∈zs h:=by
 have:∀l:List (Addr×Obj),l.lookup a=some o->(a,o)∈l:=by
  intro l;induction l with
  |nil=>intro q;cases q
  |cons p r ih=>
   obtain⟨b,x⟩:=p;intro q;rw[Uh]at q;by_cases c:(a==b)=true
   ·rw[c]at q;cases q;rw[Vl.mp c];simp
   ·have d:(a==b)=false:=by simpa using c
    rw[d]at q;exact TA _ (ih q)
 exact this _ e
theorem Ran.K(r:Ran w s h sa so):(zs s.heap).In (fh w s h sa so).B:=λa o e=>by
 have g:=KS e;have c:=Ud.mp (be r.obs 4 rfl) _ g;obtain⟨b,j,d⟩:=TV.mp g;obtain⟨l,k,i⟩:=Tn.mp d;cases i;refine r.toB k (λq=>?_) (.inl λq=>?_)
 ·subst q;exact absurd j (by decide)
 ·unfold Fs at c;rw[q]at c;exact absurd c (by decide)
theorem Ran.ns(r:Ran w s h sa so)(b:a≠548)(e:s.heap.isNs a=true):(fh w s h sa so).B.Ns a (s.heap.nsMap a):=by
 obtain⟨o,g,ep,c,d,x⟩:=Heap.Ns.of_isNs e;exact⟨o,g,ep,r.toB c b (.inr λvs n q=>by rw[d]at q;cases q),d,x⟩
theorem eh {c:Type}[BEq c][LawfulBEq c]{a b:c}(h:(a !=b)=true):a≠b:=bne_iff_ne.mp h
theorem Hz(h:(!Fs o)=true):o.cls≠ .type "list":=λq=>by
 unfold Fs at h;rw[q]at h;exact absurd h (by decide)
theorem Oc(h:oj f=true):f.scope.kind=.function/\f.scope.isGenerator=false/\f.scope.isCoroutine=false/\(f.scope.names.map (·.1)).Nodup/\(f.params.args.map (·.arg)).Nodup:=by
 refine af (an h) λh g=>af (an h) λh c=>af (an h) λh e=>af (an h) λb d=>⟨?_,T5 _▸d,T5 _▸e,Ub c,Ub g⟩;generalize f.scope.kind=k at b;induction k using ScopeKind.casesOn with
 |function=>rfl
 |_=>exact ff b
theorem KT(r:Ran w s h sa so){fd:FuncData}(e:IH s.heap.get? f fd=true):(f.params.defaults= []/\fd.defaults=.none)\/(∃k p T c n,f.params.defaults= [.Constant .none k p]/\f.params.args≠ []/\fd.defaults=.ref T/\(fh w s h sa so).B.get? T=some c/\c.data=.seq #[.none] n):=by
 refine(Bool.or_eq_true_iff.mp e).elim (λq=>af (an q) λb g=>.inl ⟨Uf.mp b,vp g⟩) λq=>.inr<|af (an q) λb q=>af (an q) λg q=>aa (cw b) λd l b=>cI (KN b) λk p u=>aa (cw q) λT t q=>af (an q) λi q=>aa (cw q) λc m q=>af (an q) λj q=>aa (cw q) λvs A q=>aa (cw q) λv D q=>am (BE A) λn y=>xo k p T c n ⟨by rw[dp l,u],λz=>by rw[z]at g;exact ff g,mY t,r.toB m (eh i) (.inl (Hz j)), ?_⟩;rw[y,show vs= #[.none] from Array.toList_inj.mp ((dp D).trans (by rw[vp q]))]
theorem HA {fd:FuncData}(e:(fd.body,fd.scope,fd.globals,fd.builtins,fd.closure,fd.params)=kG f):fd.body=.stmts f.body/\fd.scope=f.scope/\fd.globals=mainGlobals/\fd.builtins=builtinsNs/\fd.closure= []/\fd.params=⟨[],f.params.args,none,[],[],none,f.params.defaults⟩:=
 ⟨Vs (·.1) e,Vs (·.2.1) e,Vs (·.2.2.1) e,Vs (·.2.2.2.1) e,Vs (·.2.2.2.2.1) e,Vs (·.2.2.2.2.2) e⟩
theorem zE(r:Ran w s h sa so)(i:Oa s.heap x (some f) a=true)(j:BG s.heap a=some (kG f))(u:oj f=true):FuncOk (fh w s h sa so) x f a:=by
 refine HK (Oc u) λp N P H A=>⟨?_,p,N,P,H,A⟩;refine aa (Th.mp j) λo m j=>aa (Tn.mp j) λfd hd j=>af (an i) λD i=>aa (cw i) λS l i=>?_;rw[<-UB (m.symm.trans l)]at i;refine aa (cw i) λF k i=>?_;rw[<-UB (hd.symm.trans k)]at i;refine af (an i) λk1 i=>af (an i) λk2 i=>af (an i) λk3 z=>?_;have hd:=KK hd;refine BM (HA j) λE J L B G I=>aV o fd ⟨r.toB m (eh D) (.inr λvs n q=>by rw[hd]at q;exact nomatch q),hd,E,J,L,B,G, ?_,I,λq=>?_,KT r z⟩
 ·refine mZ (Hx k1) λc y vs t e g d v=>⟨c,y,vs,t,e,r.toB g (λq=>eh k2 (by rw[e,q])) (.inr λvs n q=>by rw[d]at q;exact nomatch q),d,v⟩
 ·rw[q,Vw (beq_self_eq_true _)]at k3
  exact af (an k3) λa b=>⟨Vl.mp a,Vl.mp b⟩
end
open Challenge
section
variable {w:World} {s:Shared} {h:Heap} {sa:Addr} {so:Obj}
theorem ib {b:Type}{c:Prop}[Decidable c]{a v:b}{o:Option b}{P:Prop}(e:(if c then some a else o)=some v)(h:c->v=a->P)(k:o=some v->P):P:=by
 by_cases q:c
 ·rw[Vw q]at e;exact h q (UB e).symm
 ·rw[Vv q]at e;exact k e
theorem HB {c:Str}(e:IL c=some C):(c= "Vector"/\C=257)\/(c= "Null"/\C=228):=
 ib e (λa b=>.inl ⟨a,b⟩) λe=>ib e (λa b=>.inr ⟨a,b⟩) λe=>ns e
theorem zF {P:Str->V->Prop}(i:P "NAN" (.tup [.int 0,.int 0]))(c:P "INF" (.tup [.int 1,.int 0]))(j:P "ZERO" (.tup [.int 0,.int 1]))(k:P "ONE" (.tup [.int 1,.int 1]))(g:P "MOST_POWER" (.int 4096))(d:P "MOST_INTEGER" (.int 2147483647)){v:V}(e:jQ x=some v):P x v:=
 ib e (λa b=>a▸b▸i) λe=>ib e (λa b=>a▸b▸c) λe=>ib e (λa b=>a▸b▸j) λe=>ib e (λa b=>a▸b▸k) λe=>ib e (λa b=>a▸b▸g) λe=>ib e (λa b=>a▸b▸d) λe=>ns e
theorem KU {l:List Value}{a b:Int}(h:l.map ID= [some a,some b]):∃d c,l= [.int a d,.int b c]:=by
 induction l using Vz with
 |nil=>exact nomatch h
 |cons x r=>induction r using Vz with
  |nil=>exact nomatch (UP h).2
  |cons y r=>induction r using Vz with
   |nil=>
    refine am (zv (UP h).1) λd e=>am (zv (UP (UP h).2).1) λc g=>aV d c (by rw[e,g])
   |cons=>exact absurd (UP (UP h).2).2 (List.cons_ne_nil _ _)
theorem IM {T:String}{v:Value}(h:v=.type T)(k:(T== "list")=false):v≠ .type "list":=λq=>by
 have:T= "list":=Value.type.inj (h.symm.trans q);rw[this]at k;exact absurd k (by decide)
theorem tV(r:Ran w s h sa so){a b:Int}(e:Sv s.heap x a b=true):∃val,s.heap.nsMap mainGlobals x=some val/\ ∀φ h',(fh w s h sa so).B.StaysIn h'->VR φ h' (.tup [.int a,.int b]) val:=by
 refine aa (cw e) λT g e=>aa (Th.mp g) λv m g=>af (an e) λl e=>aa (cw e) λo j e=>af (an e) λc e=>aa (cw e) λvs k e=>am (BE k) λn hd=>cI (KU (Vl.mp e)) λp q d=>?_;have c:=Vl.mp c;refine⟨_,m,λφ h' i=>?_⟩;rw[mY g];exact .tup (i _ _ (r.toB j (eh l) (.inl (IM c (by decide))))) c hd (by rw[d];exact .cons (.int _ _) (.cons (.int _ _) .nil))
theorem Fu(r:Ran w s h sa so){a:Int}(e:Sw s.heap x a=true):∃val,s.heap.nsMap mainGlobals x=some val/\ ∀φ h',(fh w s h sa so).B.StaysIn h'->VR φ h' (.int a) val:=
 aa (Th.mp (Vl.mp e)) λv d c=>am (zv c) λt b=>⟨v,d,λφ h' Z=>by rw[b];exact .int _ _⟩
theorem zG {v:Value}(e:N8 s.heap x v=true):s.heap.nsMap mainGlobals x=none/\s.heap.nsMap builtinsNs x=some v:=by
 unfold N8 zy at e;simp only[Uc,S8,Vl]at e;exact e
theorem bq {c:Type}[BEq c][LawfulBEq c]{a b:c}(h:(a==b)=true):a=b:=Vl.mp h
theorem KV {a:Str}(b:jL a=true):a∈(["kind", "items", "attrs", "shared", "loose"]:List Str):=by
 unfold jL at b;simp only[Bool.or_eq_true,Ua]at b;simp only[UR,Uj,or_false];simpa only[or_assoc]using b
theorem Fv {K:Frag}(e:Hs K C=true):EqK K C/\ClsOk K C:=
 af (an e) λe l=>af (an e) λe g=>af (an e) λe c=>af (an e) λe j=>af (an e) λe i=>af (an e) λk d=>
  ⟨⟨bq k,bq d⟩,bq i,bq j,c,g,λa b=>bq (Ud.mp l a (KV b))⟩
theorem KW {K:Frag}{W:Wd}{b:Addr}(i:W.K=K)(e:xm K C b=true):MakeOk W C b:=by
 rw[<-i]at e;exact af (an e) λe g=>af (an e) λe d=>af (an e) λj c=>⟨j,c,bq d,bq g⟩
theorem Od {K:Frag}(e:N5 K C=true):IsiOk K C:=
 af (an e) λe k=>af (an e) λe d=>af (an e) λe b=>af (an e) λe i=>af (an e) λe g=>af (an e) λj c=>⟨j,c,g,bq i,bq b,bq d,bq k⟩
theorem HC {h:Heap}{f:Option Fn}(e:Oa h x f (xn h x)=true):h.nsMap mainGlobals x=some (.ref (xn h x)):=by
 refine aa (cw e) λf Z e=>af (an e) λb Z=>?_;have b:=eh b;unfold xn tU at b ⊢;induction hv:(h.nsMap mainGlobals x).bind rQ using Vx with
 |none=>rw[hv]at b;exact absurd rfl b
 |some a=>exact aa (Th.mp hv) λv d c=>d.trans (Vs some (mY c))
theorem vr(r:Ran w s h sa so):(BG s.heap 247=(ai.init "Vector").map kG/\BG s.heap 225=(ai.init "Null").map kG/\BG s.heap 62=jb.map kG)/\ ∀x∈Mine.defNames,BG s.heap (xn s.heap x)=(ai.fn x).map kG:=by
 have e:=Vs Prod.snd r.seen;exact⟨⟨(UP e).1,(UP (UP e).2).1,(UP (UP (UP e).2).2).1⟩,List.map_inj_left.mp (UP (UP (UP e).2).2).2⟩
theorem tW(e:ai.init x=some f):(x= "Vector"/\ai.init "Vector"=some f)\/(x= "Null"/\ai.init "Null"=some f):=by
 by_cases d:x= "Vector"
 ·subst d;exact .inl ⟨rfl,e⟩
 by_cases b:x= "Null"
 ·subst b;exact .inr ⟨rfl,e⟩
 have c:(if x= "Vector"\/x= "Null" then(pw_nz0488_01.main.body.find? (fe x)).bind xI else none)=some f:=e;rw[Vv (λq=>q.elim d b)]at c;cases c
theorem KX(b:xx x=true):x∈(["len", "abs", "max", "min", "list", "dict", "chr", "str"]:List Str):=by
 unfold xx at b;simp only[Bool.or_eq_true,Ua]at b;simp only[UR,Uj,or_false];simpa only[or_assoc]using b
theorem Ran.defs(r:Ran w s h sa so)(e:ai.fn x=some f):∃b,s.heap.nsMap mainGlobals x=some (.ref b)/\FuncOk (fh w s h sa so) x f b:=by
 have d:=BI e;have c:=(an (Ud.mp (be r.obs 26 rfl) x d)).2;have i:=(an (Ud.mp (be iN 0 rfl) x d)).2;have g:=(vr r).2 x d;rw[e]at c i g;exact⟨_,HC c,zE r c g i⟩
theorem Ran.initV(r:Ran w s h sa so){b:Addr}(i:IL x=some C)(k:s.heap.nsMap mainGlobals x=some (.ref C))(j:xm (zs s.heap) C b=true)(d:Oa s.heap "__init__" (ai.init x) b=true)(c:BG s.heap b=(ai.init x).map kG)(g:(ai.init x).all oj=true)(e:ai.init x=some f):
  ∃C b,(fh w s h sa so).cl.at_ x=some C/\(fh w s h sa so).mg x=some (.ref C)/\MakeOk (fh w s h sa so) C b/\FuncOk (fh w s h sa so) "__init__" f b:=by
 rw[e]at d c g;exact aV C b ⟨i,k,KW rfl j,zE r d c g⟩
theorem Ran.blt(r:Ran w s h sa so){x:Str}(b:xx x=true):s.heap.nsMap mainGlobals x=none/\s.heap.nsMap builtinsNs x=some (iS x):=zG (Ud.mp (be r.obs 17 rfl) x (KX b))
theorem Ran.clsA(r:Ran w s h sa so){b:Str}(e:IL b=some C):EqK (zs s.heap) C/\ClsOk (zs s.heap) C:=by
 rcases HB e with⟨_,q⟩|⟨_,q⟩
 ·rw[q];exact Fv (be r.obs 11 rfl)
 ·rw[q];exact Fv (be r.obs 12 rfl)
theorem Ran.inits(r:Ran w s h sa so)(e:ai.init x=some f):∃C b,(fh w s h sa so).cl.at_ x=some C/\(fh w s h sa so).mg x=some (.ref C)/\MakeOk (fh w s h sa so) C b/\FuncOk (fh w s h sa so) "__init__" f b:=by
 have t:=(vr r).1;rcases tW e with⟨q,c⟩|⟨q,c⟩
 ·rw[q];exact r.initV rfl (bq (be r.obs 20 rfl)) (be r.obs 13 rfl) (be r.obs 27 rfl) t.1 (be iN 1 rfl) c
 ·rw[q];exact r.initV rfl (bq (be r.obs 21 rfl)) (be r.obs 14 rfl) (be r.obs 28 rfl) t.2.1 (be iN 2 rfl) c
theorem Ran.mod(r:Ran w s h sa so):(fh w s h sa so).B.BuiltinsAt (fh w s h sa so).mg (fh w s h sa so).cl.tab:=by
 refine aa (cw (be r.obs 24 rfl)) λbm b e=>aa (Th.mp b) λv k b=>af (an e) λd e=>af (an e) λg e=>af (an e) λc e=>aa (cw e) λo j e=>af (an e) λo1 e=>af (an e) λo2 i=>?_;have o1:=bq o1;exact⟨bm,o,k.trans (Vs some (mY b)),eh d,eh g,eh c,r.toB j (eh c) (.inl (IM o1 (by decide))),o1,bq o2,KL i⟩
theorem Ran.names(r:Ran w s h sa so)(e:(ai.fn x).isSome\/(ai.init x).isSome):(x==("__debug__":Str))=false:=by
 rcases e with e|e
 ·refine am (Td.mp e) λf e=>?_
  have q:=(an (Ud.mp (be iN 0 rfl) x (BI e))).1;exact T5 _▸q
 ·refine am (Td.mp e) λf e=>?_
  rcases tW e with⟨q,_⟩|⟨q,_⟩<;>(rw[q];decide)
theorem Ran.wd(r:Ran w s h sa so)(d:∃o,(fh w s h sa so).B.get? sysModules=some o):WdOk7 (fh w s h sa so):=by
 have ob:=r.obs;refine {K:=r.K,g:=r.ns (by decide) (be ob 0 rfl),b:=r.ns (by decide) (be ob 1 rfl),lim:= ?_,consts:= ?_,sys:=d,cmp:=λi C e=>(r.clsA e).1,cls:=λi C e=>(r.clsA e).2,blt:=λZ=>r.blt,rng:=zG (be ob 18 rfl),isi:=zG (be ob 19 rfl),strT:=r.blt (x:= "str") (by decide),vec:=⟨257,rfl,bq (be ob 20 rfl),Od (be ob 15 rfl)⟩,code:=codeHd_of_K r.K (be ob 23 rfl),blt':=r.mod,gtab:=(by show mainGlobals≠548;decide),defs:=λZ Z=>r.defs,clss:=λZ Z=>r.inits,names:= ?_}
 ·have c:=be ob 2 rfl
  unfold Heap.noLimitOk at c;exact af (an c) λa b=>⟨_,r.ns (by decide) a,S8.mp b⟩
 ·exact λx v e=>zF (P:=λx v=>∃val,s.heap.nsMap mainGlobals x=some val/\ ∀φ h',(fh w s h sa so).B.StaysIn h'->VR φ h' v val) (tV r (be ob 5 rfl)) (tV r (be ob 6 rfl)) (tV r (be ob 7 rfl)) (tV r (be ob 8 rfl)) (Fu r (be ob 9 rfl)) (Fu r (be ob 10 rfl)) e
 ·intro x f e
  exact r.names (e.imp (λe=>by rw[show ai.fn x=some f from e];rfl) λe=>by rw[show ai.init x=some f from e];rfl)
theorem KY {h:Heap}{e:ClassData}(n:h.get? 65=some o)(hd:o.data=.cls e)(j:o.cls=.type "type")(y:o.slots.size=6)(p:o.slots[4]?=some (some (.builtin "Exception.__new__")))(b:e.mro= [.ref 65,.ref 45,.type "Exception",.type "BaseException",.type "object"])(m:e.hasDel=false):
  ∃nm q N bs D hdct sn sub ab col dd k0 k1 k2 k3 k5,h.get? 65=some ⟨.type "type",dd,.cls ⟨nm,bs,[.ref 65,.ref D,.type "Exception",.type "BaseException",.type "object"],N,q,hdct,sn,sub,ab,col,false⟩, #[k0,k1,k2,k3,some (.builtin "Exception.__new__"),k5]⟩:=by
 refine BO (SP y) λk0 k1 k2 k3 u k5 c=>?_;obtain⟨r,t,g,d⟩:=o;obtain⟨nm,bs,k,ns,v,i,sn,sub,ab,col,l⟩:=e
 replace hd:g=_:=hd
 replace j:r=_:=j
 replace c:d=_:=c
 replace b:k=_:=b
 replace m:l=_:=m
 rw[hd,j,c,b,m]at n;rw[show d[4]?=some u by rw[c];rfl]at p;rw[UB p]at n;exact⟨nm,v,ns,bs,45,i,sn,sub,ab,col,t,k0,k1,k2,k3,k5,n⟩
theorem Ran.ref(r:Ran w s h sa so):RefOk (fh w s h sa so):=by
 refine af (an (be r.obs 16 rfl)) λg e=>af (an e) λu e=>af (an e) λy e=>af (an e) λL e=>af (an e) λt e=>af (an e) λz e=>af (an e) λJ e=>af (an e) λv e=>af (an e) λH e=>af (an e) λk b=>?_;have l:=be r.obs 29 rfl;have i:=(vr r).1.2.2;have j:=be iN 3 rfl;refine aa Ao λf S d=>?_;rw[S]at l i j;have E:=zE r l i j
 clear l i j
 refine aa (cw g) λq n g=>af (an g) λc g=>af (an g) λG N=>aa (cw b) λo p b=>af (an b) λI b=>af (an b) λP b=>⟨bq (be r.obs 22 rfl),KY (r.K 65 _ p) (Dt p n) (bq I) (bq P) (bq b) (bq c) (T5 _▸N),⟨q,45,n,bq c,G⟩,bq u,bq y,L,bq t,bq z,bq J,bq v,62,f, ?_⟩;exact HM d.body λB F D U A=>vt B F D U ⟨bq H,bq k,E,A,d.args,d.dflt,d.s,d.m,d.names⟩
end
open Challenge
noncomputable abbrev bV:OpenRow:=rw_nz0488_01.row
theorem BJ:(defOf qv "law").isSome=true:=by kernel_rfl
def fV:DefRec×List (Str×Expr):=(defOf qv "law").get BJ
theorem BK:defOf qv bV.name=some (fV.1,fV.2):=(Option.some_get BJ).symm
def YP(w:World)(h:Heap):Prop:=∃s:Shared,Yf s=Ya w/\ ∀b o,s.heap.get? b=some o->h.get? b=some o
noncomputable def PS(d:WData):Option Int:=by
 induction d using WData.casesOn with
 |int i=>exact some i
 |_=>exact none
theorem SQ {d:WData}{i:Int}(h:PS d=some i):d=.int i:=by
 induction d using WData.casesOn with
 |int=>exact Vs WData.int (UB h)
 |_=>exact ns h
def BL(d:WData):V:=(PS d).elim .none .int
theorem KZ {d:WData}(h:WShape.has [] d .int=true):∃i,d=.int i:=by
 induction d using WData.casesOn with
 |int i=>exact⟨i,rfl⟩
 |_=>exact ff h
theorem HD(ds:List WData):WShape.hasItems [] ds .int=true-> ∀d∈ds,∃i,d=.int i:=by
 induction ds using List.rec with
 |nil=>exact λZ d hd=>absurd hd Uj
 |cons x xs ih=>
  intro h d hd;have h':=Tu.mp (show(WShape.has [] x .int&&WShape.hasItems [] xs .int)=true from h);exact(UR.mp hd).elim (λq=>by rw[q];exact KZ h'.1) λq=>ih h'.2 d q
theorem Fw {g:Str->Option Addr}(ds:List WData):∀ {vs:List Value} {as:List Addr},ReadsAllW [] g h vs ds as->(∀d∈ds,∃i,d=.int i)->VRs φ h (ds.map BL) vs:=by
 induction ds using List.rec with
 |nil=>exact λr Z=>by rw[(readsAllW_nil_inv r).1];exact .nil
 |cons d ds ih=>
  intro vs as r hd;refine mZ (readsAllW_cons_inv r) λv vs n p k m c l=>am (hd d (TU ..)) λi j=>?_;rw[j]at c ⊢;refine aa (readsW_int_inv c) λt e Z=>?_;rw[k,e];exact .cons (.int i t) (ih l λd b=>hd d (TA _ b))
theorem K0 {ds:List WData}(h:bV.pre.holds [] {args:= [.list ds] }=true):ds.length<=63:=by
 have a:bV.pre=.and (.not (.lt (.lit (.int 63)) (.len (.arg 0)))) (.lit (.bool true)):=rfl;have b:WTm.value [] (.lt (.lit (.int 63)) (.len (.arg 0))) {args:= [.list ds] }=some (.bool (decide ((63:Int)<(ds.length:Int)))):=rfl;rw[a]at h;by_cases d:(63:Int)<(ds.length:Int)
 ·rw[UL d]at b
  have c:WTm.value [] (.not (.lt (.lit (.int 63)) (.len (.arg 0)))) {args:= [.list ds] }=some (.bool false):=by rw[WTm.value,b];rfl
  unfold WTm.holds at h;rw[WTm.value,c]at h;cases h
 ·exact U1.mp (Vj.mp d)
theorem HE {x:WData}(h:WShape.has [] x (.list .int)=true):∃ds,x=.list ds/\WShape.hasItems [] ds .int=true:=by
 induction x using WData.casesOn with
 |list ds=>exact⟨ds,rfl,(Bool.or_false _).symm.trans (show((WShape.hasItems [] ds .int)||false)=true from h)⟩
 |_=>exact ff h
theorem Dw {args:List WData}(h:bV.claim.pre args=true):∃ds,args= [.list ds]/\(∀d∈ds,∃i,d=.int i)/\ds.length<=63:=by
 obtain⟨b,g⟩:=Tu.mp (show(WShape.hasAll [] args [.list .int]&&bV.pre.holds [] {args:=args})=true from h);induction args using Vz with
 |nil=>exact ff b
 |cons x r=>
  have b:=Tu.mp (show(WShape.has [] x (.list .int)&&WShape.hasAll [] r [])=true from b);induction r using Vz with
  |cons=>exact ff b.2
  |nil=>exact aa (HE b.1) λds e c=>⟨ds,by rw[e],HD ds c,K0 (e▸g)⟩
theorem Ap(ds:List WData)(h:∀d∈ds,∃i,d=.int i):qg (ds.map BL):=λv c=>by
 refine aa (U3.mp c) λd hd e=>am (h d hd) λi b=>⟨i, ?_⟩;rw[<-e,b];rfl
theorem Fx:nq ai "law"=true:=by kernel_rfl
theorem Aq:fV.1.name= "law":=defOf_name BK
theorem K4(ds:List WData):bV.claim.post [.list ds] (.bool true) [.list ds]=true:=by
 show(WShape.has [] (.bool true) .bool&&(WTm.eq .res (.lit (.bool true))).holds [] {args:= [.list ds],res:=some (.bool true),after:= [.list ds] })=true
 have a:WTm.value [] (.eq .res (.lit (.bool true))) {args:= [.list ds],res:=some (.bool true),after:= [.list ds] }=some (.bool (same (.bool true) (.bool true))):=rfl;have b:same (.bool true) (.bool true)=true:=by decide+kernel
 rw[b]at a;unfold WTm.holds;rw[a];rfl
theorem K8 {c:Cls}{d:Program}{w:World}{p:Addr×Aux}(q:ObjR c d w φ h p .tab):∃more,h.get? p.1=some (tabObj (c.ps++more)):=
 w3 q.tab' λa ps e Z b g Z Z=>am b λmore b=>⟨more,by rw[e,<-b];exact g⟩
theorem Fy {b:Cls}{c:Program}{w:World}{p:Addr×Aux}{l:List V}(q:ObjR b c w φ h p (.flist l)):h.get? p.1=some b.scr:=
 jc q.flist' λa vs n d Z Z g Z=>by rw[d];exact g
theorem Fz {a b c:Nat}(q:a∈ [b,c]):a=b\/a=c:=(UR.mp q).imp id TW.mp
theorem call:WalkO qv zC (λZ Z=>True) YP bV.toRowW fV.1 fV.2 (λf vs=>PySem.call f vs):=by
 intro w s₀ s₁ mg mb G Y fa o pm cd doc dV kV u hd hcd hD hmg hg args vals as H hlay X hwl W;obtain⟨s,hY,N⟩:=Y;obtain⟨ds,rfl,hi,y⟩:=Dw H;obtain⟨v,vs0,as1,as2,rfl,rfl,r1,r2⟩:=readsAllW_cons_inv X;obtain⟨rfl,rfl⟩:=readsAllW_nil_inv r2;obtain⟨c,vs,as',rfl,⟨E,d,m,n,F⟩,ri,rfl⟩:=readsW_list_inv r1;have r:Ran w s s₁.heap c E:=⟨hY,N,d,m,⟨vs,n,F⟩⟩;have ob:=r.obs;have n1:=be ob 0 rfl;have n4:=be ob 3 rfl;have m1:=be ob 23 rfl;have m3:=be ob 25 rfl;have D:c≠sysModules:=λe=>by have:=W c (by simp);rw[e]at this;simp at this
 have hb:∃o,(fh w s s₁.heap c E).B.get? sysModules=some o:=by
  obtain⟨U,e⟩:=Td.mp n4;refine⟨U,hideAll_get [548,c] (N _ _ e) λq=>?_⟩;exact(Fz q).elim (λq=>absurd q (by decide)) λq=>D q.symm
 have t0:=KO m3;have P:=N _ _ t0;have hne:(548:Nat)≠c:=λe=>by rw[<-e,P]at d;cases d;cases m
 have S:(fh w s s₁.heap c E).St (ao []) [(548,Aux.none),(c,Aux.none)] [.tab,.flist (ds.map BL)] s₁.heap:=by
  refine⟨λb o e=>of_hideAll _ e, ?_,λa ha=>hideAll_none _ ?_,rfl,λi p o k u=>?_,λf hf=>by cases hf⟩
  ·show [548,c].Nodup
   simp[hne]
  ·exact ha
  ·match i,k,u with
   |0,k,u=>
    cases k;cases u;exact .tab rfl ⟨#[],rfl⟩ P trivial λpos cv e=>by cases e
   |1,k,u=>
    cases k;cases u;exact .flist m F d (Fw ds ri hi)
   |i+2,k,_=>cases k
 have I:(fh w s s₁.heap c E).mg "law"=some (.ref fa):=by
  have e1:mg=s₁.heap.nsMap mainGlobals:=G.T.g.eq_nsMap;have e2:s.heap.nsMap mainGlobals=s₁.heap.nsMap mainGlobals:=((Heap.Ns.of_isNs n1).keeps N).eq_nsMap;show s.heap.nsMap mainGlobals "law"=_;rw[e2,<-e1,<-Aq];exact hmg
 have hA:At callerA [] (10*(24+1)):=⟨rfl,by decide,by decide,rfl,λe he=>by cases he⟩;obtain⟨J,eT,kT⟩:=Pf (wf:=4300) (j:=0) (S:=1) (h:= [.tab,.flist (ds.map BL)]) (l:=ds.map BL) rfl rfl (Ap ds hi) (by rw[Uw];show ds.length<=4096*4096;exact Ql y) (by decide);refine A4 (r.wd hb) r.ref (wf:=4300) (by decide) 24 10 callerA [] hA "law" (.ref fa) [.ref 1] [.ref c] s₁ _ _ _ _ Fx I S (.cons (.ref (p:=(c,Aux.none)) rfl) .nil) ?_;show aj _ [] [] VR (T ai 4300 24 (0+10) "law" [.ref 1] _) _ _ _ _;rw[eT];intro b h' tk A S' g z;cases z;have e0:A[0]?=some (548,Aux.none):=dq g.pre rfl;have e1:A[1]?=some (c,Aux.none):=dq g.pre rfl;have f0:J[0]?=some .tab:=kT.get _ _ (by simp) rfl;have f1:J[1]?=some (.flist (ds.map BL)):=kT.get _ _ (by simp) rfl;obtain⟨more,tb⟩:=K8 (S'.obj _ _ _ e0 f0);have sb:h'.get? c=some E:=Fy (S'.obj _ _ _ e1 f1);have L:∀b o,s₁.heap.get? b=some o->b≠548->h'.get? b=some o:=λb o e t=>by
  by_cases hs:b=c
  ·subst hs
   rw[d]at e;cases e;exact sb
  ·exact(g.kp b o e (λq=>by
    exact(Fz q).elim t hs)).1 Uj
 have cd:CodeHd s₁.heap 550 548:=(r.wd hb).code.keeps λb o e=>of_hideAll _ e;have ct:isCodeTable s₁.heap 548:=(cd.tab P).isCodeTable;refine⟨.inl ⟨_,.bool true,[],rfl,λcls=>rfl,.bool true,K4 ds,λZ=>⟨.nil,λa ha=>by cases ha⟩⟩,⟨λb o e=>?_,λb o e=>?_⟩,rfl,.of_eq hg⟩
 ·by_cases t:b=548
  ·subst t
   rw[P]at e;cases e;exact .inr (.inl ⟨ct,rfl, #[],more,rfl,tb⟩)
  ·exact .inl (L b o e t)
 ·by_cases t:b=548
  ·subst t;exact⟨_,tb⟩
  ·exact⟨o,L b o e t⟩
open Challenge
theorem hY(w:World)(s:Shared)(e:Yf s=Ya w):YP w s.heap:=⟨s,e,λZ Z e=>e⟩
theorem SR(w:World)(h h':Heap)(y:YP w h)(k:∀b o,h.get? b=some o->h'.get? b=some o):YP w h':=let⟨s,e,q⟩:=y;⟨s,e,λb o e=>k _ _ (q b o e)⟩
theorem La:bV.prog.theDef bV.name=some (fV.1.params,fV.1.body,fV.1.scope):=by kernel_rfl
theorem Oe:kwWritten? fV.1.params.kwonlyargs fV.1.params.kw_defaults=some fV.2:=by kernel_rfl
theorem Of:(chainsOk qv&&opensWell bV.prog&&(frees bV.toRowW&&bV.within.isEmpty))=true:=by kernel_rfl
theorem HF:bV.prog.bare:=⟨rfl,rfl,rfl,rfl,rfl,by decide+kernel⟩
theorem Ar:bV.toRowW.promised:=⟨[.list [.int 3,.int 1]],by decide+kernel,by decide+kernel⟩
theorem Lb:namesResolve bV.prog=true:=by rw[Fast.te8377067652309620493];kernel_rfl
theorem Lc:noRoadLSs {strict:= !(importedModules bV.prog.main.body).all cThrough.contains,foot:=none,bare:=(["vars", "dir", "locals"]:List Str).filter (readsOut bV.prog bV.prog.main.body) } bV.prog.main.body=true:=by rw[Fast.te8326940854005059898];kernel_rfl
theorem Ld:(namesMeet bV.prog bV.prog.main.body λZ n=>attrL n)=true:=by rw[Fast.te17119622794617984870];kernel_rfl
theorem HG:looksOpen bV.prog=true:=by
 unfold looksOpen;rw[Lb,Lc,Ld]
 kernel_rfl
theorem HH:bV.partSaid=true:=by
 unfold OpenRow.partSaid;rw[HG]
 kernel_rfl
theorem Og:bV.wellSaid=true:=by
 unfold OpenRow.wellSaid;rw[HH]
 kernel_rfl
theorem said_ok:rw_nz0488_01.wellSaid=true:=by
 unfold OpenLaw.wellSaid;rw[Og]
 kernel_rfl
open Challenge
theorem holds_of(b:rw_nz0488_01.row.wellSaid=true):rw_nz0488_01.row.Holds:=
 holds_open (r:=bV) (q:=qv) (loose:=zC) (Xt:=λZ=>true) (XP:=λZ Z=>True) (Yf:=Yf) (Ya:=Ya) (YP:=YP) (N:=6304) left hY SR (λZ Z=>trivial) (λZ Z Z Z Z=>trivial) BK La Oe (λs Z=>recFacts_nil rfl) rfl b Of HF Ar call
end Mine
theorem PySem.Challenge.cw_nz0488_01_holds : PySem.Challenge.rw_nz0488_01.Holds :=
 PySem.W.holds_law Mine.said_ok Mine.holds_of
end
