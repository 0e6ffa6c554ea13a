import PyProof.Rows.All
import Wide.All
import OpenK.AllK
import Wide.FinOn
import PySem.Challenge.RW_nz0488_01
set_option Elab.async false
set_option linter.all false
set_option tactic.hygienic false
noncomputable section
set_option linter.all false
set_option exponentiation.threshold 3000
namespace Mine
abbrev bv:=@List.take_succ_eq_append_getElem
abbrev IO:=@PyProof.Rows.assignInOrder_cons
abbrev SK:=@Array.getElem?_eq_some_iff
abbrev SL:=@Int.fdiv_eq_ediv_of_nonneg
abbrev SN:=@Int.fmod_eq_emod_of_nonneg
abbrev SO:=@Int.sign_eq_neg_one_of_neg
abbrev SP:=@List.getElem?_append_right
abbrev SQ:=@PySem.Heap.get?_none_of_le
abbrev SR:=@Int.natAbs_ediv_le_natAbs
abbrev SS:=@List.drop_eq_getElem_cons
abbrev ST:=@List.getElem?_append_left
abbrev SU:=@List.getElem?_eq_none_iff
abbrev SV:=@List.getElem?_eq_some_iff
abbrev SW:=@List.getLast?_eq_getElem?
abbrev SX:=@Option.isNone_iff_eq_none
abbrev SZ:=@Int.mul_ediv_cancel_left
abbrev S1:=@List.getElem?_eq_getElem
abbrev S4:=@Nat.gcd_pos_of_pos_right
abbrev S5:=@Option.isSome_iff_exists
abbrev S6:=@Int.mul_ediv_mul_of_pos
abbrev S7:=@List.getElem?_cons_succ
abbrev S8:=@List.length_eq_zero_iff
abbrev S9:=@Option.bind_eq_some_iff
abbrev Ta:=@PySem.F.plainAttrs_list
abbrev Te:=@Int.sign_eq_one_of_pos
abbrev Tf:=@Option.map_eq_some_iff
abbrev Th:=@List.getElem?_eq_none
abbrev Ti:=@List.getElem?_toArray
abbrev Tk:=@List.mem_append_right
abbrev Tl:=@PyProof.Rows.tail_any
abbrev Tm:=@Bool.and_eq_true_iff
abbrev Tn:=@Bool.or_eq_false_iff
abbrev To:=@Int.lt_iff_le_and_ne
abbrev Tq:=@Int.natAbs_of_nonneg
abbrev Tr:=@List.getElem?_set_ne
abbrev Ts:=@List.mem_append_left
abbrev Tt:=@List.mem_cons_of_mem
abbrev Tu:=@List.mem_of_getElem?
abbrev Tv:=@List.mem_of_mem_take
abbrev Tw:=@Nat.add_le_add_right
abbrev Tx:=@Nat.pow_le_pow_right
abbrev TB:=@Int.toNat_of_nonneg
abbrev TC:=@List.filterMap_cons
abbrev TD:=@List.replicate_succ
abbrev TE:=@Nat.add_le_add_left
abbrev TF:=@Nat.add_left_cancel
abbrev TG:=@Nat.add_lt_add_left
abbrev TH:=@Nat.mul_le_mul_left
abbrev TI:=@beq_eq_false_iff_ne
abbrev TJ:=@Bool.false_eq_true
abbrev TK:=@Int.lt_of_le_of_lt
abbrev TL:=@List.length_append
abbrev TM:=@List.mem_cons_self
abbrev TN:=@List.mem_filterMap
abbrev TO:=@List.mem_singleton
abbrev TP:=@List.prefix_append
abbrev TQ:=@List.zip_cons_cons
abbrev TR:=@Nat.add_right_comm
abbrev TT:=@Nat.lt_of_le_of_lt
abbrev TU:=@Nat.lt_of_lt_of_le
abbrev TV:=@Nat.one_lt_two_pow
abbrev TW:=@Bool.eq_false_iff
abbrev TX:=@Bool.not_eq_true'
abbrev TY:=@List.getElem?_map
abbrev TZ:=@List.nodup_append
abbrev T1:=@List.size_toArray
abbrev T2:=@Nat.lt_succ_of_le
abbrev T3:=@decide_eq_true_eq
abbrev T4:=@of_decide_eq_true
abbrev T5:=@Bool.and_eq_true
abbrev T6:=@List.all_eq_true
abbrev T7:=@List.getElem_mem
abbrev T8:=@List.isEmpty_iff
abbrev T9:=@List.length_cons
abbrev Ua:=@List.lookup_cons
abbrev Ub:=@List.mem_flatMap
abbrev Uc:=@List.not_mem_nil
abbrev Ud:=@List.prefix_refl
abbrev Ue:=@Nat.le_add_right
abbrev Uf:=@Nat.lt_add_right
abbrev Ug:=@Nat.lt_succ_self
abbrev Uh:=@Nat.succ_le_succ
abbrev Ui:=@Option.bind_some
abbrev Uj:=@decide_eq_decide
abbrev Um:=@List.append_nil
abbrev Un:=@List.forIn_cons
abbrev Uo:=@List.length_map
abbrev Uq:=@List.map_append
abbrev Ur:=@List.mem_append
abbrev Us:=@List.nodup_cons
abbrev Ut:=@List.range_succ
abbrev Uu:=@Option.some.inj
abbrev Uv:=@decide_eq_false
abbrev Uy:=@Bool.false_and
abbrev Uz:=@Bool.not_false
abbrev UB:=@Int.natAbs_mul
abbrev UC:=@Int.natAbs_neg
abbrev UD:=@decide_eq_true
abbrev UE:=@Int.mul_assoc
abbrev UF:=@Int.ofNat.inj
abbrev UG:=@List.any_cons
abbrev UH:=@List.cons.inj
abbrev UI:=@List.map_cons
abbrev UJ:=@List.mem_cons
abbrev UO:=@Int.le_of_lt
abbrev UP:=@Int.le_trans
abbrev UQ:=@Int.lt_trans
abbrev UR:=@Int.mul_comm
abbrev US:=@Int.ne_of_gt
abbrev UT:=@Int.ofNat_le
abbrev UU:=@Int.ofNat_lt
abbrev UV:=@List.mem_map
abbrev UW:=@Nat.gcd_comm
abbrev UX:=@Nat.le_of_eq
abbrev UY:=@Nat.le_of_lt
abbrev UZ:=@Nat.le_trans
abbrev U0:=@Nat.lt_trans
abbrev U1:=@Nat.ne_of_gt
abbrev U2:=@Nat.ne_of_lt
abbrev U3:=@Nat.sub_self
abbrev U4:=@Nat.succ.inj
abbrev U6:=@Int.mul_pos
abbrev U7:=@Int.pow_pos
abbrev U8:=@Nat.gcd_rec
abbrev U9:=@Nat.le_refl
abbrev Va:=@Int.not_lt
abbrev Vb:=@Nat.mod_lt
abbrev Vd:=@beq_iff_eq
abbrev Ve:=@cond_false
abbrev Vj:=@cond_true
abbrev Vk:=@congrArg
abbrev Vl:=@if_false
abbrev Vm:=@Ne.symm
abbrev Vn:=@if_neg
abbrev Vo:=@if_pos
noncomputable abbrev Vp:=@Option.casesOn.{0,0}
noncomputable abbrev Vr:=@List.casesOn.{0,0}
noncomputable abbrev Vs:=@Bool.casesOn.{0}
variable {P S U:Prop} {a b c d e:Nat}
theorem ns {f:Type}{a:f}(h:(none:Option f)=some a):P:=by cases h
theorem ff(h:false=true):P:=by cases h
theorem tt(h:a<=b)(k:b<=c):a<=c:=UZ h k
theorem tl(h:a<b):a<=b:=UY h
@[elab_as_elim] theorem nB {P:Int->Prop} (a:Int) (k:Nat) (d:∀n,n<k->P (n:Nat)) (p:0<=a) (q:a<k):P a:=by have:=d a.toNat ((Int.toNat_lt p).2 q);rwa [TB p]at this
@[elab_as_elim] theorem nA {P:Int->Prop} (a:Int) (k:Nat) (d:∀n,n<k->P (n:Nat)/\P (-(n:Nat))) (p:a.natAbs<k):P a:=(Int.natAbs_eq a).elim (λe=>e▸(d _ p).1) λe=>e▸(d _ p).2
theorem Pc {a:Int}(p:a.natAbs=1):a=1\/a= -1:=by have:=Int.natAbs_eq a;rwa [p]at this
theorem PL {a:Int}(p:0<=a)(q:a.natAbs=1):a=1:=(Tq p).symm.trans (Vk _ q)
theorem HC {a:Int}(p:0<=a):a.natAbs=a.toNat:=UF ((Tq p).trans (TB p).symm)
theorem sb {b:Int}(p:0<=b)(q:b<1024):b.natAbs<1024:=UU.mp (by rw[Tq p];exact q)
theorem KY {a b:Int}(p:a.natAbs<c)(q:b.natAbs<c):(a+b).natAbs<c*2:=TT (Int.natAbs_add_le a b) (Nat.mul_two c▸Nat.add_lt_add p q)
theorem b2 {a:Int}(p:0<=a)(q:a<2):a=0\/a=1:=nB a 2 (by decide+kernel) p q
theorem gp {a b c k:Nat}(h:k<=12)(p:a+12*(b+1)+300<=c):a+k+12*b+300<=c:=tt (Tw (by rw[Nat.add_assoc,Nat.add_comm k];exact TE (TE h _) _) 300) p
theorem aU {A B:Type}{P:A->B->Prop}(a:A)(b:B)(h:P a b):∃a b,P a b:=⟨a,b,h⟩
theorem bJ {A B C:Type}{P:A->B->C->Prop}(a:A)(b:B)(c:C)(h:P a b c):∃a b c,P a b c:=⟨a,aU b c h⟩
theorem vt {A B C D:Type}{P:A->B->C->D->Prop}(a:A)(b:B)(c:C)(d:D)(h:P a b c d):∃a b c d,P a b c d:=⟨a,bJ b c d h⟩
theorem xp {A B C D E:Type}{P:A->B->C->D->E->Prop}(a:A)(b:B)(c:C)(d:D)(e:E)(h:P a b c d e):∃a b c d e,P a b c d e:=⟨a,vt b c d e h⟩
theorem KZ {A B C D E F:Type}{P:A->B->C->D->E->F->Prop}(a:A)(b:B)(c:C)(d:D)(e:E)(f:F)(h:P a b c d e f):∃a b c d e f,P a b c d e f:=⟨a,xp b c d e f h⟩
theorem HD {A B C D E F G:Type}{P:A->B->C->D->E->F->G->Prop}(a:A)(b:B)(c:C)(d:D)(e:E)(f:F)(g:G)(h:P a b c d e f g):∃a b c d e f g,P a b c d e f g:=⟨a,KZ b c d e f g h⟩
section
variable {A B C D E F G H I J K L M N O Zz:Type} {X:Prop}
theorem af {Q:Prop}(h:P/\Q)(k:P->Q->X):X:=k h.1 h.2
theorem cQ {Q R:Prop}(h:P/\Q/\R)(k:P->Q->R->X):X:=k h.1 h.2.1 h.2.2
theorem fD {Q R:Prop}(h:P/\Q/\R/\S)(k:P->Q->R->S->X):X:=k h.1 h.2.1 h.2.2.1 h.2.2.2
theorem HE {Q R T:Prop}(h:P/\Q/\R/\S/\T)(k:P->Q->R->S->T->X):X:=k h.1 h.2.1 h.2.2.1 h.2.2.2.1 h.2.2.2.2
theorem BH {Q R T:Prop}(h:P/\Q/\R/\S/\T/\U)(k:P->Q->R->S->T->U->X):X:=k h.1 h.2.1 h.2.2.1 h.2.2.2.1 h.2.2.2.2.1 h.2.2.2.2.2
theorem Oa {Q R T V:Prop}(h:P/\Q/\R/\S/\T/\U/\V)(k:P->Q->R->S->T->U->V->X):X:=k h.1 h.2.1 h.2.2.1 h.2.2.2.1 h.2.2.2.2.1 h.2.2.2.2.2.1 h.2.2.2.2.2.2
theorem Ob {Q R T V W:Prop}(h:P/\Q/\R/\S/\T/\U/\V/\W)(k:P->Q->R->S->T->U->V->W->X):X:=k h.1 h.2.1 h.2.2.1 h.2.2.2.1 h.2.2.2.2.1 h.2.2.2.2.2.1 h.2.2.2.2.2.2.1 h.2.2.2.2.2.2.2
theorem Oc {Q R T V W Y:Prop}(h:P/\Q/\R/\S/\T/\U/\V/\W/\Y)(k:P->Q->R->S->T->U->V->W->Y->X):X:=k h.1 h.2.1 h.2.2.1 h.2.2.2.1 h.2.2.2.2.1 h.2.2.2.2.2.1 h.2.2.2.2.2.2.1 h.2.2.2.2.2.2.2.1 h.2.2.2.2.2.2.2.2
theorem am {A:Sort u}{P:A->Prop}(h:∃a,P a)(k:∀a,P a->X):X:=h.elim λa h=>k a h
theorem ac {P Q:A->Prop}(h:∃a,P a/\Q a)(k:∀a,P a->Q a->X):X:=h.elim λa h=>k a h.1 h.2
theorem aP {P Q R:A->Prop}(h:∃a,P a/\Q a/\R a)(k:∀a,P a->Q a->R a->X):X:=h.elim λa h=>cQ h (k a)
theorem Od {P Q R S:A->Prop}(h:∃a,P a/\Q a/\R a/\S a)(k:∀a,P a->Q a->R a->S a->X):X:=h.elim λa h=>fD h (k a)
theorem w3 {P Q R S T:A->Prop}(h:∃a,P a/\Q a/\R a/\S a/\T a)(k:∀a,P a->Q a->R a->S a->T a->X):X:=h.elim λa h=>HE h (k a)
theorem Oe {P Q R S T U:A->Prop}(h:∃a,P a/\Q a/\R a/\S a/\T a/\U a)(k:∀a,P a->Q a->R a->S a->T a->U a->X):X:=h.elim λa h=>BH h (k a)
theorem Of {P Q R S T U V:A->Prop}(h:∃a,P a/\Q a/\R a/\S a/\T a/\U a/\V a)(k:∀a,P a->Q a->R a->S a->T a->U a->V a->X):X:=h.elim λa h=>Oa h (k a)
theorem Og {P Q R S T U V W:A->Prop}(h:∃a,P a/\Q a/\R a/\S a/\T a/\U a/\V a/\W a)(k:∀a,P a->Q a->R a->S a->T a->U a->V a->W a->X):X:=h.elim λa h=>Ob h (k a)
theorem Oh {P Q R S T U V W Y:A->Prop}(h:∃a,P a/\Q a/\R a/\S a/\T a/\U a/\V a/\W a/\Y a)(k:∀a,P a->Q a->R a->S a->T a->U a->V a->W a->Y a->X):X:=h.elim λa h=>Oc h (k a)
theorem K0 {P Q R S T U V W Y f g:A->Prop}(h:∃a,P a/\Q a/\R a/\S a/\T a/\U a/\V a/\W a/\Y a/\f a/\g a)(k:∀a,P a->Q a->R a->S a->T a->U a->V a->W a->Y a->f a->g a->X):X:=h.elim λa h=>k a h.1 h.2.1 h.2.2.1 h.2.2.2.1 h.2.2.2.2.1 h.2.2.2.2.2.1 h.2.2.2.2.2.2.1 h.2.2.2.2.2.2.2.1 h.2.2.2.2.2.2.2.2.1 h.2.2.2.2.2.2.2.2.2.1 h.2.2.2.2.2.2.2.2.2.2
theorem cI {P:A->B->Prop}(h:∃a b,P a b)(k:∀a b,P a b->X):X:=h.elim λa h=>am h (k a)
theorem cY {P Q:A->B->Prop}(h:∃a b,P a b/\Q a b)(k:∀a b,P a b->Q a b->X):X:=h.elim λa h=>ac h (k a)
theorem aV {P Q R:A->B->Prop}(h:∃a b,P a b/\Q a b/\R a b)(k:∀a b,P a b->Q a b->R a b->X):X:=h.elim λa h=>aP h (k a)
theorem bM {P Q R S:A->B->Prop}(h:∃a b,P a b/\Q a b/\R a b/\S a b)(k:∀a b,P a b->Q a b->R a b->S a b->X):X:=h.elim λa h=>Od h (k a)
theorem bW {P Q R S T:A->B->Prop}(h:∃a b,P a b/\Q a b/\R a b/\S a b/\T a b)(k:∀a b,P a b->Q a b->R a b->S a b->T a b->X):X:=h.elim λa h=>w3 h (k a)
theorem w4 {P Q R S T U:A->B->Prop}(h:∃a b,P a b/\Q a b/\R a b/\S a b/\T a b/\U a b)(k:∀a b,P a b->Q a b->R a b->S a b->T a b->U a b->X):X:=h.elim λa h=>Oe h (k a)
theorem Oi {P Q R S T U V:A->B->Prop}(h:∃a b,P a b/\Q a b/\R a b/\S a b/\T a b/\U a b/\V a b)(k:∀a b,P a b->Q a b->R a b->S a b->T a b->U a b->V a b->X):X:=h.elim λa h=>Of h (k a)
theorem Oj {P Q R S T U V W:A->B->Prop}(h:∃a b,P a b/\Q a b/\R a b/\S a b/\T a b/\U a b/\V a b/\W a b)(k:∀a b,P a b->Q a b->R a b->S a b->T a b->U a b->V a b->W a b->X):X:=h.elim λa h=>Og h (k a)
theorem Ok {P Q R S T U V W Y:A->B->Prop}(h:∃a b,P a b/\Q a b/\R a b/\S a b/\T a b/\U a b/\V a b/\W a b/\Y a b)(k:∀a b,P a b->Q a b->R a b->S a b->T a b->U a b->V a b->W a b->Y a b->X):X:=h.elim λa h=>Oh h (k a)
theorem pP {P:A->B->C->Prop}(h:∃a b c,P a b c)(k:∀a b c,P a b c->X):X:=h.elim λa h=>cI h (k a)
theorem dK {P Q:A->B->C->Prop}(h:∃a b c,P a b c/\Q a b c)(k:∀a b c,P a b c->Q a b c->X):X:=h.elim λa h=>cY h (k a)
theorem bw {P Q R:A->B->C->Prop}(h:∃a b c,P a b c/\Q a b c/\R a b c)(k:∀a b c,P a b c->Q a b c->R a b c->X):X:=h.elim λa h=>aV h (k a)
theorem kG {P Q R S:A->B->C->Prop}(h:∃a b c,P a b c/\Q a b c/\R a b c/\S a b c)(k:∀a b c,P a b c->Q a b c->R a b c->S a b c->X):X:=h.elim λa h=>bM h (k a)
theorem jd {P Q R S T:A->B->C->Prop}(h:∃a b c,P a b c/\Q a b c/\R a b c/\S a b c/\T a b c)(k:∀a b c,P a b c->Q a b c->R a b c->S a b c->T a b c->X):X:=h.elim λa h=>bW h (k a)
theorem kH {P Q R S T U:A->B->C->Prop}(h:∃a b c,P a b c/\Q a b c/\R a b c/\S a b c/\T a b c/\U a b c)(k:∀a b c,P a b c->Q a b c->R a b c->S a b c->T a b c->U a b c->X):X:=h.elim λa h=>w4 h (k a)
theorem HF {P Q R S T U V:A->B->C->Prop}(h:∃a b c,P a b c/\Q a b c/\R a b c/\S a b c/\T a b c/\U a b c/\V a b c)(k:∀a b c,P a b c->Q a b c->R a b c->S a b c->T a b c->U a b c->V a b c->X):X:=h.elim λa h=>Oi h (k a)
theorem Ol {P Q R S T U V W:A->B->C->Prop}(h:∃a b c,P a b c/\Q a b c/\R a b c/\S a b c/\T a b c/\U a b c/\V a b c/\W a b c)(k:∀a b c,P a b c->Q a b c->R a b c->S a b c->T a b c->U a b c->V a b c->W a b c->X):X:=h.elim λa h=>Oj h (k a)
theorem Om {P Q R S T U V W Y:A->B->C->Prop}(h:∃a b c,P a b c/\Q a b c/\R a b c/\S a b c/\T a b c/\U a b c/\V a b c/\W a b c/\Y a b c)(k:∀a b c,P a b c->Q a b c->R a b c->S a b c->T a b c->U a b c->V a b c->W a b c->Y a b c->X):X:=h.elim λa h=>Ok h (k a)
theorem HG {P:A->B->C->D->Prop}(h:∃a b c d,P a b c d)(k:∀a b c d,P a b c d->X):X:=h.elim λa h=>pP h (k a)
theorem On {P Q:A->B->C->D->Prop}(h:∃a b c d,P a b c d/\Q a b c d)(k:∀a b c d,P a b c d->Q a b c d->X):X:=h.elim λa h=>dK h (k a)
theorem HH {P Q R:A->B->C->D->Prop}(h:∃a b c d,P a b c d/\Q a b c d/\R a b c d)(k:∀a b c d,P a b c d->Q a b c d->R a b c d->X):X:=h.elim λa h=>bw h (k a)
theorem mZ {P Q R S:A->B->C->D->Prop}(h:∃a b c d,P a b c d/\Q a b c d/\R a b c d/\S a b c d)(k:∀a b c d,P a b c d->Q a b c d->R a b c d->S a b c d->X):X:=h.elim λa h=>kG h (k a)
theorem jA {P Q R S T:A->B->C->D->Prop}(h:∃a b c d,P a b c d/\Q a b c d/\R a b c d/\S a b c d/\T a b c d)(k:∀a b c d,P a b c d->Q a b c d->R a b c d->S a b c d->T a b c d->X):X:=h.elim λa h=>jd h (k a)
theorem Oo {P Q R S T U:A->B->C->D->Prop}(h:∃a b c d,P a b c d/\Q a b c d/\R a b c d/\S a b c d/\T a b c d/\U a b c d)(k:∀a b c d,P a b c d->Q a b c d->R a b c d->S a b c d->T a b c d->U a b c d->X):X:=h.elim λa h=>kH h (k a)
theorem Oq {P Q R S T U V:A->B->C->D->Prop}(h:∃a b c d,P a b c d/\Q a b c d/\R a b c d/\S a b c d/\T a b c d/\U a b c d/\V a b c d)(k:∀a b c d,P a b c d->Q a b c d->R a b c d->S a b c d->T a b c d->U a b c d->V a b c d->X):X:=h.elim λa h=>HF h (k a)
theorem Os {P Q R S T U V W:A->B->C->D->Prop}(h:∃a b c d,P a b c d/\Q a b c d/\R a b c d/\S a b c d/\T a b c d/\U a b c d/\V a b c d/\W a b c d)(k:∀a b c d,P a b c d->Q a b c d->R a b c d->S a b c d->T a b c d->U a b c d->V a b c d->W a b c d->X):X:=h.elim λa h=>Ol h (k a)
theorem HI {P:A->B->C->D->E->Prop}(h:∃a b c d e,P a b c d e)(k:∀a b c d e,P a b c d e->X):X:=h.elim λa h=>HG h (k a)
theorem Ot {P Q R:A->B->C->D->E->Prop}(h:∃a b c d e,P a b c d e/\Q a b c d e/\R a b c d e)(k:∀a b c d e,P a b c d e->Q a b c d e->R a b c d e->X):X:=h.elim λa h=>HH h (k a)
theorem HJ {P Q R S T U V W Y:A->B->C->D->E->Prop}(h:∃a b c d e,P a b c d e/\Q a b c d e/\R a b c d e/\S a b c d e/\T a b c d e/\U a b c d e/\V a b c d e/\W a b c d e/\Y a b c d e)(k:∀a b c d e,P a b c d e->Q a b c d e->R a b c d e->S a b c d e->T a b c d e->U a b c d e->V a b c d e->W a b c d e->Y a b c d e->X):X:=h.elim λa h=>h.elim λb h=>Om h (k a b)
theorem BI {P:A->B->C->D->E->F->Prop}(h:∃a b c d e f,P a b c d e f)(k:∀a b c d e f,P a b c d e f->X):X:=h.elim λa h=>HI h (k a)
theorem Ou {P Q R:A->B->C->D->E->F->Prop}(h:∃a b c d e f,P a b c d e f/\Q a b c d e f/\R a b c d e f)(k:∀a b c d e f,P a b c d e f->Q a b c d e f->R a b c d e f->X):X:=h.elim λa h=>Ot h (k a)
theorem Ov {P:A->B->C->D->E->F->G->Prop}(h:∃a b c d e f g,P a b c d e f g)(k:∀a b c d e f g,P a b c d e f g->X):X:=h.elim λa h=>BI h (k a)
theorem Ow {P Q R:A->B->C->D->E->F->G->Prop}(h:∃a b c d e f g,P a b c d e f g/\Q a b c d e f g/\R a b c d e f g)(k:∀a b c d e f g,P a b c d e f g->Q a b c d e f g->R a b c d e f g->X):X:=h.elim λa h=>Ou h (k a)
theorem HK {P:A->B->C->D->E->F->G->H->Prop}(h:∃a b c d e f g i,P a b c d e f g i)(k:∀a b c d e f g i,P a b c d e f g i->X):X:=h.elim λa h=>Ov h (k a)
theorem xq {P:A->B->C->D->E->F->G->H->I->J->K->L->M->N->O->Zz->Prop}(h:∃a b c d e f g i j l m n o q r s,P a b c d e f g i j l m n o q r s)(k:∀a b c d e f g i j l m n o q r s,P a b c d e f g i j l m n o q r s->X):X:=HK h λa b c d e f g i h=>HK h (k a b c d e f g i)
end
theorem aB {G:Prop}(h:∀P:Prop,(G->P)->P):G:=h G id
theorem o1:0<=a:=Nat.zero_le _
theorem o2(_:a<=9):a<=4096:=by exact UZ ‹_› (by decide)
theorem o4(p:4200<a):40<a:=tt (by decide) p
theorem o5(_:a<=c)(_:c<=b):a<=b:=UZ ‹_› ‹_›
theorem o6 {a:Int}(p:0<=a)(q:¬a=0):0<a:=(To.mpr ⟨p,Vm q⟩)
theorem o8(_:a<b):a≠b:=U2 ‹_›
theorem o9(_:a<=b):a<=b:=by omega
theorem rP(_:b<a):a≠b:=U1 ‹_›
theorem qC(_:c<=a)(_:b<c):a≠b:=U1 (TU ‹_› ‹_›)
theorem qD(p:2000<a):40<a:=tt (by decide) p
theorem qE:0<=(↑a:Int):=by simp_all
theorem rQ(_:b<c)(_:c<=a):a≠b:=U1 (TU ‹_› ‹_›)
theorem vu(_:a<=9):a<1099511627776:=by exact TT ‹_› (by decide)
theorem Ap(_:c<=b)(_:a<=c):a<=b:=UZ ‹_› ‹_›
theorem vw(p:0<a):(↑a:Int)≠0:=US (UU.mpr p)
theorem Aq(_:c<=b)(_:a<c):a≠b:=U2 (TU ‹_› ‹_›)
theorem Ar(_:a>0):(↑a:Int)>0:=by simp_all
theorem Au(_:a=0):(↑a:Int)=0:=by simp_all
theorem Av(p:¬a>0):¬(↑a:Int)>0:=λh=>p (UU.mp h)
theorem Aw(_:¬a=0):¬(↑a:Int)=0:=by simp_all
theorem Dq {a:Int}:0-a= -a:=by simp_all
theorem Dr(_:a<=4000):a<=4096:=by exact UZ ‹_› (by decide)
theorem Ds(_:a<c)(_:c<=b):a≠b:=U2 (TU ‹_› ‹_›)
theorem Dt(p:a<2):a=0\/a=1:=(by decide+kernel:∀a,a<2->a=0\/a=1) a p
theorem Dw(_:¬b<a):a<=b:=Nat.not_lt.mp ‹_›
theorem Dx {a:Int}(p:0<a):0<a.natAbs:=Int.natAbs_pos.mpr (US p)
theorem xr(_:a<=9):a<2^62:=by exact TT ‹_› (by decide)
theorem HL(p:b<a):0<a:=Nat.zero_lt_of_lt p
theorem HM(_:1<a):0<a:=UY ‹_›
theorem HN(p:a<=9)(q:40<b):a<b:=tt (Uh p) (tt (by decide) q)
theorem HO(p:4200<a):2000<a:=tt (by decide) p
theorem Sr {c:Int}(p:(↑b:Int)=c+(↑d:Int))(q:(↑a:Int)=c+(↑e:Int))(r:e=d):a=b:=by subst r;exact UF (q.trans p.symm)
theorem HP(p:40<a):2<a:=tt (by decide) p
theorem Pd(p:c<=b)(q:d<=a/\a<c):a≠b:=U2 (tt q.2 p)
theorem HQ {a:Int}(_:0<a):¬a=0:=by omega
theorem HR(p:a-b<c+1)(q:b<a):a-(b+1)<c:=TU (Nat.pred_lt (U1 (Nat.sub_pos_of_lt q))) (Nat.le_of_lt_succ p)
theorem HT {a:Int}(p:0<a):(↑a.natAbs:Int)=a:=Tq (UO p)
theorem K4(p:a+12<=b):a<b:=tt (Ue (a+1) 11) p
theorem K8(_:b<=9)(_:a=b):a<=9:=by simp_all
theorem La(p:a<=9)(q:2000<b):a<b:=tt (Uh p) (tt (by decide) q)
theorem Lb(_:a<=9):a<=9:=by omega
theorem Lc(_:b<=9)(_:a<b):a<=9:=UY (TU ‹_› ‹_›)
theorem Pe(p:a+12<=b):a+10<=b:=tt (TE (by decide) a) p
theorem Pf(_:a<c)(_:c<=b):a<b:=TU ‹_› ‹_›
theorem Ld(p:a+(b+1)<=c):a+1+b<=c:=tt (UX (TR a 1 b)) p
theorem HU {a:Int}(p:¬a=0)(q:¬a<0):0<a:=(To.mpr ⟨Va.mp q,Vm p⟩)
theorem Le {a:Int}(_:a>0):0<=a:=by omega
theorem Lg(_:¬a=1):¬(↑a:Int)=1:=by grind
theorem Lh(p:a=b)(q:b<=9):a<=4096:=by subst p;exact tt q (by decide)
theorem Li(_:a=1):(↑a:Int)=1:=by simp_all
theorem Lj(p:40<b)(q:a<=4):a<b:=tt (Uh q) (tt (by decide) p)
theorem Lk {a:Int}(p:0<=a):0<1+a:=Int.add_pos_of_pos_of_nonneg (by decide) p
theorem Ll(_:4200<b)(_:a<=9):a<b:=by grind
theorem Lm {a b:Int}(p:0<a*b):¬a*b<0:=Va.mpr (UO p)
theorem Ln {a:Int}(_:a<0):0< -a:=by simp_all
theorem Pg:0<=(↑(min a b):Int):=by simp_all
theorem Ph(p:0<a%b):(↑(a%b):Int)>0:=UU.mpr p
theorem Pi(p:0<a):0<(↑a:Int):=UU.mpr p
theorem Pj {a:Int}(_:¬a>0):0<= -a:=by simp_all
theorem Pk:0≠a+2:=by lia
theorem Pl(_:a<2^0):a=0:=by simp_all
theorem Pm(_:0<a):(↑a:Int)>0:=by grind
theorem Pn {a:Int}(p:a≠0)(q:¬a<0):0<a:=(To.mpr ⟨Va.mp q,Vm p⟩)
theorem Po(_:1<=a):a≠0:=U1 ‹_›
theorem Pp(p:a+10<=b):a<b:=tt (Ue (a+1) 9) p
theorem Pq {a:Int}(p:a.natAbs<=4):a<=4096:=nA a 5 (by decide+kernel) (T2 p)
theorem Pr(_:a=b):(↑a:Int)=(↑b:Int):=by simp_all
theorem Ps:2*0+a+1=a+1:=Vk (· +1) (Nat.zero_add a)
theorem Pt(p:a<c)(q:d<=b)(r:c<d):a<b:=tt p (tt (tl r) q)
theorem Pu:(↑(max a b%min a b):Int)=0↔max a b%min a b=0:=⟨λh=>UF h,λh=>Vk Int.ofNat h⟩
theorem Pv {a:Int}(p:a<4):a<2^62:=UQ p (by decide)
theorem Px(p:4200<b)(q:a<=4096):a<b:=tt (Uh q) (tt (by decide) p)
theorem Py(p:a<c*2)(q:a%(b%a)<b%a)(r:a%(b%a)+b%a*(a/(b%a))=a)(s:b%a*1<=b%a*(a/(b%a))):a%(b%a)<c:=by rw[Nat.mul_one]at s;exact Nat.lt_of_mul_lt_mul_right (a:=2) (U0 (Nat.mul_two _▸Nat.lt_of_lt_of_eq (TG (TU q s) _) r) p)
theorem Lp(_:a%b<b):a%b<=b:=UY ‹_›
theorem Lq(_:¬a=0):0<a:=Nat.pos_of_ne_zero ‹_›
theorem Lr {a b c:Int}(p:¬c=0)(q:a=0/\b=0):¬(a=1/\b=1\/c=0):=λh=>h.elim (λh=>absurd (q.1.symm.trans h.1) (by decide)) p
theorem Ls(p:b=c)(q:¬a=c):¬(↑a:Int)=(↑b:Int):=λh=>q ((UF h).trans p)
theorem Lu(p:a=b)(q:b<=9):a<2^40:=by subst p;exact TT q (by decide)
theorem Lv(p:c<=a)(q:d<=c)(r:b<d):a≠b:=U1 (tt r (tt q p))
theorem Lw(p:c<=d)(q:d<b)(r:e+3<c)(s:a<e):a≠b:=U2 (tt (tt s (Ue e 3)) (tt (tl r) (tt p (tl q))))
theorem Lx(_:¬a%b=0):0<a%b:=Nat.pos_of_ne_zero ‹_›
theorem Ly {a b c:Int}(p:¬c=0)(q:a=0/\b=1):¬(a=1/\b=1\/c=0):=λh=>h.elim (λh=>absurd (q.1.symm.trans h.1) (by decide)) p
theorem Lz(p:a+12*c+300<=b):a+12<=b:=tt (Nat.add_le_add (Ue a (12*c)) (by decide)) p
theorem LA(p:c<=a)(q:b<c/\b≠d):a≠b:=U1 (tt q.1 p)
theorem LB(p:b<=a)(q:¬b<a):a=b:=Nat.le_antisymm (Nat.le_of_not_lt q) p
theorem LC(_:¬a=b):¬(↑a:Int)=(↑b:Int):=by lia
theorem LD {a b:Int}(_:0<a*b):¬a*b=0:=by omega
theorem LE {a:Int}(_:¬a>0)(_:¬a<0):a=0:=by omega
theorem LF {a:Int}(p:a.natAbs<=4): -a<=4096:=nA a 5 (by decide+kernel) (T2 p)
theorem LG(_:a<b):a<b:=by omega
theorem LH(p:c<b)(q:d<=a/\a<c):a<b/\a≠c:=⟨U0 q.2 p,U2 q.2⟩
theorem LJ(p:c<=a/\a<b):a≠b:=U2 p.2
theorem LK(_:a<=2):a<=4096:=by exact UZ ‹_› (by decide)
theorem LM(p:2*(a+1)<b+1+1+1):2*a<b+1:=Nat.lt_of_succ_lt_succ (Nat.lt_of_succ_lt_succ p)
theorem LN(_:b=c)(_:a=c):(↑a:Int)=(↑b:Int):=by simp_all
theorem LO:0≠a+1/\0≠a+4:=⟨(Nat.succ_ne_zero a).symm,(Nat.succ_ne_zero (a+3)).symm⟩
theorem LP(_:a=c)(_:c=b):a=b:=by simp_all
theorem LQ(p:2*(b+1)<a):a=a-3+1+1+1:=(Nat.sub_add_cancel (tt (Nat.le_add_left 3 (2*b)) p)).symm
theorem LT {a:Int}(_:0<a):¬a<0:=by omega
theorem PM {b:Int}(p:b<3)(q:a=(1+b).toNat):a<=9:=q▸Int.toNat_le.mpr (UP (Int.add_le_add_left (UO p) 1) (by decide))
theorem LV(p:2000<b)(q:a<=9):a<b:=tt (Uh q) (tt (by decide) p)
theorem LW(_:¬a=0)(_:¬b=0):¬(a=0\/b=0):=by simp_all
theorem LX {a:Int}(p:a.natAbs<=4):(-a).toNat<=4:=nA a 5 (by decide+kernel) (T2 p)
theorem LY(p:a-b=0):a<=b:=Nat.le_of_sub_eq_zero p
theorem LZ {a:Int}(p:0<=a/\a<2^62):a<2^63:=UQ p.2 (by decide)
theorem L4(_:a<c)(_:c<=b):a<=b:=UY (TU ‹_› ‹_›)
theorem L6:a+a<=2*a:=by grind
theorem L7:min 160 a<=4096:=tt (Nat.min_le_left 160 a) (by decide)
theorem L8(p:a>0)(q:b>0):(↑(min a b):Int)≠0:=λh=>absurd (UF h) (U1 (Nat.lt_min.mpr ⟨p,q⟩))
theorem L9(_:a<=9):a<2^40:=by exact TT ‹_› (by decide)
theorem Ma(p:c<=b)(q:d<=a/\a<c):a<b:=tt q.2 p
theorem Mb {a:Int}(p:0<a/\a<=9):0<=a:=UO p.1
theorem Mc {a b c:Int}(p:¬c=0)(q:b=0):¬(a=1/\b=1\/c=0):=λh=>h.elim (λh=>absurd (q.symm.trans h.2) (by decide)) p
theorem Md(_:a<b):a+1<=b:=by assumption
theorem Me(p:b+6<c)(q:c<=a/\a<d):a≠b+2:=U1 (tt (tt (TE (by decide:3<=7) b) p) q.1)
theorem Mf(_:a<=c)(_:c<b):a<=b:=UY (TT ‹_› ‹_›)
theorem Mg {a:Int}(p:¬a=0)(q:¬a>0):a<0:=(To.mpr ⟨Va.mp q,p⟩)
theorem Mh(p:¬a<b)(q:a<b+1):a=b:=Nat.le_antisymm (Nat.le_of_lt_succ q) (Nat.le_of_not_lt p)
theorem Mi:a<=2*a:=by lia
theorem Mj(_:a<=9):(↑a:Int).natAbs<2^4:=by exact TT ‹_› (by decide)
theorem Mk {a:Int}(p:0<=a)(q:a<4):a=0\/a=1\/a=2\/a=3:=nB a 4 (by decide+kernel) p q
theorem PN(p:a<c)(q:c<=d)(r:b=d+1):a<b:=by subst r;exact tt p (tt q (Nat.le_succ d))
theorem PO {a:Int}(_:0<a):a≠0:=by grind
theorem PP(_:a<=0):a=0:=by simp_all
theorem PQ {a:Int}(p:b<=9)(q:(↑b:Int)%3=0)(r:(↑b:Int)>0)(s:a=(↑b:Int)/3\/a=3):0<a/\a<=9:=(λh:∀n:Nat,n<10->(n:Int)%3=0->(n:Int)>0->0<(n:Int)/3/\(n:Int)/3<=9=>s.elim (λe=>by rw[e];exact h b (T2 p) q r) λe=>by rw[e];decide) (by decide+kernel)
theorem PS(p:a<=c)(q:c<=d)(r:b=d+1):a<=b:=by subst r;exact tt p (tt q (Nat.le_succ d))
theorem PT {a:Int}(_:a.natAbs<=1):a.natAbs<2^2000:=by exact TT ‹_› (by decide)
theorem PU {a b:Int}(p:0<=b)(q:b<40)(r:b-15=a):(a*1024).natAbs<2^60:=by subst r;exact nB b 40 (by decide+kernel) p q
theorem PV {a:Int}(_:¬a<0):(↑a.natAbs:Int)=a:=by omega
theorem PW {a b c d:Int}(p:0<=d)(q:d<40)(r:d-15=a)(s:0<=b)(t:b<1024)(u:0<=c)(v:c<1024):(a*1024*1024+b*1024+c).natAbs<2^40:=by subst r;exact Nat.lt_of_lt_of_eq (KY (KY (nB d 40 (by decide+kernel) p q) (UB b 1024▸TU (Nat.mul_lt_mul_of_pos_right (sb s t) (by decide)) (by decide))) (TU (sb u v) (by decide))) (show 2^38*2*2=2^40 from rfl)
theorem PX(p:(↑a:Int)%3=0):1*((↑a:Int)/3)*3=(↑a:Int):=by rw[Int.one_mul];exact Int.ediv_mul_cancel_of_emod_eq_zero p
theorem PY(_:a<=20):a<30:=by exact TT ‹_› (by decide)
theorem PZ(p:¬(b=0\/a=0)):¬(a=0\/b=0):=λh=>p (Or.symm h)
theorem P0 {a:Int}(p:b<=9)(q:(↑b:Int)%2=0)(r:(↑b:Int)>0)(s:a=2\/a=(↑b:Int)/2):0<a/\a<=9:=(λh:∀n:Nat,n<10->(n:Int)%2=0->(n:Int)>0->0<(n:Int)/2/\(n:Int)/2<=9=>s.elim (λe=>by rw[e];decide) λe=>by rw[e];exact h b (T2 p) q r) (by decide+kernel)
theorem P2(p:b<=9)(q:a=b):a<=4096:=by subst q;exact tt p (by decide)
theorem P3(_:a<=c)(_:c<=d)(_:d<=b):a<=b:=by grind
theorem P4 {a:Int}(_:a=1):¬a=0:=by simp_all
theorem P5(_:14+a+b+c+d=0):False:=by grind
theorem P6(p:a+12*(b+1)+300<=c):a+1+3+12*b+300<=c:=gp (k:=4) (by decide) p
theorem P7(p:c<=d)(q:b=d+1)(r:a<c):a<b:=by subst q;exact tt r (tt p (Nat.le_succ d))
theorem P8 {a b:Int}(_:a≠0):¬(a=0/\b=0):=by grind
theorem P9 {a:Int}(_:a.natAbs<=2147483647):a.natAbs<2^60:=by exact TT ‹_› (by decide)
theorem Qa {a:Int}(_:a=0):¬a<0:=by simp_all
theorem Qb {a:Int}(p:a.natAbs=1):a=1\/a=0\/a= -1:=(Pc p).elim .inl λh=>.inr (.inr h)
theorem Qc:(↑a:Int)=(↑a:Int)-(↑b:Int)+(↑b:Int):=by simp_all
theorem Qd {a:Int}(p:0<=a)(q:a<9):(a-4).natAbs<=4:=nB a 9 (by decide+kernel) p q
theorem Qe(_:a<=63):a<=4096*4096:=by exact UZ ‹_› (by decide)
theorem Qf(p:b<=9)(q:a=c)(r:c<b):a<=9:=by subst q;exact tt (tl r) p
theorem Qg {a:Int}(_:a.natAbs<=4):a.natAbs<2^62:=by exact TT ‹_› (by decide)
theorem Qh {a b c d:Int}(p:0<d)(q:0<b):¬(a=0/\b=0\/c=0/\d=0):=λh=>h.elim (λh=>US q h.2) λh=>US p h.2
theorem Qi(_:a<=2)(_:a>=2):a=2:=by lia
theorem Qj {a:Int}(_:a<2^62):a.toNat<2^62:=by simp_all
theorem Qk(_:a+3+12*b+300<=c):a+3+12*b+300<=c:=by simp_all
theorem Ql:(↑a:Int)>1↔a>1:=UU (n:=1) (m:=a)
theorem Qm(_:a<=4):a<=4096:=by exact UZ ‹_› (by decide)
theorem Qo(_:a+31<=4096):a+1+30<=4096:=by assumption
theorem Qp {b:Int}(_:b.natAbs<=4)(_:a<b.natAbs):a<=4:=UY (TU ‹_› ‹_›)
theorem Qq {a:Int}(_:a.natAbs<=2147483647):a.natAbs<2^40:=by exact TT ‹_› (by decide)
theorem Qr:a<=a+(b+1):=by simp_all
theorem Qs:a+4≠a+1:=by grind
theorem Qu {a:Int}(p:0<=a)(q:a<12):(1+a).natAbs<2^40:=nB a 12 (by decide+kernel) p q
theorem Qv(_:a<=4000):a<=4095:=by exact UZ ‹_› (by decide)
theorem Qw {a:Int}(_:a<7):a<2^62:=by lia
theorem Qx(_:30<a):30-0<a:=by omega
theorem Qy {a b:Int}(_:0<b):¬(a=0/\b=0):=by lia
theorem Qz {a:Int}(_:0<=a):0<=1+a:=by lia
theorem QA {a:Int}(p:a<3):1+a<2^62:=UQ (Int.add_lt_add_left p 1) (by decide)
theorem QB {a b:Int}(p:b=1):¬(a<0/\b=0):=λh=>absurd (p.symm.trans h.2) (by decide)
theorem QC {a:Int}(p:0<=a)(q:a<7):a=0\/a=1\/a=2\/a=3\/a=4\/a=5\/a=6:=nB a 7 (by decide+kernel) p q
theorem QD {b:Int}(_:a*b.toNat<=2^24):a*b.toNat<=16777216:=by omega
theorem QE(p:a<=c)(q:c<d)(r:e=d+1)(s:e<=b):a<=b:=by subst r;exact tt p (tt (tl q) (tl s))
theorem QF {a b:Int}(_:¬(a=0/\b=1)):¬(a=0/\b=1):=by omega
theorem QG:3<0+1+1+1+1+1+a:=by lia
theorem QH {a:Int}(p:a<12):1+a<100:=UQ (Int.add_lt_add_left p 1) (by decide)
theorem QI(_:a<b):a-0<b:=by omega
theorem QJ:(↑a:Int)+1=(↑(a+1):Int):=by simp_all
theorem QK:a<=a+b:=by simp_all
theorem QL {a b:Int}(p:a=0/\b=0):a=1\/a=0\/a= -1:=.inr (.inl p.1)
theorem QM(_:a=1/\b>1):(↑a:Int)=1:=by simp_all
theorem QN {a:Int}(p:0<a)(q:a<100):a.natAbs<2^7:=nB a 100 (by decide+kernel) (UO p) q
theorem QO(p:(a+1)%2=1):2*((a+1)/2)=a:=by have e:=Nat.div_add_mod (a+1) 2;rw[p]at e;exact U4 e
theorem QP(_:a<=1240):a<=4096:=by exact UZ ‹_› (by decide)
theorem QQ {a:Int}(_:a.natAbs<2^1000):(-a).natAbs<2^1000:=by simp_all
theorem QR {a:Int}(_:a<2^62/\ -2^62<=a):a<2^62:=by simp_all
theorem QS {a:Int}(p:a<3):(1+a).toNat<=9:=Int.toNat_le.mpr (UP (Int.add_le_add_left (UO p) 1) (by decide))
theorem QT(_:a<b):a<=b:=UY ‹_›
theorem QU {a:Int}(p:a≠0)(q:a.natAbs<=4):a= -4\/a= -3\/a= -2\/a= -1\/a=1\/a=2\/a=3\/a=4:=(nA (P:=λa=>a=0\/a= -4\/a= -3\/a= -2\/a= -1\/a=1\/a=2\/a=3\/a=4) a 5 (λn h=>⟨(by decide+kernel:∀n:Nat,n<5->(n:Int)=0\/(n:Int)= -4\/(n:Int)= -3\/(n:Int)= -2\/(n:Int)= -1\/(n:Int)=1\/(n:Int)=2\/(n:Int)=3\/(n:Int)=4) n h,(by decide+kernel:∀n:Nat,n<5-> -(n:Int)=0\/ -(n:Int)= -4\/ -(n:Int)= -3\/ -(n:Int)= -2\/ -(n:Int)= -1\/ -(n:Int)=1\/ -(n:Int)=2\/ -(n:Int)=3\/ -(n:Int)=4) n h⟩) (T2 q)).resolve_left p
theorem QV(p:(↑a:Int)%2=0):1*2*((↑a:Int)/2)=(↑a:Int):=by rw[Int.one_mul];exact Int.mul_ediv_cancel_of_emod_eq_zero p
theorem QW(p:c<=2^20)(q:a+(d+1)<=c)(r:b=16777216):a<=b:=by subst r;exact tt (Ue a (d+1)) (tt q (tt p (by decide)))
theorem QX(_:¬a=1):¬(a=1/\b>1):=by simp_all
theorem QY(_:b<7):a+b-a<7:=by simp_all
theorem QZ {a b:Int}(p:0<=b)(q:b<40)(r:b-15=a):a.natAbs<2^60:=by subst r;exact nB b 40 (by decide+kernel) p q
theorem Q2 {a:Int}(_:a<3):a<2^62:=by lia
theorem Q3 {a:Int}(_:0<=a/\a<2^62):¬a<0:=by simp_all
theorem Q4(p:c=b+7)(q:c<=a):a≠b:=by subst p;exact U1 (tt (Ue (b+1) 6) q)
theorem Q5(p:b+a=c):a+1+b=c+1:=by subst p;exact(TR a 1 b).trans (Vk (· +1) (Nat.add_comm a b))
theorem Q6(_:a<=1):a<=16777216:=by exact UZ ‹_› (by decide)
theorem Q7 {a:Int}(p:0<=a/\a<=(↑b:Int)/\c*a.toNat<=b): -2^63<=a:=UP (by decide) p.1
theorem Q8(_:a+10<=b):a+1+8<=b:=UY ‹_›
theorem Q9(p:a+c=d)(q:d<=b):a<=b:=by subst p;exact tt (Ue a c) q
theorem Ra(_:b<a):0<(↑a:Int)-(↑b:Int):=by simp_all
theorem Rb(_:a<=4095):a<=4096:=by exact UZ ‹_› (by decide)
theorem Rc {a b:Int}(_:a=0)(_:b=0):a=b:=by simp_all
theorem Rd:(a+1)*31=a*31+31:=by grind
theorem Re {a:Int}(p:0<=a)(q:a<8):a=0\/a=1\/a=2\/a=3\/a=4\/a=5\/a=6\/a=7:=nB a 8 (by decide+kernel) p q
theorem Rf {b:Int}(_:a*b.toNat<=4096):a*b.toNat<=2^24:=by exact UZ ‹_› (by decide)
theorem Rg {a b:Int}(p:0<=b)(q:b<40)(r:b-15=a):a.natAbs<2^40:=by subst r;exact nB b 40 (by decide+kernel) p q
theorem Rh {a:Int}(p:0<=a)(q:a<9):(a-4).natAbs<2^40:=nB a 9 (by decide+kernel) p q
theorem Ri(_:c=b)(_:a<c):a<b:=by simp_all
theorem Rj(p:a<=c)(q:d=c+1)(r:d<=b):a<=b:=by subst q;exact tt p (tl r)
theorem Rl(p:a=c)(q:c+1=b):a+1=min b (c+1):=by subst p;subst q;exact(Nat.min_self _).symm
theorem Rm(_:¬(↑b:Int)<(↑a:Int)):(↑a:Int)=(↑(min a b):Int):=by simp_all
theorem Rn {a:Int}(p:a<2):a<2^62:=UQ p (by decide)
theorem Ro {a:Int}(p:a.natAbs<=4)(q:2000<b):a.natAbs<b:=tt (Uh p) (tt (by decide) q)
theorem Rp {a b c:Int}(p:¬c=0)(q:¬(a=1/\b=1)):¬(a=1/\b=1\/c=0):=λh=>h.elim q p
theorem Rq(_:b<=a):¬a<b:=by simp_all
theorem Rr {a b c:Int}(p:¬(a=0/\c=0))(q:c=0)(r:0<=b/\b<2)(s:¬a>0)(t:¬b=1):a<0/\b=0:=⟨To.mpr ⟨Va.mp s,λh=>p ⟨h,q⟩⟩,(b2 r.1 r.2).resolve_right t⟩
theorem Rs {a:Int}(_:0<=a)(_:a≠0):0<a:=by omega
theorem Ru(_:a<=4000):a+1<=4096:=by exact TT ‹_› (by decide)
theorem Rv(_:c<=b)(_:a<c):a<b:=TU ‹_› ‹_›
theorem Rw {a:Int}(_:¬a=0):0<(↑a.natAbs:Int):=by simp_all
theorem Rx:a+1≠a+4:=by simp_all
theorem Ry(_:¬a=0):¬(a=0/\b>0):=by simp_all
theorem Rz(p:a=c)(q:c+1=b):a+1=b:=by subst p;exact q
theorem RB {a:Int}(_: -2^63<=a)(_:a<2^63): -9223372036854775808<=a/\a<9223372036854775808:=by simp_all
theorem RC(_:b=0\/a=0):a=0\/b=0:=by grind
theorem RD(_:a<=9):a<10:=by exact TT ‹_› (by decide)
theorem RE {a:Int}(p:0<a):a=(↑a.natAbs:Int):=(Tq (UO p)).symm
theorem RF {a b:Int}(_:a≠0):¬(a=0/\b=1):=by simp_all
theorem RG {a:Int}(p:0<=a)(q:a<30):(a-10).natAbs<=2147483647:=nB a 30 (by decide+kernel) p q
theorem RH(p:c+a=d)(q:d<=b):a<=b:=by subst p;exact tt (Nat.le_add_left a c) q
theorem RI {a:Int}(_:0<=a/\a<=9^2):a<=81:=by simp_all
theorem RJ(p:40<b):min 40 a<b:=TT (Nat.min_le_left 40 a) p
theorem RK {a:Int}(p:0<=a)(q:a<2^60):a.natAbs<2^60:=UU.mp (by rw[Tq p];exact q)
theorem RL(_:a+(b+1)<=c):a+b<=c:=UY ‹_›
theorem RM {a:Int}(p:a>0):a.natAbs=a.toNat:=HC (UO p)
theorem RN {a:Int}(_:a>0):a>=0:=by lia
theorem RO {a:Int}(_:a<0):¬a>0:=by omega
theorem RP:a+4≠0:=by simp_all
theorem RQ {a:Int}(p:¬a>0):a.natAbs=(-a).toNat:=(UC a).symm.trans (HC (Int.neg_nonneg_of_nonpos (Va.mp p)))
theorem RR {a:Int}(p:0<=a)(q:a<1024):a.natAbs<2^60:=U0 (sb p q) (by decide)
theorem RT(p:4200<a):2<a:=tt (by decide) p
theorem RU(_:a+12<=b):a+1+10<=b:=UY ‹_›
theorem RW {a:Int}(_:a<2^62/\ -2^62<=a): -2^62<=a:=by simp_all
theorem RX {a:Int}(p:0<=a)(q:a<2):a=0\/a=1:=nB a 2 (by decide+kernel) p q
theorem RY(p:a<=2)(q:40<b):a<b:=tt (Uh p) (tt (by decide) q)
theorem RZ(_:c<=d)(_:a<=c)(_:d<=b):a<=b:=by grind
theorem R0 {a:Int}(_:a<8):a<2^62:=by lia
theorem R2(p:a<=9):(↑a:Int)<=(↑4096:Int):=UT.mpr (tt p (by decide))
theorem R3 {a:Int}(p:b<=9)(q:(↑b:Int)>0)(r:a=(↑b:Int)):0<a/\a<=9:=by subst r;exact⟨q,UT.mpr p⟩
theorem R4 {a b:Int}(p:a>0):¬(a<0/\b=0):=λh=>Int.lt_asymm p h.1
theorem R5(p:¬(a+1)%2=1):2*((a+1)/2-1)+1=a:=by have e:=Nat.div_add_mod (a+1) 2;rw[(Nat.mod_two_eq_zero_or_one (a+1)).resolve_right p]at e;generalize (a+1)/2=m at e ⊢;cases m with|zero=>cases e|succ m=>exact U4 e
theorem R6(_:a<1):a=0:=by simp_all
end Mine
end
noncomputable section
open PySem PySem.W PyProof.Rows
namespace Mine
abbrev Tc:=@PySem.Heap.get?_push_of_some
abbrev Td:=@PySem.Heap.get?_update_other
abbrev Tg:=@PySem.Heap.get?_update_self
abbrev Ty:=@PySem.wpAny_loadName_local
abbrev Tz:=@PySem.Heap.SameBut.update
abbrev TA:=@PySem.Heap.get?_push_size
abbrev Uk:=@PySem.wpAny_Call_NameR
abbrev Ul:=@PySem.wpAny_items_cons
abbrev Uw:=@PySem.wpAny_items_nil
abbrev Ux:=@PySem.wpAny_loadPart'
abbrev UA:=@PySem.Heap.size_push
abbrev UK:=@PySem.Value.ref.inj
abbrev UL:=@PySem.wpAny_holding
abbrev UM:=@PySem.wpAny_standAt
abbrev UN:=@PySem.Heap.lt_size
abbrev U5:=@PySem.W.looks_findIn
abbrev Vf:=@PySem.wpAny_bind
abbrev Vg:=@PySem.wpAny_call
abbrev Vh:=@PySem.wpAny_mono
abbrev Vi:=@PySem.wpAny_pure
noncomputable abbrev Vq:=@Expr.casesOn.{0}
noncomputable abbrev Vw:=@PySem.Expr.casesOn.{0}
noncomputable abbrev Vx:=@PySem.Data.casesOn.{0}
noncomputable abbrev Vy:=@PySem.Value.casesOn.{0}
variable {n i:Nat} {h h':Heap} {a:Addr} {m:Str->Option Value} {e:Expr} {x:Str} {vs:List Value} {k:Const} {o:Obj} {Er:Value->Shared->Prop}
inductive V where
 |none
 |bool (b:Bool)
 |int (i:Int)
 |str (s:Str)
 |tup (l:List V)
 |ref (n:Nat)
inductive O where
 |list (l:List V)
 |flist (l:List V)
 |dict (l:List (Str×V))
 |inst (c:Str) (l:List (Str×V))
 |cell (v:Option V)
 |clo (body:Expr) (scope:Scope) (cells:List (Str×Nat))
 |tab
inductive R (α:Type) where
 |ok (a:α) (h:List O)
 |exc (msg:V) (h:List O)
 |bad
noncomputable abbrev M (b:Type):=List O->R b
def mr {b:Type}(a:b):M b:=λh=>.ok a h
def mq {b β:Type}(m:M b)(f:b->M β):M β:=λh=>match m h with
 |.ok a h'=>f a h'
 |.exc e h'=>.exc e h'
 |.bad=>.bad
noncomputable def bad {b:Type}:M b:=λZ=>.bad
theorem my {c β:Type}{m:M c}{f:c->M β}{σ b:List O}{a:c}(h:m σ=.ok a b):mq m f σ=f a b:=by unfold mq;rw[h]
theorem mu {b β:Type}{m:M b}{f:b->M β}{σ:List O}(h:m σ=.bad):mq m f σ=.bad:=by unfold mq;rw[h]
noncomputable abbrev Loc:=List (Str×V)
structure Cx where
 name:Str
 scope:Scope
 cells:List (Str×Nat)
inductive Fl where
 |next|cont
 |ret (v:V)
noncomputable def put {b:Type}(x:Str)(v:b):List (Str×b)->List (Str×b)
 | []=> [(x,v)]
 |(y,w)::r=>if x=y then(y,v)::r else(y,w)::put x v r
noncomputable def look {b:Type}(x:Str):List (Str×b)->Option b
 | []=>Option.none
 |(y,w)::r=>if x=y then some w else look x r
noncomputable def aC(o:O):M V:=λh=>.ok (.ref h.length) (h++ [o])
noncomputable def jP(x:Str):Option V:=
 if x= "NAN" then some (.tup [.int 0,.int 0])
 else if x= "INF" then some (.tup [.int 1,.int 0])
 else if x= "ZERO" then some (.tup [.int 0,.int 1])
 else if x= "ONE" then some (.tup [.int 1,.int 1])
 else if x= "MOST_POWER" then some (.int 4096)
 else if x= "MOST_INTEGER" then some (.int 2147483647)
 else Option.none
noncomputable def qF(o:Option O):Option V:=@Option.casesOn O (λZ=>Option V) o Option.none λo=>@O.casesOn (λZ=>Option V) o (λZ=>Option.none) (λZ=>Option.none) (λZ=>Option.none) (λZ Z=>Option.none) (λv=>v) (λZ Z Z=>Option.none) Option.none
theorem Ml {o:Option O}{v:V}(h:qF o=some v):o=some (.cell (some v)):=by
 induction o using Vp with
 |none=>exact ns h
 |some o=>induction o using O.casesOn with
  |cell=>exact Vk (λx=>some (O.cell x)) h
  |_=>exact ns h
noncomputable def jB(o:Option O):Bool:=@Option.casesOn O (λZ=>Bool) o false λo=>@O.casesOn (λZ=>Bool) o (λZ=>false) (λZ=>false) (λZ=>false) (λZ Z=>false) (λZ=>true) (λZ Z Z=>false) false
theorem Fv {o:Option O}(h:jB o=true):∃v,o=some (.cell v):=by
 induction o using Vp with
 |none=>exact ff h
 |some o=>induction o using O.casesOn with
  |cell v=>exact⟨v,rfl⟩
  |_=>exact ff h
def BJ(c:Cx)(x:Str)(h:List O):R V:=if x= "__classdict__" then .bad else(look x c.cells).elim .bad λn=>(qF h[n]?).elim .bad λv=>.ok v h
def Pz(c:Cx)(l:Loc)(x:Str)(h:List O)(k:NameKind):R V:=match k with
 |.local=>(look x l).elim .bad λv=>.ok v h
 |.cell|.free=>BJ c x h
 |.globalImplicit=>(jP x).elim .bad λv=>.ok v h
 |_=>.bad
def rd(c:Cx)(l:Loc)(x:Str):M V:=λh=>(c.scope.names.lookup x).elim .bad (Pz c l x h)
def Ox(c:Cx)(x:Str)(v:V)(l:Loc)(h:List O):R Loc:=(look x c.cells).elim .bad λn=>bif jB h[n]? then .ok l (h.set n (.cell (some v)))else .bad
def PA(c:Cx)(x:Str)(v:V)(l:Loc)(h:List O)(k:NameKind):R Loc:=match k with
 |.local=>.ok (put x v l) h
 |.cell=>Ox c x v l h
 |_=>.bad
def wr(c:Cx)(x:Str)(v:V)(l:Loc):M Loc:=λh=>(c.scope.names.lookup x).elim .bad (PA c x v l h)
noncomputable def Fw(o p:Option Bool):Option Bool:=o.bind λx=>p.map λy=>x&&y
theorem Ax {o p:Option Bool}{r:Bool}(h:Fw o p=some r):∃x y,o=some x/\p=some y/\(x&&y)=r:=by
 refine ac (S9.mp h) λx d c=>ac (Tf.mp c) λy f b=>aU x y ⟨d,f,b⟩
noncomputable def gE(f:V->V->Option Bool):List V->List V->Option Bool
 | []=>λZ=>some true
 |x::xs=>λb=>@List.casesOn V (λZ=>Option Bool) b (some true) λy b=>Fw (f x y) (gE f xs b)
def eM(f:V->V->Option Bool)(b:List (Str×V)):List (Str×V)->Option Bool
 | []=>some true
 |p::r=>(eM f b r).bind λq=>(look p.1 b).elim (some false) λw=>(f p.2 w).map λx=>x&&q
noncomputable def dM(o:Option O):Option (List V):=@Option.casesOn O (λZ=>Option (List V)) o Option.none λo=>@O.casesOn (λZ=>Option (List V)) o (λl=>some l) (λZ=>Option.none) (λZ=>Option.none) (λZ Z=>Option.none) (λZ=>Option.none) (λZ Z Z=>Option.none) Option.none
noncomputable def dct(o:Option O):Option (List (Str×V)):=@Option.casesOn O (λZ=>Option (List (Str×V))) o Option.none λo=>@O.casesOn (λZ=>Option (List (Str×V))) o (λZ=>Option.none) (λZ=>Option.none) (λl=>some l) (λZ Z=>Option.none) (λZ=>Option.none) (λZ Z Z=>Option.none) Option.none
noncomputable def oP(o:Option O):Option (Str×List (Str×V)):=@Option.casesOn O (λZ=>Option (Str×List (Str×V))) o Option.none λo=>@O.casesOn (λZ=>Option (Str×List (Str×V))) o (λZ=>Option.none) (λZ=>Option.none) (λZ=>Option.none) (λc l=>some (c,l)) (λZ=>Option.none) (λZ Z Z=>Option.none) Option.none
theorem dw {o:Option O}{l:List V}(h:dM o=some l):o=some (.list l):=by
 induction o using Vp with
 |none=>exact ns h
 |some o=>induction o using O.casesOn with
  |list=>exact Vk (λx=>some (O.list x)) (Uu h)
  |_=>exact ns h
theorem fy {o:Option O}{l:List (Str×V)}(h:dct o=some l):o=some (.dict l):=by
 induction o using Vp with
 |none=>exact ns h
 |some o=>induction o using O.casesOn with
  |dict=>exact Vk (λx=>some (O.dict x)) (Uu h)
  |_=>exact ns h
theorem rR {o:Option O}{q:Str×List (Str×V)}(h:oP o=some q):o=some (.inst q.1 q.2):=by
 induction o using Vp with
 |none=>exact ns h
 |some o=>induction o using O.casesOn with
  |inst=>exact Vk (λx=>some (O.inst x.1 x.2)) (Uu h)
  |_=>exact ns h
theorem gq {c:Type}{o:Option O}{l:List V}{b:c}{f:List V->c}(e:o=some (.list l)):(dM o).elim b f=f l:=by rw[e];rfl
theorem ij {c:Type}{o:Option O}{l:List (Str×V)}{b:c}{f:List (Str×V)->c}(e:o=some (.dict l)):(dct o).elim b f=f l:=by rw[e];rfl
theorem jQ {d:Type}{o:Option O}{c:Str}{l:List (Str×V)}{b:d}{f:Str×List (Str×V)->d}(e:o=some (.inst c l)):(oP o).elim b f=f (c,l):=by rw[e];rfl
theorem fA {c β:Type}{o:Option β}{v:β}{b:c}{f:β->c}(e:o=some v):o.elim b f=f v:=by rw[e];rfl
noncomputable def dz(v:V):Option Nat:=@V.casesOn (λZ=>Option Nat) v Option.none (λZ=>Option.none) (λZ=>Option.none) (λZ=>Option.none) (λZ=>Option.none) (λn=>some n)
noncomputable def ik(v:V):Option Str:=@V.casesOn (λZ=>Option Str) v Option.none (λZ=>Option.none) (λZ=>Option.none) (λs=>some s) (λZ=>Option.none) (λZ=>Option.none)
noncomputable abbrev Vt:=@V.casesOn.{0}
theorem cS {v:V}(h:dz v=some n):v=.ref n:=by
 induction v using Vt with
 |ref=>exact Vk V.ref (Uu h)
 |_=>exact ns h
theorem gM {v:V}{n:Str}(h:ik v=some n):v=.str n:=by
 induction v using Vt with
 |str=>exact Vk V.str (Uu h)
 |_=>exact ns h
def both {c:Type}(g:Option O->Option c)(h:List O)(a b:V):Option (c×c):=(dz a).bind λm=>(dz b).bind λn=>(g h[m]?).bind λx=>(g h[n]?).map λy=>(x,y)
theorem Ay {c:Type}{g:Option O->Option c}{h:List O}{a b:V}{q:c×c}(e:both g h a b=some q):∃m n,a=.ref m/\b=.ref n/\g h[m]?=some q.1/\g h[n]?=some q.2:=by
 refine ac (S9.mp e) λm l e=>ac (S9.mp e) λn f e=>ac (S9.mp e) λx j e=>ac (Tf.mp e) λy d e=>?_;subst e;exact aU m n ⟨cS l,cS f,j,d⟩
theorem tW {b:Type}{g:Option O->Option b}{h:List O}{m:Nat}{x y:b}(d:g h[m]?=some x)(c:g h[n]?=some y):both g h (.ref m) (.ref n)=some (x,y):=by
 show((g h[m]?).bind λx=>(g h[n]?).map λy=>(x,y))=_
 rw[d,c];rfl
theorem vz {b:Type}{g:Option O->Option b}{h:List O}{m:Nat}(c:g h[m]?=none):both g h (.ref m) (.ref n)=none:=by
 show((g h[m]?).bind λx=>(g h[n]?).map λy=>(x,y))=_
 rw[c];rfl
noncomputable def lq(f:V->V->Option Bool)(xs b:List V):Option Bool:=(gE f xs b).map λr=>r&&decide (xs.length=b.length)
noncomputable def Oy(b:V):Option Bool:=@V.casesOn (λZ=>Option Bool) b (some true) (λZ=>Option.none) (λZ=>some false) (λZ=>some false) (λZ=>some false) (λZ=>Option.none)
noncomputable def R7(x:Int)(b:V):Option Bool:=@V.casesOn (λZ=>Option Bool) b (some false) (λZ=>Option.none) (λy=>some (decide (x=y))) (λZ=>Option.none) (λZ=>Option.none) (λZ=>Option.none)
noncomputable def R8(x:Str)(b:V):Option Bool:=@V.casesOn (λZ=>Option Bool) b (some false) (λZ=>Option.none) (λZ=>Option.none) (λy=>some (decide (x=y))) (λZ=>Option.none) (λZ=>Option.none)
noncomputable def R9(f:V->V->Option Bool)(xs:List V)(b:V):Option Bool:=@V.casesOn (λZ=>Option Bool) b (some false) (λZ=>Option.none) (λZ=>Option.none) (λZ=>Option.none) (λc=>lq f xs c) (λZ=>Option.none)
def Sa(h:List O)(f:V->V->Option Bool)(m:Nat)(b:V):Option Bool:=(dz b).bind λn=>(dM h[m]?).bind λxs=>(dM h[n]?).bind λc=>lq f xs c
def Sb(h:List O)(f:V->V->Option Bool)(a b:V):Option Bool:=@V.casesOn (λZ=>Option Bool) a (Oy b) (λZ=>Option.none) (λx=>R7 x b) (λx=>R8 x b) (λxs=>R9 f xs b) (λm=>Sa h f m b)
def cT(h:List O):Nat->V->V->Option Bool
 |0=>λZ Z=>Option.none
 |k+1=>Sb h (cT h k)
def eO(h:List O)(a b:V):Option Bool:=(both dct h a b).elim (cT h 8 a b) λq=>(eM (cT h 8) q.2 q.1).map λr=>r&&decide (q.1.length=q.2.length)
def jR(h:List O)(a b:V):Option Bool:=(both dM h a b).elim (eO h a b) λq=>lq (eO h) q.1 q.2
def im(h:List O)(v:V):Bool:=(dz v).any λn=>(oP h[n]?).isSome
def Mm(a b:V):M Bool:=λh=>(eO h a b).elim ((ik b).elim .bad λZ=>bif im h a then .ok false h else .bad) λr=>.ok r h
def truth(v:V):M Bool:=@V.casesOn (λZ=>M Bool) v bad (λb=>mr b) (λZ=>bad) (λZ=>bad) (λZ=>bad) λn h=>(dct h[n]?).elim .bad λl=>if l.length<=4096 then .ok (!l.isEmpty) h else .bad
noncomputable def line:Nat:=4096
noncomputable def isNone(v:V):Bool:=@V.casesOn (λZ=>Bool) v true (λZ=>false) (λZ=>false) (λZ=>false) (λZ=>false) (λZ=>false)
noncomputable def eG(v:V):Option Int:=@V.casesOn (λZ=>Option Int) v Option.none (λZ=>Option.none) (λi=>some i) (λZ=>Option.none) (λZ=>Option.none) (λZ=>Option.none)
theorem gN {v:V}{n:Int}(h:eG v=some n):v=.int n:=by
 induction v using Vt with
 |int=>exact Vk V.int (Uu h)
 |_=>exact ns h
theorem Dy {v:V}(h:isNone v=true):v=.none:=by
 induction v using Vt with
 |none=>rfl
 |_=>exact ff h
def kJ(a b:V):Option (Int×Int):=(eG a).bind λx=>(eG b).map λy=>(x,y)
theorem qY {a b:V}{q:Int×Int}(h:kJ a b=some q):a=.int q.1/\b=.int q.2:=by
 refine ac (S9.mp h) λx d e=>ac (Tf.mp e) λy c e=>?_;rw[<-e];exact⟨gN d,gN c⟩
def HV(a b:V):Option (Str×Str):=(ik a).bind λx=>(ik b).map λy=>(x,y)
def Dz(a b:V):Option (Nat×Int):=(dz a).bind λx=>(eG b).map λy=>(x,y)
theorem xt {a b:V}{q:Str×Str}(h:HV a b=some q):a=.str q.1/\b=.str q.2:=by
 refine ac (S9.mp h) λx d e=>ac (Tf.mp e) λy c e=>?_;rw[<-e];exact⟨gM d,gM c⟩
theorem vA {a b:V}{q:Nat×Int}(h:Dz a b=some q):a=.ref q.1/\b=.int q.2:=by
 refine ac (S9.mp h) λx d e=>ac (Tf.mp e) λy c e=>?_;rw[<-e];exact⟨cS d,gN c⟩
def na(a b:V)(g:Int×Int->Bool)(f:Int×Int->Int):M V:=λh=>(kJ a b).elim .bad λq=>bif g q then .ok (.int (f q)) h else .bad
def DA(a b:V):M V:=λh=>(HV a b).elim .bad λq=>bif decide (q.1.length+q.2.length<=line)then .ok (.str (q.1++q.2)) h else .bad
def Az(a b:V):M V:=λh=>(Dz a b).elim .bad λq=>(dM h[q.1]?).elim .bad λl=>bif decide (0<=q.2)&&(decide (q.2<=line)&&decide (l.length*q.2.toNat<=line))then .ok (.ref h.length) (h++ [.list (List.replicate q.2.toNat l).flatten])else .bad
def ah(op:Operator)(a b:V):M V:=match op with
 |.Add=>bif (eG a).isSome then na a b (λZ=>true) (λq=>q.1+q.2)else DA a b
 |.Sub=>na a b (λZ=>true) (λq=>q.1-q.2)
 |.Mult=>bif (eG a).isSome then na a b (λq=>decide (q.1.natAbs<2^2000)&&decide (q.2.natAbs<2^2000)) (λq=>q.1*q.2)else Az a b
 |.FloorDiv=>na a b (λq=> !(decide (q.2=0))&&decide (q.2.natAbs<2^2000)) (λq=>q.1.fdiv q.2)
 |.Mod=>na a b (λq=> !(decide (q.2=0))) (λq=>q.1.fmod q.2)
 |.Pow=>na a b (λq=>decide (0<=q.2)&&(decide (q.2<=4096)&&decide (q.1.natAbs<2^2000))) (λq=>q.1^q.2.toNat)
 |_=>bad
noncomputable def tX(b:Str):V->Bool
 |.str t=>decide (t=b)
 |_=>false
noncomputable def xu:V->Bool
 |.str _=>true
 |_=>false
def cmp(op:CmpOp)(a b:V):M Bool:=λh=>match op with
 |.Eq=>Mm a b h
 |.NotEq=>(jR h a b).elim .bad λr=>.ok (!r) h
 |.Is=>bif isNone b then .ok (isNone a) h else .bad
 |.IsNot=>bif isNone b then .ok (!isNone a) h else .bad
 |.Lt=>(kJ a b).elim .bad λq=>.ok (decide (q.1<q.2)) h
 |.LtE=>(kJ a b).elim .bad λq=>.ok (decide (q.1<=q.2)) h
 |.Gt=>(kJ a b).elim .bad λq=>.ok (decide (q.1>q.2)) h
 |.GtE=>(kJ a b).elim .bad λq=>.ok (decide (q.1>=q.2)) h
 |.In=>memb a b h
 |.NotIn=>(match memb a b h with|.ok r h'=>.ok (!r) h'|.exc e h'=>.exc e h'|.bad=>.bad)
where
 memb (a b:V):M Bool:=λh=>(ik a).elim .bad λs=>@V.casesOn (λZ=>R Bool) b .bad (λZ=>.bad) (λZ=>.bad) (λZ=>.bad) (λl=>if l.all xu then .ok (l.any (tX s)) h else .bad)
  (λn=>(dct h[n]?).elim .bad λl=>.ok (look s l).isSome h)
noncomputable def jM(a:Str):Bool:=a= "kind"||a= "items"||a= "attrs"||a= "shared"||a= "loose"
def aM(o:V)(a:Str):M V:=λh=>bif jM a then(dz o).elim .bad λn=>(oP h[n]?).elim .bad λq=>(look a q.2).elim .bad λv=>.ok v h else .bad
def dF(o:V)(a:Str)(v:V):M Unit:=λh=>bif jM a then(dz o).elim .bad λn=>(oP h[n]?).elim .bad λq=>if q.2.length<=64 then .ok () (h.set n (.inst q.1 (put a v q.2)))else .bad else .bad
def cH(d k v:V):M Unit:=λh=>(dz d).elim .bad λn=>(ik k).elim .bad λs=>(dct h[n]?).elim .bad λl=>if l.length<=line then .ok () (h.set n (.dict (put s v l)))else .bad
noncomputable def Fx(l:List V)(k:Int):M V:=λh=>if 0<=k/\k<2^62 then(l[k.toNat]?).elim .bad λv=>.ok v h else .bad
noncomputable def kL(l:List V)(k:Int):M V:=λh=>if 0<=k/\k<2^62 then(l[k.toNat]?).elim .bad λv=>.ok v h
 else if k= -1/\l.length<2^62 then(l.getLast?).elim .bad λv=>.ok v h else .bad
def ak(o i:V):M V:=@V.casesOn (λZ=>M V) o bad (λZ=>bad) (λZ=>bad) (λZ=>bad) (λl h=>(eG i).elim .bad λk=>Fx l k h)
 (λn=>@V.casesOn (λZ=>M V) i bad (λZ=>bad) (λk h=>(dM h[n]?).elim .bad λl=>kL l k h) (λs h=>(dct h[n]?).elim .bad λl=>(look s l).elim .bad λv=>.ok v h) (λZ=>bad) (λZ=>bad))
noncomputable def rS:Option O->Option (List V)
 |some (.list l)=>some l
 |some (.flist l)=>some l
 |_=>Option.none
def kM(o:V)(k:Int):M V:=λh=>(dz o).elim .bad λn=>(rS h[n]?).elim .bad λl=>if 0<=k/\k<=line/\l.length<=line*line then .ok (.ref h.length) (h++ [.list (l.take k.toNat)])else .bad
noncomputable def qZ(m:Str):Bool:=decide (m= "append")||(decide (m= "pop")||decide (m= "reverse"))
def bQ(o:V)(m:Str):M Unit:=λh=>(dz o).elim .bad λn=>bif qZ m then(dM h[n]?).elim .bad λZ=>.ok () h else bif decide (m= "get")then(dct h[n]?).elim .bad λZ=>.ok () h else .bad
noncomputable def fc(l:List V):Option V:=@List.casesOn V (λZ=>Option V) l Option.none λv r=>bif r.isEmpty then some v else Option.none
theorem DB {l:List V}{v:V}(h:fc l=some v):l= [v]:=by
 induction l using Vr with
 |nil=>exact ns h
 |cons w r=>induction r using Vr with
  |nil=>rw[Uu h]
  |cons=>exact ns h
def Mn(l:List V):Option (Str×V):=@List.casesOn V (λZ=>Option (Str×V)) l Option.none λv r=>(ik v).bind λs=>bif r.isEmpty then some (s,.none)else(fc r).map λd=>(s,d)
theorem IE {l:List V}{q:Str×V}(h:Mn l=some q):(l= [.str q.1]/\q.2=.none)\/l= [.str q.1,q.2]:=by
 induction l using Vr with
 |nil=>exact ns h
 |cons w r=>
  refine ac (S9.mp h) λs c e=>?_;rw[gM c];induction r using Vr with
  |nil=>rw[<-Uu e];exact .inl ⟨rfl,rfl⟩
  |cons=>
   refine ac (Tf.mp e) λd b e=>?_;rw[DB b,<-e];exact .inr rfl
def md(n:Nat)(l as:List V):M V:=λh=>(fc as).elim .bad λv=>if l.length<line*line then .ok .none (h.set n (.list (l++ [v])))else .bad
def xw(n:Nat)(l as:List V):M V:=λh=>bif as.isEmpty then if l.length<=line*line then(l.getLast?).elim .bad λv=>.ok v (h.set n (.list l.dropLast))else .bad else .bad
def xx(n:Nat)(l as:List V):M V:=λh=>bif as.isEmpty then if l.length<=line*line then .ok .none (h.set n (.list l.reverse))else .bad else .bad
def BK(l:List (Str×V))(as:List V):M V:=λh=>(Mn as).elim .bad λq=>.ok ((look q.1 l).getD q.2) h
def bN(o:V)(m:Str)(as:List V):M V:=λh=>(dz o).elim .bad λn=>bif decide (m= "get")then(dct h[n]?).elim .bad λl=>BK l as h
 else(dM h[n]?).elim .bad λl=>if m= "append" then md n l as h else if m= "pop" then xw n l as h else if m= "reverse" then xx n l as h else .bad
noncomputable def xy(x:Str):Bool:=x= "len"||x= "abs"||x= "max"||x= "min"||x= "list"||x= "dict"||x= "chr"||x= "str"
noncomputable def xz:List V->Option Nat
 | [.ref n]=>some n
 |_=>Option.none
noncomputable def xA:List V->Option Int
 | [.int i]=>some i
 |_=>Option.none
noncomputable def DC:List V->Option (Int×Int)
 | [.int i,.int j]=>some (i,j)
 |_=>Option.none
theorem xB {l:List V}(h:xz l=some n):l= [.ref n]:=by
 rcases l with _|⟨v,_|⟨w,r⟩⟩
 ·exact ns h
 ·induction v using Vt with
  |ref n=>injection h with h;rw[h]
  |_=>exact ns h
 ·induction v using Vt with
  |_=>exact ns h
theorem xC {l:List V}{n:Int}(h:xA l=some n):l= [.int n]:=by
 rcases l with _|⟨v,_|⟨w,r⟩⟩
 ·exact ns h
 ·induction v using Vt with
  |int n=>injection h with h;rw[h]
  |_=>exact ns h
 ·induction v using Vt with
  |_=>exact ns h
theorem DD {l:List V}{q:Int×Int}(h:DC l=some q):l= [.int q.1,.int q.2]:=by
 rcases l with _|⟨v,_|⟨w,_|⟨x,r⟩⟩⟩
 ·exact ns h
 ·induction v using Vt with
  |_=>exact ns h
 ·induction v using Vt with
  |int i=>induction w using Vt with
   |int j=>injection h with h;subst h;rfl
   |_=>exact ns h
  |_=>exact ns h
 ·induction v using Vt with
  |int i=>induction w using Vt with
   |_=>exact ns h
  |_=>exact ns h
def Fy(n:Nat):M V:=λh=>(dM h[n]?).elim .bad λl=>if l.length<2^40 then .ok (.int l.length) h else .bad
def BL(n:Nat):M V:=λh=>(dM h[n]?).elim .bad λl=>if l.length<=line*line then .ok (.ref h.length) (h++ [.list l])else .bad
def BM(n:Nat):M V:=λh=>(dct h[n]?).elim .bad λl=>if l.length<=line then .ok (.ref h.length) (h++ [.dict l])else .bad
noncomputable def fG {b:Type}(o:Option b)(f:b->M V):M V:=λh=>o.elim .bad λa=>f a h
def builtin(x:Str)(as:List V):M V:=λh=>
 if x= "len" then fG (xz as) Fy h
 else if x= "abs" then fG (xA as) (λi=>mr (.int i.natAbs)) h
 else if x= "max" then fG (DC as) (λq=>mr (.int (if q.2>q.1 then q.2 else q.1))) h
 else if x= "min" then fG (DC as) (λq=>mr (.int (if q.2<q.1 then q.2 else q.1))) h
 else if x= "list" then fG (xz as) BL h
 else if x= "dict" then fG (xz as) BM h
 else if x= "chr" then fG (xA as) (λi h=>if 0<=i/\i<128 then .ok (.str ⟨#[i.toNat]⟩) h else .bad) h
 else if x= "str" then fG (xA as) (λi h=>if i.natAbs<2^1000 then .ok (.str (Str.ofString (toString i))) h else .bad) h
 else .bad
inductive It where
 |list (n:Nat)
 |vals (l:List V)
 |range (k:Nat)
 |keys (n:Nat) (ks:List Str)
 |items (n:Nat) (ks:List Str)
def bY(v:V):M It:=@V.casesOn (λZ=>M It) v bad (λZ=>bad) (λZ=>bad) (λZ=>bad) (λl=>mr (.vals l)) λn h=>(dM h[n]?).elim ((dct h[n]?).elim .bad λl=>.ok (.keys n (l.map (·.1))) h) λZ=>.ok (.list n) h
def rT(h:List O)(i:Nat)(it:It):Option (Option V):=@It.casesOn (λZ=>Option (Option V)) it (λn=>(dM h[n]?).map λl=>l[i]?) (λl=>some l[i]?) (λk=>some (if i<k then some (.int i)else Option.none))
 (λn ks=>(dct h[n]?).bind λl=>if l.map (·.1)=ks then some (ks[i]?.map .str)else Option.none) (λn ks=>(dct h[n]?).bind λl=>if l.map (·.1)=ks then some (l[i]?.map λp=>.tup [.str p.1,p.2])else Option.none)
def ci(it:It)(i:Nat):M (Option V):=λh=>(rT h i it).elim .bad λr=>.ok r h
noncomputable def eP {b:Type}(m:M b):M b:=λh=>match m h with
 |.exc _ _=>.bad
 |r=>r
def io(body:V->Loc->M (Fl×Loc))(it:It):Nat->Nat->Loc->M (Fl×Loc)
 |0,_,_=>bad
 |k+1,i,l=>mq (ci it i) λr=>match r with
  |Option.none=>mr (.next,l)
  |some v=>mq (eP (body v l)) λp=>match p.1 with
   |.ret v=>mr (.ret v,p.2)
   |_=>io body it k (i+1) p.2
def cz(turn:V->M (Option V))(it:It):Nat->Nat->List V->M (List V)
 |0,_,_=>bad
 |k+1,i,acc=>mq (ci it i) λr=>match r with
  |Option.none=>mr acc
  |some v=>mq (eP (turn v)) λq=>cz turn it k (i+1) (match q with|some x=>acc++ [x]|Option.none=>acc)
noncomputable def me(c:Loc->M Bool)(body:Loc->M (Fl×Loc)):Nat->Loc->M (Fl×Loc)
 |0,_=>bad
 |k+1,l=>mq (eP (c l)) λb=>match b with
  |false=>mr (.next,l)
  |true=>mq (eP (body l)) λp=>match p.1 with
   |.ret v=>mr (.ret v,p.2)
   |_=>me c body k p.2
noncomputable def eQ(e:Expr):Bool:=by
 induction e using Expr.casesOn with
 |Call=>exact true
 |_=>exact false
noncomputable def bZ(e:Expr):Bool:=by
 induction e using Expr.casesOn with
 |Name=>exact true
 |_=>exact false
noncomputable def mf(e:Expr):Bool:=by
 induction e using Expr.casesOn with
 |Slice=>exact true
 |_=>exact false
noncomputable def bI(e:Expr):Bool:=by
 induction e using Expr.casesOn with
 |Starred=>exact true
 |_=>exact false
noncomputable def HW(e:Expr):Bool:=by
 induction e using Expr.casesOn with
 |Tuple=>exact true
 |_=>exact false
def b6(it:It)(t:Expr):Bool:=@It.casesOn (λZ=>Bool) it (λZ=>HW t||bZ t) (λZ=>bZ t) (λZ=>bZ t) (λZ Z=>bZ t) (λZ Z=>HW t)
def dN(f:Expr->M V):List Expr->M (List V)
 | []=>mr []
 |e::r=>if bI e then bad else mq (f e) λv=>mq (dN f r) λvs=>mr (v::vs)
def AA(f:Expr->M V)(op:BoolOp):List Expr->M V
 | []=>bad
 | [x]=>f x
 |x::r=>mq (f x) λv=>mq (truth v) λb=>match op,b with
  |.And,false|.Or,true=>mr v
  |_,_=>AA f op r
noncomputable def nc(f:Expr->M Bool)(op:BoolOp):List Expr->M Bool
 | []=>mr (match op with|.And=>true|.Or=>false)
 |x::r=>mq (f x) λb=>match op,b with
  |.And,false=>mr false
  |.Or,true=>mr true
  |_,_=>nc f op r
noncomputable def db(f:Loc->Stmt->M (Fl×Loc)):List Stmt->Loc->M (Fl×Loc)
 | [],l=>mr (.next,l)
 |s::r,l=>mq (f l s) λp=>match p.1 with
  |.next=>db f r p.2
  |x=>mr (x,p.2)
noncomputable def mh(e:Expr):Option Str:=by
 induction e using Expr.casesOn with
 |Name x=>exact some x
 |_=>exact Option.none
theorem ip(h:mh e=some x):∃p,e=.Name x p:=by
 induction e using Vq with
 |Name x p=>injection h with h;subst h;exact⟨p,rfl⟩
 |_=>exact ns h
def names?:List Expr->Option (List Str)
 | []=>some []
 |e::r=>(mh e).bind λx=>(names? r).map (x:: ·)
def eH(c:Cx):List Str->List V->Loc->M Loc
 | [],vs,l=>(match vs with| []=>mr l|_::_=>bad)
 |x::xs,vs,l=>(match vs with|v::vs=>mq (wr c x v l) λb=>eH c xs vs b| []=>bad)
theorem ng {c:Cx}{xs:List Str}{v:V}{vs:List V}{l:Loc}:eH c (x::xs) (v::vs) l=mq (wr c x v l) λb=>eH c xs vs b:=rfl
noncomputable def jC(v:V):Option (List V):=@V.casesOn (λZ=>Option (List V)) v Option.none (λZ=>Option.none) (λZ=>Option.none) (λZ=>Option.none) (λl=>some l) (λZ=>Option.none)
theorem xD {v:V}{l:List V}(h:jC v=some l):v=.tup l:=by
 induction v using Vt with
 |tup=>exact Vk V.tup (Uu h)
 |_=>exact ns h
def jr(c:Cx)(b:List Expr)(v:V)(l:Loc):M Loc:=λh=>(names? b).elim .bad λxs=>(jC v).elim .bad λvs=>if xs.length=vs.length then eH c xs vs l h else .bad
def target(c:Cx)(t:Expr)(v:V)(l:Loc):M Loc:=by
 induction t using Expr.casesOn with
 |Name x=>exact wr c x v l
 |Tuple ts=>exact jr c ts v l
 |_=>exact bad
noncomputable def Mo(k:Const):Option Int:=by
 induction k using Const.casesOn with
 |int k=>exact some k
 |_=>exact Option.none
noncomputable def xE(k:Const):Option Str:=by
 induction k using Const.casesOn with
 |str k=>exact some k
 |_=>exact Option.none
theorem IF {i:Int}(h:Mo k=some i):k=.int i:=by
 induction k using Const.casesOn with
 |int=>exact Vk Const.int (Uu h)
 |_=>exact ns h
theorem AB {i:Str}(h:xE k=some i):k=.str i:=by
 induction k using Const.casesOn with
 |str=>exact Vk Const.str (Uu h)
 |_=>exact ns h
noncomputable def q5(e:Expr):Option Const:=by
 induction e using Expr.casesOn with
 |Constant k=>exact some k
 |_=>exact Option.none
theorem tY(h:q5 e=some k):∃i p,e=.Constant k i p:=by
 induction e using Vq with
 |Constant k i p=>rw[Uu h];exact aU i p rfl
 |_=>exact ns h
noncomputable def PB(e:Expr):Option Expr:=by
 induction e using Expr.casesOn with
 |FormattedValue e cv fs=>exact bif decide (cv= -1)&&fs.isNone then some e else Option.none
 |_=>exact Option.none
theorem Mp {x:Expr}(h:PB e=some x):∃p,e=.FormattedValue x (-1) Option.none p:=by
 induction e using Vq with
 |FormattedValue e cv fs p=>
  replace h:(bif decide (cv= -1)&&fs.isNone then some e else Option.none)=some x:=h
  induction b:decide (cv= -1)&&fs.isNone using Vs with
  |false=>rw[b]at h;exact ns h
  |true=>
   rw[b]at h;have b:=Tm.mp b;exact⟨p,by rw[Uu h,T4 b.1,SX.mp b.2]⟩
 |_=>exact ns h
def nh(e:Expr):Option (Str ⊕ Expr):=(((q5 e).bind xE).map Sum.inl).or ((PB e).map Sum.inr)
theorem DE {s:Str}(h:nh e=some (.inl s)):∃k p,e=.Constant (.str s) k p:=by
 unfold nh at h;induction hc:(q5 e).bind xE using Vp with
 |none=>rw[hc]at h;exact ac (Tf.mp h) λx Z z=>nomatch z
 |some t=>
  rw[hc]at h;rw[<-Sum.inl.inj (Uu h)];exact ac (S9.mp hc) λk c b=>cI (tY c) λi p z=>aU i p (by rw[z,AB b])
theorem DF {x:Expr}(h:nh e=some (.inr x)):∃p,e=.FormattedValue x (-1) Option.none p:=by
 unfold nh at h;induction hc:(q5 e).bind xE using Vp with
 |none=>rw[hc]at h;exact ac (Tf.mp h) λy b z=>Sum.inr.inj z▸Mp b
 |some t=>rw[hc]at h;exact nomatch (Uu h)
def part(b:Str)(v:V):M Str:=(eG v).elim bad λi=>if i.natAbs<2^1000/\b.length+(Str.ofString (toString i)).length<=line then mr (b++Str.ofString (toString i))else bad
def eo(f:Expr->M V):List Expr->Str->M Str
 | [],acc=>mr acc
 |e::r,acc=>(nh e).elim bad λq=>match q with
   |.inl s=>if acc.length+s.length<=line then eo f r (acc++s)else bad
   |.inr e=>mq (f e) λv=>mq (part acc v) λa=>eo f r a
def cq(c:Cx)(sc:Scope):List (Str×Nat):=sc.names.filterMap λp=>match p.2 with
 |.free=>(look p.1 c.cells).map (p.1,·)
 |_=>Option.none
noncomputable def BO(c:Cx)(sc:Scope):Scope:= {sc with names:=sc.names.map λ(n,k)=>if(k==.free&&c.scope.kind==.function&&c.scope.names.lookup n==some .cell)then(n,.cell)else(n,k) }
def fH(c:Cx)(sc:Scope):Bool:=sc.kind==.function&&sc.names.all λp=>p.2 !=.cell&&(p.2 !=.local||sc.names.lookup p.1==some .local)&&(p.2 !=.free||(look p.1 c.cells).isSome)
def cr(c:Cx)(sc:Scope):Cx:=⟨Str.empty,BO c sc,cq c sc⟩
noncomputable def jD(sc:Scope):Bool:=sc.kind==.function&&sc.isGenerator==false&&sc.isCoroutine==false&&sc.names.all λp=>p.2 !=.cell&&p.2 !=.local
def pQ(c:Cx)(sc:Scope):Bool:=decide (c.name= "law")&&sc.kind==.function&&sc.isGenerator==false&&sc.isCoroutine==false&&sc.names.all λp=>p.2 !=.cell&&p.2 !=.local&&(p.2 !=.free||(look p.1 c.cells).isSome)
noncomputable def hM(sc:Scope):M (List (Str×Nat)):=go sc.names
where
 go:List (Str×NameKind)->M (List (Str×Nat))
  | []=>mr []
  |(x,k)::r=>match k with
   |.cell=>λh=>(mq (go r) λl=>mr ((x,h.length)::l)) (h++ [.cell Option.none])
   |_=>go r
structure Fn where
 params:Arguments
 body:List Stmt
 scope:Scope
noncomputable def nj(s:Stmt):Option Fn:=by
 induction s using Stmt.casesOn with
 |FunctionDef _ a b _ _ _ sc=>exact some ⟨a,b,sc⟩
 |_=>exact Option.none
def Sc(e:Expr):Bool:=(q5 e).any λk=>by
 induction k using Const.casesOn with
 |none=>exact true
 |_=>exact false
def pS(ps:List Arg)(ds:List Expr)(vs:List V):Option (List (Str×V)):=
 if vs.length=ps.length then some ((ps.map (·.arg)).zip vs)
 else bif ds.length==1&&ds.all Sc then(if vs.length+1=ps.length then some ((ps.map (·.arg)).zip (vs++ [.none]))else Option.none)else Option.none
structure Itp where
 ev:Cx->Loc->Expr->M V
 tst:Cx->Loc->Expr->M Bool
 ex:Cx->Loc->Stmt->M (Fl×Loc)
 call:Str->List V->M V
structure Prg where
 fn:Str->Option Fn
 init:Str->Option Fn
noncomputable def nq(P:Prg)(f:Str):Bool:=(P.fn f).isSome||(P.init f).isSome
def fj(I:Itp)(x:Str)(f:Fn)(vs:List V):M V:=match pS f.params.args f.params.defaults vs with
 |some bs=>mq (hM f.scope) λb=>mq (eH ⟨x,f.scope,b⟩ (bs.map (·.1)) (bs.map (·.2)) []) λl=>
   mq (db (I.ex ⟨x,f.scope,b⟩) f.body l) λp=>mr (match p.1 with|.ret v=>v|_=>.none)
 |Option.none=>bad
def gF(I:Itp)(c:Cx)(t f:Expr)(d:List Expr)(v:V):M (Option V):=
 mq (target c t v []) λg=>mq (nc (I.tst c g) .And d) λb=>match b with
  |true=>mq (I.ev c g f) λx=>mr (some x)
  |false=>mr Option.none
def tZ(I:Itp)(wf:Nat)(c:Cx)(l:Loc)(f:Expr)(t d:Expr)(b:List Expr)(sc:Scope)(jS:Cx->Loc->Expr->M It):M (List V):=
 if !bZ t|| !fH c sc||decide (1<b.length)then bad else mq (jS c l d) λit=>if b6 it t=false then bad else
  cz (gF I (cr c sc) t f b) it wf 0 []
noncomputable def ix(e:Expr):Bool:=by
 induction e using Expr.casesOn with
 |ListComp=>exact true
 |SetComp=>exact true
 |DictComp=>exact true
 |_=>exact false
def Mq:List Expr->Option (Str×Str)
 | [a,b]=>(mh a).bind λx=>(mh b).map λy=>(x,y)
 |_=>Option.none
theorem Mr {d:List Expr}{q:Str×Str}(h:Mq d=some q):∃p f,d= [.Name q.1 p,.Name q.2 f]:=by
 rcases d with _|⟨a,_|⟨b,_|⟨c,r⟩⟩⟩
 case cons.cons.nil=>
  obtain⟨x,t,g⟩:=S9.mp h;obtain⟨y,l,j⟩:=Tf.mp g
  clear h g
  obtain⟨p,rfl⟩:=ip t;obtain⟨f,rfl⟩:=ip l;subst j;exact aU p f rfl
 all_goals exact ns h
def oQ(b:List Expr)(e:Expr):Bool:=by
 induction e using Expr.casesOn with
 |Tuple vs=>exact(Mq b).elim false λq=>decide (q.1≠q.2)&& !(vs.all (constantsAlone 8))
 |_=>exact true
noncomputable def oR(e:Expr):Bool:=by
 induction e using Expr.casesOn with
 |Set=>exact true
 |_=>exact false
def dI(v:V):M It:=λh=>(dz v).elim .bad λn=>(dct h[n]?).elim .bad λd=>.ok (.items n (d.map (·.1))) h
noncomputable def BP(e:Expr):Option (Expr×List Expr×Pos):=by
 induction e using Expr.casesOn with
 |Call f as ks pos=>exact bif ks.isEmpty then some (f,as,pos)else Option.none
 |_=>exact Option.none
theorem xF {q:Expr×List Expr×Pos}(h:BP e=some q):e=.Call q.1 q.2.1 [] q.2.2:=by
 induction e using Vq with
 |Call f as ks pos=>induction ks using Vr with
  |nil=>rw[<-Uu h]
  |cons=>exact ns h
 |_=>exact ns h
noncomputable def xG(e:Expr):Option (Expr×Str×Pos):=by
 induction e using Expr.casesOn with
 |Attribute o a p=>exact some (o,a,p)
 |_=>exact Option.none
theorem uc {q:Expr×Str×Pos}(h:xG e=some q):e=.Attribute q.1 q.2.1 q.2.2:=by
 induction e using Vq with
 |Attribute=>rw[<-Uu h]
 |_=>exact ns h
noncomputable def fI {b:Type}(l:List b):Option b:=@List.casesOn b (λZ=>Option b) l Option.none λv r=>bif r.isEmpty then some v else Option.none
theorem dn {b:Type}{l:List b}{v:b}(h:fI l=some v):l= [v]:=by
 induction l using Vr with
 |nil=>exact ns h
 |cons w r=>induction r using Vr with
  |nil=>rw[Uu h]
  |cons=>exact ns h
def nu(e:Expr):Option (Str×Expr):=(BP e).bind λq=>(mh q.1).bind λf=>(fI q.2.1).map λa=>(f,a)
def rU(e:Expr):Option (Expr×Str×Bool):=(BP e).bind λq=>(xG q.1).bind λr=>bif q.2.1.isEmpty then some (r.1,r.2.1,r.2.2.endLine==q.2.2.line)else Option.none
theorem xH {q:Str×Expr}(h:nu e=some q):∃p pos,e=.Call (.Name q.1 p) [q.2] [] pos:=by
 refine ac (S9.mp h) λr g h=>ac (S9.mp h) λf c h=>ac (Tf.mp h) λa d h=>am (ip c) λp b=>?_;rw[<-h];exact aU p r.2.2 (by rw[xF g,b,dn d])
theorem Fz {q:Expr×Str×Bool}(h:rU e=some q):∃ap pos,e=.Call (.Attribute q.1 q.2.1 ap) [] [] pos/\q.2.2=(ap.endLine==pos.line):=by
 refine ac (S9.mp h) λr c h=>ac (S9.mp h) λf b h=>?_;induction hb:r.2.1.isEmpty using Vs with
 |false=>rw[hb]at h;exact ns h
 |true=>
  rw[hb]at h;rw[<-Uu h];exact aU f.2.2 r.2.2 ⟨by rw[xF c,uc b,T8.mp hb],rfl⟩
def bt(v:V):M It:=λh=>(eG v).elim .bad λk=>if k<2^62/\ -(2^62)<=k then .ok (.range k.toNat) h else .bad
def jS(I:Itp)(c:Cx)(l:Loc)(e:Expr):M It:=if oR e then bad else match nu e with
 |some q=>if q.1= "range"/\c.scope.names.lookup q.1=some .globalImplicit/\bI q.2=false then mq (I.ev c l q.2) bt else mq (I.ev c l e) bY
 |Option.none=>match rU e with
  |some q=>if q.2.1= "items"/\eQ q.1=false/\q.2.2=true then mq (I.ev c l q.1) dI else mq (I.ev c l e) bY
  |Option.none=>mq (I.ev c l e) bY
def Ms(l:List (Str×V))(p:Str×V):List (Str×V):=put p.1 p.2 l
noncomputable def mi:V->Str×V
 |.tup [.str k,v]=>(k,v)
 |_=>(Str.empty,.none)
def bR(ps:List V):List (Str×V):=ps.foldl (λl p=>Ms l (mi p)) []
def eS(I:Itp)(c:Cx)(t k v:Expr)(x:V):M (Option V):=
 mq (target c t x []) λb=>mq (I.ev c b k) λd=>mq (I.ev c b v) λf=>match d with
  |.str _=>mr (some (.tup [d,f]))
  |_=>bad
def rV {c:Type}(l:List c):Option (c×c):=@List.casesOn c (λZ=>Option (c×c)) l Option.none λa r=>(fI r).map λb=>(a,b)
def rW {c:Type}(l:List c):Option (c×c×c):=@List.casesOn c (λZ=>Option (c×c×c)) l Option.none λa r=>(rV r).map λb=>(a,b)
theorem oS {c:Type}{l:List c}{q:c×c}(h:rV l=some q):l= [q.1,q.2]:=by
 induction l using Vr with
 |nil=>exact ns h
 |cons a r=>exact ac (Tf.mp h) λb e z=>by rw[dn e,<-z]
theorem oU {c:Type}{l:List c}{q:c×c×c}(h:rW l=some q):l= [q.1,q.2.1,q.2.2]:=by
 induction l using Vr with
 |nil=>exact ns h
 |cons a r=>exact ac (Tf.mp h) λb e z=>by rw[oS e,<-z]
theorem FA {b:Type}{l:List b}(h:l.length=1):∃a,fI l=some a:=by
 induction l using Vr with
 |nil=>exact nomatch h
 |cons a r=>induction r using Vr with
  |nil=>exact⟨a,rfl⟩
  |cons=>exact nomatch h
theorem AE {c:Type}{l:List c}(h:l.length=2):∃q,rV l=some q:=by
 induction l using Vr with
 |nil=>exact nomatch h
 |cons a r=>exact am (FA (U4 h)) λb e=>⟨(a,b),by show(fI r).map _=_;rw[e];rfl⟩
theorem IG {c:Type}{l:List c}(h:l.length=3):∃q,rW l=some q:=by
 induction l using Vr with
 |nil=>exact nomatch h
 |cons a r=>exact am (AE (U4 h)) λb e=>⟨(a,b),by show(rV r).map _=_;rw[e];rfl⟩
def BQ(o:Option Expr):Option Str:=(o.bind q5).bind xE
theorem ue {o:Option Expr}(h:BQ o=some x):∃i p,o=some (.Constant (.str x) i p):=
 ac (S9.mp h) λc g d=>ac (S9.mp g) λe f b=>cI (tY b) λi p z=>aU i p (by rw[f,z,AB d])
def FC(l:List (Option Expr)):Option (Str×Str×Str):=(rW l).bind λt=>(BQ t.1).bind λx=>(BQ t.2.1).bind λy=>(BQ t.2.2).map λz=>(x,y,z)
theorem IH {ks:List (Option Expr)}{q:Str×Str×Str}(h:FC ks=some q):∃b d c j g f,ks= [some (.Constant (.str q.1) b d),some (.Constant (.str q.2.1) c j),some (.Constant (.str q.2.2) g f)]:=by
 refine ac (S9.mp h) λt A h=>ac (S9.mp h) λx p h=>ac (S9.mp h) λy r h=>ac (Tf.mp h) λz u h=>cI (ue p) λb d l=>cI (ue r) λc j v=>cI (ue u) λg f w=>KZ b d c j g f ?_;rw[oU A,l,v,w,<-h]
def Mt(e:Expr):Option Int:=(q5 e).bind Mo
def BR(e:Expr):Option Int:=by
 induction e using Expr.casesOn with
 |Slice a b c=>exact bif a.isNone&&c.isNone then b.bind Mt else Option.none
 |_=>exact Option.none
theorem IJ {k:Int}(h:Mt e=some k):∃i p,e=.Constant (.int k) i p:=
 ac (S9.mp h) λc d b=>cI (tY d) λi p z=>aU i p (by rw[z,IF b])
theorem FD {k:Int}(h:BR e=some k):∃kd p0 p1,e=.Slice Option.none (some (.Constant (.int k) kd p0)) Option.none p1:=by
 induction e using Vq with
 |Slice a b c p=>
  induction a using Vp with
  |some=>exact ns h
  |none=>induction c using Vp with
   |some=>exact ns h
   |none=>induction b using Vp with
    |none=>exact ns h
    |some b=>exact cI (IJ h) λi q z=>by rw[z];exact bJ i q p rfl
 |_=>exact ns h
noncomputable def clo(o:Option O):Option (Expr×Scope×List (Str×Nat)):=@Option.casesOn O (λZ=>Option (Expr×Scope×List (Str×Nat))) o Option.none λo=>@O.casesOn (λZ=>Option (Expr×Scope×List (Str×Nat))) o (λZ=>Option.none) (λZ=>Option.none) (λZ=>Option.none) (λZ Z=>Option.none) (λZ=>Option.none) (λb sc c=>some (b,sc,c)) Option.none
noncomputable def BS(o:Option O):Bool:=@Option.casesOn O (λZ=>Bool) o false λo=>@O.casesOn (λZ=>Bool) o (λZ=>false) (λZ=>false) (λZ=>false) (λZ Z=>false) (λZ=>false) (λZ Z Z=>false) true
theorem IK {o:Option O}{q:Expr×Scope×List (Str×Nat)}(h:clo o=some q):o=some (.clo q.1 q.2.1 q.2.2):=by
 induction o using Vp with
 |none=>exact ns h
 |some o=>induction o using O.casesOn with
  |clo=>exact Vk (λx=>some (O.clo x.1 x.2.1 x.2.2)) (Uu h)
  |_=>exact ns h
theorem FE {o:Option O}(h:BS o=true):o=some .tab:=by
 induction o using Vp with
 |none=>exact ff h
 |some o=>induction o using O.casesOn with
  |tab=>rfl
  |_=>exact ff h
noncomputable def Mu(k:Const):M V:=by
 induction k using Const.casesOn with
 |none=>exact mr .none
 |bool b=>exact mr (.bool b)
 |int i=>exact mr (.int i)
 |str s=>exact mr (.str s)
 |_=>exact bad
def nz(v:V):M V:=λh=>(eG v).elim .bad λi=>.ok (.int (-i)) h
def Ss(op:UnaryOp)(m:M V):M V:=by
 induction op using UnaryOp.casesOn with
 |USub=>exact mq m nz
 |Not=>exact mq m λx=>mq (truth x) λb=>mr (.bool (!b))
 |_=>exact bad
def uf {d:Type}(c:List CmpOp)(bs:List Expr)(f:CmpOp->Expr->M d):M d:=(fI c).elim bad λop=>(fI bs).elim bad λb=>if behindInMarks op b then bad else f op b
def nC(h:List O)(v:V):Option Str:=((dz v).bind λn=>oP h[n]?).map (·.1)
def isV(k:Str)(v:V):M V:=λh=>if k= "Vector" then(nC h v).elim .bad λb=>if b= "Vector" then .ok (.bool true) h else .bad
 else if k= "str" then bif (ik v).isSome then .ok (.bool true) h else(nC h v).elim .bad λb=>if b= "Vector" then .ok (.bool false) h else .bad
 else .bad
def Mw(as:List Expr):Option (Expr×Str):=(rV as).bind λq=>(mh q.2).map λk=>(q.1,k)
def BU(I:Itp)(v:V):M V:=λh=>((dz v).bind λn=>clo h[n]?).elim .bad λq=>if jD q.2.1 then I.ev ⟨Str.empty,q.2.1,q.2.2⟩ [] q.1 h else .bad
def Mx(I:Itp)(c:Cx)(l:Loc)(as:List Expr):M V:=(Mw as).elim bad λq=>if c.scope.names.lookup q.2=some .globalImplicit then mq (I.ev c l q.1) (isV q.2)else bad
def HX(P:Prg)(I:Itp)(c:Cx)(l:Loc)(f:Str)(as:List Expr):M V:=
 if as.any bI then bad else if c.scope.names.lookup f=some .globalImplicit then
  (if f= "isinstance" then Mx I c l as
  else if xy f then mq (dN (I.ev c l) as) λvs=>builtin f vs
  else if nq P f then mq (dN (I.ev c l) as) λvs=>I.call f vs else bad)
 else if c.scope.names.lookup f=some .local/\as= []/\(f==("__debug__":Str))=false then mq (rd c l f) (BU I)
 else bad
def DG(r:Expr×Str×Pos)(as:List Expr)(pos:Pos):Bool:=eQ r.1|| !(r.2.2.endLine==pos.line)||decide (20<as.length)||as.any bI
def HY(I:Itp)(c:Cx)(l:Loc)(r:Expr×Str×Pos)(as:List Expr)(pos:Pos):M V:=if DG r as pos then bad else mq (I.ev c l r.1) λv=>mq (bQ v r.2.1) λZ=>mq (dN (I.ev c l) as) λvs=>bN v r.2.1 vs
noncomputable def AF(a:Arguments):Bool:=a.posonlyargs.isEmpty&&(a.args.isEmpty&&(a.vararg.isNone&&(a.kwonlyargs.isEmpty&&(a.kw_defaults.isEmpty&&(a.kwarg.isNone&&a.defaults.isEmpty)))))
theorem BW {a:Arguments}(h:AF a=true):a=⟨[],[],none,[],[],none,[]⟩:=by
 refine af (Tm.mp h) λg h=>af (Tm.mp h) λc h=>af (Tm.mp h) λj h=>af (Tm.mp h) λb h=>af (Tm.mp h) λd h=>af (Tm.mp h) λf l=>?_;induction a using Arguments.casesOn with
 |mk a1 a2 a3 a4 a5 a6 a7=>rw[show a1= [] from T8.mp g,show a2= [] from T8.mp c,show a3=none from SX.mp j,show a4= [] from T8.mp b,show a5= [] from T8.mp d,show a6=none from SX.mp f,show a7= [] from T8.mp l]
def BX(c:Cx)(body:Expr)(sc:Scope):M V:=λh=>bif BS h[0]? then aC (.clo body sc (cq c sc)) h else .bad
def My(c:Cx)(a:Arguments)(body:Expr)(sc:Scope):M V:=bif AF a then(if pQ c sc then BX c body sc else bad)else bad
noncomputable abbrev oV:=Expr×Expr×List Expr
def dc(gs:List Comprehension):Option oV:=(fI gs).bind λg=>if g.is_async=0 then some (g.target,g.iter,g.ifs)else Option.none
theorem ug {gs:List Comprehension}{g:oV}(h:dc gs=some g):gs= [⟨g.1,g.2.1,g.2.2,0⟩]:=by
 refine ac (S9.mp h) λx b h=>?_;by_cases hz:x.is_async=0
 ·rw[Vo hz]at h
  rw[dn b,<-Uu h];induction x using Comprehension.casesOn with
  |mk t i f a=>rw[show a=0 from hz]
 ·rw[Vn hz]at h;exact ns h
def HZ(I:Itp)(wf:Nat)(c:Cx)(l:Loc)(b:Expr)(sc:Scope)(g:oV):M V:=mq (tZ I wf c l b g.1 g.2.1 g.2.2 sc (jS I)) λvs=>aC (.list vs)
def Su(I:Itp)(wf:Nat)(c:Cx)(l:Loc)(k v:Expr)(sc:Scope)(t b:Expr):M V:=if !bZ t|| !fH c sc then bad else mq (jS I c l b) λit=>if b6 it t=false then bad else
 mq (cz (eS I (cr c sc) t k v) it wf 0 []) λps=>aC (.dict (bR ps))
def Mz(I:Itp)(c:Cx)(l:Loc)(o i:Expr):M V:=if mf i then(BR i).elim bad λk=>if bZ o then mq (I.ev c l o) λv=>kM v k else bad else mq (I.ev c l o) λv=>mq (I.ev c l i) λk=>ak v k
def d3(q:Str×Str×Str)(b c d:V):M V:=aC (.dict (put q.2.2 d (put q.2.1 c (put q.1 b []))))
def H0(I:Itp)(c:Cx)(l:Loc)(ks:List (Option Expr))(vs:List Expr):M V:=if ks.isEmpty then(if vs.isEmpty then aC (.dict [])else bad)else(FC ks).elim bad λq=>(rW vs).elim bad λe=>mq (I.ev c l e.1) λb=>mq (I.ev c l e.2.1) λf=>mq (I.ev c l e.2.2) λd=>d3 q b f d
def vB(e:Expr):Option (Expr×oV×Scope):=by
 induction e using Expr.casesOn with
 |ListComp elt gs sc=>exact(dc gs).map λg=>(elt,g,sc)
 |_=>exact Option.none
theorem MA {q:Expr×oV×Scope}(h:vB e=some q):∃p,e=.ListComp q.1 [⟨q.2.1.1,q.2.1.2.1,q.2.1.2.2,0⟩] q.2.2 p:=by
 induction e using Vq with
 |ListComp elt gs sc p=>exact ac (Tf.mp h) λg c b=>⟨p,by rw[ug c,<-b]⟩
 |_=>exact ns h
def FF(I:Itp)(wf:Nat)(c:Cx)(l:Loc)(t e:Expr):M (Fl×Loc):=by
 induction t using Expr.casesOn with
 |Attribute o a=>exact mq (I.ev c l e) λv=>mq (I.ev c l o) λx=>mq (dF x a v) λZ=>mr (Fl.next,l)
 |Subscript o i=>exact mq (I.ev c l e) λv=>mq (I.ev c l o) λx=>mq (I.ev c l i) λk=>mq (cH x k v) λZ=>mr (Fl.next,l)
 |Name x px=>exact(vB e).elim (if ix e then bad else mq (I.ev c l e) λv=>mq (target c (.Name x px) v l) λb=>mr (Fl.next,b)) λq=>mq (HZ I wf c l q.1 q.2.2 q.2.1) λv=>mq (target c (.Name x px) v l) λb=>mr (Fl.next,b)
 |Tuple ts k p=>exact if ix e=true\/oQ ts e=false then bad else mq (I.ev c l e) λv=>mq (target c (.Tuple ts k p) v l) λb=>mr (Fl.next,b)
 |_=>exact bad
noncomputable def FG(s:Stmt):Option Expr:=by
 induction s using Stmt.casesOn with
 |Return o=>exact o
 |_=>exact Option.none
theorem AG {s:Stmt}(h:FG s=some e):∃p,s=.Return (some e) p:=by
 induction s using Stmt.casesOn with
 |Return o p=>exact⟨p,by rw[show o=some e from h]⟩
 |_=>exact ns h
def MB(x:ExceptHandler):Option (Str×Str×Str×Str):=by
 induction x using ExceptHandler.casesOn with
 |ExceptHandler ty nm b=>exact(ty.bind mh).bind λt=>nm.bind λn=>((fI b).bind FG).bind λe=>(xG e).bind λr=>(mh r.1).map λy=>(t,n,y,r.2.1)
theorem MC {x:ExceptHandler}{q:Str×Str×Str×Str}(h:MB x=some q):∃c f p3 d p5,x=.ExceptHandler (some (.Name q.1 c)) (some q.2.1) [.Return (some (.Attribute (.Name q.2.2.1 f) q.2.2.2 p3)) d] p5:=by
 induction x using ExceptHandler.casesOn with
 |ExceptHandler ty nm b p5=>
  refine ac (S9.mp h) λt C h=>ac (S9.mp h) λn u h=>ac (S9.mp h) λe v h=>ac (S9.mp h) λr w h=>ac (Tf.mp h) λy l h=>ac (S9.mp C) λE D p=>am (ip p) λc g=>ac (S9.mp v) λF B z=>am (AG z) λd j=>am (ip l) λf A=>xp c f r.2.2 d p5 (by rw[D,g,u,dn B,j,uc w,A,<-h])
def fX(c:Cx)(b:List ExceptHandler):Bool:=((fI b).bind MB).any λq=>decide (q.1=("Refusal":Str))&&(decide (q.2.1=q.2.2.1)&&(decide (q.2.2.2=("message":Str))&&(decide (c.scope.names.lookup ("Refusal":Str)=some .globalImplicit)&&(decide (c.scope.names.lookup q.2.1=some .local)&& !(q.2.1==("__debug__":Str))))))
def MD(I:Itp)(c:Cx)(l:Loc)(o b:Option Expr):M (Fl×Loc):=(bif b.isNone then o.bind nu else Option.none).elim bad λq=>if q.1= "Refusal"/\c.scope.names.lookup q.1=some .globalImplicit/\bI q.2=false then mq (I.ev c l q.2) λv h=>.exc v h else bad
noncomputable def xI(m:M V)(l:Loc):M (Fl×Loc):=λh=>match m h with
 |.ok v h'=>.ok (.ret v,l) h'
 |.exc m h'=>.ok (.ret m,[]) h'
 |.bad=>.bad
def ME(P:Prg)(wf:Nat)(I:Itp)(c:Cx)(l:Loc)(e:Expr):M V:=by
 induction e using Expr.casesOn with
 |Constant k=>exact Mu k
 |Name x=>exact if x= "__debug__" then bad else rd c l x
 |BinOp a op b=>exact mq (I.ev c l a) λx=>mq (I.ev c l b) λy=>ah op x y
 |UnaryOp op a=>exact Ss op (I.ev c l a)
 |BoolOp op vs=>exact AA (I.ev c l) op vs
 |Compare a ops bs=>exact uf ops bs λop b=>mq (I.ev c l a) λx=>mq (I.ev c l b) λy=>mq (cmp op x y) λr=>mr (.bool r)
 |IfExp t a b=>exact mq (I.tst c l t) λr=>match r with|true=>I.ev c l a|false=>I.ev c l b
 |Attribute o a=>exact if eQ o then bad else mq (I.ev c l o) λv=>aM v a
 |Subscript o i=>exact Mz I c l o i
 |Tuple es=>exact mq (dN (I.ev c l) es) λvs=>if vs.length<=64 then mr (.tup vs)else bad
 |List es=>exact mq (dN (I.ev c l) es) λvs=>if vs.length<=64 then aC (.list vs)else bad
 |Dict ks vs=>exact H0 I c l ks vs
 |Call f as ks pos=>exact bif ks.isEmpty then(mh f).elim ((xG f).elim bad λr=>HY I c l r as pos) λx=>HX P I c l x as else bad
 |Lambda a body sc=>exact My c a body sc
 |ListComp elt gs sc=>exact(dc gs).elim bad λg=>HZ I wf c l elt sc g
 |DictComp k v gs sc=>exact(dc gs).elim bad λg=>bif g.2.2.isEmpty then Su I wf c l k v sc g.1 g.2.1 else bad
 |JoinedStr vs=>exact if vs.length<2 then bad else mq (eo (I.ev c l) vs Str.empty) λs=>mr (.str s)
 |_=>exact bad
def FH(I:Itp)(c:Cx)(l:Loc)(e:Expr):M Bool:=by
 have d:M Bool:=mq (I.ev c l e) truth;induction e using Expr.casesOn with
 |UnaryOp op a=>
  induction op using UnaryOp.casesOn with
  |Not=>exact mq (I.tst c l a) λb=>mr (!b)
  |_=>exact d
 |BoolOp op vs=>exact nc (I.tst c l) op vs
 |IfExp t a b=>exact mq (I.tst c l t) λr=>match r with|true=>I.tst c l a|false=>I.tst c l b
 |Compare a ops bs=>exact uf ops bs λop b=>mq (I.ev c l a) λx=>mq (I.ev c l b) λy=>cmp op x y
 |_=>exact d
def BY(P:Prg)(wf:Nat)(I:Itp)(c:Cx)(l:Loc)(s:Stmt):M (Fl×Loc):=by
 induction s using Stmt.casesOn with
 |Return o=>exact o.elim bad λe=>mq (I.ev c l e) λv=>mr (.ret v,l)
 |Expr e=>exact if ix e then bad else mq (I.ev c l e) λZ=>mr (.next,l)
 |Continue=>exact mr (.cont,l)
 |If t a b=>exact mq (I.tst c l t) λr=>match r with|true=>db (I.ex c) a l|false=>db (I.ex c) b l
 |While t b els=>exact bif els.isEmpty then me (λl=>I.tst c l t) (λl=>db (I.ex c) b l) wf l else bad
 |For t iter b els=>exact bif els.isEmpty then mq (jS I c l iter) λit=>if b6 it t=false then bad else io (λv l=>mq (target c t v l) λd=>db (I.ex c) b d) it wf 0 l else bad
 |Assign ts e=>exact(fI ts).elim bad λt=>FF I wf c l t e
 |Raise o cause=>exact MD I c l o cause
 |Try b hs els f=>exact bif els.isEmpty&&f.isEmpty then((fI b).bind FG).elim bad λe=>if fX c hs then xI (I.ev c l e) l else bad else bad
 |_=>exact bad
def AH(P:Prg)(wf:Nat)(I:Itp):Itp where
 ev:=ME P wf I
 tst:=FH I
 ex:=BY P wf I
 call f vs:=match P.fn f with
  |some fn=>fj I f fn vs
  |Option.none=>match P.init f with
   |some fn=>mq (aC (.inst f [])) λo=>mq (fj I "__init__" fn (o::vs)) λr=>match r with|.none=>mr o|_=>bad
   |Option.none=>bad
theorem mx {b β c:Type}(m:M b)(f:b->M β)(g:β->M c)(σ:List O):mq (mq m f) g σ=mq m (λa=>mq (f a) g) σ:=by
 unfold mq;cases m σ<;>rfl
noncomputable def fe(x:Str)(s:Stmt):Bool:=by
 induction s using Stmt.casesOn with
 |FunctionDef n=>exact Fast.sEq n x
 |ClassDef n=>exact Fast.sEq n x
 |_=>exact false
def xJ(s:Stmt):Option Fn:=by
 induction s using Stmt.casesOn with
 |ClassDef _ _ _ b=>exact(b.find? (fe "__init__")).bind nj
 |_=>exact Option.none
def ai:Prg where
 fn x:=(Challenge.pw_nz0488_01.main.body.find? (fe x)).bind nj
 init x:=if x= "Vector"\/x= "Null" then(Challenge.pw_nz0488_01.main.body.find? (fe x)).bind xJ else Option.none
inductive Aux where
 |none
 |some (d:Addr)
 |base (e:Int)
noncomputable def Aux.toList:Aux->List Addr
 |.some d=> [d]
 |_=> []
noncomputable abbrev al:=List (Addr×Aux)
def aT(φ:al):List Addr:=φ.flatMap λp=>p.1::p.2.toList
mutual
inductive VR (φ:al) (h:Heap):V->Value->Prop
 |none:VR φ h .none .none
 |bool (b:Bool):VR φ h (.bool b) (.bool b)
 |int (i:Int) (t:Tok):VR φ h (.int i) (.int i t)
 |str (x:Str) (t:Tok):VR φ h (.str x) (.str x t)
 |tup {l:List V} {a:Addr} {o:Obj} {vs:Array Value} {n:Nat}:h.get? a=some o->o.cls=.type "tuple"->o.data=.seq vs n->VRs φ h l vs.toList->VR φ h (.tup l) (.ref a)
 |ref {n:Nat} {p:Addr×Aux}:φ[n]?=some p->VR φ h (.ref n) (.ref p.1)
inductive VRs (φ:al) (h:Heap):List V->List Value->Prop
 |nil:VRs φ h [] []
 |cons {V:V} {v:Value} {l:List Mine.V} {vs:List Value}:VR φ h V v->VRs φ h l vs->VRs φ h (V::l) (v::vs)
end
def PC(φ:al)(h:Heap)(x:V)(v:Value):Prop:=@V.casesOn (λZ=>Prop) x (v=.none) (λb=>v=.bool b) (λi=>∃t,v=.int i t) (λs=>∃t,v=.str s t)
 (λl=>∃a o vs n,v=.ref a/\h.get? a=some o/\o.cls=.type "tuple"/\o.data=.seq vs n/\VRs φ h l vs.toList) (λn=>∃p,v=.ref p.1/\φ[n]?=some p)
def MF(φ:al)(h:Heap)(l:List V)(vs:List Value):Prop:=@List.casesOn V (λZ=>Prop) l (vs= []) (λa r=>∃v t,vs=v::t/\VR φ h a v/\VRs φ h r t)
section
variable {φ:al} {h:Heap} {v:Value}
theorem VR.out {x:V}(z:VR φ h x v):PC φ h x v:=@VR.casesOn φ h (λx v Z=>PC φ h x v) _ _ z rfl (λZ=>rfl) (λZ t=>⟨t,rfl⟩) (λZ t=>⟨t,rfl⟩) (λa b c d=>⟨_,_,_,_,rfl,a,b,c,d⟩) (λe=>⟨_,rfl,e⟩)
theorem VRs.out {l:List V}(z:VRs φ h l vs):MF φ h l vs:=@VRs.casesOn φ h (λx v Z=>MF φ h x v) _ _ z rfl (λa b=>⟨_,_,rfl,a,b⟩)
theorem VR.none'(z:VR φ h .none v):v=.none:=z.out
theorem VR.bool' {b:Bool}(z:VR φ h (.bool b) v):v=.bool b:=z.out
theorem VR.int' {i:Int}(z:VR φ h (.int i) v):∃t,v=.int i t:=z.out
theorem VR.str'(z:VR φ h (.str x) v):∃t,v=.str x t:=z.out
theorem VR.tup' {l:List V}(z:VR φ h (.tup l) v):∃a o vs n,v=.ref a/\h.get? a=some o/\o.cls=.type "tuple"/\o.data=.seq vs n/\VRs φ h l vs.toList:=z.out
theorem VR.ref'(z:VR φ h (.ref n) v):∃p,v=.ref p.1/\φ[n]?=some p:=z.out
theorem VRs.nil' {l:List Value}(z:VRs φ h [] l):l= []:=z.out
theorem VRs.cons' {a:V}{r:List V}{l:List Value}(z:VRs φ h (a::r) l):∃v vs,l=v::vs/\VR φ h a v/\VRs φ h r vs:=z.out
end
theorem VR.all {φ:al}{P:V->Value->Prop}{Q:List V->List Value->Prop}(k:P .none .none)(e:∀b,P (.bool b) (.bool b))(d:∀i t,P (.int i) (.int i t))(j:∀x t,P (.str x) (.str x t))
  (c:∀ {l:List V} {a:Addr} {o:Obj} {vs:Array Value} {n:Nat},h.get? a=some o->o.cls=.type "tuple"->o.data=.seq vs n->VRs φ h l vs.toList->Q l vs.toList->P (.tup l) (.ref a))
  (g:∀ {n:Nat} {p:Addr×Aux},φ[n]?=some p->P (.ref n) (.ref p.1))(f:Q [] [])(m:∀ {a:V} {v:Value} {l:List V} {vs:List Value},VR φ h a v->VRs φ h l vs->P a v->Q l vs->Q (a::l) (v::vs)):
  (∀ {x v},VR φ h x v->P x v)/\ ∀ {l vs},VRs φ h l vs->Q l vs:=
 ⟨λx=>@VR.rec φ h (λa b Z=>P a b) (λa b Z=>Q a b) k e d j c g f m _ _ x,λx=>@VRs.rec φ h (λa b Z=>P a b) (λa b Z=>Q a b) k e d j c g f m _ _ x⟩
theorem VRs.ind {φ:al}{Q:List V->List Value->Prop}(b:Q [] [])(c:∀ {a:V} {v:Value} {l:List V} {vs:List Value},VR φ h a v->VRs φ h l vs->Q l vs->Q (a::l) (v::vs)){l:List V}(x:VRs φ h l vs):Q l vs:=
 (VR.all (P:=λZ Z=>True) trivial (λZ=>trivial) (λZ Z=>trivial) (λZ Z=>trivial) (λZ Z Z Z Z=>trivial) (λZ=>trivial) b (λa r Z=>c a r)).2 x
theorem VRs.length {φ:al}{h:Heap}{l:List V}{vs:List Value}(x:VRs φ h l vs):vs.length=l.length:=VRs.ind (Q:=λl vs=>vs.length=l.length) rfl (λZ Z a=>Vk Nat.succ a) x
theorem VRs.append {φ:al}{c:List V}{b:List Value}{l:List V}(x:VRs φ h l vs)(k:VRs φ h c b):VRs φ h (l++c) (vs++b):=VRs.ind (Q:=λl vs=>VRs φ h (l++c) (vs++b)) k (λa Z d=>.cons a d) x
theorem VRs.get {φ:al}{l:List V}{V:V}(x:VRs φ h l vs)(e:l[i]?=some V):∃v,vs[i]?=some v/\VR φ h V v:=
 VRs.ind (Q:=λl vs=>∀i,l[i]?=some V-> ∃v,vs[i]?=some v/\VR φ h V v) (λZ e=>ns e) (λa Z b i=>by
  induction i using Nat.casesAuxOn with
  |zero=>exact λe=>⟨_,rfl,Uu e▸a⟩
  |succ i=>exact b i) x i e
theorem VRs.getNone {φ:al}{l:List V}(x:VRs φ h l vs)(e:l[i]?=Option.none):vs[i]?=Option.none:=by
 rw[SU]at e ⊢;rw[x.length];exact e
theorem VRs.take {φ:al}{h:Heap}{l:List V}{vs:List Value}(k:Nat)(x:VRs φ h l vs):VRs φ h (l.take k) (vs.take k):=
 VRs.ind (Q:=λl vs=>∀k,VRs φ h (l.take k) (vs.take k)) (λk=>by rw[List.take_nil,List.take_nil];exact .nil) (λa Z b k=>by
  induction k using Nat.casesAuxOn with
  |zero=>exact .nil
  |succ k=>exact .cons a (b k)) x k
theorem VRs.reverse {φ:al}{h:Heap}{l:List V}{vs:List Value}(x:VRs φ h l vs):VRs φ h l.reverse vs.reverse:=
 VRs.ind (Q:=λl vs=>VRs φ h l.reverse vs.reverse) .nil (λa Z b=>by rw[List.reverse_cons,List.reverse_cons];exact b.append (.cons a .nil)) x
theorem VRs.dropLast {φ:al}{h:Heap}{l:List V}{vs:List Value}(x:VRs φ h l vs):VRs φ h l.dropLast vs.dropLast:=by
 rw[List.dropLast_eq_take,List.dropLast_eq_take,x.length];exact x.take _
theorem VRs.last {φ:al}{l:List V}{V:V}(x:VRs φ h l vs)(e:l.getLast?=some V):∃v,vs.getLast?=some v/\VR φ h V v:=by
 rw[SW]at e ⊢;rw[x.length];exact x.get e
theorem VRs.flatRep {φ:al}{h:Heap}{l:List V}{vs:List Value}(x:VRs φ h l vs):∀k:Nat,VRs φ h (List.replicate k l).flatten (List.replicate k vs).flatten
 |0=>.nil
 |k+1=>by rw[TD,TD,List.flatten_cons,List.flatten_cons];exact x.append (x.flatRep k)
inductive PR (φ:al) (h:Heap):List (Str×V)->List (Str×Value)->Prop
 |nil:PR φ h [] []
 |cons {k:Str} {V:V} {v:Value} {l:List (Str×Mine.V)} {es:List (Str×Value)}:VR φ h V v->PR φ h l es->PR φ h ((k,V)::l) ((k,v)::es)
structure CloR (φ:al) (h:Heap) (o:Obj) (body:Expr) (sc:Scope) (cells:List (Str×Nat)):Prop where
 cls:o.cls=.type "function"
 ex:∃fd:FuncData,o.data=.func fd/\fd.body=.expr body/\fd.scope=sc/\fd.globals=mainGlobals/\fd.builtins=builtinsNs/\
  fd.params=⟨[],[],fd.params.vararg,[],[],fd.params.kwarg,[]⟩/\fd.params.vararg=none/\fd.params.kwarg=none/\fd.defaults=.none/\h.CodeRec fd.code fd.qualname/\
  ∀x n,look x cells=some n-> ∃a,fd.closure.lookup x=some a/\φ[n]?=some (a,Aux.none)
noncomputable def oW(h:Heap)(a:Addr)(m:Str->Option Value)(n:Nat):Prop:=∃o es ep,h.get? a=some o/\o.data=.dict es ep/\StrKeys es/\(∀name,nsFind es name=m name)/\es.size=n
theorem oW.ns(x:oW h a m n):h.Ns a m:=jd x λo b ep e d k q Z=>⟨o,b,ep,e,d,k,q⟩
noncomputable def cj(b:Program)(w:World)(h:Heap)(a:Addr)(kvs:List (Str×Value))(e:Int):Prop:=∃ep,h.DictAt (strKind b w) a kvs ep/\(ep:Int)=e+kvs.length
theorem cj.of {b:Program}{w:World}{kvs:List (Str×Value)}{e:Int}(x:cj b w h a kvs e):h.DictOf (strKind b w) a kvs:=ac x λZ d Z=>d.dictOf
noncomputable def q6:Str:= "law.<locals>.<lambda>"
structure Cls where
 at_:Str->Option Addr
 code:Addr
 tab:Addr
 ps:Array Value
 scr:Obj
variable (cl:Cls) (pg:Program) (w:World)
inductive ObjR (φ:al) (h:Heap):Addr×Aux->O->Prop
 |list {a:Addr} {l:List V} {vs:List Value} {n:Nat}:h.get? a=some (listOf vs.toArray n)->VRs φ h l vs->ObjR φ h (a,Aux.none) (.list l)
 |flist {a:Addr} {l:List V} {vs:List Value} {n:Nat}:cl.scr.cls=.type "list"->cl.scr.data=.seq vs.toArray n->h.get? a=some cl.scr->VRs φ h l vs->ObjR φ h (a,Aux.none) (.flist l)
 |dict {a:Addr} {l:List (Str×V)} {kvs:List (Str×Value)} {e:Int}:cj pg w h a kvs e->PR φ h l kvs->ObjR φ h (a,Aux.base e) (.dict l)
 |inst {a d C:Addr} {c:Str} {l:List (Str×V)} {m:Str->Option Value}:cl.at_ c=some C->h.get? a=some (instObj C d)->oW h d m l.length->(∀x,(m x).isSome=(look x l).isSome)->(∀x V,look x l=some V-> ∃v,m x=some v/\VR φ h V v)->
   ObjR φ h (a,Aux.some d) (.inst c l)
 |cellN {a:Addr}:h.get? a=some {cls:=.type "cell",data:=.cell Option.none}->ObjR φ h (a,Aux.none) (.cell Option.none)
 |cellS {a:Addr} {V:V} {v:Value}:h.get? a=some {cls:=.type "cell",data:=.cell (some v) }->VR φ h V v->ObjR φ h (a,Aux.none) (.cell (some V))
 |clo {a:Addr} {o:Obj} {body:Expr} {sc:Scope} {cells:List (Str×Nat)}:h.get? a=some o->CloR φ h o body sc cells->ObjR φ h (a,Aux.none) (.clo body sc cells)
 |tab {a:Addr} {ps:Array Value}:a=cl.tab->(∃more,ps=cl.ps++more)->h.get? a=some (tabObj ps)->TriplesOk ps.toList->(∀pos cv,codeAmong pos ps.toList=some cv->h.CodeRec cv q6)->ObjR φ h (a,Aux.none) .tab
def Oz(φ:al)(h:Heap)(p:Addr×Aux)(o:O):Prop:=@O.casesOn (λZ=>Prop) o
 (λl=>∃a vs n,p=(a,Aux.none)/\h.get? a=some (listOf vs.toArray n)/\VRs φ h l vs)
 (λl=>∃a vs n,p=(a,Aux.none)/\cl.scr.cls=.type "list"/\cl.scr.data=.seq vs.toArray n/\h.get? a=some cl.scr/\VRs φ h l vs)
 (λl=>∃a kvs e,p=(a,Aux.base e)/\cj pg w h a kvs e/\PR φ h l kvs)
 (λc l=>∃a d C m,p=(a,Aux.some d)/\cl.at_ c=some C/\h.get? a=some (instObj C d)/\oW h d m l.length/\(∀x,(m x).isSome=(look x l).isSome)/\ ∀x V,look x l=some V-> ∃v,m x=some v/\VR φ h V v)
 (λv=>@Option.casesOn V (λZ=>Prop) v (∃a,p=(a,Aux.none)/\h.get? a=some {cls:=.type "cell",data:=.cell Option.none}) λV=>∃a v,p=(a,Aux.none)/\h.get? a=some {cls:=.type "cell",data:=.cell (some v) }/\VR φ h V v)
 (λbody sc b=>∃a o,p=(a,Aux.none)/\h.get? a=some o/\CloR φ h o body sc b)
 (∃a ps,p=(a,Aux.none)/\a=cl.tab/\(∃more,ps=cl.ps++more)/\h.get? a=some (tabObj ps)/\TriplesOk ps.toList/\ ∀pos cv,codeAmong pos ps.toList=some cv->h.CodeRec cv q6)
section
variable {cl pg w}
variable {φ:al} {h:Heap} {p:Addr×Aux}
theorem ObjR.out {o:O}(x:ObjR cl pg w φ h p o):Oz cl pg w φ h p o:=by
 induction x using ObjR.casesOn with
 |list a b=>exact⟨_,_,_,rfl,a,b⟩
 |flist a b c d=>exact⟨_,_,_,rfl,a,b,c,d⟩
 |dict a b=>exact⟨_,_,_,rfl,a,b⟩
 |inst a b c d e=>exact⟨_,_,_,_,rfl,a,b,c,d,e⟩
 |cellN a=>exact⟨_,rfl,a⟩
 |cellS a b=>exact⟨_,_,rfl,a,b⟩
 |clo a b=>exact⟨_,_,rfl,a,b⟩
 |tab a b c d e=>exact⟨_,_,rfl,a,b,c,d,e⟩
theorem ObjR.list' {l:List V}(x:ObjR cl pg w φ h p (.list l)):∃a vs n,p=(a,Aux.none)/\h.get? a=some (listOf vs.toArray n)/\VRs φ h l vs:=x.out
theorem ObjR.flist' {l:List V}(x:ObjR cl pg w φ h p (.flist l)):∃a vs n,p=(a,Aux.none)/\cl.scr.cls=.type "list"/\cl.scr.data=.seq vs.toArray n/\h.get? a=some cl.scr/\VRs φ h l vs:=x.out
theorem ObjR.dict' {l:List (Str×V)}(x:ObjR cl pg w φ h p (.dict l)):∃a kvs e,p=(a,Aux.base e)/\cj pg w h a kvs e/\PR φ h l kvs:=x.out
theorem ObjR.inst' {c:Str}{l:List (Str×V)}(x:ObjR cl pg w φ h p (.inst c l)):∃a d C m,p=(a,Aux.some d)/\cl.at_ c=some C/\h.get? a=some (instObj C d)/\oW h d m l.length/\(∀x,(m x).isSome=(look x l).isSome)/\ ∀x V,look x l=some V-> ∃v,m x=some v/\VR φ h V v:=x.out
theorem ObjR.cellN'(x:ObjR cl pg w φ h p (.cell Option.none)):∃a,p=(a,Aux.none)/\h.get? a=some {cls:=.type "cell",data:=.cell Option.none}:=x.out
theorem ObjR.cellS' {V:V}(x:ObjR cl pg w φ h p (.cell (some V))):∃a v,p=(a,Aux.none)/\h.get? a=some {cls:=.type "cell",data:=.cell (some v) }/\VR φ h V v:=x.out
theorem ObjR.clo' {body:Expr}{sc:Scope}{b:List (Str×Nat)}(x:ObjR cl pg w φ h p (.clo body sc b)):∃a o,p=(a,Aux.none)/\h.get? a=some o/\CloR φ h o body sc b:=x.out
theorem ObjR.tab'(x:ObjR cl pg w φ h p .tab):∃a ps,p=(a,Aux.none)/\a=cl.tab/\(∃more,ps=cl.ps++more)/\h.get? a=some (tabObj ps)/\TriplesOk ps.toList/\ ∀pos cv,codeAmong pos ps.toList=some cv->h.CodeRec cv q6:=x.out
end
structure St (B:Heap) (F:List Addr) (φ:al) (σ:List O) (h:Heap):Prop where
 base:B.StaysIn h
 nodup:(aT φ).Nodup
 fresh:∀a∈aT φ,B.get? a=Option.none
 len:φ.length=σ.length
 obj:∀(i:Nat) p o,φ[i]?=some p->σ[i]?=some o->ObjR cl pg w φ h p o
 frames:∀f∈F,(∃o es n,h.get? f=some o/\o.data=.dict es n)/\f∉aT φ/\B.get? f=Option.none
def Kp(F M:List Addr)(h h':Heap):Prop:=∀b o,h.get? b=some o->b∉M->(b∉F->h'.get? b=some o)/\ ∃sl,h'.get? b=some {o with slots:=sl}
noncomputable def side(o:Obj):Prop:=¬((o.cls=.type "tuple"/\ ∃vs n,o.data=.seq vs n)\/ ∃vs q t,o.data=.fields vs/\vs[1]?=some (.str q t))
theorem bP {a:Array DictEntry}(d:o.data=.dict a n):side o:=by
 rintro(⟨_,vs,m,h⟩|⟨vs,q,t,h,_⟩)<;>(rw[d]at h;cases h)
def eU(X:List Addr)(φ:al)(h:Heap):Prop:=∀a∈X,a∉aT φ/\ ∃o,h.get? a=some o/\side o
structure Go (F X:List Addr) (φ φ':al) (h h':Heap):Prop where
 pre:φ<+:φ'
 new:∀a∈aT φ',a∈aT φ\/h.get? a=Option.none
 kp:Kp F (X++aT φ) h h'
 xs:∀a∈X,∀o,h.get? a=some o->side o-> ∃o',h'.get? a=some o'/\side o'/\ ∀es n,o.data=.dict es n-> ∃es' n',o'.data=.dict es' n'
theorem dO {φ b:al}(p:φ<+:b):∀a∈aT φ,a∈aT b:=by
 refine am (p) λt c=>?_;subst c;intro a d;unfold aT at*;rw[List.flatMap_append];exact Ts _ d
theorem dp {φ a:al}(p:φ<+:a){x:Addr×Aux}(e:φ[n]?=some x):a[n]?=some x:=by
 obtain⟨t,rfl⟩:=p;obtain⟨b,_⟩:=SV.mp e;rw[ST b];exact e
theorem oX {φ:al}{x:Addr×Aux}(e:φ[n]?=some x):x.1∈aT φ/\ ∀d,x.2=Aux.some d->d∈aT φ:=by
 have a:x∈φ:=Tu e;refine⟨Ub.mpr ⟨x,a,TM ..⟩,λd hd=>Ub.mpr ⟨x,a,Tt _ ?_⟩⟩;rw[hd];exact TO.mpr rfl
theorem Go.refl(F X:List Addr)(φ:al)(h:Heap):Go F X φ φ h h:=⟨Ud _,λZ h=>.inl h,λZ o e Z=>⟨λZ=>e,o.slots,e⟩,λZ Z o e d=>⟨o,e,d,λa n q=>⟨a,n,q⟩⟩⟩
theorem Go.off {F X:List Addr}{φ b:al}(x:Go F X φ b h h')(O:eU X φ h):eU X b h':=λa c=>by
 obtain⟨f,o,e,d⟩:=O a c;refine aP (x.xs a c o e d) λg i j Z=>⟨λq=>(x.new a q).elim f λr=>(by rw[e]at r;cases r),g,i,j⟩
theorem Go.trans {F X:List Addr}{φ f c:al}{h h' g:Heap}(O:eU X φ h)(x:Go F X φ f h h')(y:Go F X f c h' g):Go F X φ c h g:=by
 have H:=x.off O;refine⟨x.pre.trans y.pre,λa l=>?_,λb o e p=>?_,λa l o e d=>?_⟩
 ·by_cases i:a∈aT φ
  ·exact .inl i
  ·rcases y.new a l with q|q
   ·exact x.new a q
   ·refine .inr ?_
    by_cases C:a∈X
    ·obtain⟨_,o,e,_⟩:=H a C
     rw[q]at e;cases e
    ·induction r:h.get? a using Vp with
     |none=>rfl
     |some o=>
      obtain⟨_,D,m⟩:=x.kp a o r (λz=>(Ur.mp z).elim C i);rw[q]at m;cases m
 ·have j:b∉X++aT f:=λq=>by
   rcases Ur.mp q with q|q
   ·exact p (Ts _ q)
   ·rcases x.new b q with r|r
    ·exact p (Tk _ r)
    ·rw[e]at r;cases r
  obtain⟨k1,D,k2⟩:=x.kp b o e p;obtain⟨N,v,G⟩:=y.kp b _ k2 j;exact⟨λB=>(y.kp b o (k1 B) j).1 B,v,G⟩
 ·refine aP (x.xs a l o e d) λE m I k=>aP (y.xs a l E m I) λu t A J=>⟨u,t,A,λL n q=>let⟨es',n',q'⟩:=k L n q;J es' n' q'⟩
theorem Go.more {F X:List Addr}{φ c:al}(O:eU X φ h)(x:Go F [] φ c h h'):Go F X φ c h h':=
 ⟨x.pre,x.new,λb o e f=>x.kp b o e λq=>f (Tk _ (by simpa [Aux.toList]using q)),λa g o e d=>by
  obtain⟨_,k,j⟩:=x.kp a o e (by simpa using(O a g).1);exact⟨_,j,d,λi n q=>⟨i,n,q⟩⟩⟩
theorem AJ {ps:Array Value}(c:TriplesOk ps.toList){q:Str}{t:Tok}(e:ps[1]?=some (.str q t)):False:=by
 rw[<-Array.getElem?_toList]at e;generalize ps.toList=l at c e;rcases l with _|⟨a,_|⟨b,r⟩⟩
 ·cases e
 ·cases e
 ·have d:b=.str q t:=by injection e
  subst d;cases a<;>exact c
theorem IL:Value.type "list"≠Value.type "tuple":=by simp
theorem AK:Value.type "cell"≠Value.type "tuple":=by simp
theorem hO(b:o.cls≠ .type "tuple"\/ ∀vs n,o.data≠ .seq vs n)(a:∀vs q t,o.data=.fields vs->vs[1]?=some (.str q t)->False):side o:=λz=>
 z.elim (λq=>b.elim (λk=>k q.1) λk=>cI q.2 λvs n e=>k vs n e) λq=>dK q λvs x t d c=>a vs x t d c
theorem kN(e:h.get? a=some o)(s:side o):∀b∈ [a],∃ob,h.get? b=some ob/\side ob:=λb c=>by rw[TO.mp c];exact⟨o,e,s⟩
theorem OA {d:Addr}{c:Obj}(e:h.get? a=some o)(s:side o)(i:h.get? d=some c)(g:side c):∀b∈ [a,d],∃ob,h.get? b=some ob/\side ob:=λb f=>by
 rcases UJ.mp f with q|q
 ·rw[q];exact⟨o,e,s⟩
 ·exact kN i g b q
theorem ObjR.held {φ:al}{p:Addr×Aux}{o:O}(x:ObjR cl pg w φ h p o):∀a∈p.1::p.2.toList,∃ob,h.get? a=some ob/\side ob:=by
 induction x using ObjR.casesOn with
 |list g _=>exact kN g (hO (.inl IL) (λZ Z Z z=>nomatch z))
 |flist e0 e1 g _=>exact kN g (hO (.inl (by rw[e0];exact λz=>nomatch z)) (by rw[e1];exact λZ Z Z z=>nomatch z))
 |dict g _=>exact kG (g.of) λf i ep g Z d Z=>kN g (bP d)
 |inst _ g d _ _=>exact bw d λf i ep e d Z=>OA g (hO (.inr λZ Z z=>nomatch z) (λZ Z Z z=>nomatch z)) e (bP d)
 |cellN g=>exact kN g (hO (.inl AK) (λZ Z Z z=>nomatch z))
 |cellS g _=>exact kN g (hO (.inl AK) (λZ Z Z z=>nomatch z))
 |clo g c=>exact kN g (hO (.inl (by rw[c.cls];exact λz=>nomatch z)) (ac c.ex λfd hd Z=>by rw[hd];exact λZ Z Z z=>nomatch z))
 |tab _ _ g ht _=>exact kN g (hO (.inl λz=>nomatch z) λvs q t j b=>AJ ht (Data.fields.inj j▸b))
theorem St.held {B:Heap}{F:List Addr}{φ:al}{σ:List O}{h:Heap}(S:St cl pg w B F φ σ h){a:Addr}(c:a∈aT φ):∃ob,h.get? a=some ob/\side ob:=by
 refine ac (Ub.mp c) λp e d=>am (List.getElem?_of_mem e) λi b=>?_;exact(S.obj i p _ b (S1 (S.len▸(SV.mp b).1))).held _ _ _ a d
theorem St.noTup {B:Heap}{F:List Addr}{φ:al}{σ:List O}(S:St cl pg w B F φ σ h)(e:h.get? a=some o)(f:(o.cls=.type "tuple"/\ ∃vs n,o.data=.seq vs n)\/ ∃vs q t,o.data=.fields vs/\vs[1]?=some (.str q t)):a∉aT φ/\a∉F:=
 ⟨λc=>ac (S.held _ _ _ c) λob g i=>i (Uu (e.symm.trans g)▸f),λc=>by
  refine af (S.frames a c) λb Z=>dK b λj k n g d=>?_;exact bP d (Uu (e.symm.trans g)▸f)⟩
section
variable {cl pg w}
variable {B:Heap} {F X:List Addr} {φ φ':al} {σ σ':List O} {h h':Heap}
theorem St.keepTup(S:St cl pg w B F φ σ h)(O:eU X φ h)(g:Go F X φ φ' h h')(e:h.get? a=some o)(c:(o.cls=.type "tuple"/\ ∃vs n,o.data=.seq vs n)\/ ∃vs q t,o.data=.fields vs/\vs[1]?=some (.str q t)):h'.get? a=some o:=by
 have z:=S.noTup cl pg w e c;refine(g.kp a o e λq=>?_).1 z.2;rcases Ur.mp q with q|q
 ·obtain⟨_,f,b,d⟩:=O a q
  rw[e]at b;injection b with b;subst b;exact(d c).elim
 ·exact z.1 q
structure Mv (φ φ':al) (h h':Heap):Prop where
 tup:∀ {a:Addr} {o:Obj},h.get? a=some o->((o.cls=.type "tuple"/\ ∃vs n,o.data=.seq vs n)\/ ∃vs q t,o.data=.fields vs/\vs[1]?=some (.str q t))->h'.get? a=some o
 pos:∀ {n:Nat} {p:Addr×Aux},φ[n]?=some p->φ'[n]?=some p
theorem Mv.both(m:Mv φ φ' h h'):(∀ {x v},VR φ h x v->VR φ' h' x v)/\ ∀ {l vs},VRs φ h l vs->VRs φ' h' l vs:=
 VR.all (P:=λx v=>VR φ' h' x v) (Q:=λl vs=>VRs φ' h' l vs) .none .bool .int .str (λe c d Z r=>.tup (m.tup e (.inl ⟨c,_,_,d⟩)) c d r) (λe=>.ref (m.pos e)) .nil (λZ Z a r=>.cons a r)
theorem VR.mv(m:Mv φ φ' h h'){V:V}{v:Value}(x:VR φ h V v):VR φ' h' V v:=m.both.1 x
theorem VRs.mv(m:Mv φ φ' h h'){l:List V}(x:VRs φ h l vs):VRs φ' h' l vs:=m.both.2 x
theorem PR.mv(m:Mv φ φ' h h'){l:List (Str×V)}{b:List (Str×Value)}(x:PR φ h l b):PR φ' h' l b:=
 @PR.rec φ h (λl b Z=>PR φ' h' l b) .nil (λa Z c=>.cons (VR.mv m a) c) _ _ x
theorem Go.mv(S:St cl pg w B F φ σ h)(O:eU X φ h)(g:Go F X φ φ' h h'):Mv φ φ' h h':=⟨λe c=>S.keepTup O g e c,dp g.pre⟩
theorem VR.go(S:St cl pg w B F φ σ h)(O:eU X φ h)(g:Go F X φ φ' h h'){V:V}{v:Value}(x:VR φ h V v):VR φ' h' V v:=VR.mv (g.mv S O) x
theorem VRs.go(S:St cl pg w B F φ σ h)(O:eU X φ h)(g:Go F X φ φ' h h'){l:List V}(x:VRs φ h l vs):VRs φ' h' l vs:=VRs.mv (g.mv S O) x
theorem PR.go(S:St cl pg w B F φ σ h)(O:eU X φ h)(g:Go F X φ φ' h h'){l:List (Str×V)}{a:List (Str×Value)}(x:PR φ h l a):PR φ' h' l a:=PR.mv (g.mv S O) x
theorem FI(x:oW h a m n)(k:∀o,h.get? a=some o->h'.get? a=some o):oW h' a m n:=
 dK x λo b ep e r=>⟨o,b,ep,k o e,r⟩
theorem oY {kvs:List (Str×Value)}{b:Int}(x:cj pg w h a kvs b)(k:∀o,h.get? a=some o->h'.get? a=some o):cj pg w h' a kvs b:=
 ac x λep y q=>cY y λo c e r=>⟨ep,⟨o,c,k o e,r⟩,q⟩
theorem AL(m:Mv φ φ' h h'){v:Value}{q:Str}(x:h.CodeRec v q):h'.CodeRec v q:=mZ x λa d vs t e c b r=>⟨a,d,vs,t,e,m.tup c (.inr ⟨vs,_,_,b,r⟩),b,r⟩
theorem CloR.mv(m:Mv φ φ' h h'){body:Expr}{sc:Scope}{a:List (Str×Nat)}(c:CloR φ h o body sc a):CloR φ' h' o body sc a:=
 ⟨c.cls,K0 c.ex λfd p g d3 i r u j k f e d=>⟨fd,p,g,d3,i,r,u,j,k,f,AL m e,λx n q=>ac (d x n q) λb t l=>⟨b,t,m.pos l⟩⟩⟩
theorem ObjR.mv(m:Mv φ φ' h h'){p:Addr×Aux}{o:Mine.O}(x:ObjR cl pg w φ h p o)(k:∀a∈p.1::p.2.toList,∀ob,h.get? a=some ob->h'.get? a=some ob):ObjR cl pg w φ' h' p o:=by
 induction x using ObjR.casesOn with
 |list e r=>exact .list (k _ (TM ..) _ e) (VRs.mv m r)
 |dict e r=>exact .dict (oY e (k _ (TM ..))) (PR.mv m r)
 |inst c e d z r=>exact .inst c (k _ (TM ..) _ e) (FI d (k _ (Tt _ (TO.mpr rfl)))) z λx V q=>ac (r x V q) λv g f=>⟨v,g,VR.mv m f⟩
 |cellN e=>exact .cellN (k _ (TM ..) _ e)
 |cellS e r=>exact .cellS (k _ (TM ..) _ e) (VR.mv m r)
 |clo e c=>exact .clo (k _ (TM ..) _ e) (CloR.mv m c)
 |flist e0 e1 e r=>exact .flist e0 e1 (k _ (TM ..) _ e) (VRs.mv m r)
 |tab ea em e t c=>exact .tab ea em (k _ (TM ..) _ e) t λpos b q=>AL m (c pos b q)
theorem ObjR.go(S:St cl pg w B F φ σ h)(O:eU X φ h)(g:Go F X φ φ' h h'){p:Addr×Aux}{o:Mine.O}(x:ObjR cl pg w φ h p o)(k:∀a∈p.1::p.2.toList,∀ob,h.get? a=some ob->h'.get? a=some ob):ObjR cl pg w φ' h' p o:=x.mv (g.mv S O) k
structure LocR (cl:Cls) (B:Heap) (E:Env) (c:Cx) (l:Loc) (φ:al) (h:Heap):Prop where
 scope:E.scope=c.scope
 kind:E.scope.kind=.function
 glob:E.globals=mainGlobals
 blt:E.builtins=builtinsNs
 ns:∃m,h.Ns E.locals m/\ ∀x V,look x l=some V-> ∃v,m x=some v/\VR φ h V v
 off:E.locals∉aT φ
 offB:B.get? E.locals=Option.none
 cells:∀x n,look x c.cells=some n-> ∃a,E.cells.lookup x=some a/\φ[n]?=some (a,Aux.none)
 code:c.name= "law"->E.code=.ref cl.code/\E.qual= "law.<locals>."
theorem FJ {h h':Heap}(x:h.Ns a m)(k:∀o,h.get? a=some o-> ∃b,h'.get? a=some {o with slots:=b}):h'.Ns a m:=by
 refine bw (x) λo d ep c hd r=>am (k o c) λb e=>⟨_,d,ep,e,hd,r⟩
theorem au {φ:al}{h:Heap}:eU [] φ h:=λZ a=>nomatch a
theorem LocR.offL {E:Env}{c:Cx}{l:Loc}(L:LocR cl B E c l φ h):eU [E.locals] φ h:=λa d=>by
 refine aB λi f=>?_;obtain rfl:=TO.mp d;refine ac (L.ns) λm b Z=>?_;obtain⟨o,g,ep,e,hd,_⟩:=b;refine f<|⟨L.off,o,e,bP hd⟩
theorem LocR.go {E:Env}{c:Cx}{l:Loc}(L:LocR cl B E c l φ h)(S:St cl pg w B F φ σ h)(g:Go F [] φ φ' h h'):LocR cl B E c l φ' h':=by
 refine ac (L.ns) λm f i=>⟨L.scope,L.kind,L.glob,L.blt,⟨m,FJ f λo e=>(g.kp _ o e (by simpa using L.off)).2,λx V e=>?_⟩,λq=>?_,L.offB,λx n e=>?_,L.code⟩
 ·refine ac (i x V e) λv d b=>⟨v,d,VR.go S au g b⟩
 ·rcases g.new _ q with r|r
  ·exact L.off r
  ·refine dK (f) λo Z Z e Z=>?_;rw[r]at e;cases e
 ·refine ac (L.cells x n e) λa d b=>⟨a,d,dp g.pre b⟩
theorem dP(O:eU X φ h)(g:Go F X φ φ' h h')(d:a∉aT φ)(e:h'.get? a=Option.none):h.get? a=Option.none:=by
 by_cases c:a∈X
 ·obtain⟨_,o,b,_⟩:=g.off O a c
  rw[e]at b;cases b
 ·induction r:h.get? a using Vp with
  |none=>rfl
  |some o=>obtain⟨_,f,b⟩:=g.kp a o r (λz=>(Ur.mp z).elim c d);rw[e]at b;cases b
theorem St.baseGo(S:St cl pg w B F φ σ h)(c:∀a∈X,B.get? a=Option.none)(g:Go F X φ φ' h h'):B.StaysIn h':=λb o e=>by
 refine(g.kp b o (S.base b o e) λq=>?_).1 λq=>?_
 ·rcases Ur.mp q with q|q
  ·rw[c b q]at e;cases e
  ·rw[S.fresh b q]at e;cases e
 ·rw[(S.frames b q).2.2]at e;cases e
theorem St.framesGo(S:St cl pg w B F φ σ h)(g:Go F X φ φ' h h'):∀f∈F,(∃o a n,h'.get? f=some o/\o.data=.dict a n)/\f∉aT φ'/\B.get? f=Option.none:=λf v=>by
 refine cQ (S.frames f v) λb j t=>?_;obtain⟨o,a,n,e,d⟩:=b;refine⟨?_,λq=>(g.new f q).elim j λr=>(by rw[e]at r;cases r),t⟩;refine aB λz l=>?_;by_cases m:f∈X
 ·refine aP (g.xs f m o e (bP d)) λp c Z k=>cI (k a n d) λi x u=>l<|bJ p i x ⟨c,u⟩
 ·obtain⟨_,y,c⟩:=g.kp f o e λq=>(Ur.mp q).elim m j
  refine l<|bJ _ a n ⟨c,d⟩
theorem St.step(S:St cl pg w B F φ σ h)(O:eU X φ h)(n:∀a∈X,B.get? a=Option.none)(g:Go F X φ φ' h h')(c:(aT φ').Nodup)(b:∀a∈aT φ',a∉aT φ->B.get? a=Option.none)(len:φ'.length=σ'.length)
  (d:∀(i:Nat) p o,φ'[i]?=some p->σ'[i]?=some o->(φ[i]?=some p/\σ[i]?=some o/\ ∀a∈p.1::p.2.toList,∀ob,h.get? a=some ob->h'.get? a=some ob)\/ObjR cl pg w φ' h' p o):St cl pg w B F φ' σ' h':=
 ⟨S.baseGo n g,c,λa e=>by
  by_cases q:a∈aT φ
  ·exact S.fresh a q
  ·exact b a e q,len,λi p o m f=>by
  rcases d i p o m f with⟨j,l,k⟩|x
  ·exact(S.obj i p o j l).go S O g k
  ·exact x,S.framesGo g⟩
theorem St.grow(S:St cl pg w B F φ σ h)(k:∀b o,h.get? b=some o->h'.get? b=some o):St cl pg w B F φ σ h'/\Go F [] φ φ h h':=by
 have g:Go F [] φ φ h h':=⟨Ud _,λZ q=>.inl q,λb o e Z=>⟨λZ=>k b o e,o.slots,k b o e⟩,λZ q=>nomatch q⟩;exact⟨S.step au (λZ q=>nomatch q) g S.nodup (λZ a b=>absurd a b) S.len λi p o d c=>.inl ⟨d,c,λa Z ob e=>k a ob e⟩,g⟩
theorem fk(φ:al)(p:Addr×Aux):aT (φ++ [p])=aT φ++p.1::p.2.toList:=by
 unfold aT;rw[List.flatMap_append];simp
theorem St.push(S:St cl pg w B F φ σ h){p:Addr×Aux}{o:O}(k:∀b ob,h.get? b=some ob->h'.get? b=some ob)(m:∀a∈p.1::p.2.toList,h.get? a=Option.none)(u:(p.1::p.2.toList).Nodup)
  (x:ObjR cl pg w (φ++ [p]) h' p o):St cl pg w B F (φ++ [p]) (σ++ [o]) h'/\Go F [] φ (φ++ [p]) h h':=by
 have f:∀a∈aT φ,∃ob,h.get? a=some ob:=λa c=>ac (S.held _ _ _ c) λob e Z=>⟨ob,e⟩;have g:Go F [] φ (φ++ [p]) h h':=⟨TP _ _,λa q=>by
   rw[fk]at q;exact(Ur.mp q).imp id (m a),λb ob e Z=>⟨λZ=>k b ob e,ob.slots,k b ob e⟩,λZ q=>nomatch q⟩
 refine⟨S.step au (λZ q=>nomatch q) g ?_ (λa c v=>?_) (by simp[S.len]) λi q ob d j=>?_,g⟩
 ·rw[fk,TZ]
  refine⟨S.nodup,u,λa c b t e=>?_⟩;refine am (f a c) λob n=>?_;rw[e,m b t]at n;cases n
 ·rw[fk]at c
  rcases Ur.mp c with q|q
  ·exact absurd q v
  ·induction r:B.get? a using Vp with
   |none=>rfl
   |some ob=>have:=S.base a ob r;rw[m a q]at this;cases this
 ·by_cases l:i<φ.length
  ·rw[ST l]at d
   rw[ST (by rw[<-S.len];exact l)]at j;exact .inl ⟨d,j,λa Z ob e=>k a ob e⟩
  ·have y:i=φ.length:=by
    have:=(SV.mp d).1;simp at this;exact Mh l this
   subst y;rw[SP (U9 _),U3]at d;rw[S.len,SP (U9 _),U3]at j;cases d;cases j;exact .inr x
theorem lS:∀ {φ:al} {i j:Nat} {p q:Addr×Aux},(aT φ).Nodup->φ[i]?=some p->φ[j]?=some q->i≠j-> ∀a∈p.1::p.2.toList,a∉q.1::q.2.toList
 | [],_,_,_,_,_,e,_,_,_,_=>by cases e
 |x::r,0,0,_,_,_,_,_,n,_,_=>absurd rfl n
 |x::r,0,j+1,p,q,hn,e1,e2,_,a,ha=>λb=>by
  cases e1;rw[aT,List.flatMap_cons,TZ]at hn;exact hn.2.2 a ha a (Ub.mpr ⟨q,Tu e2,b⟩) rfl
 |x::r,i+1,0,p,q,hn,e1,e2,_,a,ha=>λb=>by
  cases e2;rw[aT,List.flatMap_cons,TZ]at hn;exact hn.2.2 a b a (Ub.mpr ⟨p,Tu e1,ha⟩) rfl
 |x::r,i+1,j+1,p,q,hn,e1,e2,n,a,ha=>by
  rw[aT,List.flatMap_cons,TZ]at hn;exact lS hn.2.1 e1 e2 (λe=>n (by rw[e])) a ha
theorem St.upd(S:St cl pg w B F φ σ h){p:Addr×Aux}{o:O}(l:φ[i]?=some p)(k:∀b ob,h.get? b=some ob->b∉p.1::p.2.toList->h'.get? b=some ob)
  (x:(Go F [] φ φ h h')->ObjR cl pg w φ h' p o):St cl pg w B F φ (σ.set i o) h'/\Go F [] φ φ h h':=by
 have g:Go F [] φ φ h h':=⟨Ud _,λZ q=>.inl q,λb ob e n=>by
   have c:b∉p.1::p.2.toList:=λq=>n (by
    rw[List.nil_append];exact Ub.mpr ⟨p,Tu l,q⟩)
   exact⟨λZ=>k b ob e c,ob.slots,k b ob e c⟩,λZ q=>nomatch q⟩
 refine⟨S.step au (λZ q=>nomatch q) g S.nodup (λZ a b=>absurd a b) (by rw[List.length_set];exact S.len) λj q ob f d=>?_,g⟩;by_cases e:i=j
 ·subst e
  rw[l]at f;cases f;rw[List.getElem?_set_self (by rw[<-S.len];exact(SV.mp l).1)]at d;cases d;exact .inr (x g)
 ·rw[Tr e]at d
  exact .inl ⟨f,d,λa r m t=>k a m t (lS S.nodup f l (Vm e) a r)⟩
theorem St.local(S:St cl pg w B F φ σ h){L:Addr}(O:eU [L] φ h)(u:B.get? L=Option.none)(sb:Heap.SameBut L h h')(m:∃o j n,h'.get? L=some o/\o.data=.dict j n):St cl pg w B F φ σ h'/\Go F [L] φ φ h h':=by
 have g:Go F [L] φ φ h h':=⟨Ud _,λZ q=>.inl q,λb o e l=>by
   have f:b≠L:=λq=>l (Ts _ (TO.mpr q));exact⟨λZ=>(sb.2 b f).trans e,o.slots,(sb.2 b f).trans e⟩,λa c Z Z Z=>by
   rw[TO.mp c];refine aB λv r=>dK (m) λo j n e d=>r ?_;exact⟨o,e,bP d,λZ Z Z=>⟨j,n,d⟩⟩⟩
 refine⟨S.step O (λa c=>by rw[TO.mp c];exact u) g S.nodup (λZ a b=>absurd a b) S.len λi p o k t=>.inl ⟨k,t,λa c ob e=>?_⟩,g⟩;refine(sb.2 a λq=>?_).trans e;exact(O L (TO.mpr rfl)).1 (q▸Ub.mpr ⟨p,Tu k,c⟩)
theorem St.aside(S:St cl pg w B F φ σ h)(O:eU [a] φ h)(y:B.get? a=Option.none)(sb:Heap.SameBut a h h')(z:∃j,h'.get? a=some j/\side j/\ ∀o r n,h.get? a=some o->o.data=.dict r n-> ∃es' n',j.data=.dict es' n'):St cl pg w B F φ σ h'/\Go F [a] φ φ h h':=by
 have g:Go F [a] φ φ h h':=⟨Ud _,λZ q=>.inl q,λb o e f=>by
  have l:b≠a:=λq=>f (Ts _ (TO.mpr q));exact⟨λZ=>(sb.2 b l).trans e,o.slots,(sb.2 b l).trans e⟩,λb f m c Z=>by
  rw[TO.mp f]at c ⊢;refine aP (z) λj x u k=>?_;exact⟨j,x,u,λr n d=>k m r n c d⟩⟩
 exact⟨S.step O (λb f=>by rw[TO.mp f];exact y) g S.nodup (λZ a b=>absurd a b) S.len λi p o t v=>.inl ⟨t,v,λb f ob e=>(sb.2 b λq=>(O a (TO.mpr rfl)).1 (q▸Ub.mpr ⟨p,Tu t,f⟩)).trans e⟩,g⟩
theorem St.drop {F':List Addr}(S:St cl pg w B F φ σ h)(b:∀f∈F',f∈F):St cl pg w B F' φ σ h:=⟨S.base,S.nodup,S.fresh,S.len,S.obj,λf a=>S.frames f (b f a)⟩
end
structure Wd where
 prog:Program
 w:World
 K:Frag
 mg:Str->Option Value
 mb:Str->Option Value
 cl:Cls
 B:Heap
 CR:Addr
 P:Prg
noncomputable def ao(fs:List Env):List Addr:=fs.filterMap (·.frame)
structure At (A:Around) (fs:List Env) (n:Nat):Prop where
 frames:A.frames=some fs
 depth:A.depth+2*n+20<=recursionLimit
 units:A.units+12*n+300<=cLine
 handled:A.handled=none
 envs:∀e∈fs,e.scope.kind≠ .module/\ ∃L,e.frame=some L
abbrev Wd.St (W:Wd) (F:List Addr) (φ:al) (σ:List O) (h:Heap):Prop:=Mine.St W.cl W.prog W.w W.B F φ σ h
abbrev Wd.Loc (W:Wd) (E:Env) (c:Cx) (l:Loc) (φ:al) (h:Heap):Prop:=LocR W.cl W.B E c l φ h
structure MsgAt (φ:al) (Y h':Heap) (msg:V) (e:Addr):Prop where
 ex:∃oe d mm v,h'.get? e=some oe/\oe.dict=some d/\Y.Ns d mm/\mm "message"=some v/\VR φ Y msg v
noncomputable def rX(Y:Heap)(fs:List Env)(e C:Addr)(h':Heap):Prop:=
 Y.StaysIn h'/\Y.get? e=none/\h'.FunFrames Y fs/\ ∃a0,(∃oe vs,h'.get? e=some oe/\oe.cls=.ref C/\oe.data=.fields vs/\vs[1]?=some .none/\vs[0]?=some a0)\/h'.TracedW Y e (.ref C) a0
structure ErrR (W:Wd) (fs:List Env) (X:List Addr) (φ:al) (h:Heap) (φ':al) (σ':List O) (m:V) (e:Addr) (h':Heap):Prop where
 pre:φ<+:φ'
 new:∀a∈aT φ',a∈aT φ\/h.get? a=Option.none
 ex:∃Y,W.St [] φ' σ' Y/\(∀b o,h.get? b=some o->b∉aT φ->b∉X->b∉ao fs->Y.get? b=some o)/\
  (∀f∈ao fs,Y.get? f=none/\f∉aT φ'/\(∃o es n,h'.get? f=some o/\o.data=.dict es n)/\(f∉X-> ∀o,h.get? f=some o-> ∃sl,h'.get? f=some {o with slots:=sl}))/\
  rX Y fs e W.CR h'/\MsgAt φ' Y h' m e
def aj {c β:Type}(W:Wd)(fs:List Env)(X:List Addr)(RV:al->Heap->c->β->Prop)(r:R c)(s:Shared)(φ:al)(Q:β->Shared->Prop)(Er:Value->Shared->Prop):Prop:=match r with
 |.ok a σ'=>∀b h' tk φ',W.St (ao fs) φ' σ' h'->Go (ao fs) X φ φ' s.heap h'->RV φ' h' a b->Q b {s with heap:=h',toks:=tk}
 |.exc m σ'=>∀e h' tk φ',ErrR W fs X φ s.heap φ' σ' m e h'->Er (.ref e) {s with heap:=h',toks:=tk}
 |.bad=>False
def aI {a β:Type}(W:Wd)(A:Around)(fs:List Env)(E:Env)(c:Cx)(l:Loc)(RV:al->Heap->a->β->Prop)(t:Sem β)(m:M a):Prop:=
 ∀(s:Shared) (φ:al) (σ:List O) (Q:β->Shared->Prop) (Er:Value->Shared->Prop),W.St (ao fs) φ σ s.heap->W.Loc E c l φ s.heap->aj W fs [] RV (m σ) s φ Q Er->wpAny (model W.prog W.w) A t Q Er s
section
variable {W:Wd} {A:Around} {fs:List Env} {X:List Addr} {E:Env} {c:Cx} {l:Loc}
theorem ErrR.before {φ i n:al}{d:Heap}{t:List O}{m:V}{e:Addr}(O:eU X φ h)(g:Go (ao fs) X φ i h d)(x:ErrR W fs X i d n t m e h'):ErrR W fs X φ h n t m e h':=by
 obtain⟨p,G,Y,L,J,S,air,I⟩:=x;have k:∀a,a∉aT φ->d.get? a=none->h.get? a=none:=λa v e=>dP O g v e;refine⟨g.pre.trans p,λa v=>?_,Y,L,λb o e C u D=>?_,λf N=>?_,air,I⟩
 ·by_cases j:a∈aT φ
  ·exact .inl j
  ·rcases G a v with q|q
   ·exact g.new a q
   ·exact .inr (k a j q)
 ·have B:=(g.kp b o e (λz=>(Ur.mp z).elim u C)).1 D
  exact J b o B (λz=>(g.new b z).elim C λr=>by rw[e]at r;cases r) u D
 ·refine fD (S f N) λZ F P U=>⟨Z,F,P,λu o e=>?_⟩
  have j:f∉aT φ:=λz=>F (dO (g.pre.trans p) f z);obtain⟨_,sl,B⟩:=g.kp f o e (λz=>(Ur.mp z).elim u j);refine am (U u _ B) λy H=>⟨y,H⟩
theorem ErrR.more {φ a:al}{d:List O}{m:V}{e:Addr}(x:ErrR W fs [] φ h a d m e h'):ErrR W fs X φ h a d m e h':=by
 refine aB λv q=>?_;obtain⟨p,j,Y,u,t,i,air,r⟩:=x;refine q<|⟨p,j,Y,u,λb o e k Z n=>t b o e k (λz=>nomatch z) n,λf g=>⟨(i f g).1,(i f g).2.1,(i f g).2.2.1,λZ=>(i f g).2.2.2 (λz=>nomatch z)⟩,air,r⟩
theorem aj.el {a β b:Type}{RV:al->Heap->a->β->Prop}{o:Option b}{f:b->R a}{s:Shared}{φ:al}{Q:β->Shared->Prop}(p:aj W fs X RV (o.elim .bad f) s φ Q Er):∃x,o=some x/\aj W fs X RV (f x) s φ Q Er:=by
 induction o using Vp with
 |none=>exact p.elim
 |some x=>exact⟨x,rfl,p⟩
theorem aj.bi {a β:Type}{RV:al->Heap->a->β->Prop}{b:Bool}{r:R a}{s:Shared}{φ:al}{Q:β->Shared->Prop}(p:aj W fs X RV (bif b then r else .bad) s φ Q Er):b=true/\aj W fs X RV r s φ Q Er:=by
 induction b using Vs with
 |false=>exact p.elim
 |true=>exact⟨rfl,p⟩
theorem aj.it {a β:Type}{RV:al->Heap->a->β->Prop}{P:Prop}[Decidable P]{r:R a}{s:Shared}{φ:al}{Q:β->Shared->Prop}(p:aj W fs X RV (if P then r else .bad) s φ Q Er):P/\aj W fs X RV r s φ Q Er:=by
 by_cases h:P
 ·rw[Vo h]at p;exact⟨h,p⟩
 ·rw[Vn h]at p;exact p.elim
noncomputable abbrev Vv:=@Mine.R.casesOn.{0}
theorem aj.after {j β:Type}{RV:al->Heap->j->β->Prop}{r:R j}{s:Shared}{φ d:al}{f:Heap}{tk:Nat}{Q:β->Shared->Prop}(O:eU X φ s.heap)(g:Go (ao fs) X φ d s.heap f)
  (p:aj W fs X RV r s φ Q Er):aj W fs X RV r {s with heap:=f,toks:=tk} d Q Er:=by
 induction r using Vv with
 |ok a σ'=>exact λb h' i h n k x=>p b h' i h n (Go.trans O g k) x
 |exc m σ'=>exact λe h' i h x=>p e h' i h (x.before O g)
 |bad=>exact p.elim
theorem aj.bind {o n β j:Type}{RV:al->Heap->o->β->Prop}{RV':al->Heap->n->j->Prop}{m:M o}{f:o->M n}{σ:List O}{s:Shared}{φ:al}{Q:j->Shared->Prop}{Q₁:β->Shared->Prop}{Er:Value->Shared->Prop}(O:eU X φ s.heap)
  (p:aj W fs X RV' (mq m f σ) s φ Q Er)
  (k:∀a b σ₁ h tk d,W.St (ao fs) d σ₁ h->Go (ao fs) X φ d s.heap h->RV d h a b->aj W fs X RV' (f a σ₁) {s with heap:=h,toks:=tk} d Q Er->Q₁ b {s with heap:=h,toks:=tk}):
  aj W fs X RV (m σ) s φ Q₁ Er:=by
 unfold mq at p;induction hm:m σ using Vv with
 |ok a σ₁=>
  rw[hm]at p;exact λb h tk d i g x=>k a b σ₁ h tk d i g x (p.after O g)
 |exc e σ₁=>rw[hm]at p;exact p
 |bad=>rw[hm]at p;exact p.elim
theorem aj.ret {d β:Type}{RV:al->Heap->d->β->Prop}{a:d}{b:β}{σ:List O}{s:Shared}{φ:al}{Q:β->Shared->Prop}{tk:Nat}
  (p:aj W fs X RV (.ok a σ) s φ Q Er)(k:∀b o,s.heap.get? b=some o->h'.get? b=some o)(S:W.St (ao fs) φ σ s.heap)(O:eU X φ s.heap)(x:RV φ h' a b):Q b {s with heap:=h',toks:=tk}:=by
 refine af (S.grow k) λe g=>p b h' tk φ e (g.more O) x
theorem aj.ret0 {d β:Type}{RV:al->Heap->d->β->Prop}{a:d}{b:β}{σ:List O}{s:Shared}{φ:al}{Q:β->Shared->Prop}{tk:Nat}
  (p:aj W fs X RV (.ok a σ) s φ Q Er)(S:W.St (ao fs) φ σ s.heap)(x:RV φ s.heap a b):Q b {s with toks:=tk}:=p b s.heap tk φ S (Go.refl _ _ _ _) x
theorem aI.bind {n i β j:Type}{RV:al->Heap->n->β->Prop}{RV':al->Heap->i->j->Prop}{t:Sem β}{m:M n}{u:β->Sem j}{f:n->M i}(x:aI W A fs E c l RV t m)
  (y:∀a b s₁ d e Q Er,W.St (ao fs) d e s₁.heap->W.Loc E c l d s₁.heap->RV d s₁.heap a b->aj W fs [] RV' (f a e) s₁ d Q Er->wpAny (model W.prog W.w) A (u b) Q Er s₁):aI W A fs E c l RV' (t>>=u) (mq m f):=by
 intro s φ σ Q Er S L p;refine Vf (x s φ σ _ _ S L (aj.bind au p λa b e h tk d k g z q=>?_));exact y a b {s with heap:=h,toks:=tk} d e Q Er k (L.go S g) z q
end
end Mine
end
noncomputable section
open PySem PySem.W PySem.Calls
set_option exponentiation.threshold 3000
namespace Mine
variable {φ:al} {σ:List O} {h:Heap} {a b:V} {v u:Value} {F:List Addr} {x:Str} {o:Obj} {Er:Value->Shared->Prop}
structure WdOk (W:Wd):Prop where
 K:W.K.In W.B
 g:W.B.Ns mainGlobals W.mg
 b:W.B.Ns builtinsNs W.mb
 lim:W.B.NoLimit
 consts:∀x v,jP x=some v-> ∃val,W.mg x=some val/\ ∀φ h,W.B.StaysIn h->VR φ h v val
section
variable {W:Wd} {A:Around} {fs:List Env} {X:List Addr} {E:Env} {c:Cx} {l:Loc}
theorem aI.after {r n β i:Type}{RV:al->Heap->r->β->Prop}{RV':al->Heap->n->i->Prop}{t:Sem β}{m:M r}{f:r->M n}(x:aI W A fs E c l RV t m)
  {s:Shared}{φ:al}{σ:List O}{Q:i->Shared->Prop}{Q₁:β->Shared->Prop}{Er:Value->Shared->Prop}(S:W.St (ao fs) φ σ s.heap)(L:W.Loc E c l φ s.heap)(p:aj W fs [] RV' (mq m f σ) s φ Q Er)
  (k:∀a b s₁ d σ₁,W.St (ao fs) d σ₁ s₁.heap->W.Loc E c l d s₁.heap->RV d s₁.heap a b->Go (ao fs) [] φ d s.heap s₁.heap->aj W fs [] RV' (f a σ₁) s₁ d Q Er->Q₁ b s₁):wpAny (model W.prog W.w) A t Q₁ Er s:=
 x s φ σ _ _ S L (aj.bind au p λa b Z j tk d e g z q=>k a b {s with heap:=j,toks:=tk} d _ e (L.go S g) z g q)
theorem FK {k pos}:aI W A fs E c l VR (eval (.Constant .none k pos) E) (mr .none):=by
 intro s φ σ Q Er S L p;rw[eval_Constant];exact Vi (p.ret0 S .none)
theorem FL {b k pos}:aI W A fs E c l VR (eval (.Constant (.bool b) k pos) E) (mr (.bool b)):=by
 intro s φ σ Q Er S L p;rw[eval_Constant];exact Vi (p.ret0 S (.bool b))
theorem IM {i k pos}:aI W A fs E c l VR (eval (.Constant (.int i) k pos) E) (mr (.int i)):=by
 intro s φ σ Q Er S L p;rw[eval_Constant];exact wpAny_mkInt (p.ret0 S (.int i _))
theorem IN {x k pos}:aI W A fs E c l VR (eval (.Constant (.str x) k pos) E) (mr (.str x)):=by
 intro s φ σ Q Er S L p;rw[eval_Constant];exact wpAny_mkText (p.ret0 S (.str x _))
theorem AM {n:Nat}{a:Addr}{v:Option V}(S:W.St F φ σ h)(e:φ[n]?=some (a,Aux.none))(q:σ[n]?=some (.cell v)):
  ∃val,h.get? a=some {cls:=.type "cell",data:=.cell val}/\(∀V,v=some V-> ∃u,val=some u/\VR φ h V u):=by
 have x:=S.obj n _ _ e q;induction v using Vp with
 |none=>exact ac x.cellN' λb z g=>⟨_,(Prod.mk.inj z).1▸g,λV z=>ns z⟩
 |some v=>exact aV x.cellS' λb u z g r=>⟨_,(Prod.mk.inj z).1▸g,λV z=>⟨_,rfl,Uu z▸r⟩⟩
theorem wn {a:Addr}{s:Shared}{M:Model}{Q:Value->Shared->Prop}(f:E.scope.kind=.function)
  (d:E.kindOf x=some .cell\/(E.kindOf x=some .free/\x≠ "__classdict__"))(i:E.cells.lookup x=some a)(g:s.heap.get? a=some o)(hd:o.data=.cell (some v))(h:Q v s):wpAny M A (loadName E x) Q Er s:=by
 have cb:∀ {t:Option Value->Sem Value},wpAny M A (t (some v)) Q Er s->wpAny M A (cellOf E x>>=λa=>cellGet a>>=t) Q Er s:=λq=>by
  unfold cellOf;rw[i];refine Vf (Vi (Vf ?_));refine Vf (wpAny_load g ?_);rw[hd];exact Vi q
 unfold loadName;rcases d with d|⟨d,j⟩
 ·simp only[Env.blockKind,f,ScopeKind.isAnnotationScope,Uy,TJ,Vl,d]
  exact cb (Vi h)
 ·have e:(x==("__classdict__":Str))=false:=by simpa using j
  simp only[Env.blockKind,f,ScopeKind.isAnnotationScope,Uy,TJ,Vl,d,e];exact cb (Vi h)
theorem uh {a:Addr}{v:Value}{d:Option Value}{s:Shared}{M:Model}{Q:Unit->Shared->Prop}{Er:Value->Shared->Prop}(f:E.scope.kind=.function)
  (k:E.kindOf x=some .cell)(g:E.cells.lookup x=some a)(e:s.heap.get? a=some o)(hd:o.data=.cell d)(h:Q () {s with heap:=s.heap.update a λo=> {o with data:=.cell (some v) } }):wpAny M A (storeName E x v) Q Er s:=by
 have j:(some NameKind.cell==some NameKind.globalImplicit)=false:=by decide
 have i:(ScopeKind.function==ScopeKind.class)=false:=by decide
 unfold storeName;simp only[f,k,j,i,Uy,TJ,Vl];unfold cellOf;rw[g];refine Vf (Vi ?_);refine Vf (wpAny_load e ?_);rw[hd];exact wpAny_update e h
theorem AN {G:Prop}{c:Cx}{s:Shared}{Q:Value->Shared->Prop}
  (p:aj W fs [] VR ((look x c.cells).elim .bad λn=>(qF σ[n]?).elim .bad λv=>.ok v σ) s φ Q Er)(k:∀n V,look x c.cells=some n->σ[n]?=some (.cell (some V))->aj W fs [] VR (.ok V σ) s φ Q Er->G):G:=by
 induction hn:look x c.cells using Vp with
 |none=>rw[hn]at p;exact p.elim
 |some n=>
  rw[hn]at p
  replace p:aj W fs [] VR ((qF σ[n]?).elim .bad λv=>.ok v σ) s φ Q Er:=p
  induction hc:qF σ[n]? using Vp with
  |none=>rw[hc]at p;exact p.elim
  |some V=>rw[hc]at p;exact k n V hn (Ml hc) p
theorem MG {G:Prop}{c:Cx}{l:Loc}{s:Shared}{Q:Value->Shared->Prop}(p:aj W fs [] VR (rd c l x σ) s φ Q Er)
  (k1:c.scope.names.lookup x=some .local-> ∀V,look x l=some V->aj W fs [] VR (.ok V σ) s φ Q Er->G)
  (k2:∀n V,(c.scope.names.lookup x=some .cell\/(c.scope.names.lookup x=some .free/\x≠ "__classdict__"))->look x c.cells=some n->σ[n]?=some (.cell (some V))->aj W fs [] VR (.ok V σ) s φ Q Er->G)
  (k3:∀V,c.scope.names.lookup x=some .globalImplicit->jP x=some V->aj W fs [] VR (.ok V σ) s φ Q Er->G):G:=by
 unfold rd at p;induction e:c.scope.names.lookup x using Vp with
 |none=>rw[e]at p;exact p.elim
 |some kd=>
  rw[e]at p;induction kd using NameKind.casesOn with
  |«local»=>
   replace p:aj W fs [] VR ((look x l).elim .bad λv=>.ok v σ) s φ Q Er:=p
   induction hv:look x l using Vp with
   |none=>rw[hv]at p;exact p.elim
   |some V=>rw[hv]at p;exact k1 e V hv p
  |globalImplicit=>
   replace p:aj W fs [] VR ((jP x).elim .bad λv=>.ok v σ) s φ Q Er:=p
   induction hv:jP x using Vp with
   |none=>rw[hv]at p;exact p.elim
   |some V=>rw[hv]at p;exact k3 V e hv p
  |cell=>
   replace p:aj W fs [] VR (if x= "__classdict__" then .bad else(look x c.cells).elim .bad λn=>(qF σ[n]?).elim .bad λv=>.ok v σ) s φ Q Er:=p
   by_cases d:x= "__classdict__"
   ·rw[Vo d]at p;exact p.elim
   ·rw[Vn d]at p;exact AN p λn V g f p=>k2 n V (.inl e) g f p
  |free=>
   replace p:aj W fs [] VR (if x= "__classdict__" then .bad else(look x c.cells).elim .bad λn=>(qF σ[n]?).elim .bad λv=>.ok v σ) s φ Q Er:=p
   by_cases d:x= "__classdict__"
   ·rw[Vo d]at p;exact p.elim
   ·rw[Vn d]at p;exact AN p λn V g f p=>k2 n V (.inr ⟨e,d⟩) g f p
  |_=>exact p.elim
theorem xK(C:WdOk W){x pos}:aI W A fs E c l VR (eval (.Name x pos) E) (if x= "__debug__" then bad else rd c l x):=by
 intro s φ σ Q Er S L p;refine aB λH B=>?_;by_cases t:x= "__debug__"
 ·refine B ?_
  rw[Vo t]at p;exact p.elim
 rw[Vn t]at p;refine B<|wpAny_Name ?_ (by simpa using t);have d:E.kindOf x=c.scope.names.lookup x:=by unfold Env.kindOf;rw[L.scope]
 refine MG p (λe V j p=>?_) (λn V e y G p=>?_) (λV e j p=>?_)
 ·refine ac (L.ns) λm y D=>ac (D x V j) λv i f=>Ty L.kind (d.trans e) y i (p.ret0 S f)
 ·refine ac (L.cells x n y) λa i f=>ac (AM S f G) λw g k=>ac (k V rfl) λu z r=>?_
  rw[z]at g;exact wn L.kind (e.imp (λe=>d.trans e) λq=>⟨d.trans q.1,q.2⟩) i g rfl (p.ret0 S r)
 ·refine ac (C.consts x V j) λw i f=>?_
  unfold loadName;simp only[Env.blockKind,L.kind,d.trans e,ScopeKind.isAnnotationScope,Uy,TJ,Vl];exact loadGlobal_global (by rw[L.glob];exact C.g.keeps S.base) i (p.ret0 S (f _ _ S.base))
theorem nE {x:Int}{k:Nat}(h:x.natAbs<2^k):Builtin.Int.intBits x<=k:=by
 exact intBits_le_iff.mpr h
theorem DH {l:Addr}{items:Array Value}{k:Nat}{x:Int}{u:Tok}{s:Shared}{Q:Value->Shared->Prop}{Er:Value->Shared->Prop}{d:Program}{w:World}
  (f:s.heap.get? l=some (listOf items k))
  (i: -(2^63:Int)<=x)(g:x<2^63)(e:items.size*x.toNat<=2^24)
  (h:Q (.ref s.heap.objs.size) {s with heap:=s.heap.push {cls:=.type "list",data:=.seq (List.foldl (λm n=>m++n) #[] (List.replicate (if items.isEmpty=true then 0 else x.toNat) items)) } }):
  wpAny (model d w) A (binaryOp .Mult (.ref l) (.int x u)) Q Er s:=
 wpAny_binaryOp_repeat_ref (T:= "list") (U:= "int") (by decide) ⟨_,f,rfl⟩ (λj=>typeIs_int j x u) noFill_list_mul F.fills_int_mul F.slot_int_rmul repeat_list F.slot_int_index.lookup
  (call_meets F.slot_int_rmul (typeIs_int s x u) F.entry_int_rmul (F.args_int_rmul_2 _ _) (int___rmul___int_list x u l items k)
   ⟨f,rfl,⟨_,f,rfl⟩,call_meets F.slot_list_mul ⟨_,f,rfl⟩ F.entry_list_mul (F.args_list_mul_2 _ _)
    (AutoListH.list___mul___list_int_3 l items k x u (by simp[Builtin.List.listFitsIndex];exact RB i g) (Nat.not_lt.mpr (tt e (by decide))) (by simp[Builtin.List.listTooLong,sizeLine];exact QD e))
    ⟨f,h⟩⟩)
theorem DJ(vs:List Value):∀n:Nat,(List.foldl (λ(e f:Array Value)=>e++f) #[] (List.replicate n vs.toArray)).toList=(List.replicate n vs).flatten:=by
 have key:∀(n:Nat) (d:Array Value),(List.foldl (λ(e f:Array Value)=>e++f) d (List.replicate n vs.toArray)).toList=d.toList++(List.replicate n vs).flatten:=by
  intro n;induction n with
  |zero=>intro d;simp
  |succ k ih=>intro d;rw[TD,List.foldl_cons,ih,TD,List.flatten_cons,Array.toList_append,List.append_assoc]
 intro n;simpa using key n #[]
theorem BZ {o:Obj}{ob:O}(S:W.St F φ σ h)(x:ObjR W.cl W.prog W.w (φ++ [(h.objs.size,Aux.none)]) (h.push o) (h.objs.size,Aux.none) ob):
  W.St F (φ++ [(h.objs.size,Aux.none)]) (σ++ [ob]) (h.push o)/\Go F [] φ (φ++ [(h.objs.size,Aux.none)]) h (h.push o):=
 S.push (λb ob e=>Tc _ e) (λa d=>by
  have:a=h.objs.size:=by simpa [Aux.toList]using d
  subst this;exact SQ (U9 _)) (by simp[Aux.toList]) x
theorem St.laid(S:W.St F φ σ h){V:V}{n:Nat}(e:V=.ref n)(x:VR φ h V v){o:O}(q:σ[n]?=some o):∃p,φ[n]?=some p/\v=.ref p.1/\ObjR W.cl W.prog W.w φ h p o:=by
 subst e;exact ac x.ref' λp z e=>⟨p,e,z,S.obj n _ _ e q⟩
theorem ui {h':Heap}{q:Addr×Aux}(k:∀b o,h.get? b=some o->h'.get? b=some o):Mv φ (φ++ [q]) h h':=⟨λe Z=>k _ _ e,dp (TP _ _)⟩
theorem VRs.goPush(S:W.St F φ σ h){l:List V}{vs:List Value}(x:VRs φ h l vs):VRs (φ++ [(h.objs.size,Aux.none)]) (h.push o) l vs:=VRs.mv (ui λZ Z e=>Tc _ e) x
theorem AO {h':Heap}{ob:O}{ax:Aux}(S:W.St F φ σ h)(d:ax.toList= [])(k:∀b o,h.get? b=some o->h'.get? b=some o)(x:ObjR W.cl W.prog W.w (φ++ [(h.objs.size,ax)]) h' (h.objs.size,ax) ob):
  W.St F (φ++ [(h.objs.size,ax)]) (σ++ [ob]) h'/\Go F [] φ (φ++ [(h.objs.size,ax)]) h h'/\VR (φ++ [(h.objs.size,ax)]) h' (.ref σ.length) (.ref h.objs.size):=by
 have z:=S.push k (p:=(h.objs.size,ax)) (λa e=>by
  rw[d]at e;rw[TO.mp e];exact SQ (U9 _)) (by rw[d];exact Us.mpr ⟨Uc,List.nodup_nil⟩) x
 refine⟨z.1,z.2,.ref (p:=(h.objs.size,ax)) ?_⟩;rw[<-S.len,SP (U9 _),U3];rfl
theorem q7(S:W.St F φ σ h){l:List V}{vs:List Value}(x:VRs φ h l vs){a:Array Value}(e:a.toList=vs){k:Nat}:
  W.St F (φ++ [(h.objs.size,Aux.none)]) (σ++ [.list l]) (h.push (listOf a k))/\Go F [] φ (φ++ [(h.objs.size,Aux.none)]) h (h.push (listOf a k))/\VR (φ++ [(h.objs.size,Aux.none)]) (h.push (listOf a k)) (.ref σ.length) (.ref h.objs.size):=by
 have z:=BZ (o:=listOf a k) (ob:=.list l) S (.list (vs:=vs) (n:=k) (by rw[<-e];exact TA _ rfl) (VRs.goPush S x));refine⟨z.1,z.2,.ref (p:=(h.objs.size,Aux.none)) ?_⟩;rw[<-S.len,SP (U9 _),U3];rfl
theorem zE {s:Shared}{Q:Value->Shared->Prop}(S:W.St (ao fs) φ σ s.heap)(r:VR φ s.heap a u)(m:VR φ s.heap b v)
  (p:aj W fs [] VR (Az a b σ) s φ Q Er):wpAny (model W.prog W.w) A (binaryOp .Mult u v) Q Er s:=by
 refine ac p.el λq B p=>ac p.el λl G p=>af p.bi λd p=>?_;obtain⟨n,y⟩:=q;have d:=(Tm.mp d);have i:0<=y:=T4 d.1;have d:=(Tm.mp d.2);have e:y<=4096:=T4 d.1;have f:(l.length*y.toNat:Nat)<=4096:=T4 d.2;rw[(vA B).1]at r;rw[(vA B).2]at m;refine am m.int' λt z=>?_;rw[z];refine aP (St.laid S rfl r (dw G)) λN P j g=>?_;rw[j];refine bw g.list' λa vs k H g x=>?_;rw[H];refine DH g (Q7 ⟨i,e,f⟩) (TK e (by decide)) (by rw[T1,x.length];exact Rf f) ?_;have L:VRs φ s.heap (List.replicate y.toNat l).flatten (List.replicate (if vs.toArray.isEmpty=true then 0 else y.toNat) vs).flatten:=by
  by_cases C:vs= []
  ·subst C
   have:l= []:=S8.mp x.length.symm;subst this
   simp;exact .nil
  ·have:vs.toArray.isEmpty=false:=by simpa using C
   rw[this];exact VRs.flatRep x y.toNat
 refine cQ (q7 (k:=0) S L (DJ vs _)) λD I J=>p _ _ _ _ D I J
theorem iS {op:Operator}{g:Int×Int->Bool}{f:Int×Int->Int}{s:Shared}{Q:Value->Shared->Prop}(S:W.St (ao fs) φ σ s.heap)(e:VR φ s.heap a u)(d:VR φ s.heap b v)
  (p:aj W fs [] VR (na a b g f σ) s φ Q Er)(k:∀x y t j,g (x,y)=true->(∀tk tk',Q (.int (f (x,y)) tk) {s with toks:=tk'})->wpAny (model W.prog W.w) A (binaryOp op (.int x t) (.int y j)) Q Er s):wpAny (model W.prog W.w) A (binaryOp op u v) Q Er s:=by
 refine ac p.el λq i p=>af p.bi λn p=>?_;rw[(qY i).1]at e;rw[(qY i).2]at d;exact am e.int' λt z=>am d.int' λj m=>by rw[z,m];exact k _ _ _ _ n λZ Z=>p.ret0 S (.int _ _)
theorem DK {s:Shared}{Q:Value->Shared->Prop}(S:W.St (ao fs) φ σ s.heap)(e:VR φ s.heap a u)(d:VR φ s.heap b v)
  (p:aj W fs [] VR (DA a b σ) s φ Q Er):wpAny (model W.prog W.w) A (binaryOp .Add u v) Q Er s:=by
 refine ac p.el λq f p=>af p.bi λj p=>?_;rw[(xt f).1]at e;rw[(xt f).2]at d;exact am e.str' λt z=>am d.str' λg i=>by rw[z,i];exact PyProof.Rows.add_str (λg tk=>p.ret0 S (.str _ _)) (UZ (T4 j) (by decide))
theorem FM {op:Operator}{s:Shared}{Q:Value->Shared->Prop}(S:W.St (ao fs) φ σ s.heap)(i:VR φ s.heap a u)(e:VR φ s.heap b v)
  (p:aj W fs [] VR (ah op a b σ) s φ Q Er):wpAny (model W.prog W.w) A (binaryOp op u v) Q Er s:=by
 induction op using Operator.casesOn with
 |Add=>
  unfold ah at p;induction hi:(eG a).isSome using Vs with
  |true=>rw[hi]at p;exact iS S i e p λZ Z Z Z Z k=>PyProof.Rows.add_int (k _ _)
  |false=>rw[hi]at p;exact DK S i e p
 |Sub=>exact iS (g:=λZ=>true) (f:=λq=>q.1-q.2) S i e p λZ Z Z Z Z k=>PyProof.Rows.sub_int (k _ _)
 |Mult=>
  unfold ah at p;induction hi:(eG a).isSome using Vs with
  |true=>
   rw[hi]at p;exact iS S i e p λx y Z Z d k=>PyProof.Rows.mul_int (k _ _) (IntMulOk.of_bits (UZ (nE (T4 (Tm.mp d).1)) (by decide)) (UZ (nE (T4 (Tm.mp d).2)) (by decide)))
  |false=>rw[hi]at p;exact zE S i e p
 |FloorDiv=>
  refine iS (g:=λq=> !(decide (q.2=0))&&decide (q.2.natAbs<2^2000)) (f:=λq=>q.1.fdiv q.2) S i e p λx y Z Z d k=>?_;have d:=Tm.mp d;have m:¬y=0:=of_decide_eq_false (TX _▸d.1);have n:y.natAbs<2^2000:=T4 d.2;have hz:y.natAbs.log2<9000:=TU ((Nat.log2_lt (Int.natAbs_ne_zero.mpr m)).mpr n) (show 2000<=9000 by decide);exact PyProof.Rows.floordiv_int m (k _ _) (.inl (PyProof.noPylong_of_log2 hz))
 |Mod=>
  exact iS (g:=λq=> !(decide (q.2=0))) (f:=λq=>q.1.fmod q.2) S i e p λx y Z Z d k=>PyProof.Rows.mod_int (of_decide_eq_false (TX _▸d)) (k _ _)
 |Pow=>
  refine iS (g:=λq=>decide (0<=q.2)&&(decide (q.2<=4096)&&decide (q.1.natAbs<2^2000))) (f:=λq=>q.1^q.2.toNat) S i e p λx y Z Z d k=>?_;have d:=Tm.mp d;have j:=Tm.mp d.2;have m:0<=y:=T4 d.1;have r:y<=4096:=T4 j.1;have t:=nE (T4 j.2);have:(Builtin.Int.intBits x:Int)*y<=2000*4096:=Int.mul_le_mul (UT.mpr t) r m (by decide);exact PyProof.Rows.pow_int m (UP this (by decide)) (k _ _)
 |_=>exact p.elim
end
end Mine
end
noncomputable section
open PySem PySem.W PySem.Calls PySem.SeqAt
namespace Mine
variable {b a:V} {v u:Value} {n:Nat} {p:Addr×Aux} {f:V->V->Option Bool} {xs:List V} {r:Bool} {k:Str} {es:List (Str×Value)} {kvs:List (Str×V)}
section
variable {W:Wd} {A:Around} {fs:List Env} {X:List Addr} {E:Env} {c:Cx} {l:Loc}
variable {F:List Addr} {φ:al} {σ:List O} {h:Heap}
def Sv(φ:al)(h:Heap)(b:V)(v:Value):Prop:=(v=.none->b=.none)/\(∀x,v=.bool x->b=.bool x)/\(∀i t,v=.int i t->b=.int i)/\(∀x t,v=.str x t->b=.str x)/\
 ∀a,v=.ref a->(∃l o vs n,b=.tup l/\h.get? a=some o/\o.cls=.type "tuple"/\o.data=.seq vs n/\VRs φ h l vs.toList)\/ ∃n p,b=.ref n/\p.1=a/\φ[n]?=some p
theorem VR.outv(y:VR φ h b v):Sv φ h b v:=by
 induction y using VR.casesOn with
 |none=>exact⟨λZ=>rfl,λZ z=>(nomatch z),λZ Z z=>(nomatch z),λZ Z z=>(nomatch z),λZ z=>(nomatch z)⟩
 |bool=>exact⟨λz=>(nomatch z),λZ z=>Vk V.bool (Value.bool.inj z),λZ Z z=>(nomatch z),λZ Z z=>(nomatch z),λZ z=>(nomatch z)⟩
 |int=>exact⟨λz=>(nomatch z),λZ z=>(nomatch z),λZ Z z=>Vk V.int (Value.int.inj z).1,λZ Z z=>(nomatch z),λZ z=>(nomatch z)⟩
 |str=>exact⟨λz=>(nomatch z),λZ z=>(nomatch z),λZ Z z=>(nomatch z),λZ Z z=>Vk V.str (Value.str.inj z).1,λZ z=>(nomatch z)⟩
 |tup e c d r=>exact⟨λz=>(nomatch z),λZ z=>(nomatch z),λZ Z z=>(nomatch z),λZ Z z=>(nomatch z),λZ z=>.inl ⟨_,_,_,_,rfl,UK z▸e,c,d,r⟩⟩
 |ref e=>exact⟨λz=>(nomatch z),λZ z=>(nomatch z),λZ Z z=>(nomatch z),λZ Z z=>(nomatch z),λZ z=>.inr ⟨_,_,rfl,UK z,e⟩⟩
def MH(φ:al)(h:Heap)(b:List V)(vs:List Value):Prop:=@List.casesOn Value (λZ=>Prop) vs (b= []) λv t=>∃a r,b=a::r/\VR φ h a v/\VRs φ h r t
theorem VRs.outv {b:List V}{vs:List Value}(y:VRs φ h b vs):MH φ h b vs:=@VRs.casesOn φ h (λb vs Z=>MH φ h b vs) _ _ y rfl (λa r=>⟨_,_,rfl,a,r⟩)
theorem VR.injT(S:W.St F φ σ h){l:List V}{a:Addr}{o:Obj}{vs:Array Value}(e:h.get? a=some o)(c:o.cls=.type "tuple")(d:o.data=.seq vs n)(C:∀m,VRs φ h m vs.toList->l=m)(b:V)(y:VR φ h b (.ref a)): .tup l=b:=
 (y.outv.2.2.2.2 a rfl).elim (λq=>jA q λj x B H i g G D z=>by
  have w:o=x:=Uu (e.symm.trans g);rw[w,D]at d;rw[i,C j ((Data.seq.inj d).1▸z)]) λq=>aV q λn p i t g=>absurd (t▸(oX g).1) (St.noTup _ _ _ S e (.inl ⟨c,_,_,d⟩)).1
theorem VR.injR(S:W.St F φ σ h)(e:φ[n]?=some p)(b:V)(y:VR φ h b (.ref p.1)): .ref n=b:=
 (y.outv.2.2.2.2 p.1 rfl).elim (λq=>jA q λx z t C i g j w B=>absurd (oX e).1 (St.noTup _ _ _ S g (.inl ⟨j,_,_,w⟩)).1) λq=>aV q λm q i o g=>by
  by_cases d:n=m
  ·rw[d,i]
  ·exact absurd (UJ.mpr (.inl o.symm)) (lS S.nodup e g d p.1 (TM ..))
theorem VR.injB(S:W.St F φ σ h):(∀ {a v},VR φ h a v-> ∀b,VR φ h b v->a=b)/\ ∀ {l vs},VRs φ h l vs-> ∀m,VRs φ h m vs->l=m:=
 VR.all (P:=λa v=>∀b,VR φ h b v->a=b) (Q:=λl vs=>∀m,VRs φ h m vs->l=m) (λb y=>(y.outv.1 rfl).symm) (λx b y=>(y.outv.2.1 x rfl).symm) (λi t b y=>(y.outv.2.2.1 i t rfl).symm) (λx t b y=>(y.outv.2.2.2.1 x t rfl).symm)
  (λe c d Z q=>VR.injT S e c d q) (λe=>VR.injR S e) (λm y=>y.outv.symm) (λZ Z g j m y=>aV y.outv λa r w z o=>by rw[w,g _ z,j _ o])
theorem VR.inj(S:W.St F φ σ h)(x:VR φ h a v)(y:VR φ h b v):a=b:=(VR.injB S).1 x b y
theorem B0(d:∀a r,f a a=some r->r=true)(xs:List V):∀r,gE f xs xs=some r->r=true:=by
 induction xs using List.rec with
 |nil=>exact λr e=>(Uu e).symm
 |cons x xs ih=>exact λr e=>aV (Ax e) λp q i g j=>by rw[<-j,d x p i,ih q g];rfl
theorem AP(g:∀a r,f a a=some r->r=true)(e:lq f xs xs=some r):r=true:=
 ac (Tf.mp e) λq i d=>by rw[<-d,B0 g xs q i,UD (Eq.refl _)];rfl
theorem jj {d:Type}{p:Str×d}{r:List (Str×d)}:Mine.look k (p::r)=if k=p.1 then some p.2 else Mine.look k r:=rfl
theorem w5 {d:Type}{v:d}{p:Str×d}{r:List (Str×d)}:Mine.put k v (p::r)=if k=p.1 then(p.1,v)::r else p::Mine.put k v r:=rfl
theorem qG {d:Type}{l:List (Str×d)}{v:d}:look k l=some v->(k,v)∈l:=by
 induction l using List.rec with
 |nil=>exact λh=>ns h
 |cons x r ih=>
  intro h;rw[jj]at h;by_cases e:k=x.1
  ·rw[Vo e]at h;rw[e,<-Uu h];exact TM ..
  ·rw[Vn e]at h;exact Tt _ (ih h)
noncomputable def B1 {d:Type}(l:List (Str×d)):Prop:=(l.map (·.1)).Nodup
theorem vC {d:Type}{l:List (Str×d)}{v:d}:B1 l->(k,v)∈l->look k l=some v:=by
 induction l using List.rec with
 |nil=>exact λZ m=>absurd m Uc
 |cons x r ih=>
  intro h m;have h':=Us.mp h;rw[jj];rcases UJ.mp m with e|e
  ·rw[<-e,Vo rfl]
  ·rw[Vn λq:k=x.1=>h'.1 (UV.mpr ⟨_,e,q⟩)];exact ih h'.2 e
theorem vD {d:List (Str×V)}{p:Str×V}{r:List (Str×V)}{q:Bool}(e:eM f d (p::r)=some q):
  ∃g,eM f d r=some g/\((∃w x,look p.1 d=some w/\f p.2 w=some x/\(x&&g)=q)\/(look p.1 d=none/\q=false)):=by
 refine ac (S9.mp e) λg m i=>⟨g,m, ?_⟩;induction hw:look p.1 d using Vp with
 |none=>rw[hw]at i;exact .inr ⟨rfl,(Uu i).symm⟩
 |some w=>rw[hw]at i;exact ac (Tf.mp i) λx o j=>.inl ⟨w,x,rfl,o,j⟩
theorem zF(C:∀a r,f a a=some r->r=true)(d:List (Str×V))(D:B1 d)(xs:List (Str×V)):∀r,(∀x∈xs,x∈d)->eM f d xs=some r->r=true:=by
 induction xs using List.rec with
 |nil=>exact λr Z e=>(Uu e).symm
 |cons x xs ih=>
  intro r m e;have j:look x.1 d=some x.2:=vC D (m _ (TM ..));refine ac (vD e) λq B t=>t.elim (λz=>aV z λw p o i y=>?_) λz=>ns (z.1.symm.trans j);have g:w=x.2:=Uu (o.symm.trans j);rw[g]at i;rw[<-y,C _ p i,ih q (λx G=>m x (Tt _ G)) B];rfl
theorem PR.ind {Q:List (Str×V)->List (Str×Value)->Prop}(d:Q [] [])(e:∀ {k:Str} {a:V} {v:Value} {l:List (Str×V)} {es:List (Str×Value)},VR φ h a v->PR φ h l es->Q l es->Q ((k,a)::l) ((k,v)::es)){l:List (Str×V)}(x:PR φ h l es):Q l es:=
 @PR.rec φ h (λl es Z=>Q l es) d e _ _ x
theorem PR.length {es:List (Str×Value)}{kvs:List (Str×V)}(x:PR φ h kvs es):es.length=kvs.length:=PR.ind (Q:=λkvs es=>es.length=kvs.length) rfl (λZ Z d=>Vk Nat.succ d) x
theorem PR.keys(x:PR φ h kvs es):es.map (·.1)=kvs.map (·.1):=PR.ind (Q:=λkvs es=>es.map (·.1)=kvs.map (·.1)) rfl (λ{k _ _ _ _} _ _ ih=>Vk (List.cons k) ih) x
theorem oZ {d:Str}:valueAt ((d,v)::es) k=if k=d then some v else valueAt es k:=by
 unfold valueAt;rw[List.find?_cons];by_cases e:k=d
 ·rw[show(decide (d=k))=true from UD e.symm,Vo e];rfl
 ·rw[show(decide (d=k))=false from Uv (Vm e),Vn e]
theorem kO {d:Type}{e:Str}{v:d}{r:List (Str×d)}:Mine.look k ((e,v)::r)=if k=e then some v else Mine.look k r:=rfl
theorem PR.look {k:Str}{kvs:List (Str×V)}{es:List (Str×Value)}{v:V}(x:PR φ h kvs es)(e:Mine.look k kvs=some v):∃u,valueAt es k=some u/\VR φ h v u:=
 PR.ind (Q:=λkvs es=>Mine.look k kvs=some v-> ∃u,valueAt es k=some u/\VR φ h v u) (λe=>ns e) (λ{g _ _ _ _} x r ih e=>by
  rw[kO]at e;rw[oZ];by_cases d:k=g
  ·rw[Vo d]at e ⊢;exact⟨_,rfl,Uu e▸x⟩
  ·rw[Vn d]at e ⊢;exact ih e) x e
theorem PR.lookNone(x:PR φ h kvs es)(e:Mine.look k kvs=Option.none):valueAt es k=Option.none:=
 PR.ind (Q:=λkvs es=>Mine.look k kvs=Option.none->valueAt es k=Option.none) (λZ=>rfl) (λ{g _ _ _ _} x r ih e=>by
  rw[kO]at e;rw[oZ];by_cases d:k=g
  ·rw[Vo d]at e;exact ns e.symm
  ·rw[Vn d]at e ⊢;exact ih e) x e
theorem PR.once(p:PR φ h kvs es){a:Addr}{i w}(d:h.DictOf (strKind i w) a es):B1 kvs:=by
 refine kH (d) λo e ep Z Z Z Z j g=>?_;unfold B1;rw[<-p.keys];exact g
theorem vE(k:Nat):∀(a:V) (r:Bool),cT σ k a a=some r->r=true:=by
 induction k using Nat.rec with
 |zero=>exact λZ Z e=>ns e
 |succ k ih=>
  intro a r e;induction a using Mine.V.casesOn with
  |none=>exact(Uu e).symm
  |bool b=>exact ns e
  |int i=>exact(Uu e).symm.trans (UD rfl)
  |str i=>exact(Uu e).symm.trans (UD rfl)
  |tup xs=>exact AP ih e
  |ref n=>
   refine ac (S9.mp e) λxs g e=>ac (S9.mp e) λj d e=>?_;rw[Uu (g.symm.trans d)]at e;exact AP ih e
theorem qH(xs:List V):∀(d:List V) (q:Bool),gE f xs d=some q-> ∃e:Nat->Bool,q=(List.range (min xs.length d.length)).all e/\ ∀j x y,xs[j]?=some x->d[j]?=some y->f x y=some (e j):=by
 induction xs using List.rec with
 |nil=>exact λd q h=>⟨λZ=>true,by rw[<-Uu h,List.length_nil,Nat.zero_min];rfl,λj x y C Z=>ns C⟩
 |cons x xs ih=>
  intro d q h;induction d using Vr with
  |nil=>exact⟨λZ=>true,by rw[<-Uu h,List.length_nil,Nat.min_zero];rfl,λj x y Z B=>ns B⟩
  |cons y d=>
   refine aV (Ax h) λp r z t m=>ac (ih d r t) λe o w=>⟨λj=>@Nat.casesOn (λZ=>Bool) j p e, ?_,λj a b i g=>?_⟩
   ·rw[T9,T9,Nat.succ_min_succ,List.range_succ_eq_map,List.all_cons,List.all_map,<-m,o];rfl
   ·induction j using Nat.casesAuxOn with
    |zero=>rw[<-Uu i,<-Uu g];exact z
    |succ j=>exact w j a b i g
structure Eqs (A:Around) (s:Shared) (u v:Value) (r:Bool):Prop where
 at_:EqAt A s u v r
 rc:RcAt A s u v r
 ne:RcNeAt A s u v (!r)
theorem dQ(S:W.St F φ σ h)(g:φ[n]?=some p)(d:σ[n]?=some (.list xs)):∃vs:List Value,h.IsList p.1 vs.toArray/\VRs φ h xs vs:=
 bw (S.obj n _ _ g d).list' λa vs n q e r=>⟨_,⟨_,by rw[q];exact e,rfl,_,rfl⟩,r⟩
theorem B2(S:W.St F φ σ h)(j:φ[n]?=some p)(g:σ[n]?=some (.flist xs)):∃vs:List Value,h.IsList p.1 vs.toArray/\VRs φ h xs vs:=
 jd (S.obj n _ _ j g).flist' λa vs n q d i e r=>⟨_,⟨_,by rw[q];exact e,d,_,i⟩,r⟩
theorem zG(S:W.St F φ σ h)(g:φ[n]?=some p)(d:rS σ[n]?=some xs):∃vs:List Value,h.IsList p.1 vs.toArray/\VRs φ h xs vs:=by
 generalize e:σ[n]?=o at d;induction o using Vp with
 |none=>exact ns d
 |some o=>
  induction o using Mine.O.casesOn with
  |list l=>exact dQ S g (e.trans (Vk (λx=>some (O.list x)) (Uu d)))
  |flist l=>exact B2 S g (e.trans (Vk (λx=>some (O.flist x)) (Uu d)))
  |_=>exact ns d
theorem fg {xs:List (Str×V)}(S:W.St F φ σ h)(i:φ[n]?=some p)(g:σ[n]?=some (.dict xs)):∃es,h.DictOf (strKind W.prog W.w) p.1 es/\PR φ h xs es:=
 bw (S.obj n _ _ i g).dict' λa es e q d r=>⟨es,by rw[q];exact d.of,r⟩
theorem rY {xs:List (Str×V)}(S:W.St F φ σ h)(i:φ[n]?=some p)(g:σ[n]?=some (.dict xs)):∃es e,p.2=.base e/\cj W.prog W.w h p.1 es e/\PR φ h xs es:=
 bw (S.obj n _ _ i g).dict' λa es e q d r=>aU es e ⟨by rw[q],by rw[q];exact d,r⟩
theorem B3 {k:Nat}{s:Shared}{ks:List (Str×Value)}(d:PR φ s.heap kvs ks)
  (t:∀a b u v r,cT σ k a b=some r->VR φ s.heap a u->VR φ s.heap b v->EqAt A s u v r){xs:List (Str×V)}{es:List (Str×Value)}{q:Bool}(x:PR φ s.heap xs es)(e:eM (cT σ k) kvs xs=some q):KeqHits A s ks es q:=
 PR.ind (Q:=λxs es=>∀q,eM (cT σ k) kvs xs=some q->KeqHits A s ks es q) (λq e=>by rw[<-Uu e];exact .nil) (λx r g q e=>by
  refine ac (vD e) λG C o=>o.elim (λz=>aV z λw p i m y=>ac (d.look i) λD B j=>?_) λz=>?_
  ·rw[<-y];exact .hit B (t _ _ _ _ _ m x j) (g _ C)
  ·rw[z.2];exact .miss (d.lookNone z.1)) x q e
theorem xL {s:Shared}{k:Nat}{A:Around}(G:∀(a b:V) (u v:Value) (r:Bool),cT σ k a b=some r->VR φ s.heap a u->VR φ s.heap b v->EqAt A s u v r){o:List V}{vs us:List Value}
  (x:VRs φ s.heap xs vs)(t:VRs φ s.heap o us)(g:lq (cT σ k) xs o=some r):
  ∃e:Nat->Bool,r=((List.range (min vs.length us.length)).all e&&vs.length==us.length)/\ ∀j (g:j<vs.toArray.size) (y:j<us.toArray.size),EqAt A s vs.toArray[j] us.toArray[j] (e j):=by
 refine ac (Tf.mp g) λq g y=>ac (qH xs o q g) λz B C=>⟨z,by rw[x.length,t.length,<-y,B];congr 1,λj w m=>?_⟩;rw[T1]at w m;refine ac (x.get (S1 (by rw[<-x.length];exact w))) λI i H=>?_;refine ac (t.get (S1 (by rw[<-t.length];exact m))) λJ d D=>?_;rw[S1 w]at i;rw[S1 m]at d;injection i with i;injection d with d;show EqAt A s vs[j] us[j] (z j);rw[i,d];exact G _ _ _ _ _ (C j _ _ (S1 _) (S1 _)) H D
theorem uj {s:Shared}(S:W.St F φ σ s.heap){k:Nat}{A:Around}{l d:Addr}(e:cT σ k a b=some r)(j:VR φ s.heap a (.ref l))(i:VR φ s.heap b (.ref d))(m:RcAt A s (.ref l) (.ref d) r):EqAt A s (.ref l) (.ref d) r:=by
 by_cases h:l=d
 ·subst h
  have g:a=b:=VR.inj S j i;subst g;rw[vE _ _ _ e];exact EqAt.same _
 ·exact EqAt.of_refs h m
theorem MI {s:Shared}(S:W.St F φ σ s.heap){k:Nat}{A:Around}(P:∀(a b:V) (u v:Value) (r:Bool),cT σ k a b=some r->VR φ s.heap a u->VR φ s.heap b v->EqAt A.in1 s u v r)(i:A.units<cLine){t:List V}
  (e:cT σ (k+1) (.tup xs) (.tup t)=some r)(D:VR φ s.heap (.tup xs) u)(y:VR φ s.heap (.tup t) v):Eqs A s u v r:=by
 have j:=D;have q:=y;obtain⟨x,o1,o,n1,rfl,Y,U,J,I⟩:=D.tup';obtain⟨C,o2,m,Z,rfl,N,G,H,L⟩:=y.tup';have d:s.heap.IsTuple x o.toList.toArray:=⟨_,Y,U,_,J⟩;have g:s.heap.IsTuple C m.toList.toArray:=⟨_,N,G,_,H⟩;refine ac (xL P I L e) λef z w=>?_;have B:RcAt A s (.ref x) (.ref C) r:=by rw[z];exact RcAt.tuples d g i w
 exact⟨uj S e j q B,B,by rw[z];exact RcNeAt.tuples d g i w⟩
theorem IP {s:Shared}(S:W.St F φ σ s.heap){k:Nat}{A:Around}(L:∀(a b:V) (u v:Value) (r:Bool),cT σ k a b=some r->VR φ s.heap a u->VR φ s.heap b v->EqAt A.in1 s u v r)(g:A.units<cLine){m:Nat}
  (e:cT σ (k+1) (.ref m) (.ref n)=some r)(G:VR φ s.heap (.ref m) u)(C:VR φ s.heap (.ref n) v):Eqs A s u v r:=by
 have j:=G;have q:=C;obtain⟨B,rfl,J⟩:=G.ref';obtain⟨y,rfl,U⟩:=C.ref';refine ac (S9.mp e) λxs P x=>ac (S9.mp x) λZ Y x=>ac (dQ S J (dw P)) λvs w H=>ac (dQ S U (dw Y)) λus t I=>ac (xL L H I x) λN D z=>?_;by_cases d:vs.length=us.length
 ·have i:r=(List.range vs.length).all N:=by rw[D,d,Nat.min_self,beq_self_eq_true,Bool.and_true]
  have o:RcAt A s (.ref B.1) (.ref y.1) r:=by rw[i];exact RcAt.lists w t d g z
  exact⟨uj S e j q o,o,by rw[i];exact RcNeAt.lists w t d g z⟩
 ·have i:r=false:=by rw[D,TI.mpr d,Bool.and_false]
  have hz:(vs.toArray.size !=us.toArray.size)=true:=bne_iff_ne.mpr d;have o:RcAt A s (.ref B.1) (.ref y.1) r:=by rw[i];exact RcAt.lists_lengths w t hz g
  exact⟨uj S e j q o,o,by rw[i];exact RcNeAt.lists_lengths w t hz g⟩
theorem DL {s:Shared}(S:W.St F φ σ s.heap)(k:Nat):∀(A:Around) (a b:V) (u v:Value) (r:Bool),cT σ k a b=some r->VR φ s.heap a u->VR φ s.heap b v->A.units+k<=cLine->Eqs A s u v r:=by
 induction k using Nat.rec with
 |zero=>exact λZ Z Z Z Z Z e Z Z Z=>ns e
 |succ k j=>
  intro A a b u v r e i g q;have d:A.units<cLine:=tt (Uh (Ue _ _)) q;have j:=λa b u v r e i g=>(j A.in1 a b u v r e i g (by show A.units+1+k<=cLine;exact Ld q)).at_
  clear q
  induction a using Vt with
  |none=>
   rw[i.none'];induction b using Vt with
   |none=>rw[g.none'];rw[<-Uu e];exact⟨EqAt.same _,RcAt.none_none,RcNeAt.none_none⟩
   |int y=>obtain⟨t,rfl⟩:=g.int';rw[<-Uu e];exact⟨EqAt.none_int _ _,RcAt.none_int _ _,RcNeAt.none_int _ _⟩
   |str y=>obtain⟨t,rfl⟩:=g.str';rw[<-Uu e];exact⟨EqAt.none_str _ _,RcAt.none_str _ _,RcNeAt.none_str _ _⟩
   |tup y=>
    obtain⟨C,o2,w,D,rfl,B,m,o,G⟩:=g.tup';have z:s.heap.IsTuple C _:=⟨_,B,m,_,o⟩;rw[<-Uu e];exact⟨EqAt.none_tuple z d,RcAt.none_tuple z d,RcNeAt.none_tuple z d⟩
   |_=>exact ns e
  |int x=>
   obtain⟨t,rfl⟩:=i.int';induction b using Vt with
   |none=>rw[g.none'];rw[<-Uu e];exact⟨EqAt.int_none _ _,RcAt.int_none _ _,RcNeAt.int_none _ _⟩
   |int y=>obtain⟨H,rfl⟩:=g.int';rw[<-Uu e];exact⟨EqAt.int_int _ _ _ _,RcAt.int_int _ _ _ _,RcNeAt.int_int _ _ _ _⟩
   |_=>exact ns e
  |str x=>
   obtain⟨t,rfl⟩:=i.str';induction b using Vt with
   |none=>rw[g.none'];rw[<-Uu e];exact⟨EqAt.str_none _ _,RcAt.str_none _ _,RcNeAt.str_none _ _⟩
   |str y=>
    obtain⟨H,rfl⟩:=g.str';rw[<-Uu e];have:decide (x=y)=(x==y):=by rw[Bool.eq_iff_iff];simp
    rw[this];exact⟨EqAt.str_str _ _ _ _,RcAt.str_str _ _ _ _,RcNeAt.str_str _ _ _ _⟩
   |_=>exact ns e
  |tup x=>
   induction b using Vt with
   |none=>
    rw[g.none'];obtain⟨C,o2,w,D,rfl,B,m,o,G⟩:=i.tup';have z:s.heap.IsTuple C _:=⟨_,B,m,_,o⟩;rw[<-Uu e];exact⟨EqAt.tuple_none z d,RcAt.tuple_none z d,RcNeAt.tuple_none z d⟩
   |tup y=>exact MI S j d e i g
   |_=>exact ns e
  |ref x=>
   induction b using Vt with
   |ref y=>exact IP S j d e i g
   |_=>exact ns e
  |_=>exact ns e
theorem js(d:∃o,W.B.get? sysModules=some o)(S:W.St F φ σ h)(g:φ[n]?=some p):(p.1==sysModules)=false:=by
 refine am (d) λi e=>?_;rw[TI];intro hz;have:=S.fresh _ (oX g).1;rw[hz,e]at this;cases this
noncomputable def xM(W:Wd)(A:Around)(s:Shared)(y x:Value)(b:Bool):Prop:=∀(E:Value->Shared->Prop) (Q:Bool->Shared->Prop),Q b s->wpAny (model W.prog W.w) A (eqBool y x) Q E s
noncomputable def q8(W:Wd)(op:CmpOp)(A:Around)(s:Shared)(y x:Value)(b:Bool):Prop:=∀(E:Value->Shared->Prop) (Q:Value->Shared->Prop),Q (.bool b) s->wpAny (model W.prog W.w) A (compareOp op y x) Q E s
structure EqsIn (W:Wd) (A:Around) (s:Shared) (u v:Value) (r:Bool):Prop where
 at_:xM W A s u v r
 rc:q8 W .Eq A s u v r
 ne:q8 W .NotEq A s u v (!r)
theorem Eqs.inW {s:Shared}(x:Eqs A s u v r):EqsIn W A s u v r:=⟨λZ Z h=>x.at_ _ _ _ _ h,λZ Z h=>x.rc _ _ _ _ h,λZ Z h=>x.ne _ _ _ _ h⟩
theorem FN(d:∃o,W.B.get? sysModules=some o){s:Shared}(S:W.St F φ σ s.heap){m:Nat}{xs y:List (Str×V)}(s1:σ[m]?=some (.dict xs))(s2:σ[n]?=some (.dict y)){C w:Addr×Aux}(z:φ[m]?=some C)(D:φ[n]?=some w)
  (e:((eM (cT σ 8) y xs).map λr=>r&&decide (xs.length=y.length))=some r)(G:A.units+10<=cLine):EqsIn W A s (.ref C.1) (.ref w.1) r:=by
 refine ac (fg S z s1) λes P x=>ac (fg S D s2) λks U Y=>ac (Tf.mp e) λq N I=>?_;have g:KeqHits A.in1 s ks es q:=B3 Y (λa b u v r h3 h4 h5=>(DL S 8 A.in1 a b u v r h3 h4 h5 (by show A.units+1+8<=cLine;exact Q8 G)).at_) x N;have t:(es.length==ks.length&&q)=r:=by
  rw[x.length,Y.length,<-I,Bool.and_comm];congr 1
 have hr:q8 W .Eq A s (.ref C.1) (.ref w.1) r:=λE Q i=>
  keq_eq (js d S z) (js d S D) P U (Pp G) (λZ=>g) (by rw[t];exact i)
 refine⟨?_,hr,λE Q i=>keq_ne (js d S z) (js d S D) P U (Pp G) (λZ=>g) (by rw[t];exact i)⟩;by_cases j:C.1=w.1
 ·have J:V.ref m=V.ref n:=VR.inj S (.ref z) (by rw[j];exact .ref D)
  have H:xs=y:=O.dict.inj (Uu (s1.symm.trans (V.ref.inj J▸s2)));rw[H]at N I x;have:r=true:=by rw[<-I,zF (vE 8) _ (x.once P) _ q (λZ hx=>hx) N,UD rfl];rfl
  rw[this,j];exact λE Q i=>EqAt.same _ _ _ _ _ i
 ·intro E Q i
  refine UL<|wpAny_ite_split (λL=>absurd (UK (eq_of_beq L)) j) (λZ=>?_);exact Vf (hr E _ (wpAny_truthy_bool i))
theorem uk(d:∃o,W.B.get? sysModules=some o){s:Shared}(S:W.St F φ σ s.heap)(e:eO σ a b=some r)(i:VR φ s.heap a u)(g:VR φ s.heap b v)(j:A.units+10<=cLine):EqsIn W A s u v r:=by
 induction hb:both dct σ a b using Vp with
 |none=>unfold eO at e;rw[hb]at e;exact(DL S 8 A _ _ u v r e i g (tt (TE (by decide) _) j)).inW
 |some q=>
  unfold eO at e;rw[hb]at e;obtain⟨xs,G⟩:=q;refine bM (Ay hb) λm n D x t C=>?_;subst D x;refine ac i.ref' λI z y=>?_;subst z;refine ac g.ref' λH z w=>?_;subst z;exact FN d S (fy t) (fy C) y w e j
end
end Mine
end
noncomputable section
open PySem PySem.W PySem.Calls PySem.SeqAt
open AutoSeq1 (wpAny_loadPart')
open MeetsSeq MeetsSeq2 MeetsSeq3
namespace Mine
variable {items2:Array Value} {n:Nat} {a b:V} {u v:Value} {t:Tok} {op:CmpOp} {Er:Value->Shared->Prop}
section
variable {W:Wd} {A:Around} {fs:List Env} {X:List Addr} {E:Env} {c:Cx} {l:Loc}
variable {F:List Addr} {φ:al} {σ:List O} {h:Heap}
theorem MJ(W:Wd){l b:Addr}{items:Array Value}{n I:Nat}{dd B:Option Addr}{H z:Array (Option Value)}(m:items.size=items2.size)(e:Nat->Bool)(k:Nat):
  ∀i:Nat,items.size-i=k->MeetsIn W.prog W.w (Builtin.«list.__eq__.loop» ⟨[.ref l,.ref b,rawInt i,rawInt 3],[]⟩)
   (λA R s=>s.heap.get? l=some {cls:=.type "list",dict:=dd,data:=.seq items n,slots:=H}/\s.heap.get? b=some {cls:=.type "list",dict:=B,data:=.seq items2 I,slots:=z}/\
    (∀j (h1:j<items.size) (h2:j<items2.size),xM W A.in1 s items[j] items2[j] (e j))/\
    R (.ok (.ret (.bool (!((List.range items.size).drop i).all e)))) s):=by
 induction k with
 |zero=>
  intro i p A R s x;obtain⟨J,g,d,tk,L⟩:=s;refine fD (x) λq o y f=>?_
  wp_walk using Ux q,Ux o
  rw[show items[((i:Nat):Int).toNat]?=none by simp;exact LY p,show items2[((i:Nat):Int).toNat]?=none by simp;exact m▸Nat.le_of_sub_eq_zero p];rw[show(List.range items.size).drop i= [] by simp;exact LY p]at f
  wp_walk using Ux q,Ux o
  show R (.ok (.ret (.bool (items.size !=items2.size)))) _;rw[m];simpa using f
 |succ k ih=>
  intro i p A R s x;obtain⟨J,g,d,tk,L⟩:=s;refine fD (x) λq o y f=>?_;have r:i<items.size:=Nat.lt_of_sub_eq_succ p;have C:i<items2.size:=Ri m r
  wp_walk using Ux q,Ux o
  have G:items[((i:Nat):Int).toNat]?=some items[i]:=by simp[r]
  have D:items2[((i:Nat):Int).toNat]?=some items2[i]:=by simp[C]
  rw[show(List.range items.size).drop i=i::(List.range items.size).drop (i+1) by simp[SS,r],List.all_cons]at f;rw[G,D];refine Vf (y i r C _ _ ?_);induction hb':e i using Vs with
  |true=>
   rw[hb']at f
   wp_walk
   rw[show((i:Int)+1)=((i+1:Nat):Int) by push_cast;rfl];exact⟨plainId_quiet plain_eq_loop _,codeAny_builtin entry_eq_loop (by
    rw[Around.under_plainId plain_eq_loop _];exact ih (i+1) (Vk Nat.pred p) A R _ ⟨q,o,y,by simpa using f⟩)⟩
  |false=>
   rw[hb']at f
   wp_walk using Ux q,Ux o
   rw[G,D]
   wp_walk
   simpa using f
theorem MK(W:Wd){l b:Addr}{items:Array Value}{n y:Nat}{dd k:Option Addr}{q i:Array (Option Value)}(f:items.size=items2.size)(e:Nat->Bool):
  MeetsIn W.prog W.w (Builtin.«list.__ne__» ⟨[.ref l,.ref b],[]⟩)
   (λA R s=>s.heap.get? l=some {cls:=.type "list",dict:=dd,data:=.seq items n,slots:=q}/\s.heap.get? b=some {cls:=.type "list",dict:=k,data:=.seq items2 y,slots:=i}/\
    (∀j (h1:j<items.size) (h2:j<items2.size),xM W A.in1 s items[j] items2[j] (e j))/\
    R (.ok (.ret (.bool (!(List.range items.size).all e)))) s):=by
 intro A R s x;obtain⟨B,g,d,tk,C⟩:=s;refine fD (x) λo m p z=>?_;have D:=AutoSeq1.sub_list_list;have r:¬(items.size !=items2.size)=true:=by simp[f]
 wp_walk using Ux o,Ux m
 exact⟨plainId_quiet plain_eq_loop _,codeAny_builtin entry_eq_loop (by
  rw[Around.under_plainId plain_eq_loop _];exact MJ W f e _ 0 rfl A R _ ⟨o,m,p,by simpa using z⟩)⟩
theorem FO {l b:Addr}{items:Array Value}{e:Nat->Bool}{s:Shared}(z:s.heap.IsList l items)(r:s.heap.IsList b items2)(k:items.size=items2.size)(y:A.units<cLine)
  (w:∀j (h1:j<items.size) (h2:j<items2.size),xM W A.in1 s items[j] items2[j] (e j)):q8 W .NotEq A s (.ref l) (.ref b) (!(List.range items.size).all e):=λE Q h=>by
 obtain⟨⟨B,dd,o,G⟩,m,q,n,hd⟩:=id z;obtain⟨⟨p,D,i,C⟩,d,f,H,g⟩:=id r;simp only at q hd f g;subst q hd f g;exact wpAny_richCompare_same_room (op:=.NotEq) ⟨_,m,rfl⟩ ⟨_,d,rfl⟩ PySem.F.slot_list_ne (call_meetsIn PySem.F.slot_list_ne ⟨_,m,rfl⟩ PySem.F.entry_list_ne (PySem.F.args_list_ne_2 _ _) (MK W k e)
  ⟨m,d,w,show Value.bool (!(List.range items.size).all e)≠Value.notImplemented/\Q (.bool (!(List.range items.size).all e)) s from⟨(λx=>nomatch x),h⟩⟩) y
theorem ML(f:∃o,W.B.get? sysModules=some o){s:Shared}(S:W.St F φ σ s.heap){m:Nat}{xs w:List V}(s1:σ[m]?=some (.list xs))(s2:σ[n]?=some (.list w)){H z:Addr×Aux}(Y:φ[m]?=some H)(p2:φ[n]?=some z){r:Bool}
  (e:lq (eO σ) xs w=some r)(p:A.units+12<=cLine):q8 W .NotEq A s (.ref H.1) (.ref z.1) (!r):=by
 refine ac (dQ S Y s1) λvs L g=>ac (dQ S p2 s2) λus C i=>ac (Tf.mp e) λq h1 D=>ac (qH xs w q h1) λI N U=>?_;by_cases d:vs.length=us.length
 ·have x:r=(List.range vs.toArray.size).all I:=by
   rw[<-D,N,<-g.length,<-i.length,d,Nat.min_self,UD (Eq.refl _),Bool.and_true,T1,d]
  rw[x];refine FO L C d (K4 p) λj y k=>?_;rw[T1]at y k;refine ac (g.get (S1 (by rw[<-g.length];exact y))) λv1 J x1=>?_;refine ac (i.get (S1 (by rw[<-i.length];exact k))) λv2 G Z=>?_;rw[S1 y]at J;rw[S1 k]at G;show xM W A.in1 s vs[j] us[j] (I j);rw[Uu J,Uu G];exact(uk f S (U j _ _ (S1 _) (S1 _)) x1 Z (by show A.units+1+10<=cLine;exact RU p)).at_
 ·have x:r=false:=by rw[<-D,<-g.length,<-i.length,Uv d,Bool.and_false]
  rw[x];exact λE Q P=>RcNeAt.lists_lengths L C (bne_iff_ne.mpr d) (K4 p) _ _ _ _ P
theorem IQ(d:∃o,W.B.get? sysModules=some o){s:Shared}(S:W.St F φ σ s.heap){r:Bool}(e:jR σ a b=some r)(g:VR φ s.heap a u)(f:VR φ s.heap b v)(i:A.units+12<=cLine):q8 W .NotEq A s u v (!r):=by
 induction hb:both dM σ a b using Vp with
 |none=>unfold jR at e;rw[hb]at e;exact(uk d S e g f (Pe i)).ne
 |some q=>
  unfold jR at e;rw[hb]at e;obtain⟨xs,C⟩:=q;refine bM (Ay hb) λm n y p j x=>?_;subst y p;refine ac g.ref' λG z w=>?_;subst z;refine ac f.ref' λD z k=>?_;subst z;exact ML d S (dw j) (dw x) w k e i
def BV:al->Heap->Bool->Value->Prop:=λZ Z b v=>v=.bool b
theorem kP {f:Str}{xs:List (Str×V)}{p:Addr×Aux}(S:W.St F φ σ h)(j:φ[n]?=some p)(i:σ[n]?=some (.inst f xs)):∃C d m,W.cl.at_ f=some C/\p.2=.some d/\h.get? p.1=some (instObj C d)/\oW h d m xs.length/\(∀x,(m x).isSome=(look x xs).isSome)/\(∀x V,look x xs=some V-> ∃v,m x=some v/\VR φ h V v):=
 Oo (S.obj n _ _ j i).inst' λa d C m q e g dd z r=>bJ C d m ⟨e,by rw[q],by rw[q];exact g,dd,z,r⟩
structure EqK (K:Frag) (C:Addr):Prop where
 eq:findIn K (.ref C) "__eq__"=some (some (.builtin "object.__eq__"))
 mro:mroIn K C (.type "object")=some true
structure WdOk2 (W:Wd):Prop extends WdOk W where
 sys:∃o,W.B.get? sysModules=some o
 cmp:∀cn C,W.cl.at_ cn=some C->EqK W.K C
theorem nF(b:Str)(u:Tok)(l:Addr)(c:Value)(dd:Option Addr)(i:Array (Option Value)):
  Meets (Builtin.«str.__eq__» ⟨[.str b u,.ref l],[]⟩) (λZ R s=>s.heap.get? l=some {cls:=c,dict:=dd,data:=.plain,slots:=i}/\R (.ok (.ret .notImplemented)) s):=
 .of_wp λe w A R s h=>by obtain⟨k,g,d,tk,j⟩:=s;obtain⟨f,h⟩:=h;wp_walk using Ux f,wpAny_load f;exact⟨_,rfl,h⟩
theorem zH(L:WdOk2 W){s:Shared}{x C d:Addr}{y:Str}(J:W.B.StaysIn s.heap)(o:EqK W.K C)(q:s.heap.get? x=some (instObj C d))(G:A.units+12<=cLine):q8 W .Eq A s (.ref x) (.str y t) false:=λEr Q D=>by
 have X:W.K.In s.heap:=L.K.keeps J;have T:∀M,Looks M s.heap (typeOf (.ref x)) (.ref C):=λM=>(Looks.ld q).andThen .now;have I:=λM=>U5 (M:=M) X o.eq;have sub:Looks (model W.prog W.w) s.heap (isInstance (.ref x) (.type "object")) true:=(T _).andThen (looks_mroIn X o.mro);have p:=PySem.F.cmp_object;show wpAny _ A (richCompare .Eq (.ref x) (.str y t)) Q Er s;have e:oneThing? .Eq (.ref x) (.str y t)=none:=rfl;simp only[richCompare,cmpInfo_Eq,e];refine UL<|Vf (wpAny_cRoomFor (K4 G) ?_);refine Vf ((T _).here (Vf (Vi ?_)));have j:(Value.ref C !=Value.type "str")=true:=rfl;rw[Vo j];refine Vf (wpAny_of_eq (show isSubtype (.type "str") (.ref C)=pure false by rw[isSubtype_type];rfl) ?_);simp only[TJ,Vl,Uz,if_true];have k:wpAny (model W.prog W.w) A (call (.builtin "object.__eq__") [.ref x,.str y t]) (λv f=>v=.notImplemented/\f=s) Er s:=by
  refine Vg (codeAny_call_builtin p.eq.plain PySem.F.cmpEntry_eq (@PySem.W.check_slot (model W.prog W.w) _ _ s "object.__eq__" "object" "__eq__" (.ref x) [.str y t] [] _ PySem.F.cmpKind_eq PySem.F.cmpSplit_eq sub (PySem.F.cmpArgs_eq _ _) ?_));obtain⟨N,g,S,tk,P⟩:=s;unfold Builtin.«object.__eq__»
  repeat wp_step
  exact⟨rfl,rfl⟩
 have i:wpAny (model W.prog W.w) A (tryCompare (.ref x) "__eq__" (.str y t)) (λr f=>r=none/\f=s) Er s:=by
  simp only[tryCompare];refine Vf ?_;simp only[callSpecialIfBound?,bindSpecialIfBound?,specialOf];refine UL (Vf (Vf (Vf ((T _).here ((I _).here ?_)))));simp only[p.eq.bind];refine Vf (wpAny_askSetting (wpAny_ite ?_))
  split
  ·exact Vf (Vi (Vi (Vf (Vh k (λv f ⟨e,e2⟩=>by subst e;subst e2;exact Vi (Vi ⟨rfl,rfl⟩)) λZ Z h'=>h'))))
  ·exact wpAny_tryCatch (Vf (Vi (Vi (Vf (Vh k (λv f ⟨e,e2⟩=>by subst e;subst e2;exact Vi (Vi ⟨rfl,rfl⟩)) λZ Z h'=>h')))))
 refine Vf (Vh i (λr f ⟨e,e2⟩=>?_) λZ Z z=>z);subst e;subst e2;have H:=PySem.F.slot_str_eq_refl;refine Vf (m:=tryCompare (.str y t) "__eq__" (.ref x)) (wpAny_tryCompare_declines (typeIs_str _ _ _) H (call_meets PySem.F.slot_str_eq_refl (typeIs_str _ y t) PySem.F.entry_str_eq (PySem.F.args_str_eq_2 _ _) (nF y t x (.ref C) (some d) #[]) ⟨q,rfl, ?_⟩));exact Vf (wpAny_rule (Vf (wpAny_of_eq (rfl:isSame (.ref x) (.str y t)=pure false) (Vi D))))
noncomputable def isS(d:Str):Value->Bool
 |.str z _=>z==d
 |_=>false
theorem VR.isS {a:V}{v:Value}(d:Str)(x:VR φ h a v):Mine.isS d v=tX d a:=by
 induction x using VR.casesOn with
 |str z t=>exact Bool.beq_eq_decide_eq z d
 |_=>rfl
theorem IR {us:List Value}(d:Str){l:List V}(x:VRs φ h l us):us.any (isS d)=l.any (tX d):=
 VRs.ind (Q:=λl us=>us.any (isS d)=l.any (tX d)) rfl (λa Z e=>by rw[UG,UG,e,a.isS]) x
noncomputable def FP(W:Wd)(A:Around)(s:Shared)(u v:Value)(q:Bool):Prop:=
 (∀Er Q',(∀tk,Q' (.bool q) {s with toks:=tk})->wpAny (model W.prog W.w) A (compareOp .In u v) Q' Er s)/\ ∀Er Q',(∀tk,Q' (.bool !q) {s with toks:=tk})->wpAny (model W.prog W.w) A (compareOp .NotIn u v) Q' Er s
theorem FQ {f:Str}{l:List V}{s:Shared}(m:l.all xu=true)(D:VR φ s.heap (.tup l) v):FP W A s (.str f t) v (l.any (tX f)):=by
 refine jA D.tup' λG o vs n z e c d xs=>?_;subst z;have x:∀y,y∈vs.toList.toArray->EqAt A.in1 s y (.str f t) (isS f y):=by
  intro y I;have r:y∈vs.toList:=List.mem_toArray.mp I;refine am (List.getElem?_of_mem r) λi w=>?_;have j:i<l.length:=by rw[<-xs.length];exact(SV.mp w).1
  refine ac (xs.get (S1 j)) λL J B=>?_;rw[Uu (w.symm.trans J)];have C:=T6.mp m _ (T7 j);generalize l[i]=z at B C;induction z using Vt with
  |str z=>exact am B.str' λN q=>by rw[q];exact EqAt.str_str _ _ _ _
  |_=>exact ff C
 have g:vs.toList.toArray.any (isS f)=l.any (tX f):=by
  rw[List.any_toArray];exact IR f xs
 have p:s.heap.IsTuple G vs.toList.toArray:=⟨_,e,c,_,d⟩;refine⟨λEr H k=>in_tupleAt (isS f) p x ?_,λEr H k=>notIn_tupleAt (isS f) p x ?_⟩
 ·rw[g];exact k s.toks
 ·rw[g];exact k s.toks
theorem DM(g:WdOk2 W){e:Str}{l:List (Str×V)}{s:Shared}(S:W.St F φ σ s.heap)(x:σ[n]?=some (.dict l))(j:VR φ s.heap (.ref n) v):FP W A s (.str e t) v (look e l).isSome:=by
 refine ac j.ref' λq z f=>?_;subst z;refine ac (fg S f x) λp d r=>?_;have i:(valueAt p e).isSome=(look e l).isSome:=by
  induction hk:look e l using Vp with
  |none=>rw[r.lookNone hk];rfl
  |some v=>refine ac (r.look hk) λu o Z=>?_;rw[o];rfl
 refine⟨λEr m k=>wpAny_in_of (knd:=strKind W.prog W.w) (k:=e) (by simp[strKind,Value.isStrOf]) (js g.sys S f) d.mapOf ?_,λEr m k=>wpAny_notIn_of (knd:=strKind W.prog W.w) (k:=e) (by simp[strKind,Value.isStrOf]) (js g.sys S f) d.mapOf ?_⟩
 ·rw[i];exact k _
 ·rw[i];exact k _
theorem AQ(g:WdOk2 W){s:Shared}(S:W.St F φ σ s.heap)(i:VR φ s.heap a u)(f:VR φ s.heap b v):(∃q,cmp.memb a b σ=.ok q σ/\FP W A s u v q)\/cmp.memb a b σ=.bad:=by
 induction e:ik a using Vp with
 |none=>exact .inr (by unfold cmp.memb;rw[e];rfl)
 |some st=>
  have e:=gM e;subst e;refine am i.str' λt z=>?_;subst z;induction b using Vt with
  |tup l=>
   by_cases d:l.all xu=true
   ·exact .inl ⟨_,Vo d,FQ d f⟩
   ·exact .inr (Vn d)
  |ref n=>
   induction hl:dct σ[n]? using Vp with
   |none=>exact .inr (show((dct σ[n]?).elim R.bad λl=>.ok (look st l).isSome σ)=R.bad by rw[hl];rfl)
   |some l=>exact .inl ⟨_,show((dct σ[n]?).elim R.bad λl=>.ok (look st l).isSome σ)=R.ok (look st l).isSome σ by rw[hl];rfl,DM g S (fy hl) f⟩
  |_=>exact .inr rfl
theorem pT {f:Int×Int->Bool}{s:Shared}{φ:al}{σ:List O}{Q:Value->Shared->Prop}(S:W.St (ao fs) φ σ s.heap)(e:VR φ s.heap a u)(d:VR φ s.heap b v)
  (p:aj W fs [] BV ((kJ a b).elim .bad λq=>.ok (f q) σ) s φ Q Er)(k:∀x y t i,Q (.bool (f (x,y))) s->wpAny (model W.prog W.w) A (compareOp op (.int x t) (.int y i)) Q Er s):wpAny (model W.prog W.w) A (compareOp op u v) Q Er s:=by
 induction hs:kJ a b using Vp with
 |none=>rw[hs]at p;exact p.elim
 |some q=>
  rw[hs]at p;have g:=qY hs;rw[g.1]at e;rw[g.2]at d;exact am e.int' λt z=>am d.int' λi j=>by rw[z,j];exact k _ _ _ _ (p.ret0 S rfl)
theorem AR {f:Bool->Bool}{s:Shared}{φ:al}{σ:List O}{Q:Value->Shared->Prop}(S:W.St (ao fs) φ σ s.heap)(g:VR φ s.heap a u)(d:VR φ s.heap b v)
  (p:aj W fs [] BV (bif isNone b then .ok (f (isNone a)) σ else .bad) s φ Q Er)(k:∀u,Q (.bool (f (u==.none))) s->wpAny (model W.prog W.w) A (compareOp op u .none) Q Er s):wpAny (model W.prog W.w) A (compareOp op u v) Q Er s:=by
 induction hs:isNone b using Vs with
 |false=>rw[hs]at p;exact p.elim
 |true=>
  rw[hs]at p;rw[Dy hs]at d;rw[d.none'];refine k u ?_;have q:Q (.bool (f (isNone a))) s:=p.ret0 S rfl;have e:(u==Value.none)=isNone a:=by
   induction g using VR.casesOn with
   |_=>rfl
  rw[e];exact q
theorem MM(f:WdOk2 W){s:Shared}{φ:al}{σ:List O}{Q:Value->Shared->Prop}(S:W.St (ao fs) φ σ s.heap)(i:VR φ s.heap a u)(g:VR φ s.heap b v)(j:A.units+12<=cLine)
  (p:aj W fs [] BV (Mm a b σ) s φ Q Er):wpAny (model W.prog W.w) A (compareOp .Eq u v) Q Er s:=by
 unfold Mm at p;induction e:eO σ a b using Vp with
 |some r=>rw[e]at p;exact(uk f.sys S e i g (Pe j)).rc _ _ (p.ret0 S rfl)
 |none=>
  rw[e]at p;induction hs:ik b using Vp with
  |none=>rw[hs]at p;exact p.elim
  |some st=>
   rw[hs]at p;rw[gM hs]at g;refine am g.str' λt z=>?_;rw[z];induction hr:dz a using Vp with
   |none=>rw[show im σ a=false by unfold im;rw[hr];rfl]at p;exact p.elim
   |some n=>
    rw[cS hr]at i;refine ac i.ref' λB z x=>?_;rw[z];induction hi:oP σ[n]? using Vp with
    |none=>rw[show im σ a=false by unfold im;rw[hr];show(oP σ[n]?).isSome=false;rw[hi];rfl]at p;exact p.elim
    |some q=>
     rw[show im σ a=true by unfold im;rw[hr];show(oP σ[n]?).isSome=true;rw[hi];rfl]at p;refine kG (kP S x (rR hi)) λC d m k y o Z=>zH f S.base (f.cmp _ _ k) o j _ _ (p.ret0 S rfl)
theorem DN(j:WdOk2 W){s:Shared}{φ:al}{σ:List O}{Q:Value->Shared->Prop}(S:W.St (ao fs) φ σ s.heap)(g:VR φ s.heap a u)(d:VR φ s.heap b v)(m:A.units+12<=cLine)
  (p:aj W fs [] BV (cmp op a b σ) s φ Q Er):wpAny (model W.prog W.w) A (compareOp op u v) Q Er s:=by
 have cb:∀ {r:Bool},aj W fs [] BV (.ok r σ) s φ Q Er->Q (.bool r) s:=λq=>q.ret0 S rfl;induction op using PySem.CmpOp.casesOn with
 |Eq=>exact MM j S g d m p
 |NotEq=>
  replace p:aj W fs [] BV ((jR σ a b).elim .bad λr=>.ok (!r) σ) s φ Q Er:=p
  induction e:jR σ a b using Vp with
  |some r=>rw[e]at p;exact IQ j.sys S e g d m _ _ (cb p)
  |none=>rw[e]at p;exact p.elim
 |Lt=>exact pT (f:=λq=>decide (q.1<q.2)) S g d p λZ Z Z Z=>PyProof.Rows.lt_int
 |LtE=>exact pT (f:=λq=>decide (q.1<=q.2)) S g d p λZ Z Z Z=>PyProof.Rows.le_int
 |Gt=>exact pT (f:=λq=>decide (q.1>q.2)) S g d p λZ Z Z Z=>PyProof.Rows.gt_int
 |GtE=>exact pT (f:=λq=>decide (q.1>=q.2)) S g d p λZ Z Z Z=>PyProof.Rows.ge_int
 |Is=>exact AR (f:=λq=>q) S g d p λZ=>is_none
 |IsNot=>exact AR (f:=λq=> !q) S g d p λZ=>isNot_none
 |In=>
  replace p:aj W fs [] BV (cmp.memb a b σ) s φ Q Er:=p
  rcases AQ (A:=A) j S g d with⟨q,i,k,_⟩|i
  ·rw[i]at p
   exact k Er Q λtk=>p.ret0 S rfl
  ·rw[i]at p;exact p.elim
 |NotIn=>
  replace p:aj W fs [] BV (match cmp.memb a b σ with|.ok r h'=>.ok (!r) h'|.exc e h'=>.exc e h'|.bad=>.bad) s φ Q Er:=p
  rcases AQ (A:=A) j S g d with⟨q,i,_,k⟩|i
  ·rw[i]at p
   exact k Er Q λtk=>p.ret0 S rfl
  ·rw[i]at p;exact p.elim
end
end Mine
end
noncomputable section
open PySem PySem.W PySem.Calls PySem.SeqAt
namespace Mine
variable {e e₁ e₂:Expr} {pos:Pos}
abbrev BB:al->Heap->Bool->Bool->Prop:=λZ Z a b=>a=b
section
variable {W:Wd} {A:Around} {fs:List Env} {X:List Addr} {E:Env} {c:Cx} {l:Loc}
variable {F:List Addr} {φ:al} {σ:List O} {h:Heap}
theorem q9 {a β:Type}{RV:al->Heap->a->β->Prop}{σ:List O}{s:Shared}{φ:al}{Q:β->Shared->Prop}{Er:Value->Shared->Prop}(p:aj W fs X RV ((bad:M a) σ) s φ Q Er){P:Prop}:P:=p.elim
theorem cN {r:List Expr}(h:bI e=false):starEach (e::r) E=(false,eval e E)::starEach r E:=by
 cases e<;>first|rfl|cases h
theorem gO {f:Expr->M V}{pos:Pos}:∀es:List Expr,(∀e∈es,aI W A fs E c l VR (eval e E) (f e))->aI W A fs E c l VRs (spliced (backTo pos (starEach es E))) (dN f es)
 | [],_=>λs φ σ Q Er S L p=>Uw (p.ret0 S .nil)
 |e::r,ih=>λs φ σ Q Er S L p=>by
  rw[dN]at p;by_cases m:bI e=true
  ·rw[Vo m]at p;exact q9 p
  rw[Vn m]at p;have n:bI e=false:=TW.mpr m;refine Ul ((ih e (TM ..)).after S L p λa b s₁ o k d j z g q=>?_) (cN n);exact(gO r λB h'=>ih B (Tt _ h')).after d j q λD G v t u i w y C x=>x.ret0 i (.cons (VR.go d au C z) y)
theorem IS {d β:Type}{a:List d}{b:List β}(h:a.length=b.length):a.isEmpty=b.isEmpty:=by
 induction a using Vr with
 |nil=>rw[S8.mp h.symm];rfl
 |cons=>induction b using Vr with
  |nil=>exact absurd h (Nat.succ_ne_zero _)
  |cons=>rfl
theorem nG(j:WdOk2 W){a:V}{u:Value}{s:Shared}{φ:al}{σ:List O}{Q:Bool->Shared->Prop}{Er:Value->Shared->Prop}(S:W.St (ao fs) φ σ s.heap)(g:VR φ s.heap a u)
  (p:aj W fs [] BB (truth a σ) s φ Q Er):wpAny (model W.prog W.w) A (truthy u) Q Er s:=by
 induction a using Vt with
 |bool b=>rw[g.bool'];exact wpAny_truthy_bool (p.ret0 S rfl)
 |ref n=>
  replace p:aj W fs [] BB ((dct σ[n]?).elim .bad λl=>if l.length<=4096 then .ok (!l.isEmpty) σ else .bad) s φ Q Er:=p
  induction hl:dct σ[n]? using Vp with
  |none=>rw[hl]at p;exact p.elim
  |some l=>
   rw[hl]at p
   replace p:aj W fs [] BB (if l.length<=4096 then .ok (!l.isEmpty) σ else .bad) s φ Q Er:=p
   by_cases f:l.length<=4096
   ·rw[Vo f]at p
    refine ac g.ref' λq z i=>?_;rw[z];refine ac (fg S i (fy hl)) λk d r=>wpAny_truthy_dict (js j.sys S i) d (by rw[r.length];exact TK (UT.mpr f) (by decide)) ?_;rw[show k.isEmpty=l.isEmpty from IS r.length];exact p.ret0 S rfl
   ·rw[Vn f]at p;exact p.elim
 |_=>exact p.elim
theorem DO {op:Operator}{i d:M V}(x:aI W A fs E c l VR (eval e₁ E) i)(y:aI W A fs E c l VR (eval e₂ E) d):
  aI W A fs E c l VR (eval (.BinOp e₁ op e₂ pos) E) (mq i λa=>mq d λb=>ah op a b):=λs φ σ Q Er S L p=>by
 refine wpAny_BinOp (x.after S L p λa u s₁ n m f k z g q=>?_);exact y.after f k q λb v t o r j w C D B=>FM j (VR.go f au D z) C B
theorem FT {m:M V}(x:aI W A fs E c l VR (eval e E) m):aI W A fs E c l VR (eval (.UnaryOp .USub e pos) E) (mq m nz):=λs φ σ Q Er S L p=>by
 refine wpAny_UnaryOp (x.after S L p λa u s₁ f d b j z g q=>ac q.el λi k q=>?_);rw[gN k]at z;exact am z.int' λt e=>by rw[e];exact PyProof.Rows.neg_int (q.ret0 b (.int _ _))
theorem IT(y:WdOk2 W){m:M V}(x:aI W A fs E c l VR (eval e E) m):
  aI W A fs E c l VR (eval (.UnaryOp .Not e pos) E) (mq m λx=>mq (truth x) λb=>mr (.bool (!b))):=λs φ σ Q Er S L p=>by
 refine wpAny_UnaryOp (x.after S L p λa u s₁ o n j w z g q=>not_value ?_);exact nG y j z (aj.bind au q λb B t k tk r d v i f=>by
  cases i;exact f.ret0 (s:= {s₁ with heap:=k,toks:=tk}) (tk:=tk) d (.bool _))
theorem DP {t:Expr}{m:M Bool}{i b:M V}(x:aI W A fs E c l BB (isTrue t E (eval t E)) m)(k:aI W A fs E c l VR (eval e₁ E) i)(j:aI W A fs E c l VR (eval e₂ E) b):
  aI W A fs E c l VR (eval (.IfExp t e₁ e₂ pos) E) (mq m λr=>match r with|true=>i|false=>b):=λs φ σ Q Er S L p=>by
 refine wpAny_IfExp (x.after S L p λa u s₁ o n f d z g q=>?_);cases z;cases a
 ·exact j _ _ _ _ _ f d q
 ·exact k _ _ _ _ _ f d q
theorem IU(Wk:WdOk2 W){n:Nat}(hA:At A fs n){op:CmpOp}{i d:M V}(U:behindInMarks op e₂=false)(x:aI W A fs E c l VR (eval e₁ E) i)(y:aI W A fs E c l VR (eval e₂ E) d):
  aI W A fs E c l VR (eval (.Compare e₁ [op] [e₂] pos) E) (mq i λa=>mq d λb=>mq (cmp op a b) λr=>mr (.bool r)):=λs φ σ Q Er S L p=>by
 have Y:=hA.units;refine wpAny_Compare1 (x.after S L p λa u s₁ D C f t z g q=>?_) U;exact y.after f t q λb v m I J o P z' g' Z=>DN Wk o (VR.go f au g' z) z' (Lz Y) (aj.bind au Z λb b' H w tk G k N B j=>by
  cases B;exact j.ret0 (s:= {m with heap:=w,toks:=tk}) (tk:=tk) k (.bool _))
theorem DQ {f:Expr->M V}{op:BoolOp}{x y:Expr}{r:List Expr}:AA f op (x::y::r)=mq (f x) λv=>mq (truth v) λb=>match op,b with
  |.And,false|.Or,true=>mr v
  |_,_=>AA f op (y::r):=rfl
theorem AS(B:WdOk2 W){f:Expr->M V}{op:BoolOp}{pos:Pos}:∀es:List Expr,(∀e∈es,aI W A fs E c l VR (eval e E) (f e))->aI W A fs E c l VR (eval (.BoolOp op es pos) E) (AA f op es)
 | [],_=>λs φ σ Q Er S L p=>p.elim
 | [e],ih=>λs φ σ Q Er S L p=>PyProof.Rows.BoolOp_one (ih e (TM ..) _ _ _ _ _ S L p)
 |e::e₂::r,ih=>λs φ σ Q Er S L p=>by
  have y:=AS B (f:=f) (op:=op) (pos:=pos) (e₂::r) λD h'=>ih D (Tt _ h');rw[DQ]at p;induction op using PySem.BoolOp.casesOn with
  |And=>
   refine PyProof.Rows.BoolOp_and ((ih e (TM ..)).after S L p λa u s₁ x w d v z g q=>?_);refine nG B d z (aj.bind au q λb C o m tk n j i t k=>?_);cases t;cases b
   ·exact k.ret0 (s:= {s₁ with heap:=m,toks:=tk}) (tk:=tk) j (VR.go d au i z)
   ·exact y {s₁ with heap:=m,toks:=tk} n o _ _ j (v.go d i) k
  |Or=>
   refine PyProof.Rows.BoolOp_or ((ih e (TM ..)).after S L p λa u s₁ x w d v z g q=>?_);refine nG B d z (aj.bind au q λb C o m tk n j i t k=>?_);cases t;cases b
   ·exact y {s₁ with heap:=m,toks:=tk} n o _ _ j (v.go d i) k
   ·exact k.ret0 (s:= {s₁ with heap:=m,toks:=tk}) (tk:=tk) j (VR.go d au i z)
theorem qI {f:Expr->M Bool}{op:BoolOp}:∀es:List Expr,(∀e∈es,aI W A fs E c l BB (isTrue e E (eval e E)) (f e))->aI W A fs E c l BB (allTrue op es E) (nc f op es)
 | [],_=>λs φ σ Q Er S L p=>by
  cases op
  ·exact wpAny_allTrue_And_nil (p.ret0 S rfl)
  ·exact wpAny_allTrue_Or_nil (p.ret0 S rfl)
 |e::r,ih=>λs φ σ Q Er S L p=>by
  have k:=qI (f:=f) (op:=op) r λm h'=>ih m (Tt _ h');rw[nc]at p;induction op using PySem.BoolOp.casesOn with
  |And=>
   refine wpAny_allTrue_And_cons ((ih e (TM ..)).after S L p λa u s₁ j i b d z g q=>?_);cases z;cases a
   ·exact q.ret0 b rfl
   ·exact k _ _ _ _ _ b d q
  |Or=>
   refine wpAny_allTrue_Or_cons ((ih e (TM ..)).after S L p λa u s₁ j i b d z g q=>?_);cases z;cases a
   ·exact k _ _ _ _ _ b d q
   ·exact q.ret0 b rfl
theorem IV {m:M Bool}{k:Sem Value}(x:aI W A fs E c l BB (isTrue e E (eval e E)) m):
  aI W A fs E c l BB (isTrue (.UnaryOp .Not e pos) E k) (mq m λb=>mr (!b)):=λs φ σ Q Er S L p=>
 wpAny_isTrue_Not (x.after S L p λa u s₁ i f d j z g q=>by cases z;exact q.ret0 d rfl)
theorem DT {t:Expr}{v:Sem Value}{m i b:M Bool}(x:aI W A fs E c l BB (isTrue t E (eval t E)) m)(k:aI W A fs E c l BB (isTrue e₁ E (eval e₁ E)) i)(j:aI W A fs E c l BB (isTrue e₂ E (eval e₂ E)) b):
  aI W A fs E c l BB (isTrue (.IfExp t e₁ e₂ pos) E v) (mq m λr=>match r with|true=>i|false=>b):=λs φ σ Q Er S L p=>by
 refine PyProof.Rows.isTrue_IfExp (x.after S L p λa u s₁ o n f d z g q=>?_);cases z;cases a
 ·exact j _ _ _ _ _ f d q
 ·exact k _ _ _ _ _ f d q
theorem IW(Wk:WdOk2 W){n:Nat}(hA:At A fs n){op:CmpOp}{wh:Sem Value}{o f:M V}(P:behindInMarks op e₂=false)(x:aI W A fs E c l VR (eval e₁ E) o)(y:aI W A fs E c l VR (eval e₂ E) f):
  aI W A fs E c l BB (isTrue (.Compare e₁ [op] [e₂] pos) E wh) (mq o λa=>mq f λb=>cmp op a b):=λs φ σ Q Er S L p=>by
 have U:=hA.units;refine wpAny_isTrue_Compare1 (x.after S L p λa u s₁ H G j C z g q=>?_) P;refine y.after j C q λb v i d J t N Z I Y=>DN Wk t (VR.go j au I z) Z (Lz U) ?_;have:∀ {r:R Bool},aj W fs [] BB r i d Q Er->aj W fs [] BV r i d (λc B=>wpAny (model W.prog W.w) A (truthy c) Q Er B) Er:=λ{r} k=>by
  induction r using Vv with
  |ok a σ'=>exact λb h' tk D S' I x=>by cases x;exact wpAny_truthy_bool (k a h' tk D S' I rfl)
  |exc m σ'=>exact k
  |bad=>exact k
 exact this Y
theorem vF(k:WdOk2 W){m:M V}(j:isTrue e E (eval e E)=(do let v <-eval e E;standAt e.pos;holding [v] (truthy v)))(x:aI W A fs E c l VR (eval e E) m):
  aI W A fs E c l BB (isTrue e E (eval e E)) (mq m truth):=λs φ σ Q Er S L p=>
 wpAny_isTrue_value (x.after S L p λa u s₁ f d b i z g q=>nG k b z q) j
theorem IX {F:List Addr}{φ:al}{σ:List O}{h:Heap}(S:W.St F φ σ h){l:List V}{vs:List Value}(x:VRs φ h l vs){a:Array Value}(e:a.toList=vs){k:Nat}:
  W.St F φ σ (h.push {cls:=.type "tuple",data:=.seq a k})/\Go F [] φ φ h (h.push {cls:=.type "tuple",data:=.seq a k})/\VR φ (h.push {cls:=.type "tuple",data:=.seq a k}) (.tup l) (.ref h.objs.size):=by
 have z:=S.grow (h':=h.push {cls:=.type "tuple",data:=.seq a k}) λb o q=>Tc _ q;exact⟨z.1,z.2,.tup (TA _ rfl) rfl rfl (e▸VRs.go S au z.2 x)⟩
theorem IY {f:Expr->M V}{d:List Expr}{k:Nat}(o:∀e∈d,aI W A fs E c l VR (eval e E) (f e)):
  aI W A fs E c l VR (eval (.Tuple d k pos) E) (mq (dN f d) λvs=>if vs.length<=64 then mr (.tup vs)else bad):=λs φ σ Q Er S L p=>by
 refine wpAny_Tuple ((gO d o).after S L p λa u s₁ j i b m z g q=>?_)
 split at q
 ·rename_i hl
  refine cQ (IX b z (a:=u.toArray) rfl (k:=0)) λn r t=>⟨by rw[z.length];exact UZ hl (by decide),q _ _ _ _ n r t⟩
 ·exact q9 q
theorem FU {f:Expr->M V}{d:List Expr}(o:∀e∈d,aI W A fs E c l VR (eval e E) (f e)):
  aI W A fs E c l VR (eval (.List d pos) E) (mq (dN f d) λvs=>if vs.length<=64 then aC (.list vs)else bad):=λs φ σ Q Er S L p=>by
 refine wpAny_List ((gO d o).after S L p λa u s₁ j i b m z g q=>?_)
 split at q
 ·rename_i hl
  refine cQ (q7 b z (a:=u.toArray) rfl (k:=0)) λn r t=>⟨by rw[z.length];exact UZ hl (by decide),q _ _ _ _ n r t⟩
 ·exact q9 q
end
end Mine
end
noncomputable section
open PySem PySem.W PySem.Calls
namespace Mine
variable {d:Addr} {m a:Str} {v u:Value} {o:V} {Er:Value->Shared->Prop} {pos:Pos} {n:Nat} {xs as:List V} {pr p:Addr×Aux} {se ve:Expr} {k:Int} {us:List Value}
structure ClsOk (K:Frag) (C:Addr):Prop where
 getattribute:findIn K (.ref C) "__getattribute__"=some (some (.builtin "object.__getattribute__"))
 setattr:findIn K (.ref C) "__setattr__"=some (some (.builtin "object.__setattr__"))
 hasDict:hasDictIn K C=true
 plain:plainOver K C=true
 fields:∀a,jM a=true->findIn K (.ref C) a=some none
structure WdOk3 (W:Wd):Prop extends WdOk2 W where
 cls:∀cn C,W.cl.at_ cn=some C->ClsOk W.K C
section
variable {W:Wd} {A:Around} {fs:List Env} {X:List Addr} {E:Env} {c:Cx} {l:Loc}
variable {F:List Addr} {φ:al} {σ:List O} {h:Heap}
theorem vG(b:WdOk W)(S:W.St F φ σ h):W.K.In h:=b.K.keeps S.base
theorem ol {b:Array DictEntry}(x:StrKeys b):b.toList.any (·.refKey)=false:=by
 rw[List.any_eq_false];intro e f;refine cI (x e (by simpa using f)) λn t q=>?_;unfold DictEntry.refKey;rw[q]
 simp
theorem vH {m:Str->Option Value}(r:h.Ns d m):∃o,h.get? d=some o/\ ∀name,lookIn name o=some (m name):=by
 refine aB λt q=>kG (r) λo b ep j hd i g=>q<|⟨o,j,λname=>?_⟩;unfold lookIn;rw[hd];dsimp only;have f:nsFind b name=m name:=g name;unfold nsFind findBy at f;rw[ol i];rw[<-f];have:(b.toList.find? λe=>e.key.isStr name)=b.find? λe=>e.key.isStr name:=by simp
 rw[this];cases b.find? λe=>e.key.isStr name<;>simp
theorem lT {x C:Addr}{m:Str->Option Value}(e:h.get? x=some (instObj C d))(f:h.Ns d m):∃od,InstAt h x (instObj C d) C (some od)/\ ∀name,lookIn name od=some (m name):=by
 refine ac (vH f) λo b g=>⟨o,⟨e,rfl,rfl,b⟩,g⟩
theorem DU {V:V}(x:VR φ h V v):handedIn v=true:=by cases x<;>rfl
theorem IZ(i:WdOk3 W){j:Bool}{s:Shared}{φ:al}{σ:List O}{Q:Value->Shared->Prop}(S:W.St (ao fs) φ σ s.heap)(g:VR φ s.heap o u)
  (p:aj W fs [] VR (aM o a σ) s φ Q Er):wpAny (model W.prog W.w) A (getAttr u a j) Q Er s:=by
 refine af p.bi λH p=>ac p.el λn J p=>ac p.el λq y p=>ac p.el λV x p=>?_;rw[cS J]at g;refine ac g.ref' λpr z L=>?_;rw[z];refine kH (kP S L (rR y)) λC d m D N r t Z B=>ac (B a V x) λv G f=>ac (lT r t.ns) λP I b=>?_;have e:=i.cls _ _ D;refine get_value (vG i.toWdOk S) I e.getattribute (findObj_own (v:=v) e.hasDict (e.fields a H) rfl (by rw[b,G])) (DU f)<|p.ret0 S f
theorem nH {o:Expr}{w:Sem Value}(h:eQ o=false):attributeBase o a E w=w:=by
 unfold attributeBase;cases o<;>first|rfl|cases h
theorem FV(H:WdOk3 W){o:Expr}{m:M V}(I:eQ o=false)(x:aI W A fs E c l VR (eval o E) m):aI W A fs E c l VR (eval (.Attribute o a pos) E) (mq m λv=>aM v a):=λs φ σ Q Er S L p=>by
 rw[arm_eval_Attribute,nH I];refine Vf (x.after S L p λw u s₁ y b r G z g q=>?_);refine Vf (UM (Vf (UL (IZ H r z ?_))));refine aj.bind (f:=λv=>mr v) (RV':=VR) (RV:=VR) (m:=aM w a) (Q:=Q) au ?_ λv J C t tk B e D j i=>?_
 ·have:mq (aM w a) (λv=>mr v) b=aM w a b:=by unfold mq mr;cases aM w a b<;>rfl
  rw[this];exact q
 ·exact Vf (wpAny_letTemporaryGo (Vi (i.ret0 (s:= {s₁ with heap:=t,toks:=tk}) (tk:=tk) e j)))
theorem gS {e:Type}{x y:Str}{v:e}(l:List (Str×e)):look y (put x v l)=if y=x then some v else look y l:=by
 induction l using List.rec with
 |nil=>exact kO
 |cons p r ih=>
  rw[w5];by_cases b:x=p.1
  ·rw[Vo b,jj,jj,b]
   by_cases h:y=p.1
   ·rw[Vo h,Vo h]
   ·rw[Vn h,Vn h,Vn h]
  ·rw[Vn b,jj,jj,ih]
   by_cases h:y=p.1
   ·rw[Vo h,Vo h,Vn (λq=>b (q.symm.trans h))]
   ·rw[Vn h,Vn h]
theorem rZ {e:Type}{x:Str}{v:e}(l:List (Str×e)):(put x v l).length=if(look x l).isSome then l.length else l.length+1:=by
 induction l using List.rec with
 |nil=>rfl
 |cons p r ih=>
  rw[w5,jj];by_cases b:x=p.1
  ·rw[Vo b,Vo b];rfl
  ·rw[Vn b,Vn b,T9,ih]
   by_cases h:(look x r).isSome=true
   ·rw[Vo h,Vo h];rfl
   ·rw[Vn h,Vn h];rfl
theorem AT {M:Model}{s:Shared}{a:Addr}{m:Str->Option Value}{n:Nat}{name:Str}{Q:Unit->Shared->Prop}{Er:Value->Shared->Prop}(J:oW s.heap a m n)
  (G:∀h',oW h' a (λx=>if x=name then some v else m x) (if(m name).isSome then n else n+1)->Heap.SameBut a s.heap h'-> ∀o',h'.get? a=some o'-> ∀j ep,o'.data=.dict j ep->j.size=(if(m name).isSome then n else n+1)->Q () {s with heap:=h',toks:=s.toks+1}):
  wpAny M A (nsSet a name v) Q Er s:=λH p Z=>by
 refine jd (J) λo j ep z hd B D r=>?_;simp only[nsSet,strHash,Sem.wp_bind',Sem.wp_cmd_ask,Sem.wp_pure',Sem.wp_cmd_mkText];rw[Sem.wp_loadPart_of M H _ p {s with toks:=s.toks+1} (o:=o) _ z];have t:j.any (·.refKey)=false:=by
  rw[<-Array.any_toList];exact ol B
 simp only[hd,aRefKeyMayBeTheName_eq,aRefKeyMayBeTheNameByArray,t,Bool.and_false,TJ,Vl,Sem.wp_cmd_updatePart];refine⟨by rw[z];rfl, ?_⟩;obtain⟨cc,d,L,w⟩:=o;subst hd;have f:(m name).isSome=(j.findIdx? (λe=>e.key.isStr name)).isSome:=by
  rw[<-D,nsFind,findBy,Option.isSome_map];have:=Array.find?_isSome (xs:=j) (p:=λe=>e.key.isStr name);rw[Bool.eq_iff_iff,this,Array.findIdx?_isSome,Array.any_eq_true]
  constructor
  ·rintro⟨x,I,C⟩
   obtain⟨i,q,rfl⟩:=Array.mem_iff_getElem.mp I;exact⟨i,q,C⟩
  ·rintro⟨i,q,C⟩
   exact⟨_,Array.getElem_mem q,C⟩
 induction q:j.findIdx? (λe=>e.key.isStr name)using Vp with
 |some i=>
  rw[q]at f;have key:∀b,Obj.putName name b (Value.str name s.toks) v ⟨cc,d,.dict j ep,w⟩=⟨cc,d,.dict (j.modify i λe=> {e with val:=v}) ep,w⟩:=λb=>by
   simp only[Obj.putName_eq,Obj.putNameByArray,q]
  have g:=λb=>Tg (Obj.putName name b (Value.str name s.toks) v) z (by rw[key];rfl);simp only[key]at g;refine G _ ⟨_,_,ep,g _,rfl,B.modify _ _,λx=>?_, ?_⟩ (Tz ..) _ (g _) _ _ rfl ?_
  ·show _=if x=name then some v else m x
   rw[<-D];exact findBy_modify (λn v=>v.isStr n) Value.isStr_inj j name x v i q
  ·rw[f];simp[r]
  ·rw[f];simp[r]
 |none=>
  rw[q]at f;have key:∀b,Obj.putName name b (Value.str name s.toks) v ⟨cc,d,.dict j ep,w⟩=⟨cc,d,.dict (j.push ⟨b,.str name s.toks,v⟩) (ep+1),w⟩:=λb=>by
   simp only[Obj.putName_eq,Obj.putNameByArray,q]
  have g:=λb=>Tg (Obj.putName name b (Value.str name s.toks) v) z (by rw[key];rfl);simp only[key]at g;refine G _ ⟨_,_,ep+1,g _,rfl,B.push _ _ _ _,λx=>?_, ?_⟩ (Tz ..) _ (g _) _ _ rfl ?_
  ·show _=if x=name then some v else m x
   rw[<-D];exact findBy_push (λn v=>v.isStr n) j name x _ _ v (λy=>by
    show(name==y)=decide (y=name)
    by_cases h:y=name
    ·subst h;simp
    ·have:¬name=y:=λe=>h e.symm
     simp[h,this]) q
  ·rw[f];simp[r]
  ·rw[f];simp[r]
theorem I4 {b:Bool}(h:n<=64):(if b=true then n else n+1)<=sizeLine:=by
 rw[sizeLine_eq];induction b using Vs with
 |true=>exact UZ h (by decide)
 |false=>exact UZ (Uh h) (by decide)
theorem FW {z:Str}{xs:List (Str×V)}{v:V}{x:Value}{C:Addr}{m:Str->Option Value}{h':Heap}(S:W.St F φ σ h)(Y:φ[n]?=some pr)(N:W.cl.at_ z=some C)(r:pr.2=.some d)(G:h.get? pr.1=some (instObj C d))
  (i:∀x,(m x).isSome=(look x xs).isSome)(L:∀x V,look x xs=some V-> ∃v,m x=some v/\VR φ h V v)(t:pr.1≠d)(J:VR φ h v x)(sb:Heap.SameBut d h h')(Z:oW h' d (λB=>if B=a then some x else m B) (if(m a).isSome then xs.length else xs.length+1)):
  W.St F φ (σ.set n (.inst z (put a v xs))) h'/\Go F [] φ φ h h':=by
 refine St.upd (o:=.inst z (put a v xs)) S Y (h':=h') (λb ob e D=>(sb.2 b λq=>D ?_).trans e) λg=>?_
 ·rw[r,q];exact Tt _ (TO.mpr rfl)
 ·obtain⟨I,U⟩:=pr
  replace r:U=.some d:=r
  rw[r];refine .inst N ((sb.2 I t).trans G) (by rw[rZ,<-i];exact Z) (λy=>?_) λy V j=>?_
  ·rw[gS]
   by_cases f:y=a
   ·rw[Vo f,Vo f];rfl
   ·rw[Vn f,Vn f];exact i y
  ·rw[gS]at j
   by_cases f:y=a
   ·rw[Vo f]at j ⊢
    exact⟨x,rfl,Uu j▸VR.go S au g J⟩
   ·rw[Vn f]at j ⊢
    exact ac (L y V j) λw H P=>⟨w,H,VR.go S au g P⟩
theorem I5(N:WdOk3 W){v:V}{x:Value}{s:Shared}{φ:al}{σ:List O}{Q:Unit->Shared->Prop}(S:W.St (ao fs) φ σ s.heap)(J:VR φ s.heap o u)(hv:VR φ s.heap v x)
  (p:aj W fs [] (λ_ _ (_ _:Unit)=>True) (dF o a v σ) s φ Q Er):wpAny (model W.prog W.w) A (setAttr u a x) Q Er s:=by
 refine af p.bi λhf p=>ac p.el λn hn p=>ac p.el λq hl p=>af p.it λe p=>?_;rw[cS hn]at J;refine ac J.ref' λpr z P=>?_;rw[z];refine kH (kP S P (rR hl)) λC d m L h2 i D t h5=>ac (lT i D.ns) λod I Y=>?_;have j:=N.cls _ _ L;have X:=vG N.toWdOk S;refine set_plain X I j.setattr<|osa_open (s:= {s with toks:=s.toks+1}) (r:=none) X I j.plain (by unfold takerIn;rw[j.fields a hf];rfl) λb=>ac (any_some j.hasDict) λcd hc G=>Vf (Vi (Vf (Vf (wpAny_loadPart (s:= {s with toks:=s.toks+1}) i (Vf (Looks.here (s:= {s with toks:=s.toks+1}) (looks_clsIn X hc) ?_))))));rw[G];refine Vi (a:=some d) (Vf (Vi (Vf ?_)));refine AT (s:= {s with toks:=s.toks+1}) D λh' n' sb U H es ep f y=>?_;refine Vf (wpAny_lookBehind (s:=({s with heap:=h',toks:=s.toks+1+1}:Shared)) H (by
  rw[f];exact pastItsLine_dict (by rw[y];exact Nat.le_succ_of_le (I4 e))) (Vi ?_))
 have B:pr.1≠d:=λq=>by
  refine bw (D) λU es ep g dd Z=>?_;rw[<-q]at g;rw[<-Uu (i.symm.trans g)]at dd;exact nomatch dd
 exact af (FW S P L h2 i t h5 B hv sb n') λS' g'=>p () h' _ φ S' g' trivial
end
section
variable {W:Wd} {A:Around} {fs:List Env} {X:List Addr} {E:Env} {c:Cx} {l:Loc}
variable {F:List Addr} {φ:al} {σ:List O} {h:Heap}
theorem B4(h:mf se=false)(o i:Value):subscripted se false o i=operate [o,i] (getItem o i):=by
 unfold subscripted;induction se using Vq with
 |Slice=>cases h
 |_=>rfl
theorem I6(x:∀o i:Value,subscripted se false o i=operate [o,i] (getItem o i)){s:Shared}{φ:al}{σ:List O}{Q:Value->Shared->Prop}(S:W.St (ao fs) φ σ s.heap)(C:VR φ s.heap (.tup xs) u)(q:VR φ s.heap (.int k) v)(p:aj W fs [] VR (Fx xs k σ) s φ Q Er):wpAny (model W.prog W.w) A (PyProof.Rows.subscriptTail ve se u v) Q Er s:=by
 refine af p.it λf p=>ac p.el λV B p=>jA C.tup' λa ob vs n z e c d r=>?_;rw[z];refine am q.int' λt z=>?_;rw[z];refine ac (r.get B) λw g G=>?_;have T:PyProof.Rows.IsTup s.heap a vs.toList.toArray:=⟨ob,e,c,n,d⟩;have b:k.toNat<vs.toList.length:=(SV.mp g).1;refine Tl T.typeIs PyProof.Rows.slot_tuple_getitem.lookup (PyProof.Rows.getItem_tuple T (UP (by decide) f.1) (LZ f) (j:=k.toNat) ?_ ((Ti ..).trans g) (p.ret0 S G)) (x _ _);unfold seqIndex?;have D:¬k<0:=Q3 f;rw[Vn D];have y:k<(vs.size:Int):=by
  rw[Array.length_toList]at b;exact TK (Int.self_le_toNat _) (UU.mpr b)
 simp[f.1,y]
theorem FX(y:∀o i:Value,subscripted se false o i=operate [o,i] (getItem o i)){s:Shared}{φ:al}{σ:List O}{Q:Value->Shared->Prop}(S:W.St (ao fs) φ σ s.heap)(C:σ[n]?=some (.list xs))(D:VR φ s.heap (.ref n) u)(B:VR φ s.heap (.int k) v)(p:aj W fs [] VR (kL xs k σ) s φ Q Er):wpAny (model W.prog W.w) A (PyProof.Rows.subscriptTail ve se u v) Q Er s:=by
 refine ac D.ref' λpr z G=>?_;rw[z];refine am B.int' λt z=>?_;rw[z];refine ac (dQ S G C) λvs f r=>?_;unfold kL at p;by_cases b:0<=k/\k<2^62
 ·rw[Vo b]at p
  refine ac p.el λV j p=>ac (r.get j) λw e q=>Tl f.typeIs slot_list_getitem.lookup (wpAny_getItem_list f b.1 (LZ b) ((Ti ..).trans e) (p.ret0 S q)) (y _ _)
 ·rw[Vn b]at p
  clear b
  refine af p.it λb p=>ac p.el λV j p=>?_;rw[b.1];refine ac (r.last j) λw e q=>?_;rw[SW]at e;have g:vs.length-1<vs.length:=(SV.mp e).1;refine Tl f.typeIs slot_list_getitem.lookup (wpAny_getItem_list_neg f (by decide) (by rw[T1];exact Int.neg_le_neg (UT.mpr (TT (Nat.zero_le _) g))) (by decide) (x:=w) ?_ (p.ret0 S q)) (y _ _);rw[T1,Ti,<-e]
  congr 1;exact(Vk Int.toNat (Int.add_comm (-1) _)).trans (Int.toNat_sub _ 1)
theorem FY(f:∀o i:Value,subscripted se false o i=operate [o,i] (getItem o i)){s:Shared}{φ:al}{σ:List O}{Q:Value->Shared->Prop}(S:W.St (ao fs) φ σ s.heap){xs:List (Str×V)}{b:Str}{V:V}(B:σ[n]?=some (.dict xs))(q:look b xs=some V)(j:VR φ s.heap (.ref n) u)(e:VR φ s.heap (.str b) v)(p:aj W fs [] VR (.ok V σ) s φ Q Er):wpAny (model W.prog W.w) A (PyProof.Rows.subscriptTail ve se u v) Q Er s:=by
 refine ac j.ref' λpr z y=>?_;rw[z];refine am e.str' λt z=>?_;rw[z];refine ac (fg S y B) λC d r=>ac (r.look q) λw g x=>Tl d.typeIs slot_dict_getitem.lookup (wpAny_getItem_of (knd:=strKind W.prog W.w) (k:=b) (by simp[strKind,Value.isStrOf]) d.mapOf g (p.ret0 S x)) (f _ _)
theorem MN(x:WdOk3 W){i:V}(j:mf se=false){s:Shared}{φ:al}{σ:List O}{Q:Value->Shared->Prop}(S:W.St (ao fs) φ σ s.heap)(g:VR φ s.heap o u)(b:VR φ s.heap i v)
  (p:aj W fs [] VR (ak o i σ) s φ Q Er):wpAny (model W.prog W.w) A (PyProof.Rows.subscriptTail ve se u v) Q Er s:=by
 have e:=B4 j;induction o using Vt with
 |tup xs=>exact ac (aj.el (o:=eG i) (f:=λk=>Fx xs k σ) p) λk r p=>by rw[gN r]at b;exact I6 e S g b p
 |ref n=>induction i using Vt with
  |int k=>exact ac (aj.el (o:=dM σ[n]?) (f:=λl=>kL l k σ) p) λl q p=>FX e S (dw q) g b p
  |str st=>exact ac (aj.el (o:=dct σ[n]?) (f:=λl=>(look st l).elim .bad λv=>.ok v σ) p) λl q p=>ac p.el λV t p=>FY e S (fy q) t g b p
  |_=>exact p.elim
 |_=>exact p.elim
theorem I7(P:WdOk3 W){o i:Expr}{j e:M V}(B:mf i=false)(x:aI W A fs E c l VR (eval o E) j)(y:aI W A fs E c l VR (eval i E) e):
  aI W A fs E c l VR (eval (.Subscript o i pos) E) (mq j λv=>mq e λk=>ak v k):=λs φ σ Q Er S L p=>by
 refine PyProof.Rows.Subscript_ (x.after S L p λa u s₁ C w f t z g q=>?_);exact y.after f t q λb v H D G r I N U J=>MN P B r (VR.go f au U z) N J
theorem I8 {vs:List Value}(h:0<=k):slicePick vs.toArray none (some k) none=(vs.take k.toNat).toArray:=by
 have:=slicePick_upto' vs.toArray k.toNat;rw[TB h]at this;exact this
theorem DV {o:Expr}{kd:Nat}{H G:Pos}{m:M V}(j:bZ o=true)(x:aI W A fs E c l VR (eval o E) m):
  aI W A fs E c l VR (eval (.Subscript o (.Slice none (some (.Constant (.int k) kd H)) none G) pos) E) (mq m λv=>kM v k):=λs φ σ Q Er S L p=>by
 refine wpAny_Subscript_list_slice (x.after S L p λa u s₁ i f e y z g q=>?_) (by
  intro U r;cases o<;>first|rfl|cases j)
 refine ac q.el λn j q=>ac q.el λxs I q=>af q.it λw q=>?_;rw[cS j]at z;refine ac z.ref' λpr z N=>?_;rw[z];refine ac (zG e N I) λvs J r=>?_;rw[evalPart_none];refine Vi ?_;rw[evalPart_some];refine wpAny_Constant_int ⟨pr.1,vs.toArray,none,some k,rfl,J,by rw[T1,r.length];exact UZ w.2.2 (by decide),.none,.int _ _, ?_⟩;rw[I8 w.1];refine af (e.grow (h':=s₁.heap.push {cls:=.type "slice",data:=.fields #[.none,.int k s₁.toks,.none] }) λb o q=>Tc _ q) λP C=>?_;refine cQ (q7 (k:=0) P (VRs.go e au C (r.take k.toNat)) (a:=(vs.take k.toNat).toArray) rfl) λt B D=>?_;rw[UA]at t B D;exact q _ _ _ _ t (Go.trans au C B) D
theorem jk:∀as:List Expr,as.any bI=false-> ∀pos:Pos,(backTo pos (starEach as E)).any (·.1)=false/\(backTo pos (starEach as E)).all (λx=> !x.1)=true
 | [],_,_=>⟨rfl,rfl⟩
 |e::r,h,pos=>by
  rw[UG,Tn]at h;refine af (jk r h.2 pos) λf b=>?_;rw[cN h.1];unfold backTo at f b ⊢;rw[UI,UG,List.all_cons];exact⟨by rw[f];rfl,by rw[b];rfl⟩
theorem jt {j:String}{first:List Value}{as:List Expr}{g:Pos}{s:Shared}{Q:Value->Shared->Prop}{M:Model}(f:as.any bI=false)
  (h:wpAny M A (spliced (backTo g (starEach as E))) (λvs s₁=>wpAny M A (call (.builtin j) (first++vs)) Q Er s₁) Er s):wpAny M A (callWith pos (.builtin j) first (backTo g (starEach as E)) []) Q Er s:=by
 refine callWith_builtin (jk as f g).1 ?_;induction as using Vr with
 |nil=>
  refine evalArgs_none λi p b=>?_;have k:=h i p b
  change Sem.wp M i (pure []) _ _ _ _ at k
  rw[Sem.wp_pure']at k;exact k i p b
 |cons e r=>
  rw[UG,Tn]at f;rw[cN f.1]at h ⊢;exact evalArgs_plain h
theorem lU {F:List Addr}{φ:al}{σ:List O}{h h':Heap}{i:List V}{vs:List Value}{k:Nat}(S:W.St F φ σ h)(j:φ[n]?=some p)(w:σ[n]?=some (.list xs))(sb:Heap.SameBut p.1 h h')
  (g:h'.get? p.1=some (listOf vs.toArray k))(r:VRs φ h i vs):W.St F φ (σ.set n (.list i)) h'/\Go F [] φ φ h h':=by
 have f:p.2=.none:=bw (S.obj n _ _ j w).list' λZ Z Z q Z Z=>by rw[q]
 obtain⟨y,x⟩:=p
 replace f:x=.none:=f
 subst f;exact St.upd S j (λb ob e t=>(sb.2 b λq=>t (by rw[q];simp)).trans e) λgo=>.list g (VRs.go S au go r)
theorem zI {F:List Addr}{φ:al}{σ:List O}{h h':Heap}{xs f:List (Str×V)}{j:List (Str×Value)}{e:Int}(S:W.St F φ σ h)(x:φ[n]?=some p)(i:p.2=.base e)(sb:Heap.SameBut p.1 h h')
  (g:cj W.prog W.w h' p.1 j e)(r:PR φ h f j):W.St F φ (σ.set n (.dict f)) h'/\Go F [] φ φ h h':=by
 obtain⟨y,z⟩:=p;dsimp only at i g sb;subst i;exact St.upd S x (λb ob e t=>(sb.2 b λq=>t (by rw[q];simp)).trans e) λgo=>.dict g (PR.go S au go r)
theorem iy(S:W.St F φ σ h)(f:φ[n]?=some p)(b:σ[n]?=some (.list xs)):∃(vs:List Value) (k:Nat),h.get? p.1=some (listOf vs.toArray k)/\VRs φ h xs vs:=bw (S.obj n _ _ f b).list' λa vs k q e r=>aU vs k ⟨by rw[q];exact e,r⟩
theorem B5 {s:Shared}{φ:al}{σ:List O}{Q:Value->Shared->Prop}(S:W.St (ao fs) φ σ s.heap)(j:φ[n]?=some pr)(i:σ[n]?=some (.list xs))(f:VRs φ s.heap as us)(p:aj W fs [] VR (md n xs as σ) s φ Q Er):wpAny (model W.prog W.w) A (call (.builtin "list.append") (.ref pr.1::us)) Q Er s:=by
 refine ac p.el λv x p=>af p.it λb p=>cY (iy S j i) λvs k y r=>?_;rw[DB x]at f;refine aV f.cons' λw D z t e=>?_;rw[z,e.nil'];refine PyProof.Rows.append_at y (λh' sb g=>?_) (by rw[T1,r.length];exact UZ (UY b) (by decide));have C:h'.get? pr.1=some (listOf (vs++ [w]).toArray (k+1)):=by rw[g,List.push_toArray]
 refine af (lU S j i sb C (r.append (.cons t .nil))) λq B=>p _ _ s.toks _ q B .none
theorem I9 {s:Shared}{φ:al}{σ:List O}{Q:Value->Shared->Prop}(S:W.St (ao fs) φ σ s.heap)(z:φ[n]?=some pr)(q:σ[n]?=some (.list xs))(i:VRs φ s.heap as us)(p:aj W fs [] VR (xw n xs as σ) s φ Q Er):wpAny (model W.prog W.w) A (call (.builtin "list.pop") (.ref pr.1::us)) Q Er s:=by
 refine af p.bi λB p=>af p.it λb p=>ac p.el λv D p=>cY (iy S z q) λvs k f r=>?_;rw[T8.mp B]at i;rw[i.nil'];refine ac (r.last D) λw j G=>?_;have y:vs.toArray[vs.toArray.size-1]?=some w:=by
  rw[SW]at j;rw[T1,Ti,j]
 refine call_meets PySem.F.slot_list_pop ⟨_,f,rfl⟩ PySem.F.entry_list_pop (PySem.F.args_list_pop_1 _) (PySem.MeetsSeq.list_pop_last pr.1 _ k w y (by rw[T1,r.length];exact UZ b (by decide))) ⟨f, ?_⟩;have g:=Tg (Obj.mapSeq λxs=>xs.eraseIdxIfInBounds (vs.toArray.size-1)) f rfl;have e:vs.toArray.eraseIdxIfInBounds (vs.toArray.size-1)=vs.dropLast.toArray:=by
  apply Array.toList_inj.mp;unfold Array.eraseIdxIfInBounds;rw[dif_pos (SK.mp y).1]
  simp
 refine am (show ∃t,(s.heap.update pr.1 (Obj.mapSeq λxs=>xs.eraseIdxIfInBounds (vs.toArray.size-1))).get? pr.1=some (listOf vs.dropLast.toArray t) by rw[g,<-e];exact⟨_,rfl⟩) λt H=>?_;refine af (lU S z q (Tz ..) H r.dropLast) λC x=>p _ _ s.toks _ C x (VR.go S au x G)
theorem Ja {s:Shared}{φ:al}{σ:List O}{Q:Value->Shared->Prop}(S:W.St (ao fs) φ σ s.heap)(j:φ[n]?=some pr)(q:σ[n]?=some (.list xs))(i:VRs φ s.heap as us)(p:aj W fs [] VR (xx n xs as σ) s φ Q Er):wpAny (model W.prog W.w) A (call (.builtin "list.reverse") (.ref pr.1::us)) Q Er s:=by
 refine af p.bi λt p=>af p.it λb p=>cY (iy S j q) λvs k e r=>?_;rw[T8.mp t]at i;rw[i.nil'];refine call_meets PySem.F.slot_list_reverse ⟨_,e,rfl⟩ PySem.F.entry_list_reverse (PySem.F.args_list_reverse_1 _) (PySem.AutoSeq1.list_reverse_list_0 pr.1 _ k (by rw[T1,r.length];exact UZ b (by decide))) ⟨e, ?_⟩;have g:=Tg (Obj.mapSeq λx=>x.reverse) e rfl;refine am (show ∃f,(s.heap.update pr.1 (Obj.mapSeq λx=>x.reverse)).get? pr.1=some (listOf vs.reverse.toArray f) by rw[g,<-List.reverse_toArray];exact⟨_,rfl⟩) λf y=>?_;refine af (lU S j q (Tz ..) y r.reverse) λz B=>p _ _ s.toks _ z B .none
theorem Jb(C:WdOk3 W){xs:List (Str×V)}{s:Shared}{φ:al}{σ:List O}{Q:Value->Shared->Prop}(S:W.St (ao fs) φ σ s.heap)(B:φ[n]?=some pr)(I:σ[n]?=some (.dict xs))(f:VRs φ s.heap as us)(p:aj W fs [] VR (BK xs as σ) s φ Q Er):wpAny (model W.prog W.w) A (call (.builtin "dict.get") (.ref pr.1::us)) Q Er s:=by
 refine ac p.el λq D p=>ac (fg S B I) λN d r=>?_;have key:∀(e:Str) (t:Tok),(strKind W.prog W.w).is e (.str e t)=true:=λe t=>by simp[strKind,Value.isStrOf]
 obtain⟨e,dv⟩:=q;have look:∀ {y:Value},VR φ s.heap dv y->VR φ s.heap ((look e xs).getD dv) ((valueAt N e).getD y):=λhd=>by
  induction hk:Mine.look e xs using Vp with
  |none=>rw[r.lookNone hk];exact hd
  |some v=>exact ac (r.look hk) λw L G=>by rw[L];exact G
 refine(IE D).elim (λz=>?_) λz=>?_
 ·rw[z.1]at f
  refine aV f.cons' λw J x j b=>am j.str' λt i=>?_;rw[x,b.nil',i];refine call_meetsIn PySem.F.slot_dict_get d.typeIs PySem.F.entry_dict_get (PySem.F.args_dict_get_2 _ _) (meets_dict_get (strKind W.prog W.w) pr.1 (key e t) (js C.sys S B)) ⟨_,d.mapOf, ?_⟩;exact p.ret0 S (look (show VR φ s.heap dv .none by rw[show dv=.none from z.2];exact .none))
 ·rw[z]at f
  refine aV f.cons' λw J x j b=>am j.str' λt i=>aV b.cons' λy H g P b=>?_;rw[x,g,b.nil',i];refine call_meetsIn PySem.F.slot_dict_get d.typeIs PySem.F.entry_dict_get (PySem.F.args_dict_get_3 _ _ _) (meets_dict_get_default (strKind W.prog W.w) pr.1 (key e t) (js C.sys S B) _) ⟨_,d.mapOf, ?_⟩;exact p.ret0 S (look P)
noncomputable def DW(m:Str):String:=if m= "get" then "dict.get" else if m= "append" then "list.append" else if m= "pop" then "list.pop" else "list.reverse"
theorem Jc(r:WdOk3 W){s:Shared}{φ:al}{σ:List O}{Q:Value->Shared->Prop}(S:W.St (ao fs) φ σ s.heap)(j:VR φ s.heap o u)(f:VRs φ s.heap as us)
  (p:aj W fs [] VR (bN o m as σ) s φ Q Er):wpAny (model W.prog W.w) A (call (.builtin (DW m)) (u::us)) Q Er s:=by
 refine ac p.el λn t p=>?_;rw[cS t]at j;refine ac j.ref' λpr z g=>?_;rw[z];unfold DW;by_cases e:m= "get"
 ·rw[UD e]at p;rw[Vo e]
  exact ac p.el λl b p=>Jb r S g (fy b) f p
 rw[Uv e]at p;rw[Vn e];refine ac p.el λl b p=>?_;by_cases q:m= "append"
 ·rw[Vo q]at p ⊢;exact B5 S g (dw b) f p
 rw[Vn q]at p ⊢;by_cases i:m= "pop"
 ·rw[Vo i]at p ⊢;exact I9 S g (dw b) f p
 rw[Vn i]at p ⊢;exact af p.it λx p=>Ja S g (dw b) f p
structure MAt (m:Str) (s:Shared) (u:Value) (T:String):Prop where
 pl:PlainAttrs T
 sl:Slot T m (DW m)
 ty:typeOf (.builtin (DW m))=pure (.type "method_descriptor")
 is:s.TypeIs u T
 nd:∀a,u=.ref a-> ∃ob,s.heap.get? a=some ob/\ob.dict=none
theorem FZ {s:Shared}{a:Addr}{ob:Obj}(i:s.heap.get? a=some ob)(f:s.TypeIs (.ref a) "list")(hd:ob.dict=none)(g:qZ m=true):MAt m s (.ref a) "list":=by
 have e:∀b,Value.ref a=.ref b-> ∃ob,s.heap.get? b=some ob/\ob.dict=none:=λb q=>⟨ob,UK q▸i,hd⟩;refine(Bool.or_eq_true_iff.mp g).elim (λh=>?_) λh=>(Bool.or_eq_true_iff.mp h).elim (λh=>?_) λh=>?_
 ·rw[T4 h];exact⟨Ta,PySem.F.slot_list_append,type_list_append,f,e⟩
 ·rw[T4 h];exact⟨Ta,PySem.F.slot_list_pop,PySem.F.type_list_pop,f,e⟩
 ·rw[T4 h];exact⟨Ta,PySem.F.slot_list_reverse,PySem.F.type_list_reverse,f,e⟩
theorem Jd {s:Shared}{φ:al}{σ:List O}(S:W.St F φ σ s.heap)(f:VR φ s.heap o u)(p:bQ o m σ≠ .bad):bQ o m σ=.ok () σ/\ ∃T,MAt m s u T:=by
 unfold bQ at p ⊢;induction hn:dz o using Vp with
 |none=>rw[hn]at p;exact absurd rfl p
 |some n=>
  rw[hn]at p;rw[cS hn]at f;refine ac f.ref' λpr z g=>?_;rw[z]
  replace p:(bif qZ m then(dM σ[n]?).elim (R.bad:R Unit) λZ=>R.ok () σ else bif decide (m= "get")then(dct σ[n]?).elim R.bad λZ=>R.ok () σ else R.bad)≠R.bad:=p
  show(bif qZ m then(dM σ[n]?).elim (R.bad:R Unit) λZ=>R.ok () σ else bif decide (m= "get")then(dct σ[n]?).elim R.bad λZ=>R.ok () σ else R.bad)=_/\_
  induction hm:qZ m using Vs with
  |true=>
   rw[hm]at p;induction hl:dM σ[n]? using Vp with
   |none=>rw[hl]at p;exact absurd rfl p
   |some l=>exact cY (iy S g (dw hl)) λvs k e r=>⟨rfl,_,FZ e ⟨_,e,rfl⟩ rfl hm⟩
  |false=>
   rw[hm]at p;by_cases b:m= "get"
   ·rw[UD b]at p ⊢
    induction hl:dct σ[n]? using Vp with
    |none=>rw[hl]at p;exact absurd rfl p
    |some l=>
     refine ac (fg S g (fy hl)) λi d r=>⟨rfl, "dict", ?_⟩;rw[b];exact⟨PySem.F.plainAttrs_dict,PySem.F.slot_dict_get,PySem.F.type_dict_get,d.typeIs,d.mapOf.noDict⟩
   ·rw[Uv b]at p;exact absurd rfl p
theorem F1(Wk:WdOk3 W){o:Expr}{I:Pos}{as:List Expr}{j:M V}{f:Expr->M V}(hc:eQ o=false)(Y:(I.endLine==pos.line)=true)(hn:as.length<=20)(G:as.any bI=false)
  (x:aI W A fs E c l VR (eval o E) j)(U:∀e∈as,aI W A fs E c l VR (eval e E) (f e)):
  aI W A fs E c l VR (eval (.Call (.Attribute o m I) as [] pos) E) (mq j λv=>mq (bQ v m) λZ=>mq (dN f as) λvs=>bN v m vs):=λs φ σ Q Er S L p=>by
 refine wpAny_Call_method_lateS (nH hc) ?_ Y (x.after S L p λa u s₁ r b i y z g q=>?_)
 ·rw[(jk as G pos).2]
  simp[backToKw,show keywordEach [] E= [] from rfl];exact PY hn
 ·have J:bQ a m b≠ .bad:=λe=>by unfold mq at q;rw[e]at q;exact q
  refine af (Jd i z J) λe h=>am h λT h=>?_;have N:aj W fs [] VR (mq (dN f as) (λvs=>bN a m vs) b) s₁ r Q Er:=by
   unfold mq at q;rw[e]at q;exact q
  exact⟨T,DW m,h.pl,h.sl,h.ty,h.is,h.nd,jt G ((gO as U).after i y N λvs us D B C t H P g' w=>Jc (A:=A) Wk t (VR.go i au g' z) P w)⟩
end
end Mine
end
noncomputable section
open PySem PySem.W PySem.Calls
set_option exponentiation.threshold 3000
namespace Mine
variable {pos:Pos} {Er:Value->Shared->Prop} {x:Str} {G:Prop} {n:Nat} {us:List Value}
noncomputable def Sw(x:Str):Bool:=x= "list"||x= "dict"||x= "str"
noncomputable def PD(x:Str):String:=if x= "len" then "len" else if x= "abs" then "abs" else if x= "max" then "max" else if x= "min" then "min" else if x= "list" then "list" else if x= "dict" then "dict" else if x= "chr" then "chr" else "str"
def iT(x:Str):Value:=if Sw x then .type (PD x)else .builtin (PD x)
structure WdOk4 (W:Wd):Prop extends WdOk3 W where
 blt:∀x,xy x=true->W.mg x=none/\W.mb x=some (iT x)
section
variable {W:Wd} {A:Around} {fs:List Env} {X:List Addr} {E:Env} {c:Cx} {l:Loc}
variable {F:List Addr} {φ:al} {σ:List O} {h:Heap}
theorem mj {T:String}{as:List Expr}{d:Pos}{s:Shared}{Q:Value->Shared->Prop}{M:Model}(b:as.any bI=false)
  (h:wpAny M A (spliced (backTo d (starEach as E))) (λvs s₁=>wpAny M A (call (.type T) vs) Q Er s₁) Er s):wpAny M A (callWith pos (.type T) [] (backTo d (starEach as E)) []) Q Er s:=by
 refine PyProof.Rows.callWith_type (jk as b d).1 ?_;induction as using Vr with
 |nil=>
  refine evalArgs_none λf p a=>?_;have k:=h f p a
  change Sem.wp M f (pure []) _ _ _ _ at k
  rw[Sem.wp_pure']at k;exact k f p a
 |cons e r=>
  rw[UG,Tn]at b;rw[cN b.1]at h ⊢;exact evalArgs_plain h
theorem B6 {as:List Expr}{b:Pos}{s:Shared}{Q:Value->Shared->Prop}{M:Model}(a:as.any bI=false)
  (h:wpAny M A (spliced (backTo b (starEach as E))) (λvs s₁=>wpAny M A (call (iT x) vs) Q Er s₁) Er s):wpAny M A (callWith pos (iT x) [] (backTo b (starEach as E)) []) Q Er s:=by
 unfold iT at h ⊢
 split at h
 ·rename_i ht;rw[Vo ht];exact mj a h
 ·rename_i ht;rw[Vn ht];exact jt a h
theorem fJ {b:Type}{o:Option b}{f:b->M V}{s:Shared}{φ:al}{σ:List O}{Q:Value->Shared->Prop}{P:Prop}(p:aj W fs [] VR (fG o f σ) s φ Q Er)(k:∀a,o=some a->aj W fs [] VR (f a σ) s φ Q Er->P):P:=ac p.el k
theorem ul {φ:al}{h:Heap}(d:VRs φ h [.ref n] us)(k:∀b,us= [.ref b.1]->φ[n]?=some b->G):G:=
 aV d.cons' λw i z f a=>ac f.ref' λb g e=>k b (by rw[z,a.nil',g]) e
theorem Je {s:Shared}{φ:al}{σ:List O}{Q:Value->Shared->Prop}(S:W.St (ao fs) φ σ s.heap)(d:VRs φ s.heap [.ref n] us)(p:aj W fs [] VR (Fy n σ) s φ Q Er):wpAny (model W.prog W.w) A (call (iT "len") us) Q Er s:=by
 refine ac p.el λxs f p=>af p.it λa p=>ul d λg z e=>?_;rw[z];refine ac (dQ S e (dw f)) λvs b r=>call_len_list b (by rw[T1,r.length];exact UQ (UU.mpr a) (by decide)) ?_;rw[T1,r.length];exact p.ret0 S (.int _ _)
theorem F2 {s:Shared}{φ:al}{σ:List O}{Q:Value->Shared->Prop}(S:W.St (ao fs) φ σ s.heap)(e:VRs φ s.heap [.ref n] us)(p:aj W fs [] VR (BL n σ) s φ Q Er):wpAny (model W.prog W.w) A (call (iT "list") us) Q Er s:=by
 refine ac p.el λxs q p=>af p.it λa p=>ul e λf z m=>?_;rw[z];refine cY (iy S m (dw q)) λvs k b r=>call_list_seq f.1 (T:= "list") (.inl rfl) b rfl rfl (λh' d k g=>?_) (by rw[T1,r.length];exact UZ a (by decide));exact cQ (AO (ax:=Aux.none) (ob:=.list xs) S rfl k (.list (vs:=vs) (n:=d) g (VRs.mv (ui k) r))) λi o j=>p _ _ s.toks _ i o j
theorem F3(y:WdOk4 W){s:Shared}{φ:al}{σ:List O}{Q:Value->Shared->Prop}(S:W.St (ao fs) φ σ s.heap)(j:VRs φ s.heap [.ref n] us)(p:aj W fs [] VR (BM n σ) s φ Q Er):wpAny (model W.prog W.w) A (call (iT "dict") us) Q Er s:=by
 refine ac p.el λxs u p=>af p.it λa p=>ul j λC z i=>?_;rw[z];refine ac (fg S i (fy u)) λg d r=>kt_call_dict (js y.sys S i) d (by rw[r.length];exact UZ a (by decide)) λh' f t=>?_;have k:∀b o,s.heap.get? b=some o->h'.get? b=some o:=λb o e=>by
  rw[t.2 b (λq=>by rw[q,SQ (U9 _)]at e;exact ns e)];exact Tc _ e
 refine am f.dictAt λep f=>cQ (AO (ax:=Aux.base ((ep:Int)-g.length)) (ob:=.dict xs) S rfl k (.dict (kvs:=g) ⟨ep,f,by exact Qc⟩ (PR.mv (ui k) r))) λm v B=>p _ _ s.toks _ m v B
theorem pU {φ:al}{h:Heap}{i:Int}(b:VRs φ h [.int i] us)(k:∀t,us= [.int i t]->G):G:=
 aV b.cons' λw f z d a=>am d.int' λt e=>k t (by rw[z,a.nil',e])
theorem AU {φ:al}{h:Heap}{i j:Int}(d:VRs φ h [.int i,.int j] us)(k:∀t b,us= [.int i t,.int j b]->G):G:=
 aV d.cons' λw m z f a=>am f.int' λt g=>pU a λb e=>k t b (by rw[z,e,g])
def AV(W:Wd)(A:Around)(fs:List Env)(x:Str)(m:List V->M V):Prop:=∀ {as:List V} {us:List Value} {s:Shared} {φ:al} {σ:List O} {Q:Value->Shared->Prop} {Er:Value->Shared->Prop},W.St (ao fs) φ σ s.heap->VRs φ s.heap as us->aj W fs [] VR (m as σ) s φ Q Er->wpAny (model W.prog W.w) A (call (iT x) us) Q Er s
theorem OB:AV W A fs "abs" λas=>fG (xA as) (λi=>mr (.int i.natAbs)):=λ{as us s φ σ Q Er} S ha p=>by
 refine fJ p λi h p=>?_;rw[xC h]at ha;refine pU ha λt e=>?_;rw[e];refine PyProof.Rows.call_abs_int λu tk=>?_;rw[show(if i<0 then-i else i)=(i.natAbs:Int) by omega];exact p.ret0 S (.int _ _)
theorem OC(b:At A fs n):AV W A fs "max" λas=>fG (DC as) (λq=>mr (.int (if q.2>q.1 then q.2 else q.1))):=λ{as us s φ σ Q Er} S ha p=>by
 refine fJ p λq h p=>?_;rw[DD h]at ha;refine AU ha λt d e=>?_;rw[e];refine max_two_ints b.handled λh' tk k=>?_;by_cases a:q.2>q.1
 ·rw[Vo a]at p ⊢;exact p.ret k S au (.int _ _)
 ·rw[Vn a]at p ⊢;exact p.ret k S au (.int _ _)
theorem OD(b:At A fs n):AV W A fs "min" λas=>fG (DC as) (λq=>mr (.int (if q.2<q.1 then q.2 else q.1))):=λ{as us s φ σ Q Er} S ha p=>by
 refine fJ p λq h p=>?_;rw[DD h]at ha;refine AU ha λt d e=>?_;rw[e];refine min_two_ints b.handled λh' tk k=>?_;by_cases a:q.2<q.1
 ·rw[Vo a]at p ⊢;exact p.ret k S au (.int _ _)
 ·rw[Vn a]at p ⊢;exact p.ret k S au (.int _ _)
theorem OE:AV W A fs "chr" λas=>fG (xA as) (λi h=>if 0<=i/\i<128 then .ok (.str ⟨#[i.toNat]⟩) h else .bad):=λ{as us s φ σ Q Er} S ha p=>by
 refine fJ p λi h p=>?_;rw[xC h]at ha;refine af p.it λa p=>pU ha λt e=>?_;rw[e];exact PySem.P.chr_of_int (by simp;exact⟨a.1,UP (UO a.2) (by decide)⟩) (p.ret0 S (.str _ _))
theorem OF:AV W A fs "str" λas=>fG (xA as) (λi h=>if i.natAbs<2^1000 then .ok (.str (Str.ofString (toString i))) h else .bad):=λ{as us s φ σ Q Er} S ha p=>by
 refine fJ p λi h p=>?_;rw[xC h]at ha;refine af p.it λa p=>pU ha λt e=>?_;rw[e];refine PySem.P.str_of_int (by
  by_cases hz:i.natAbs=0
  ·rw[hz];decide
  ·exact TU ((Nat.log2_lt hz).mpr a) (by decide)) ?_
 exact p.ret0 S (.str _ _)
theorem o0 {y:Str}{m:List V->M V}{as:List V}{s:Shared}{φ:al}{σ:List O}{Q:Value->Shared->Prop}{r:R V}(b:AV W A fs y m)(S:W.St (ao fs) φ σ s.heap)(a:VRs φ s.heap as us)(p:aj W fs [] VR (if x=y then m as σ else r) s φ Q Er)
  (k:aj W fs [] VR r s φ Q Er->wpAny (model W.prog W.w) A (call (iT x) us) Q Er s):wpAny (model W.prog W.w) A (call (iT x) us) Q Er s:=by
 by_cases h:x=y
 ·rw[Vo h]at p;rw[h];exact b S a p
 ·rw[Vn h]at p;exact k p
theorem B7(d:WdOk4 W)(b:At A fs n){as:List V}{s:Shared}{φ:al}{σ:List O}{Q:Value->Shared->Prop}(S:W.St (ao fs) φ σ s.heap)(a:VRs φ s.heap as us)
  (p:aj W fs [] VR (builtin x as σ) s φ Q Er):wpAny (model W.prog W.w) A (call (iT x) us) Q Er s:=by
 refine o0 (m:=λas=>fG (xz as) Fy) (λS a p=>fJ p λn h p=>Je S (by rw[xB h]at a;exact a) p) S a p λp=>o0 OB S a p λp=>o0 (OC b) S a p λp=>o0 (OD b) S a p λp=>o0 (m:=λas=>fG (xz as) BL) (λS a p=>fJ p λn h p=>F2 S (by rw[xB h]at a;exact a) p) S a p λp=>o0 (m:=λas=>fG (xz as) BM) (λS a p=>fJ p λn h p=>F3 d S (by rw[xB h]at a;exact a) p) S a p λp=>o0 OE S a p λp=>o0 OF S a p λp=>p.elim
theorem dR(d:WdOk W){v:Value}{s:Shared}{φ:al}{σ:List O}{Q:Value->Shared->Prop}(i:c.scope.names.lookup x=some .globalImplicit)(hd:(x==("__debug__":Str))=false)(S:W.St (ao fs) φ σ s.heap)(L:W.Loc E c l φ s.heap)
  (e:W.mg x=some v\/(W.mg x=none/\W.mb x=some v))(f:Q v s):wpAny (model W.prog W.w) A (eval (.Name x pos) E) Q Er s:=by
 refine wpAny_Name ?_ hd;have a:E.kindOf x=some .globalImplicit:=by unfold Env.kindOf;rw[L.scope,i]
 unfold loadName;simp only[Env.blockKind,L.kind,a,ScopeKind.isAnnotationScope,Uy,TJ,Vl];rcases e with e|⟨k,j⟩
 ·exact loadGlobal_global (by rw[L.glob];exact d.g.keeps S.base) e f
 ·exact loadGlobal_builtin (by rw[L.glob];exact d.g.keeps S.base) k (by rw[L.blt];exact d.b.keeps S.base) j f
theorem zJ(d:WdOk4 W)(w:At A fs n){v:Pos}{as:List Expr}{f:Expr->M V}(m:xy x=true)(o:c.scope.names.lookup x=some .globalImplicit)(r:as.any bI=false)(u:∀e∈as,aI W A fs E c l VR (eval e E) (f e)):
  aI W A fs E c l VR (eval (.Call (.Name x v) as [] pos) E) (mq (dN f as) λvs=>builtin x vs):=λs φ σ Q Er S L p=>by
 refine Uk ?_;refine dR d.toWdOk o (by
  rw[TI];intro q;subst q;revert m;decide) S L (.inr (d.blt x m)) ?_
 exact B6 r ((gO as u).after S L p λvs us j g i a k t y b=>B7 d w a t b)
end
end Mine
end
noncomputable section
open PySem PySem.W PySem.Calls
namespace Mine
variable {v:V} {es kvs:List (Str×Value)} {o:Obj} {φ₀:al} {b:Int} {t e elt iter kx vx:Expr} {k n ep wf:Nat} {r:Option V} {σ' σ₁:List O} {Er Er':Value->Shared->Prop} {u:Value} {x y:Str} {pos p2 px p':Pos} {sc:Scope} {It0:Itp} {ifs:List Expr} {D:Addr}
section
variable {W:Wd} {A:Around} {fs:List Env} {X:List Addr} {E:Env} {c:Cx} {l:Loc}
variable {F:List Addr} {φ φ':al} {σ:List O} {h h' h₀:Heap} {a:Addr}
structure Asd (W:Wd) (F:List Addr) (φ:al) (h:Heap) (a:Addr):Prop where
 phi:a∉aT φ
 fr:a∉F
 base:W.B.get? a=none
 sd:∀o,h.get? a=some o->side o
theorem sg(x:∀o,h.get? a=some o->side o)(k:∀b o,b≠a->h.get? b=some o->h'.get? b=some o):Mv φ φ h h':=⟨λe c=>k _ _ (λq=>x _ (q▸e) c) e,id⟩
theorem VR.but(x:∀o,h.get? a=some o->side o)(k:∀b o,b≠a->h.get? b=some o->h'.get? b=some o){V:V}{v:Value}(y:VR φ h V v):VR φ h' V v:=VR.mv (sg x k) y
theorem VRs.but(x:∀o,h.get? a=some o->side o)(k:∀b o,b≠a->h.get? b=some o->h'.get? b=some o){l:List V}{vs:List Value}(y:VRs φ h l vs):VRs φ h' l vs:=VRs.mv (sg x k) y
theorem PR.but(x:∀o,h.get? a=some o->side o)(k:∀b o,b≠a->h.get? b=some o->h'.get? b=some o){l:List (Str×V)}(y:PR φ h l es):PR φ h' l es:=PR.mv (sg x k) y
theorem ObjR.but {d:Cls}{f:Program}{w:World}(x:∀o,h.get? a=some o->side o)(k:∀b o,b≠a->h.get? b=some o->h'.get? b=some o){p:Addr×Aux}{o:O}(i:a∉p.1::p.2.toList)(y:ObjR d f w φ h p o):ObjR d f w φ h' p o:=
 y.mv (sg x k) λb g ob e=>k b ob (λq=>i (q▸g)) e
theorem St.but(S:W.St F φ σ h)(x:Asd W F φ h a)(k:∀b o,b≠a->h.get? b=some o->h'.get? b=some o):W.St F φ σ h':=
 ⟨λb o e=>k b o (λq=>by rw[q,x.base]at e;cases e) (S.base b o e),S.nodup,S.fresh,S.len,λi p o m z=>(S.obj i p o m z).but x.sd k λq=>x.phi (Ub.mpr ⟨p,Tu m,q⟩),λf j=>by
  refine cQ (S.frames f j) λg w B=>?_;obtain⟨o,es,n,e,d⟩:=g;exact⟨⟨o,es,n,k f o (λq=>x.fr (q▸j)) e,d⟩,w,B⟩⟩
theorem Go.but {X:List Addr}(g:Go F X φ₀ φ h₀ h)(p:h₀.get? a=none)(k:∀b o,b≠a->h.get? b=some o->h'.get? b=some o):Go F X φ₀ φ h₀ h':=
 have ne:∀b o,h₀.get? b=some o->b≠a:=λb o e q=>by rw[q,p]at e;cases e
 ⟨g.pre,g.new,λb o e f=>by
  obtain⟨k1,i,k2⟩:=g.kp b o e f;exact⟨λw=>k b _ (ne b o e) (k1 w),i,k b _ (ne b o e) k2⟩,λb f o e d=>by
  refine ac (g.xs b f o e d) λj m r=>?_;exact⟨j,k b _ (ne b o e) m,r⟩⟩
theorem Asd.go {X:List Addr}(x:Asd W F φ h a)(i:a∉X)(e:h.get? a=some o)(g:Go F X φ φ' h h'):Asd W F φ' h' a/\h'.get? a=some o:=by
 have f:=(g.kp a o e λq=>(Ur.mp q).elim i x.phi).1 x.fr;exact⟨⟨λq=>(g.new a q).elim x.phi λr=>(by rw[e]at r;cases r),x.fr,x.base,λj d=>by rw[f]at d;injection d with d;rw[<-d];exact x.sd o e⟩,f⟩
theorem Asd.but {b:Addr}(x:Asd W F φ h a)(f:a≠b)(e:h.get? a=some o)(k:∀c o,c≠b->h.get? c=some o->h'.get? c=some o):Asd W F φ h' a/\h'.get? a=some o:=
 have g:=k a o f e
 ⟨⟨x.phi,x.fr,x.base,λi d=>by rw[g]at d;injection d with d;rw[<-d];exact x.sd o e⟩,g⟩
theorem Asd.self(x:Asd W F φ h a)(e:h'.get? a=some o)(s:side o):Asd W F φ h' a:=⟨x.phi,x.fr,x.base,λf d=>by rw[e]at d;injection d with d;rw[<-d];exact s⟩
theorem LocR.but {E:Env}(L:W.Loc E c l φ h)(x:Asd W F φ h a)(d:E.locals≠a)(k:∀b o,b≠a->h.get? b=some o->h'.get? b=some o):W.Loc E c l φ h':=by
 refine aB λw p=>ac (L.ns) λm q j=>dK (q) λo es ep f r=>p<|⟨L.scope,L.kind,L.glob,L.blt,⟨m,⟨o,es,ep,k _ _ d f,r⟩,λy V e=>ac (j y V e) λv g i=>⟨v,g,VR.but x.sd k i⟩⟩,L.off,L.offB,L.cells,L.code⟩
theorem Asd.new(S:W.St F φ σ h)(f:h.get? a=none)(k:∀o,h'.get? a=some o->side o):Asd W F φ h' a:=by
 refine⟨λq=>?_,λq=>?_, ?_,k⟩
 ·exact ac (S.held _ _ _ q) λob e Z=>ns (f.symm.trans e)
 ·refine af (S.frames a q) λd Z=>?_;obtain⟨o,es,n,e,_⟩:=d
  rw[f]at e;exact ns e
 ·induction r:W.B.get? a using Vp with
  |none=>rfl
  |some o=>have:=S.base a o r;rw[f]at this;exact ns this
theorem si(p:φ<+:φ'):Mv φ φ' h h:=⟨λe Z=>e,dp p⟩
theorem VR.ext(p:φ<+:φ'){V:V}{v:Value}(y:VR φ h V v):VR φ' h V v:=VR.mv (si p) y
theorem VRs.ext(p:φ<+:φ'){l:List V}{vs:List Value}(y:VRs φ h l vs):VRs φ' h l vs:=VRs.mv (si p) y
theorem PR.ext(p:φ<+:φ'){l:List (Str×V)}(y:PR φ h l es):PR φ' h l es:=PR.mv (si p) y
theorem ObjR.ext {f:Cls}{d:Program}{w:World}(q:φ<+:φ'){p:Addr×Aux}{o:O}(y:ObjR f d w φ h p o):ObjR f d w φ' h p o:=y.mv (si q) λZ Z Z e=>e
theorem St.adopt(S:W.St F φ σ h){ax:Aux}{o:O}(x:Asd W F φ h a)(g:ax.toList= [])(y:ObjR W.cl W.prog W.w φ h (a,ax) o):W.St F (φ++ [(a,ax)]) (σ++ [o]) h:=by
 have pre:φ<+:φ++ [(a,ax)]:=TP _ _;have B:∀b,b∈aT (φ++ [(a,ax)])->b∈aT φ\/b=a:=λb d=>by
  rw[fk]at d;exact(Ur.mp d).imp id λr=>by rw[g]at r;simpa using r
 refine⟨S.base, ?_,λb d=>?_,by simp[S.len],λi p o j m=>?_,λf C=>?_⟩
 ·rw[fk,TZ]
  refine⟨S.nodup,by rw[g];simp,λb d c G e=>?_⟩;rw[g]at G;have:c=a:=by simpa using G
  rw[e,this]at d;exact x.phi d
 ·rcases B b d with r|r
  ·exact S.fresh b r
  ·rw[r];exact x.base
 ·by_cases z:i<φ.length
  ·rw[ST z]at j
   rw[ST (by rw[<-S.len];exact z)]at m;exact(S.obj i p o j m).ext pre
  ·have L:i=φ.length:=by
    have:=(SV.mp j).1;simp at this;exact Mh z this
   subst L;rw[SP (U9 _),U3]at j;rw[S.len,SP (U9 _),U3]at m;cases j;cases m;exact y.ext pre
 ·refine cQ (S.frames f C) λJ I H=>⟨J,λq=>(B f q).elim I λr=>x.fr (r▸C),H⟩
theorem Go.adopt {X:List Addr}{ax:Aux}(d:ax.toList= [])(g:Go F X φ₀ φ h₀ h)(i:h₀.get? a=none):Go F X φ₀ (φ++ [(a,ax)]) h₀ h:=
 ⟨g.pre.trans (TP _ _),λb f=>by
  rw[fk]at f;rcases Ur.mp f with r|r
  ·exact g.new b r
  ·rw[d]at r
   have:b=a:=by simpa using r
   rw[this];exact .inr i,g.kp,g.xs⟩
end
inductive ItR (φ:al) (h:Heap):It->Nat->Addr->Prop
 |list {n i:Nat} {a I:Addr}:φ[n]?=some (a,.none)->h.IsListIter I a i->ItR φ h (.list n) i I
 |vals {l:List V} {t I:Addr} {i:Nat}:VR φ h (.tup l) (.ref t)->h.IsTupleIter I t i->ItR φ h (.vals l) i I
 |range {k i:Nat} {I:Addr}:IsRangeIter h I i ((k:Int)-i) 1->i<=k->ItR φ h (.range k) i I
 |keys {n i ep:Nat} {ks:List Str} {a I:Addr} {e:Int}:φ[n]?=some (a,.base e)->h.IsKeyIter I a i ks.length ep->(ep:Int)=e+ks.length->ItR φ h (.keys n ks) i I
 |items {n i ep:Nat} {ks:List Str} {a I:Addr} {e:Int} {ok ov:Value}:φ[n]?=some (a,.base e)->IsItemIter h I a i ks.length ep ok ov->(ep:Int)=e+ks.length->ItR φ h (.items n ks) i I
section
variable {W:Wd} {A:Around} {fs:List Env} {X:List Addr} {E:Env} {c:Cx} {l:Loc}
variable {F:List Addr} {φ φ':al} {σ:List O} {h h' h₀:Heap} {a I:Addr} {it:It} {i:Nat}
theorem MO {vs d:Array Value}{q:Str}{t:Tok}(f:∀q t,vs[1]? ≠some (.str q t))(e:Data.fields vs=.fields d)(z:d[1]?=some (.str q t)):False:=f q t (Data.fields.inj e▸z)
theorem jN {vs:Array Value}(hd:o.data=.fields vs)(f:∀q t,vs[1]? ≠some (.str q t)):side o:=hO (.inr λd n e=>by rw[hd]at e;exact nomatch e) λd q t e z=>MO f (hd.symm.trans e) z
theorem ItR.at_(x:ItR φ h it i I):∃o,h.get? I=some o/\side o:=by
 induction x using ItR.casesOn with
 |list _ y=>exact aP y λo e Z d=>⟨o,e,jN d λZ Z z=>nomatch z⟩
 |vals _ y=>exact aP y λo e Z d=>⟨o,e,jN d λZ Z z=>nomatch z⟩
 |range y _=>exact⟨_,y,jN rfl λZ Z z=>nomatch z⟩
 |keys _ y _=>exact aP y λo e Z d=>⟨o,e,jN d λZ Z z=>nomatch z⟩
 |items _ y _=>exact⟨_,y,jN rfl λZ Z z=>nomatch z⟩
theorem ItR.map(x:ItR φ h it i I)(d:∀o,h.get? I=some o->h'.get? I=some o)(f:∀V v,VR φ h V v->VR φ' h' V v)(pre:φ<+:φ'):ItR φ' h' it i I:=by
 induction x using ItR.casesOn with
 |list p y=>exact ac y λo e r=>.list (dp pre p) ⟨o,d o e,r⟩
 |vals p y=>exact ac y λo e r=>.vals (f _ _ p) ⟨o,d o e,r⟩
 |range y z=>exact .range (d _ y) z
 |keys p y q=>exact ac y λo e r=>.keys (dp pre p) ⟨o,d o e,r⟩ q
 |items p y q=>exact .items (dp pre p) (d _ y) q
def B8(t:Expr):Prop:=∀(it v:Value),letOwnedTupleGo t it v=pure ()
theorem jT(h:bZ t=true):B8 t:=by
 induction t using Vq with
 |Name=>exact λZ Z=>rfl
 |_=>exact ff h
theorem F4 {l:List V}:b6 (.vals l) t=bZ t:=by induction t using Vq with|_=>rfl
theorem DX:b6 (.range k) t=bZ t:=by induction t using Vq with|_=>rfl
theorem F5 {l:List Str}:b6 (.keys n l) t=bZ t:=by induction t using Vq with|_=>rfl
theorem nJ(d:ci it i σ=.ok r σ'):rT σ i it=some r/\σ'=σ:=by
 unfold ci at d;induction h:rT σ i it using Vp with
 |none=>rw[h]at d;exact nomatch d
 |some q=>rw[h]at d;exact⟨Vk some (R.ok.inj d).1,(R.ok.inj d).2.symm⟩
theorem lV(d:ci it i σ=.ok r σ'):σ'=σ:=(nJ d).2
theorem nK {e:V}(d:ci it i σ=.exc e σ'):False:=by
 unfold ci at d;induction h:rT σ i it using Vp with
 |none=>rw[h]at d;exact nomatch d
 |some q=>rw[h]at d;exact nomatch d
theorem pV {xs:List (Str×V)}{ks:List Str}{a:Addr}{e:Int}(S:W.St F φ σ h)(p:φ[n]?=some (a,.base e))(G:σ[n]?=some (.dict xs))(j:xs.map (·.1)=ks)(q:(ep:Int)=e+ks.length):
  ∃es,h.DictAt (strKind W.prog W.w) a es ep/\PR φ h xs es/\es.length=ks.length:=by
 refine aV (rY S p G) λes H C g r=>ac g λm d B=>?_;have f:es.length=ks.length:=by rw[r.length,<-j,Uo]
 rw[<-Aux.base.inj C]at B;have z:m=ep:=Sr q B f;exact⟨es,z▸d,r,f⟩
theorem pW {ks:List Str}{f:List (Str×V)->Option V}(m:((dct σ[n]?).bind λl=>if l.map (·.1)=ks then some (f l)else none)=some r):∃xs,σ[n]?=some (.dict xs)/\xs.map (·.1)=ks/\f xs=r:=by
 refine ac (S9.mp m) λxs j d=>?_;by_cases g:xs.map (·.1)=ks
 ·rw[Vo g]at d;exact⟨xs,fy j,g,Uu d⟩
 ·rw[Vn g]at d;exact ns d
noncomputable def pX(W:Wd)(A:Around)(I:Addr)(t:Expr)(s:Shared)(Q:Value->Shared->Prop)(Er:Value->Shared->Prop):Prop:=
 wpAny (model W.prog W.w) A (pyNext (.ref I)) (λr s₁=>∃u,r=some u/\wpAny (model W.prog W.w) A (letOwnedTupleGo t (.ref I) u) (λZ d=>Q u d) Er s₁) Er s
def pY(φ:al)(it:It)(i:Nat)(I:Addr)(V:V)(s:Shared)(Q:Value->Shared->Prop):Prop:=
 ∀u h' tk,(∀b o,b≠I->s.heap.get? b=some o->h'.get? b=some o)->ItR φ h' it (i+1) I->VR φ h' V u->Q u {s with heap:=h',toks:=tk}
section
variable {t:Expr} {V:V} {s:Shared} {Q:Value->Shared->Prop} {Er:Value->Shared->Prop}
theorem iU {h h':Heap}(sb:Heap.SameBut I h h'):∀b o,b≠I->h.get? b=some o->h'.get? b=some o:=λb o d e=>(sb.2 b d).trans e
theorem Jf {a:Addr}(S:W.St F φ σ s.heap)(j:∀o,s.heap.get? I=some o->side o)(p:φ[n]?=some (a,.none))(y:s.heap.IsListIter I a i)(f:rT σ i (.list n)=some (some V))(k:pY φ (.list n) i I V s Q):pX W A I t s Q Er:=by
 refine ac (Tf.mp f) λxs w f=>ac (dQ S p (dw w)) λvs g r=>ac (r.get f) λu q m=>wpAny_pyNext_list_item y g ((Ti ..).trans q) λh' d sb=>⟨u,rfl,PyProof.Rows.letGo_listiter d (k u h' s.toks (iU sb) (.list p d) (VR.but j (iU sb) m))⟩
theorem Jg {l:List Mine.V}{g:Addr}(m:bZ t=true)(j:∀o,s.heap.get? I=some o->side o)(p:VR φ s.heap (.tup l) (.ref g))(y:s.heap.IsTupleIter I g i)(w:rT σ i (.vals l)=some (some V))(k:pY φ (.vals l) i I V s Q):pX W A I t s Q Er:=by
 refine jA p.tup' λa o vs n z e c d r=>?_;rw[<-UK z]at e;refine ac (r.get (Uu w)) λu B q=>wpAny_pyNext_tuple_item y (items:=vs.toList.toArray) ⟨o,e,c,n,d⟩ ((Ti ..).trans B) λh' f sb=>⟨u,rfl, ?_⟩;rw[jT m];exact Vi (k u h' s.toks (iU sb) (.vals (VR.but j (iU sb) p) f) (VR.but j (iU sb) q))
theorem F6 {m:Nat}(j:bZ t=true)(y:IsRangeIter s.heap I i ((m:Int)-i) 1)(f:rT σ i (.range m)=some (some V))(k:pY φ (.range m) i I V s Q):pX W A I t s Q Er:=by
 replace f:=Uu f
 by_cases d:i<m
 ·rw[Vo d]at f
  refine wpAny_pyNext_range_item y (Ra d) λh' g sb=>⟨_,rfl, ?_⟩;rw[jT j];have q:((i:Int)+1)=((i+1:Nat):Int):=QJ;have p:((m:Int)-i-1)=((m:Int)-((i+1:Nat):Int)):=Int.sub_sub _ _ 1;rw[q,p]at g;exact Vi (k _ h' _ (iU sb) (.range g d) (Uu f▸ .int _ _))
 ·rw[Vn d]at f;exact ns f
theorem Jh {ks:List Str}{a:Addr}{e:Int}(S:W.St F φ σ s.heap)(H:bZ t=true)(p:φ[n]?=some (a,.base e))(y:s.heap.IsKeyIter I a i ks.length ep)(q:(ep:Int)=e+ks.length)(B:rT σ i (.keys n ks)=some (some V))(k:pY φ (.keys n ks) i I V s Q):pX W A I t s Q Er:=by
 refine aP (pW B) λxs L g B=>aP (pV S p L g q) λes d r f=>ac (Tf.mp B) λN w J=>?_;have G:(es.map (·.1))[i]?=some N:=by rw[r.keys,g];exact w
 rw[TY]at G;refine ac (Tf.mp G) λC P j=>?_;rw[<-f]at y;refine wpAny_pyNext_dict_item y d (k:=C.1) (v:=C.2) P λkey h' w m sb=>⟨_,rfl, ?_⟩;rw[jT H];rw[j]at w;refine am (Value.isStrOf_shape w) λtk z=>?_;rw[f]at m;rw[z];exact Vi (k _ h' s.toks (iU sb) (.keys p m q) (J▸ .str _ _))
theorem PR.get {xs:List (Str×Mine.V)}(r:PR φ h xs es){d:Str×Mine.V}:∀i:Nat,xs[i]?=some d-> ∃u,es[i]?=some (d.1,u)/\VR φ h d.2 u:=
 PR.ind (Q:=λxs es=>∀i:Nat,xs[i]?=some d-> ∃u,es[i]?=some (d.1,u)/\VR φ h d.2 u) (λZ e=>ns e) (λa Z f i=>by
  induction i using Nat.casesAuxOn with
  |zero=>exact λe=>by rw[<-Uu e];exact⟨_,rfl,a⟩
  |succ i=>exact f i) r
theorem vI {l:List Str}{t:Expr}(h:b6 (.items n l) t=true):∃ts c p,t=.Tuple ts c p:=by
 induction t using Vq with
 |Tuple=>exact bJ _ _ _ rfl
 |_=>exact ff h
theorem F7 {ks:List Str}{a:Addr}{e:Int}{ok ov:Value}(S:W.St F φ σ s.heap)(N:∀o,s.heap.get? I=some o->side o)(P:b6 (.items n ks) t=true)(p:φ[n]?=some (a,.base e))(y:IsItemIter s.heap I a i ks.length ep ok ov)(q:(ep:Int)=e+ks.length)(G:rT σ i (.items n ks)=some (some V))(k:pY φ (.items n ks) i I V s Q):pX W A I t s Q Er:=by
 refine aP (pW G) λxs hl m G=>aP (pV S p hl m q) λes d r f=>pP (vI P) λts c tp z=>?_;rw[z];refine ac (Tf.mp G) λkv C Z=>ac (r.get i C) λu e1 e2=>?_;rw[<-f]at y;refine wpAny_pyNext_items_item y d e1 λkey h' Y out J U B=>⟨_,rfl,wpAny_letOwnedTupleGo_items out λg j sb=>?_⟩;have w:s.heap.objs.size≠I:=U1 (UN y);have L:∀b o,b≠I->s.heap.get? b=some o->g.get? b=some o:=λb o H e=>(sb.2 b H).trans (B b o H e);refine am (Value.isStrOf_shape Y) λtk z=>?_;rw[f]at j;rw[z]at J;exact k _ g s.toks L (.items p j q) (Z▸ .tup ((sb.2 _ w).trans J) rfl rfl (.cons (.str _ _) (.cons (VR.but N L e2) .nil)))
theorem o7(S:W.St F φ σ s.heap)(m:Asd W F φ s.heap I)(g:b6 it t=true)(x:ItR φ s.heap it i I)(d:ci it i σ=.ok (some V) σ)
  (k:∀u h' tk,(∀b o,b≠I->s.heap.get? b=some o->h'.get? b=some o)->ItR φ h' it (i+1) I->VR φ h' V u->Q u {s with heap:=h',toks:=tk}):
  wpAny (model W.prog W.w) A (pyNext (.ref I)) (λr s₁=>∃u,r=some u/\wpAny (model W.prog W.w) A (letOwnedTupleGo t (.ref I) u) (λZ f=>Q u f) Er s₁) Er s:=by
 have d:=(nJ d).1;have j:=m.sd
 clear m
 replace k:pY φ it i I V s Q:=k
 show pX W A I t s Q Er;induction x using ItR.casesOn with
 |list p y=>exact Jf S j p y d k
 |vals p y=>exact Jg (σ:=σ) (F4▸g) j p y d k
 |range y z=>exact F6 (σ:=σ) (DX▸g) y d k
 |keys p y q=>exact Jh S (F5▸g) p y q d k
 |items p y q=>exact F7 S j g p y q d k
end
theorem F8 {xs:List (Str×V)}{ks:List Str}(d:es.length=ks.length)(f:ks[i]?=none):es[i]?=none:=SU.mpr (d▸SU.mp f)
theorem pa(G:A.handled=none){s:Shared}{Q:Option Value->Shared->Prop}{Er:Value->Shared->Prop}(S:W.St F φ σ s.heap)(x:ItR φ s.heap it i I)(f:ci it i σ=.ok none σ)
  (k:∀h',(∀b o,b≠I->s.heap.get? b=some o->h'.get? b=some o)->Q none {s with heap:=h'}):wpAny (model W.prog W.w) A (pyNext (.ref I)) Q Er s:=by
 have f:=(nJ f).1;refine aB λN H=>?_;induction x using ItR.casesOn with
 |list p y=>
  refine ac (Tf.mp f) λxs J f=>ac (dQ S p (dw J)) λvs L r=>H<|wpAny_pyNext_list_end G y L ((Ti ..).trans (r.getNone f)) λh' sb=>k h' λb o j e=>sb b o j e
 |vals p y=>
  refine jA p.tup' λa o vs n z e c d r=>?_;rw[<-UK z]at e;refine H<|wpAny_pyNext_tuple_end G y (items:=vs.toList.toArray) ⟨o,e,c,n,d⟩ ((Ti ..).trans (r.getNone (Uu f))) λh' sb=>k h' λb o j e=>sb b o j e
 |@range m i I y z=>
  replace f:=Uu f
  by_cases C:i<m
  ·rw[Vo C]at f;exact ns f.symm
  ·refine H<|wpAny_pyNext_range_end G y (Int.sub_nonpos_of_le (UT.mpr (Nat.le_of_not_lt C))) λh' sb=>k h' λb o j e=>sb b o j e
 |keys p y q=>
  refine aP (pW f) λxs J B f=>aP (pV S p J B q) λes d r g=>?_;rw[<-g]at y;refine H<|wpAny_pyNext_dict_end G y d (F8 (xs:=xs) g (Option.map_eq_none_iff.mp f)) λh' sb=>k h' λb o j e=>sb b o j e
 |items p y q=>
  refine aP (pW f) λxs J B f=>aP (pV S p J B q) λes d r g=>?_;rw[<-g]at y;refine H<|wpAny_pyNext_items_end G y d (SU.mpr (by rw[r.length];exact SU.mp (Option.map_eq_none_iff.mp f))) λh' sb=>k h' λb o j e=>sb b o j e
end
structure WdOk5 (W:Wd):Prop extends WdOk4 W where
 rng:W.mg "range"=none/\W.mb "range"=some (.type "range")
section
variable {W:Wd} {A:Around} {fs:List Env} {X:List Addr} {E:Env} {c:Cx} {l:Loc}
variable {F:List Addr} {φ φ':al} {σ:List O} {h h' h₀:Heap} {a I:Addr} {it:It} {i:Nat}
theorem bK:h.get? h.objs.size=none:=SQ (U9 _)
theorem pZ(S:W.St F φ σ h)(o:Obj):W.St F φ σ (h.push o)/\Go F [] φ φ h (h.push o):=S.grow λb d q=>Tc _ q
theorem aj.bindX {B z β w:Type}{RV:al->Heap->B->β->Prop}{RV':al->Heap->z->w->Prop}{m:M B}{f:B->M z}{σ:List O}{s:Shared}{φ:al}{Q:w->Shared->Prop}{Q₁:β->Shared->Prop}(O:eU X φ s.heap)
  (p:aj W fs X RV' (mq m f σ) s φ Q Er)
  (k:∀a b σ₁ j tk d,W.St (ao fs) d σ₁ j->Go (ao fs) [] φ d s.heap j->RV d j a b->aj W fs X RV' (f a σ₁) {s with heap:=j,toks:=tk} d Q Er->Q₁ b {s with heap:=j,toks:=tk}):
  aj W fs [] RV (m σ) s φ Q₁ Er:=by
 unfold mq at p;induction hm:m σ using Vv with
 |ok a σ₁=>
  rw[hm]at p;exact λb j tk d q g x=>k a b σ₁ j tk d q g x (p.after O (g.more O))
 |exc e σ₁=>rw[hm]at p;exact λC h' tk φ' x=>p C h' tk φ' x.more
 |bad=>rw[hm]at p;exact p.elim
theorem aI.afterG {H G β B:Type}{RV:al->Heap->H->β->Prop}{RV':al->Heap->G->B->Prop}{t:Sem β}{m:M H}{f:H->M G}(x:aI W A fs E c l RV t m)
  {s:Shared}{φ:al}{σ:List O}{Q:B->Shared->Prop}{Q₁:β->Shared->Prop}{Er:Value->Shared->Prop}(O:eU X φ s.heap)(S:W.St (ao fs) φ σ s.heap)(L:W.Loc E c l φ s.heap)(p:aj W fs X RV' (mq m f σ) s φ Q Er)
  (k:∀a b s₁ d σ₁,W.St (ao fs) d σ₁ s₁.heap->W.Loc E c l d s₁.heap->RV d s₁.heap a b->Go (ao fs) [] φ d s.heap s₁.heap->aj W fs X RV' (f a σ₁) s₁ d Q Er->Q₁ b s₁):wpAny (model W.prog W.w) A t Q₁ Er s:=
 x s φ σ _ _ S L (aj.bindX O p λa b Z C tk d j g z q=>k a b {s with heap:=C,toks:=tk} d _ j (L.go S g) z g q)
theorem aI.after0 {G C β B:Type}{RV:al->Heap->G->β->Prop}{RV':al->Heap->C->B->Prop}{t:Sem β}{m:M G}{f:G->M C}(x:aI W A fs E c l RV t m)
  {s:Shared}{φ:al}{σ:List O}{Q:B->Shared->Prop}{Q₁:β->Shared->Prop}{Er:Value->Shared->Prop}(S:W.St (ao fs) φ σ s.heap)(L:W.Loc E c l φ s.heap)(p:aj W fs X RV' (mq m f σ) s φ Q Er)
  (k:∀a b s₁ d σ₁,s₁= {s with heap:=s₁.heap,toks:=s₁.toks}->W.St (ao fs) d σ₁ s₁.heap->W.Loc E c l d s₁.heap->RV d s₁.heap a b->Go (ao fs) [] φ d s.heap s₁.heap->aj W fs X RV' (f a σ₁) s φ Q Er->Q₁ b s₁):wpAny (model W.prog W.w) A t Q₁ Er s:=by
 refine x s φ σ _ _ S L ?_;unfold mq at p;induction hm:m σ using Vv with
 |ok a σ₁=>
  rw[hm]at p;exact λb q tk d j g z=>k a b {s with heap:=q,toks:=tk} d σ₁ rfl j (L.go S g) z g p
 |exc e σ₁=>rw[hm]at p;exact λH h' tk φ' x=>p H h' tk φ' x.more
 |bad=>rw[hm]at p;exact p.elim
def p8(W:Wd)(fs:List Env)(E:Env)(c:Cx)(l:Loc)(s:Shared)(φ:al)(k:Value->Shared->Prop)(P:It->List O->Prop):Prop:=
 ∀it I s₂ φ₂ σ₂,s₂= {s with heap:=s₂.heap,toks:=s₂.toks}->W.St (ao fs) φ₂ σ₂ s₂.heap->Go (ao fs) [] φ φ₂ s.heap s₂.heap->W.Loc E c l φ₂ s₂.heap->Asd W (ao fs) φ₂ s₂.heap I->ItR φ₂ s₂.heap it 0 I->s.heap.get? I=none->P it σ₂->k (.ref I) s₂
theorem jU {s s₁:Shared}{φ d:al}{σ₁:List O}{k:Value->Shared->Prop}{o:Obj}{it:It}{P:It->List O->Prop}
  (K:p8 W fs E c l s φ k P)(C:s₁= {s with heap:=s₁.heap,toks:=s₁.toks})(f:W.St (ao fs) d σ₁ s₁.heap)(q:W.Loc E c l d s₁.heap)(g:Go (ao fs) [] φ d s.heap s₁.heap)(H:o.isFreed=false)
  (G:s.heap.get? s₁.heap.objs.size=none)(x:ItR d (s₁.heap.push o) it 0 s₁.heap.objs.size)(p:P it σ₁):k (.ref s₁.heap.objs.size) {s₁ with heap:=s₁.heap.push o}:=by
 refine af (pZ f o) λw m=>K it s₁.heap.objs.size {s₁ with heap:=s₁.heap.push o} d σ₁ (by rw[C]) w (Go.trans au g m) (q.go f m) (Asd.new f bK λJ e=>?_) x G p;refine ac (x.at_) λB j z=>?_;rw[e]at j;injection j with j;rw[j];exact z
theorem jV {X:List Addr}(O:eU X φ h₀)(g:Go F X φ φ' h₀ h)(S:W.St F φ' σ h)(w:∀f∈aT φ,∃o,h₀.get? f=some o):h₀.get? h.objs.size=none:=by
 by_cases q:h.objs.size∈aT φ
 ·refine ac (Ub.mp (dO g.pre _ q)) λp d m=>am (List.getElem?_of_mem d) λi j=>?_
  exact absurd (dO g.pre _ q) (Asd.new (h':=h) S bK (λo e=>by rw[bK]at e;cases e)).phi
 ·exact dP O g q bK
theorem Ji(Y:WdOk5 W){P β:Type}{RV:al->Heap->P->β->Prop}{s s₁:Shared}{φ m:al}{σ₁:List O}{Q:β->Shared->Prop}{Er':Value->Shared->Prop}{k:Value->Shared->Prop}{f:It->M P}{V:V}{u:Value}
  (K:p8 W fs E c l s φ k (λit G=>aj W fs X RV (f it G) s φ Q Er))(J:s₁= {s with heap:=s₁.heap,toks:=s₁.toks})(j:W.St (ao fs) m σ₁ s₁.heap)(B:W.Loc E c l m s₁.heap)(g:Go (ao fs) [] φ m s.heap s₁.heap)(N:s.heap.get? s₁.heap.objs.size=none)(z:VR m s₁.heap V u)
  (p:aj W fs X RV (mq (bY V) f σ₁) s φ Q Er):wpAny (model W.prog W.w) A (pyIter u) k Er' s₁:=by
 induction V using Mine.V.casesOn with
 |tup xs=>
  refine jA z.tup' λa o vs n L e c d r=>?_;rw[L];exact wpAny_pyIter_tuple (items:=vs.toList.toArray) ⟨o,e,c,n,d⟩ (jU K J j B g rfl N (.vals (VR.go j au (pZ j _).2 (.tup e c d r)) ⟨_,TA _ rfl,rfl,rfl⟩) p)
 |ref n=>
  refine ac z.ref' λZ L H=>?_;rw[L];induction hl:dM σ₁[n]? using Vp with
  |some xs=>
   rw[my (show bY (.ref n) σ₁=.ok (.list n) σ₁ by show(dM σ₁[n]?).elim _ _=_;rw[hl];rfl)]at p;refine bw (j.obj n _ _ H (dw hl)).list' λa vs k q e r=>?_;rw[q]at H ⊢;exact wpAny_pyIter_list ⟨_,e,rfl,_,rfl⟩ (jU K J j B g rfl N (.list H ⟨_,TA _ rfl,rfl,rfl⟩) p)
  |none=>
   induction hd:dct σ₁[n]? using Vp with
   |none=>rw[mu (show bY (.ref n) σ₁=.bad by show(dM σ₁[n]?).elim _ _=_;rw[hl];show(dct σ₁[n]?).elim _ _=_;rw[hd];rfl)]at p;exact p.elim
   |some xs=>
    rw[my (show bY (.ref n) σ₁=.ok (.keys n (xs.map (·.1))) σ₁ by show(dM σ₁[n]?).elim _ _=_;rw[hl];show(dct σ₁[n]?).elim _ _=_;rw[hd];rfl)]at p;refine bw (j.obj n _ _ H (fy hd)).dict' λa es e' q U r=>?_;rw[q]at H ⊢;refine ac U λep d S=>?_;have C:es.length=(xs.map (·.1)).length:=by rw[r.length,Uo]
    refine wpAny_pyIter_dict (js Y.sys j H) d (jU K J j B g rfl N (.keys (ep:=ep) H ?_ (by rw[<-C];exact S)) p);rw[<-C];exact⟨_,TA _ rfl,rfl,rfl⟩
 |_=>exact p.elim
theorem zK(h:¬oR e=true):∀x,foldedSetIterable e E x=pure x:=by
 induction e using Vq with
 |Set=>exact absurd rfl h
 |_=>exact λZ=>rfl
noncomputable def w6(W:Wd)(A:Around)(E:Env)(e:Expr)(s:Shared)(k:Value->Shared->Prop)(Er:Value->Shared->Prop):Prop:=wpAny (model W.prog W.w) A (eval e E) (λx s₁=>wpAny (model W.prog W.w) A (pyIter x) k Er s₁) Er s
section
variable {n:Nat} {It0:Itp} {α β:Type} {RV:al->Heap->α->β->Prop} {f:It->M α} {s:Shared} {φ:al} {σ:List O} {Q:β->Shared->Prop} {Er:Value->Shared->Prop} {k:Value->Shared->Prop}
theorem un(S:W.St F φ σ h):∀f∈aT φ,∃o,h.get? f=some o:=λq d=>ac (S.held _ _ _ d) λo e Z=>⟨o,e⟩
theorem F9 {d:Int}:Builtin.Range.rangeSize 0 d 1=(d.toNat:Int)-((0:Nat):Int):=by rw[rangeSize_one];split<;>omega
theorem B9(N:WdOk5 W){V:V}{u:Value}{s₁:Shared}{d:al}{σ₁:List O}(S:W.St (ao fs) φ σ s.heap)(K:p8 W fs E c l s φ k (λit G=>aj W fs X RV (f it G) s φ Q Er))(L:s₁= {s with heap:=s₁.heap,toks:=s₁.toks})(m:W.St (ao fs) d σ₁ s₁.heap)(H:W.Loc E c l d s₁.heap)
  (z:VR d s₁.heap V u)(g:Go (ao fs) [] φ d s.heap s₁.heap)(q:aj W fs X RV (mq (bt V) f σ₁) s φ Q Er):wpAny (model W.prog W.w) A (call (.type "range") [u]) (λx s₁=>wpAny (model W.prog W.w) A (pyIter x) k Er s₁) Er s₁:=by
 induction hk:eG V using Vp with
 |none=>rw[mu (show bt V σ₁=.bad by unfold bt;rw[hk];rfl)]at q;exact q.elim
 |some kk=>
  rw[gN hk]at z q;refine am z.int' λt J=>?_;rw[J];by_cases j:kk<2^62/\ -(2^62)<=kk
  ·rw[my (show bt (.int kk) σ₁=.ok (.range kk.toNat) σ₁ from Vo j)]at q
   refine call_range_1<|af (pZ m {cls:=.type "range",data:=.fields #[.int 0 s₁.toks,.int kk t,.int 1 (s₁.toks+1)] }) λC p=>?_;have B:=Go.trans au g p;refine wpAny_pyIter_range (IsRange.new ..) (small_one (by decide) (by decide) (RW j) (QR j)) (jU (s₁:= {s₁ with heap:=s₁.heap.push {cls:=.type "range",data:=.fields #[.int 0 s₁.toks,.int kk t,.int 1 (s₁.toks+1)] },toks:=s₁.toks+1+1}) (it:=.range kk.toNat) K (by rw[L]) C (H.go m p) B rfl (jV au B C (un S)) (.range ?_ (Nat.zero_le _)) q);rw[F9];exact TA _ rfl
  ·rw[mu (show bt (.int kk) σ₁=.bad from Vn j)]at q;exact q.elim
theorem Ga(G:WdOk5 W)(H:∀e,aI W A fs E c l VR (eval e E) (It0.ev c l e)){r:Str×Expr}(j:∃p pos,e=.Call (.Name r.1 p) [r.2] [] pos)(w:r.1= "range"/\c.scope.names.lookup r.1=some .globalImplicit/\bI r.2=false)
  (S:W.St (ao fs) φ σ s.heap)(L:W.Loc E c l φ s.heap)(p:aj W fs X RV (mq (It0.ev c l r.2) (λv=>mq (bt v) f) σ) s φ Q Er)(K:p8 W fs E c l s φ k (λit d=>aj W fs X RV (f it d) s φ Q Er)):w6 W A E e s k Er:=by
 refine cI j λJ pos j=>?_;rw[j];refine Uk<|dR G.toWdOk w.2.1 (by rw[w.1];decide) S L (.inr (by rw[w.1];exact G.rng))<|mj (as:= [r.2]) (by rw[UG,w.2.2];rfl) (Ul ((H r.2).after0 S L p λV u s₁ C σ₁ j B m z g q=>Uw (B9 G S K j B m z g q)) (cN w.2.2))
theorem Gb(Wk:WdOk5 W)(ev:∀e,aI W A fs E c l VR (eval e E) (It0.ev c l e)){r:Expr×Str×Bool}(J:∃Z pos,e=.Call (.Attribute r.1 r.2.1 Z) [] [] pos/\r.2.2=(Z.endLine==pos.line))(hm:r.2.1= "items"/\eQ r.1=false/\r.2.2=true)
  (S:W.St (ao fs) φ σ s.heap)(L:W.Loc E c l φ s.heap)(p:aj W fs X RV (mq (It0.ev c l r.1) (λv=>mq (dI v) f) σ) s φ Q Er)(K:p8 W fs E c l s φ k (λit H=>aj W fs X RV (f it H) s φ Q Er)):w6 W A E e s k Er:=by
 refine cY J λZ pos J hq=>?_;rw[J,hm.1];refine wpAny_Call_method_lateS (nH hm.2.1) rfl (hq.symm.trans hm.2.2) ((ev r.1).after0 S L p λV u s₁ Y σ₁ J j N z g q=>?_);induction hn:dz V using Vp with
 |none=>rw[mu (show dI V σ₁=.bad by unfold dI;rw[hn];rfl)]at q;exact q.elim
 |some n=>
  rw[cS hn]at z q;refine ac z.ref' λpr zz P=>?_;rw[zz];induction hd:dct σ₁[n]? using Vp with
  |none=>rw[mu (show dI (.ref n) σ₁=.bad by show(dct σ₁[n]?).elim _ _=_;rw[hd];rfl)]at q;exact q.elim
  |some xs=>
   rw[my (show dI (.ref n) σ₁=.ok (.items n (xs.map (·.1))) σ₁ by show(dct σ₁[n]?).elim _ _=_;rw[hd];rfl)]at q;refine bw (j.obj n _ _ P (fy hd)).dict' λU es e' qp gy r=>?_;rw[qp]at P ⊢;refine ac gy λep d q2=>⟨"dict", "dict.items",PySem.F.plainAttrs_dict,PySem.F.slot_dict_items,PySem.F.type_dict_items,d.dictOf.typeIs,d.dictOf.mapOf.noDict, ?_⟩;refine method_meetsIn PySem.F.slot_dict_items PySem.F.entry_dict_items rfl (evalArgs_none ⟨rfl,d.dictOf.typeIs,PySem.F.args_dict_items_1 _,_,meets_dict_items (strKind W.prog W.w) U (js Wk.sys j P),⟨es,d.dictOf⟩, ?_⟩);refine af (pZ j {cls:=.type "dict_items",data:=.fields #[.ref U] }) λC m=>?_;have B:=Go.trans au g m;have G:es.length=(xs.map (·.1)).length:=by rw[r.length,Uo]
   refine wpAny_pyIter_items (kvs:=es) (ep:=ep) (knd:=strKind W.prog W.w) ⟨_,TA _ rfl,rfl,rfl⟩ (d.push _) (jU (s₁:= {s₁ with heap:=s₁.heap.push {cls:=.type "dict_items",data:=.fields #[.ref U] } }) (it:=.items n (xs.map (·.1))) K (by rw[J]) C (N.go j m) B rfl (jV au B C (un S)) (.items (ok:=.none) (ov:=.none) (ep:=ep) P ?_ (by rw[<-G];exact q2)) q);rw[<-G];exact TA _ rfl
theorem rb(N:WdOk5 W)(G:∀e,aI W A fs E c l VR (eval e E) (It0.ev c l e))
  (S:W.St (ao fs) φ σ s.heap)(L:W.Loc E c l φ s.heap)(p:aj W fs X RV (mq (jS It0 c l e) f σ) s φ Q Er)
  (K:p8 W fs E c l s φ k (λit B=>aj W fs X RV (f it B) s φ Q Er)):
  wpAny (model W.prog W.w) A (eval e E) (λx s₁=>wpAny (model W.prog W.w) A (pyIter x) k Er s₁) Er s/\ ∀x,foldedSetIterable e E x=pure x:=by
 unfold jS at p;by_cases j:oR e=true
 ·rw[Vo j]at p;exact p.elim
 rw[Vn j]at p;refine⟨?_,zK j⟩
 clear j
 show w6 W A E e s k Er;have d:aj W fs X RV (mq (mq (It0.ev c l e) bY) f σ) s φ Q Er->w6 W A E e s k Er:=λp=>by
  rw[mx]at p;exact(G e).after0 S L p λV u s₁ H σ₁ U m C z g q=>Ji N K U m C g (jV au g m (un S)) z q
 induction hr:nu e using Vp with
 |some q=>
  rw[hr]at p
  replace p:aj W fs X RV (mq (if q.1= "range"/\c.scope.names.lookup q.1=some .globalImplicit/\bI q.2=false then mq (It0.ev c l q.2) bt else mq (It0.ev c l e) bY) f σ) s φ Q Er:=p
  by_cases P:q.1= "range"/\c.scope.names.lookup q.1=some .globalImplicit/\bI q.2=false
  ·rw[Vo P,mx]at p
   clear d
   exact Ga N G (xH hr) P S L p K
  ·rw[Vn P]at p;exact d p
 |none=>
  rw[hr]at p;induction hi:rU e using Vp with
  |none=>rw[hi]at p;exact d p
  |some q=>
   rw[hi]at p
   replace p:aj W fs X RV (mq (if q.2.1= "items"/\eQ q.1=false/\q.2.2=true then mq (It0.ev c l q.1) dI else mq (It0.ev c l e) bY) f σ) s φ Q Er:=p
   by_cases J:q.2.1= "items"/\eQ q.1=false/\q.2.2=true
   ·rw[Vo J,mx]at p
    clear d
    exact Gb N G (Fz hi) J S L p K
   ·rw[Vn J]at p;exact d p
end
end
def FR(W:Wd)(E:Env)(c:Cx):al->Heap->Fl×Loc->Flow->Prop:=λφ h p f=>W.Loc E c p.2 φ h/\match p.1 with
 |.next=>f=.next
 |.cont=>f=.cont
 |.ret v=>∃u,f=.ret u/\VR φ h v u
def bT(W:Wd)(A:Around)(fs:List Env)(E:Env)(c:Cx)(l:Loc)(t:Sem Flow)(m:M (Fl×Loc)):Prop:=
 ∀(s:Shared) (φ:al) (σ:List O) (Q:Flow->Shared->Prop) (Er:Value->Shared->Prop),W.St (ao fs) φ σ s.heap->W.Loc E c l φ s.heap->aj W fs [E.locals] (FR W E c) (m σ) s φ Q Er->wpAny (model W.prog W.w) A t Q Er s
def LU(W:Wd)(E:Env)(c:Cx):al->Heap->Loc->Unit->Prop:=λφ h l Z=>W.Loc E c l φ h
section
variable {W:Wd} {A:Around} {fs:List Env} {X:List Addr} {E:Env} {c:Cx} {l:Loc}
variable {F:List Addr} {φ φ':al} {σ:List O} {h h' h₀:Heap} {a I:Addr} {it:It} {i:Nat}
theorem aI.afterX {H G β B:Type}{RV:al->Heap->H->β->Prop}{RV':al->Heap->G->B->Prop}{t:Sem β}{m:M H}{f:H->M G}(x:aI W A fs E c l RV t m)
  {s:Shared}{φ:al}{σ:List O}{Q:B->Shared->Prop}{Q₁:β->Shared->Prop}{Er:Value->Shared->Prop}(S:W.St (ao fs) φ σ s.heap)(L:W.Loc E c l φ s.heap)(p:aj W fs [E.locals] RV' (mq m f σ) s φ Q Er)
  (k:∀a b s₁ d σ₁,W.St (ao fs) d σ₁ s₁.heap->W.Loc E c l d s₁.heap->RV d s₁.heap a b->Go (ao fs) [] φ d s.heap s₁.heap->aj W fs [E.locals] RV' (f a σ₁) s₁ d Q Er->Q₁ b s₁):wpAny (model W.prog W.w) A t Q₁ Er s:=
 x s φ σ _ _ S L (aj.bindX L.offL p λa b Z C tk d j g z q=>k a b {s with heap:=C,toks:=tk} d _ j (L.go S g) z g q)
theorem uo(d:E.scope.kind=.function):(E.scope.kind==.class||(E.scope.kind==.module&&E.locals !=E.globals))=false:=by rw[d];rfl
theorem jl(L:W.Loc E c l φ h)(x:Str):E.kindOf x=c.scope.names.lookup x:=by unfold Env.kindOf;rw[L.scope]
theorem Jj {h:Heap}{a:Addr}{m:Str->Option Value}(x:h.Ns a m):∃o es n,h.get? a=some o/\o.data=.dict es n:=bw x λo es ep f d Z=>bJ o es ep ⟨f,d⟩
theorem MP {s:Shared}{φ:al}{σ:List O}{Q:Unit->Shared->Prop}(S:W.St (ao fs) φ σ s.heap)(L:W.Loc E c l φ s.heap)(z:VR φ s.heap v u)(e:c.scope.names.lookup x=some .local)
  (p:aj W fs [E.locals] (LU W E c) (.ok (put x v l) σ) s φ Q Er):wpAny (model W.prog W.w) A (storeName E x u) Q Er s:=by
 refine ac (L.ns) λm H B=>wpAny_storeName_local ((jl L x).trans e) H (λh' j sb=>?_) (uo L.kind);refine af (St.local S L.offL L.offB sb (Jj j)) λG g=>p () h' _ φ G g ⟨L.scope,L.kind,L.glob,L.blt,⟨_,j,λy V d=>?_⟩,L.off,L.offB,L.cells,L.code⟩;rw[gS]at d;by_cases f:y=x
 ·rw[Vo f]at d ⊢
  exact⟨u,rfl,Uu d▸VR.go S L.offL g z⟩
 ·rw[Vn f]at d ⊢
  exact ac (B y V d) λw q C=>⟨w,q,VR.go S L.offL g C⟩
theorem Jk {s:Shared}{φ:al}{σ:List O}{Q:Unit->Shared->Prop}(S:W.St (ao fs) φ σ s.heap)(L:W.Loc E c l φ s.heap)(z:VR φ s.heap v u)(e:c.scope.names.lookup x=some .cell)
  (J:look x c.cells=some n)(f:jB σ[n]?=true)(p:aj W fs [E.locals] (LU W E c) (.ok l (σ.set n (.cell (some v)))) s φ Q Er):wpAny (model W.prog W.w) A (storeName E x u) Q Er s:=by
 refine am (Fv f) λN f=>ac (L.cells x n J) λa C j=>ac (AM S j f) λH g k=>uh L.kind ((jl L x).trans e) C g rfl ?_;have B:=Tg (λo:Obj=> {o with data:=.cell (some u) }) g rfl;refine af (St.upd (o:=.cell (some v)) S j (h':=s.heap.update a λo=> {o with data:=.cell (some u) }) (λb ob e m=>by
  have d:a≠b:=λq=>m (by rw[q];exact TM ..);exact(Td s.heap _ d).trans e) λgo=>.cellS B (VR.go S au go z)) λG go=>?_
 exact p () _ s.toks φ G (go.more L.offL) (L.go S go)
theorem p9 {s:Shared}{φ:al}{σ:List O}{Q:Unit->Shared->Prop}(S:W.St (ao fs) φ σ s.heap)(L:W.Loc E c l φ s.heap)(z:VR φ s.heap v u)
  (p:aj W fs [E.locals] (LU W E c) (wr c x v l σ) s φ Q Er):wpAny (model W.prog W.w) A (storeName E x u) Q Er s:=by
 refine ac p.el λkd e p=>?_;induction kd using NameKind.casesOn with
 |«local»=>exact MP S L z e p
 |cell=>exact ac (aj.el (o:=look x c.cells) (f:=λn=>bif jB σ[n]? then .ok l (σ.set n (.cell (some v)))else .bad) p) λn g p=>af p.bi λd p=>Jk S L z e g d p
 |_=>exact p.elim
theorem Jl(B:List Expr):∀ {xs:List Str} {vs:List V} {us:List Value} {l:Loc} {s:Shared} {φ:al} {σ:List O} {Q:Unit->Shared->Prop} {Er:Value->Shared->Prop},names? B=some xs->W.St (ao fs) φ σ s.heap->W.Loc E c l φ s.heap->VRs φ s.heap vs us->
  aj W fs [E.locals] (LU W E c) (eH c xs vs l σ) s φ Q Er->wpAny (model W.prog W.w) A (assignInOrder ((assignEach B E).map (·.2)) us) Q Er s:=by
 induction B using List.rec with
 |nil=>
  intro xs vs us l s φ σ Q Er d S L z p;rw[<-Uu d]at p;induction vs using Vr with
  |nil=>rw[z.nil'];exact PyProof.Rows.assignInOrder_nil (p.ret0 (tk:=s.toks) S L)
  |cons=>exact p.elim
 |cons t r ih=>
  intro xs vs us l s φ σ Q Er d S L z p;refine ac (S9.mp d) λy C d=>ac (Tf.mp d) λY N d=>am (ip C) λH C=>?_;rw[<-d]at p;rw[C];induction vs using Vr with
  |nil=>exact p.elim
  |cons v vs=>
   refine aV z.cons' λu P J a b=>?_;rw[J];show wpAny _ A (assignInOrder (assign (.Name y H) E::(assignEach r E).map (·.2)) (_::_)) Q Er s;refine IO (wpAny_assign_Name (p9 S L a ?_));exact aj.bind L.offL p λU Z σ₁ f tk G m g j q=>ih (s:= {s with heap:=f,toks:=tk}) N m j (VRs.go S L.offL g b) q
theorem DY(f:List Expr):∀ {xs:List Str},names? f=some xs->(assignEach f E).length=xs.length/\(assignEach f E).findIdx? (·.1)=none:=by
 induction f using List.rec with
 |nil=>exact λd=>by rw[<-Uu d];exact⟨rfl,rfl⟩
 |cons t r ih=>
  intro xs d;refine ac (S9.mp d) λy g d=>ac (Tf.mp d) λw m d=>am (ip g) λp g=>af (ih m) λj q=>?_;rw[<-d,g];refine⟨Vk Nat.succ j, ?_⟩
  show((false,assign (.Name y p) E)::assignEach r E).findIdx? (·.1)=none
  rw[List.findIdx?_cons,q];rfl
theorem jm(C:A.handled=none){s:Shared}{φ:al}{σ:List O}{Q:Unit->Shared->Prop}(S:W.St (ao fs) φ σ s.heap)(L:W.Loc E c l φ s.heap)(z:VR φ s.heap v u)
  (p:aj W fs [E.locals] (LU W E c) (target c t v l σ) s φ Q Er):wpAny (model W.prog W.w) A (assign t E u) Q Er s:=by
 induction t using Vw with
 |Name x pos=>exact wpAny_assign_Name (p9 S L z p)
 |Tuple ts k pos=>
  refine ac (aj.el (o:=names? ts) (f:=λxs=>(jC v).elim .bad λvs=>if xs.length=vs.length then eH c xs vs l σ else .bad) p) λxs m p=>ac p.el λvs B p=>?_;rw[xD B]at z;refine jA z.tup' λP o us n G e H d r=>?_;rw[G];by_cases j:xs.length=vs.length
  ·rw[Vo j]at p
   refine af (DY (E:=E) ts m) λJ q=>wpAny_assign_Tuple C (items:=us.toList.toArray) ⟨o,e,H,n,d⟩ (by rw[J,j,<-r.length];rfl) q λh' sb=>?_;have k:∀b o,s.heap.get? b=some o->h'.get? b=some o:=λb o e=>sb b o (U2 (UN e)) e;refine af (S.grow k) λN g=>Jl (s:= {s with heap:=h'}) ts m N (L.go S g) (VRs.go S au g r) (p.after (tk:=s.toks) L.offL (g.more L.offL))
  ·rw[Vn j]at p;exact p.elim
 |_=>exact p.elim
theorem hU {f:Loc->Stmt->M (Fl×Loc)}(C:∀l st,bT W A fs E c l (exec st E) (f l st)):∀(b:List Stmt) (l:Loc),bT W A fs E c l (execs b E) (db f b l)
 | [],l=>λs φ σ Q Er S L p=>wpAny_execs_nil (p.ret0 (tk:=s.toks) S ⟨L,rfl⟩)
 |st::r,l=>λs φ σ Q Er S L p=>by
  rw[db]at p;refine wpAny_execs_cons (C l st s φ σ _ _ S L (aj.bind L.offL p λa G σ₁ j tk w m g z q=>?_));obtain⟨d,z⟩:=z;obtain⟨H,B⟩:=a;dsimp only at z q d ⊢;induction H using Mine.Fl.casesOn with
  |next=>subst z;exact hU C r B {s with heap:=j,toks:=tk} w σ₁ Q Er m d q
  |cont=>subst z;exact q.ret0 (s:= {s with heap:=j,toks:=tk}) (tk:=tk) m ⟨d,rfl⟩
  |ret v=>obtain⟨u,rfl,z⟩:=z;exact q.ret0 (s:= {s with heap:=j,toks:=tk}) (tk:=tk) m ⟨d,u,rfl,z⟩
theorem zL {m:M V}(x:aI W A fs E c l VR (eval e E) m):bT W A fs E c l (exec (.Return (some e) pos) E) (mq m λv=>mr (.ret v,l)):=λs φ σ Q Er S L p=>
 wpAny_Return_some (x.afterX S L p λa u s₁ j σ₁ f d z g q=>q.ret0 (tk:=s₁.toks) f ⟨d,u,rfl,z⟩)
theorem wo:bT W A fs E c l (exec (.Continue pos) E) (mr (.cont,l)):=λs φ σ Q Er S L p=>
 wpAny_Continue (p.ret0 (tk:=s.toks) S ⟨L,rfl⟩)
theorem Jm {a b:List Stmt}{m:M Bool}{w B:M (Fl×Loc)}(x:aI W A fs E c l BB (isTrue t E (eval t E)) m)(G:bT W A fs E c l (execs a E) w)(C:bT W A fs E c l (execs b E) B):
  bT W A fs E c l (exec (.If t a b pos) E) (mq m λr=>match r with|true=>w|false=>B):=λs φ σ Q Er S L p=>
 wpAny_If (x.afterX S L p λr u s₁ j σ₁ f d z g q=>by
  cases z;cases r
  ·exact C _ _ _ _ _ f d q
  ·exact G _ _ _ _ _ f d q)
theorem aj.bindN {B z β w:Type}{RV:al->Heap->B->β->Prop}{RV':al->Heap->z->w->Prop}{m:M B}{f:B->M z}{σ:List O}{s:Shared}{φ:al}{Q:w->Shared->Prop}{Q₁:β->Shared->Prop}{Er':Value->Shared->Prop}(O:eU X φ s.heap)
  (p:aj W fs X RV' (mq (eP m) f σ) s φ Q Er)
  (k:∀a b σ₁ j tk d,W.St (ao fs) d σ₁ j->Go (ao fs) X φ d s.heap j->RV d j a b->aj W fs X RV' (f a σ₁) {s with heap:=j,toks:=tk} d Q Er->Q₁ b {s with heap:=j,toks:=tk}):
  aj W fs X RV (m σ) s φ Q₁ Er':=by
 unfold mq eP at p;induction hm:m σ using Vv with
 |ok a σ₁=>
  rw[hm]at p;exact λb j tk d q g x=>k a b σ₁ j tk d q g x (p.after O g)
 |exc e σ₁=>rw[hm]at p;exact p.elim
 |bad=>rw[hm]at p;exact p.elim
theorem aj.bindNX {B z β w:Type}{RV:al->Heap->B->β->Prop}{RV':al->Heap->z->w->Prop}{m:M B}{f:B->M z}{σ:List O}{s:Shared}{φ:al}{Q:w->Shared->Prop}{Q₁:β->Shared->Prop}{Er':Value->Shared->Prop}(O:eU X φ s.heap)
  (p:aj W fs X RV' (mq (eP m) f σ) s φ Q Er)
  (k:∀a b σ₁ j tk d,W.St (ao fs) d σ₁ j->Go (ao fs) [] φ d s.heap j->RV d j a b->aj W fs X RV' (f a σ₁) {s with heap:=j,toks:=tk} d Q Er->Q₁ b {s with heap:=j,toks:=tk}):
  aj W fs [] RV (m σ) s φ Q₁ Er':=by
 unfold mq eP at p;induction hm:m σ using Vv with
 |ok a σ₁=>
  rw[hm]at p;exact λb j tk d q g x=>k a b σ₁ j tk d q g x (p.after O (g.more O))
 |exc e σ₁=>rw[hm]at p;exact p.elim
 |bad=>rw[hm]at p;exact p.elim
theorem DZ {b:List Stmt}{Z:Loc->M Bool}{mb:Loc->M (Fl×Loc)}(x:∀l,aI W A fs E c l BB (isTrue t E (eval t E)) (Z l))(y:∀l,bT W A fs E c l (execs b E) (mb l))(wf:Nat):
  bT W A fs E c l (exec (.While t b [] pos) E) (me Z mb wf l):=λs φ σ Q Er S L p=>by
 refine wpAny_While (codeAny_whileLoop (λn s=>∃φ σ l,W.St (ao fs) φ σ s.heap/\W.Loc E c l φ s.heap/\aj W fs [E.locals] (FR W E c) (me Z mb n l σ) s φ Q Er) (λn s hI=>?_) wf ⟨φ,σ,l,S,L,p⟩);refine bw (hI) λφ σ l S L p=>?_;induction n using Nat.casesAuxOn with
 |zero=>exact p.elim
 |succ k=>
  rw[me]at p;refine x l s φ σ _ _ S L (aj.bindNX L.offL p λr u σ₁ H tk U P g z q=>?_);cases z;induction r using Vs with
  |false=>exact wpAny_execs_nil (q.ret0 (s:= {s with heap:=H,toks:=tk}) (tk:=tk) P ⟨L.go S g,rfl⟩)
  |true=>
   have N:=L.go S g;refine y l {s with heap:=H,toks:=tk} U σ₁ _ _ P N (aj.bindN N.offL q λpr f G Y w C B g₂ d j=>?_);obtain⟨fl,J⟩:=pr;obtain⟨m,d⟩:=d;dsimp only at d j m ⊢;induction fl using Mine.Fl.casesOn with
   |next=>subst d;exact⟨k,Ug _,C,G,J,B,m,j⟩
   |cont=>subst d;exact⟨k,Ug _,C,G,J,B,m,j⟩
   |ret v=>obtain⟨u,rfl,d⟩:=d;exact j.ret0 (s:= {s with heap:=Y,toks:=w}) (tk:=w) B ⟨m,u,rfl,d⟩
end
section
variable {W:Wd} {A:Around} {fs:List Env} {X Y:List Addr} {E:Env} {c:Cx} {l:Loc}
variable {F:List Addr} {φ φ' φ'':al} {σ:List O} {h h' h'' h₀:Heap} {a I:Addr} {it:It} {i:Nat}
theorem Go.transN(O:eU X φ h)(x:Go F X φ φ' h h')(y:Go F Y φ' φ'' h' h'')(hY:∀a∈Y,a∈X\/h.get? a=none):Go F X φ φ'' h h'':=by
 have U:=x.off O;refine⟨x.pre.trans y.pre,λa w=>?_,λb o e z=>?_,λa w o e d=>?_⟩
 ·refine aB λgP g=>?_
  by_cases j:a∈aT φ
  ·refine g<|.inl j
  ·rcases y.new a w with q|q
   ·refine g<|x.new a q
   ·refine g<|.inr (dP O x j q)
 ·have m:b∉Y++aT φ':=λq=>by
   rcases Ur.mp q with q|q
   ·rcases hY b q with r|r
    ·exact z (Ts _ r)
    ·rw[e]at r;cases r
   ·rcases x.new b q with r|r
    ·exact z (Tk _ r)
    ·rw[e]at r;cases r
  obtain⟨k1,P,k2⟩:=x.kp b o e λq=>z q;obtain⟨l1,C,S⟩:=y.kp b _ k2 m;refine⟨λJ=>(y.kp b o (k1 J) m).1 J,C,S⟩
 ·refine aB λgP g=>aP (x.xs a w o e d) λH N L k=>?_
  by_cases p:a∈Y
  ·refine aP (y.xs a p H N L) λB f G Z=>g<|⟨B,f,G,λes n q=>let⟨es',n',q'⟩:=k es n q;Z es' n' q'⟩
  ·obtain⟨_,P,f⟩:=y.kp a H N λq=>(Ur.mp q).elim p (U a w).1
   refine g<|⟨_,f,L,k⟩
noncomputable def fm(E:Env):List (Str×NameKind)->List (Str×Addr)->List (Str×Addr)
 | [],acc=>acc
 |(x,k)::r,acc=>if k==.free then(match E.cells.lookup x with|some a=>fm E r ((x,a)::acc)|none=>fm E r acc)else fm E r acc
theorem om(h:∀x∈sc.names,x.2=.free-> ∃a,E.cells.lookup x.1=some a):closureFor sc E=pure (fm E sc.names []):=by
 unfold closureFor;generalize sc.names=ns at h;have key:∀(ns:List (Str×NameKind)) (d:List (Str×Addr)),(∀x∈ns,x.2=.free-> ∃a,E.cells.lookup x.1=some a)->
   (forIn ns d λ(x:Str×NameKind) (r:List (Str×Addr))=>(if(x.2==NameKind.free)=true then(do let __do_lift <-cellOf E x.1;pure (ForInStep.yield ((x.1,__do_lift)::r)))else pure (ForInStep.yield r):Sem (ForInStep (List (Str×Addr)))))=pure (fm E ns d):=by
  intro ns;induction ns with
  |nil=>intro d _;rfl
  |cons x r ih=>
   intro d m;obtain⟨n,k⟩:=x;rw[Un];rw[fm];by_cases f:(k==NameKind.free)=true
   ·refine am (m (n,k) (TM ..) (by simpa using f)) λa g=>?_
    dsimp only at g ⊢;rw[Vo f,Vo f,g];unfold cellOf;rw[g];simp only[pure_bind];exact ih _ λy j=>m y (Tt _ j)
   ·dsimp only
    rw[Vn f,Vn f];simp only[pure_bind];exact ih _ λy j=>m y (Tt _ j)
 have:=key ns [] h;simpa using this
theorem gv {x:Str}{a:Addr}(g:E.cells.lookup x=some a):∀(ns:List (Str×NameKind)) (acc:List (Str×Addr)),((x,NameKind.free)∈ns\/acc.lookup x=some a)->(∀y b,acc.lookup y=some b->E.cells.lookup y=some b)->(fm E ns acc).lookup x=some a
 | [],acc,h,_=>h.elim (λq=>nomatch q) id
 |(n,k)::r,acc,h,ha'=>by
  rw[fm];by_cases m:(k==NameKind.free)=true
  ·rw[Vo m]
   have p:k=.free:=by simpa using m
   induction hn:E.cells.lookup n using Vp with
   |none=>
    dsimp only;refine gv g r acc ?_ ha';rcases h with h|h
    ·rcases UJ.mp h with q|q
     ·injection q with q1 q2;rw[<-q1,g]at hn;cases hn
     ·exact .inl q
    ·exact .inr h
   |some b=>
    dsimp only;refine gv g r ((n,b)::acc) ?_ λy w j=>?_
    ·by_cases d:x=n
     ·subst d;rw[g]at hn;injection hn with hn;subst hn;exact .inr (by simp)
     ·rcases h with h|h
      ·rcases UJ.mp h with q|q
       ·injection q with q1 q2;exact absurd q1 d
       ·exact .inl q
      ·refine .inr ?_
       rw[Ua];have:(x==n)=false:=by simpa using d
       rw[this];exact h
    ·rw[Ua]at j
     by_cases f:y=n
     ·subst f;simp at j;rw[hn,j]
     ·have:(y==n)=false:=by simpa using f
      rw[this]at j;exact ha' y w j
  ·rw[Vn m]
   refine gv g r acc ?_ ha';rcases h with h|h
   ·rcases UJ.mp h with q|q
    ·injection q with q1 q2;subst q2;exact absurd rfl m
    ·exact .inl q
   ·exact .inr h
theorem qJ(h:look x (cq c sc)=some n):(x,NameKind.free)∈sc.names/\look x c.cells=some n:=by
 have:=qG h;unfold cq at this;refine aB λw j=>ac (TN.mp this) λp q d=>?_;obtain⟨y,k⟩:=p;induction k using PySem.NameKind.casesOn with
 |free=>
  dsimp only at d;rw[Tf]at d;obtain⟨m,g,f⟩:=d;injection f with f h3;subst f;subst h3;refine j<|⟨q,g⟩
 |_=>exact ns d
theorem iA(h:fH c sc=true):sc.kind=.function/\(∀x∈sc.names,x.2≠ .cell)/\(∀x∈sc.names,x.2=.local->sc.names.lookup x.1=some .local)/\ ∀x∈sc.names,x.2=.free-> ∃n,look x.1 c.cells=some n:=by
 unfold fH at h;rw[T5]at h;refine af (h) λj f=>?_;rw[T6]at f;refine⟨by simpa using j,λx d=>?_,λx d m=>?_,λx d g=>?_⟩
 ·have:=f x d;simp at this;exact this.1.1
 ·have:=f x d;simp at this;exact this.1.2.resolve_left (λq=>q m)
 ·have:=f x d;simp at this
  have:=this.2.resolve_left (λq=>q g);exact S5.mp this
theorem Gc(L:W.Loc E c l φ h)(sc:Scope):relabel sc E=BO c sc:=by
 unfold relabel BO Env.kindOf;rw[L.scope]
theorem AW(L:W.Loc E c l φ h)(ok:fH c sc=true){C:Addr}(f:Asd W F φ h C)(d:∃m,h.Ns C m):W.Loc (compEnvC sc (fm E sc.names []) C E) (cr c sc) [] φ h:=by
 obtain⟨m,d⟩:=d;refine⟨Gc L sc, ?_,L.glob,L.blt,⟨m,d,λx V e=>nomatch e⟩,f.phi,f.base,λx n z=>?_,λq=>absurd (show Str.empty=("law":Str) from q) (by decide+kernel)⟩
 ·show(relabel sc E).kind=.function
  exact(iA ok).1
 ·refine af (qJ z) λp j=>ac (L.cells x n j) λa w g=>⟨a,gv w _ _ (.inl p) (λy b q=>nomatch q),g⟩
theorem pb(L:W.Loc E c l φ h)(ok:fH c sc=true):closureFor sc E=pure (fm E sc.names []):=
 om λx j d=>by
  refine am ((iA ok).2.2.2 x j d) λn g=>ac (L.cells x.1 n g) λa f Z=>⟨a,f⟩
def D5(M:Model)(A:Around)(use:Option (Value->Sem Unit))(Q:Value->Shared->Prop)(Er:Value->Shared->Prop)(C:Addr)(f:Value)(g:Shared):Prop:=match use with
 |none=>∃m,g.heap.Ns C m/\ ∀h',Heap.SameBut C g.heap h'->Q f {g with heap:=h'}
 |some u=>wpAny M A (u f) (λZ d=>∃m,d.heap.Ns C m/\ ∀h',Heap.SameBut C d.heap h'->Q .none {d with heap:=h'}) Er g
def pc(M:Model)(A:Around)(use:Option (Value->Sem Unit))(Q:Value->Shared->Prop)(Er:Value->Shared->Prop)(C:Addr)(d:Value):Result->Shared->Prop:=λr f=>match r with
 |.ok _=>D5 M A use Q Er C d f
 |.error _=>False
theorem xN {M:Model}{Er:Value->Shared->Prop}{s:Shared}{scope:Scope}{pos:Pos}{d first:Sem Value}{g:Comprehension}{gs:List Comprehension}{use:Option (Value->Sem Unit)}{Q:Value->Shared->Prop}{cl:List (Str×Addr)}
  (hcl:clausesOf e=g::gs)(hs:∀x,foldedSetIterable g.iter E x=pure x)(B:closureFor scope E=pure cl)(H:scope.kind=.function)(j:∀x∈scope.names,x.2=.local->scope.names.lookup x.1=some .local)
  (h:wpAny M A first (λx s₁=>wpAny M A (pyIter x) (λit p=>wpAny M A d (λC q=>
   wpAny M A (newFunctionEnv scope E.globals cl [] E.qual none .none (some E)) (λcenv w=>
    codeAny M A (.compStart e 0 it C {cenv with scope:=relabel scope E}) (pc M A use Q Er cenv.locals C) w) Er q) Er p) Er s₁) Er s):
  wpAny M A (comprehension e scope E pos d false first use) Q Er s:=by
 unfold comprehension;rw[B,hcl];refine Vf (Vh h (λx s₁ P=>Vf (UM (Vf (wpAny_of_eq (hs x) (Vf (UL (Vh P (λit p h₂=>
  wpAny_standIf (Vf (Vh h₂ (λC q h₃=>Vf (Vi (Vf (Vh h₃ (λcenv w S=>?_) λZ Z h'=>h')))) λZ Z h'=>h')))
   λZ Z h'=>h'))))))) λZ Z h'=>h')
 dsimp only;have N:({cenv with scope:=relabel scope E}:Env).scope.kind=.function:=H;have hv:∀x∈scope.names,x.2=.local->Env.kindOf {cenv with scope:=relabel scope E} x.1=some .local:=λx hx L=>lookup_relabel_local (j x hx L);have J:∀x∈(scope.names.filter λx=>(x.2==.local||x.2==.cell)&&x.1 !=(".0":Str)).reverse,x.2=.local->Env.kindOf {cenv with scope:=relabel scope E} x.1=some .local:=λx hx L=>hv x (List.mem_filter.mp (List.mem_reverse.mp hx)).1 L;have hv':∀x∈(scope.names.filter λx=>(x.2==.local||x.2==.cell)&&x.1 !=(".0":Str)).reverse.drop 1++(scope.names.filter λx=>(x.2==.local||x.2==.cell)&&x.1 !=(".0":Str)).reverse.take 1,
   x.2=.local->Env.kindOf {cenv with scope:=relabel scope E} x.1=some .local:=λx hx L=>by
  rcases Ur.mp hx with h1|h1
  ·exact J x (List.mem_of_mem_drop h1) L
  ·exact J x (Tv h1) L
 refine UL (Vf (wpAny_attempt (UL (wpAny_run (codeAny_mono S λr s' U=>?_)))));induction r using Except.casesOn with
 |error x=>exact U.elim
 |ok f=>
  induction use using Vp with
  |none=>
   refine ac (U) λm hn U=>Vf (UL (wpAny_comp_letGo (cenv:= {cenv with scope:=relabel scope E}) N _ s' m J hn λh' m' Z G=>Vi (U h' G)))
  |some u=>
   refine Vf (wpAny_rule (Vf (UL (Vh U (λZ s'' z=>?_) λZ Z h'=>h'))));refine ac (z) λm hn z=>Vf (wpAny_comp_letGo (cenv:= {cenv with scope:=relabel scope E}) N _ s'' m hv' hn λh' m' Z G=>Vi (z h' G))
end
def Sx:al->Heap->Option V->Option Value->Prop:=λφ h q b=>match q,b with
 |some V,some v=>VR φ h V v
 |none,none=>True
 |_,_=>False
def D6(W:Wd)(E:Env)(c:Cx):al->Heap->Option V->Option Value->Prop:=λφ h q b=>Sx φ h q b/\W.Loc E c [] φ h
section
variable {W:Wd} {A:Around} {fs:List Env} {X Y:List Addr} {E:Env} {c:Cx} {l:Loc}
variable {F:List Addr} {φ φ' φ'':al} {σ:List O} {h h' h'' h₀:Heap} {a I:Addr} {it:It} {i:Nat}
theorem vJ {g β:Type}{M:Model}{x:g}{t:Sem β}{Q:β->Shared->Prop}{s:Shared}(h:wpAny M A (pure x) (λZ s=>wpAny M A t Q Er s) Er' s):wpAny M A t Q Er s:=λf p d=>by
 have k:=h f p d;rw[Sem.wp_pure']at k;exact k f p d
theorem LocR.drop {E:Env}(L:W.Loc E c l φ h):W.Loc E c [] φ h:=
 let⟨m,hn,_⟩:=L.ns
 ⟨L.scope,L.kind,L.glob,L.blt,⟨m,hn,λZ Z e=>nomatch e⟩,L.off,L.offB,L.cells,L.code⟩
theorem vK(a:Array Value)(k:Nat):side (PySem.W.listOf a k):=by
 rintro(⟨q,_⟩|⟨vs,_,_,q,_⟩)
 ·have d:Value.type "list"=Value.type "tuple":=q
  injection d with d;exact absurd d (by decide)
 ·cases q
theorem D7(hh:A.handled=none){s:Shared}{φ:al}{σ:List O}{Qt:Option Value->Shared->Prop}{Er:Value->Shared->Prop}(hif:ifs.length<=1)
  (ev:∀l e,aI W A fs E c l VR (eval e E) (It0.ev c l e))(tst:∀l e,aI W A fs E c l BB (isTrue e E (eval e E)) (It0.tst c l e))
  (S:W.St (ao fs) φ σ s.heap)(L:W.Loc E c [] φ s.heap)(z:VR φ s.heap v u)
  (p:aj W fs [E.locals] (D6 W E c) (gF It0 c t elt ifs v σ) s φ Qt Er):
  wpAny (model W.prog W.w) A (assign t E u) (λZ s₂=>wpAny (model W.prog W.w) A (forIn ifs true λc r=>if r=true then do let ok <-isTrue c E (eval c E);pure (ForInStep.yield ok)else pure (ForInStep.yield r)) (λok d=>
   if ok=true then wpAny (model W.prog W.w) A (eval elt E) (λx G=>Qt (some x) G) Er d else Qt none d) Er s₂) Er s:=by
 unfold gF at p;refine jm hh S L z (aj.bind L.offL p λU Z σ₁ J tk N S₁ g P q=>?_);have last:∀(b:Bool) (d:Shared) (j:al) (B:List O),W.St (ao fs) j B d.heap->W.Loc E c U j d.heap->aj W fs [E.locals] (D6 W E c) ((match b with|true=>mq (It0.ev c U elt) λx=>mr (some x)|false=>mr Option.none:M (Option V)) B) d j Qt Er->
   if b=true then wpAny (model W.prog W.w) A (eval elt E) (λx G=>Qt (some x) G) Er d else Qt none d:=λb d j B H C q=>by
  induction b using Vs with
  |false=>rw[Vn (by simp)];exact q.ret0 (tk:=d.toks) H ⟨trivial,C.drop⟩
  |true=>
   rw[Vo rfl];exact(ev U elt).afterG C.offL H C q λx w G φ₄ σ₄ S₄ L₄ z₄ g₄ q₄=>q₄.ret0 (tk:=G.toks) S₄ ⟨z₄,L₄.drop⟩
 induction ifs using Vr with
 |nil=>
  refine wpAny_tests_nil<|last true {s with heap:=J,toks:=tk} N σ₁ S₁ P q
 |cons e r=>
  induction r using Vr with
  |cons _ _=>simp at hif
  |nil=>
   refine wpAny_tests_one ?_;have q':aj W fs [E.locals] (D6 W E c) (mq (It0.tst c U e) (λb=>match b with|true=>mq (It0.ev c U elt) λx=>mr (some x)|false=>mr Option.none) σ₁) {s with heap:=J,toks:=tk} N Qt Er:=by
    have e1:∀(f:Bool->M (Option V)),mq (nc (It0.tst c U) .And [e]) f=mq (It0.tst c U e) f:=λf=>by
     funext σ
     rw[nc];unfold mq;induction hm:It0.tst c U e σ using Vv with
     |ok a σ'=>cases a<;>rfl
     |exc m σ'=>rfl
     |bad=>rfl
    rw[e1]at q;exact q
   exact(tst U e).afterG (s:= {s with heap:=J,toks:=tk}) P.offL S₁ P q' λb b' d j B H C z₃ g₃ q₃=>by
    cases z₃;exact last b d j B H C q₃
theorem vL {s:Shared}{Q:Value->Shared->Prop}(f:b6 it t=true)(d:bZ t=true)(x:ItR φ s.heap it i I)(h:Q (.ref I) s):wpAny (model W.prog W.w) A (pyIter (.ref I)) Q Er s:=by
 induction x using ItR.casesOn with
 |list p y=>exact wpAny_pyIter_listiter y h
 |vals p y=>exact wpAny_pyIter_tupleiter y h
 |range y _=>exact wpAny_pyIter_rangeiter y h
 |keys p y q=>exact wpAny_pyIter_keyiter y h
 |items p y q=>
  refine pP (vI f) λj c g z=>?_;rw[z]at d;exact ff d
theorem mz {d β:Type}{m:M d}{f:d->M β}{σ σ':List O}{a:d}(h:m σ=.ok a σ'):mq m f σ=f a σ':=by unfold mq;rw[h]
theorem xO {d:Type}{m:M d}{σ σ':List O}{a:d}(h:m σ=.ok a σ'):eP m σ=.ok a σ':=by unfold eP;rw[h]
theorem uq {d:Type}{m:M d}{σ:List O}(h:∀a σ',m σ≠ .ok a σ'):eP m σ=.bad:=by
 unfold eP;induction hm:m σ using Vv with
 |ok a σ'=>exact absurd hm (h a σ')
 |exc e σ'=>rfl
 |bad=>rfl
theorem D8(hh:A.handled=none){cE:Env}{cc:Cx}{elt iter:Expr}{sc:Scope}{pos:Pos}{α β:Type}{RV:al->Heap->α->β->Prop}{s₀:Shared}{φ₀:al}{g:List V->M α}{Q:β->Shared->Prop}{Er:Value->Shared->Prop}{R:Result->Shared->Prop}
  (hwf:wf<=2^20)(hif:ifs.length<=1)(ht:b6 it t=true)(htn:bZ t=true)(hDI:D≠I)(hDC:D≠cE.locals)(hIC:I≠cE.locals)(hI0:s₀.heap.get? I=none)(hD0:s₀.heap.get? D=none)(hC0:s₀.heap.get? cE.locals=none)
  (ev:∀l e,aI W A fs cE cc l VR (eval e cE) (It0.ev cc l e))(tst:∀l e,aI W A fs cE cc l BB (isTrue e cE (eval e cE)) (It0.tst cc l e))
  (done:∀s φ σ N H kD,s= {s₀ with heap:=s.heap,toks:=s.toks}->W.St (ao fs) φ σ s.heap->Go (ao fs) [] φ₀ φ s₀.heap s.heap->W.Loc cE cc [] φ s.heap->Asd W (ao fs) φ s.heap D->s.heap.get? D=some (listOf H.toArray kD)->VRs φ s.heap N H->aj W fs X RV (g N σ) s₀ φ₀ Q Er->R (.ok .next) s)
  (n:Nat){s:Shared}{φ:al}{σ:List O}{N:List V}{H:List Value}{kD:Nat}{i:Nat}(he:s= {s₀ with heap:=s.heap,toks:=s.toks})(S:W.St (ao fs) φ σ s.heap)(G:Go (ao fs) [] φ₀ φ s₀.heap s.heap)(L:W.Loc cE cc [] φ s.heap)(AI:Asd W (ao fs) φ s.heap I)(x:ItR φ s.heap it i I)
  (AD:Asd W (ao fs) φ s.heap D)(gD:s.heap.get? D=some (listOf H.toArray kD))(za:VRs φ s.heap N H)(hn:N.length+n<=wf)
  (p:aj W fs X RV (mq (cz (gF It0 cc t elt ifs) it n i N) g σ) s₀ φ₀ Q Er):
  codeAny (model W.prog W.w) A (.compLoop (.ListComp elt [⟨t,iter,ifs,0⟩] sc pos) 0 (.ref I) (.ref D) cE) R s:=by
 have htq:B8 t:=jT htn;obtain⟨J,mk,el⟩:∃J:Nat->Shared->Prop,(∀ {n s i φ σ N H kD},s= {s₀ with heap:=s.heap,toks:=s.toks}->W.St (ao fs) φ σ s.heap->Go (ao fs) [] φ₀ φ s₀.heap s.heap->W.Loc cE cc [] φ s.heap->Asd W (ao fs) φ s.heap I->ItR φ s.heap it i I->Asd W (ao fs) φ s.heap D->s.heap.get? D=some (listOf H.toArray kD)->VRs φ s.heap N H->N.length+n<=wf->aj W fs X RV (mq (cz (gF It0 cc t elt ifs) it n i N) g σ) s₀ φ₀ Q Er->J n s)/\ ∀ {n s} {P:Prop},J n s->(∀i φ σ N H kD,s= {s₀ with heap:=s.heap,toks:=s.toks}->W.St (ao fs) φ σ s.heap->Go (ao fs) [] φ₀ φ s₀.heap s.heap->W.Loc cE cc [] φ s.heap->Asd W (ao fs) φ s.heap I->ItR φ s.heap it i I->Asd W (ao fs) φ s.heap D->s.heap.get? D=some (listOf H.toArray kD)->VRs φ s.heap N H->N.length+n<=wf->aj W fs X RV (mq (cz (gF It0 cc t elt ifs) it n i N) g σ) s₀ φ₀ Q Er->P)->P:=
  ⟨λn s=>∀P:Prop,(∀i φ σ N H kD,s= {s₀ with heap:=s.heap,toks:=s.toks}->W.St (ao fs) φ σ s.heap->Go (ao fs) [] φ₀ φ s₀.heap s.heap->W.Loc cE cc [] φ s.heap->Asd W (ao fs) φ s.heap I->ItR φ s.heap it i I->Asd W (ao fs) φ s.heap D->s.heap.get? D=some (listOf H.toArray kD)->VRs φ s.heap N H->N.length+n<=wf->aj W fs X RV (mq (cz (gF It0 cc t elt ifs) it n i N) g σ) s₀ φ₀ Q Er->P)->P,λa b c d e f g h i j k Z z=>z _ _ _ _ _ _ a b c d e f g h i j k,λj z=>j _ z⟩
 refine codeAny_compLoop_tests J (λn s hI=>?_) n (mk he S G L AI x AD gD za hn p) (λv=>htq _ _)
 clear p hn za gD AD x AI L G S he
 refine aB λgP gH=>el hI λi φ σ N H kD he S G L AI x AD gD za hn p=>?_;induction n using Nat.casesAuxOn with
 |zero=>exact p.elim
 |succ k=>
  rw[cz]at p;rw[mx]at p;induction hr:ci it i σ using Vv with
  |bad=>refine gH ?_;rw[mu hr]at p;exact p.elim
  |exc e σ'=>exact(nK hr).elim
  |ok r σ'=>
   have:=lV hr;subst this;rw[mz hr]at p;induction r using Vp with
   |none=>
    refine gH<|pa hh S x hr λh' kk=>af (AD.but hDI gD kk) λAD' gD'=>done {s with heap:=h'} φ σ' N H kD (by rw[he]) (S.but AI kk) (G.but hI0 kk) (LocR.but L AI (Vm hIC) kk) AD' gD' (VRs.but AI.sd kk za) p
   |some v=>
    dsimp only at p;rw[mx]at p;by_cases hq:∃q σ₅,gF It0 cc t elt ifs v σ'=.ok q σ₅
    case neg=>
     rw[mu (uq λa b z=>hq ⟨a,b,z⟩)]at p;exact p.elim
    case pos=>
     refine cI (hq) λq σ₅ hq=>?_;rw[mz (xO hq)]at p;refine gH<|Vh (o7 (Q:=λu s₁=>∃h' tk,s₁= {s with heap:=h',toks:=tk}/\(∀b o,b≠I->s.heap.get? b=some o->h'.get? b=some o)/\ItR φ h' it (i+1) I/\VR φ h' v u) S AI ht x hr λu h' tk kk x' zu=>aU h' tk ⟨rfl,kk,x',zu⟩) (λr s₁ hr'=>?_) λZ Z e=>e;obtain⟨u,rfl,hr'⟩:=hr';rw[htq]at hr';refine vJ (Vh hr' (λZ s₁ hr'=>?_) λZ Z e=>e);refine aB λgP gH=>bM (hr') λh' tk gz2 kk x' zu=>?_;subst gz2;have S₁:=S.but AI kk;refine ac (x'.at_) λoI gI sI=>?_;have AI':Asd W (ao fs) φ h' I:=AI.self gI sI;refine af (AD.but hDI gD kk) λAD' gD'=>?_;have L₁:=LocR.but L AI (Vm hIC) kk;have G₁:=G.but hI0 kk;have za₁:=VRs.but (φ:=φ) AI.sd kk za;have cb:∀(b:Option Value) (C:Shared) (B:al),C= {s₀ with heap:=C.heap,toks:=C.toks}->W.St (ao fs) B σ₅ C.heap->Go (ao fs) [cE.locals] φ B h' C.heap->D6 W cE cc B C.heap q b-> ∀Er':Value->Shared->Prop,
       (match b with
        |some y=>wpAny (model W.prog W.w) A (call (.builtin "list.append") [.ref D,y]) (λZ C=>∃m,m<k+1/\J m C) Er' C
        |none=>∃m,m<k+1/\J m C):=by
      intro b C B he₅ S₅ U z₅ Er';have hCI:I∉ [cE.locals]:=by simpa using hIC
      have hCD:D∉ [cE.locals]:=by simpa using hDC
      refine aB λgP gH=>af (AI'.go hCI gI U) λAI₅ gI₅=>af (AD'.go hCD gD' U) λAD₅ gD₅=>?_;have G₅:Go (ao fs) [] φ₀ B s₀.heap C.heap:=Go.transN au G₁ U λa ha=>.inr (by rw[TO.mp ha];exact hC0);refine af (z₅) λz₅ L₅=>?_;have x₅:ItR B C.heap it (i+1) I:=x'.map (λo e=>by rw[gI]at e;injection e with e;rw[<-e];exact gI₅) (λV v z=>VR.go S₁ L₁.offL U z) U.pre;have za₅:VRs B C.heap N H:=VRs.go S₁ L₁.offL U za₁;induction b using Vp with
      |none=>
       induction q using Vp with
       |some _=>exact z₅.elim
       |none=>refine gH ?_;exact⟨k,Ug _,mk he₅ S₅ G₅ L₅ AI₅ x₅ AD₅ gD₅ za₅ (RL hn) p⟩
      |some y=>
       induction q using Vp with
       |none=>exact z₅.elim
       |some v'=>
        refine gH ?_;refine PyProof.Rows.append_at gD₅ (λh₆ sb g₆=>?_) (by
         rw[T1,za.length];have:sizeLine=16777216:=sizeLine_eq;exact QW hwf hn this)
        have kk₆:∀b o,b≠D->C.heap.get? b=some o->h₆.get? b=some o:=λb o hb e=>(sb.2 b hb).trans e;have gD₆:h₆.get? D=some (listOf (H++ [y]).toArray (kD+1)):=by rw[g₆];simp[PySem.W.listOf]
        refine af (AI₅.but (Vm hDI) gI₅ kk₆) λAI₆ gI₆=>?_;have AD₆:Asd W (ao fs) B h₆ D:=AD₅.self gD₆ (vK _ _);exact⟨k,Ug _,mk (by rw[he₅]) (S₅.but AD₅ kk₆) (G₅.but hD0 kk₆) (LocR.but L₅ AD₅ (Vm hDC) kk₆) AI₆ (x₅.map (λo e=>by rw[gI₅]at e;injection e with e;rw[<-e];exact gI₆) (λV v z=>VR.but AD₅.sd kk₆ z) (Ud _)) AD₆ gD₆ ((VRs.but AD₅.sd kk₆ za₅).append (.cons (VR.but AD₅.sd kk₆ z₅) .nil)) (by rw[TL,List.length_singleton];exact Ld hn) p⟩
     have:=D7 (Er:=notedBy (model W.prog W.w) A cE λe s'=>R (.error e) s') hh hif ev tst (s:= {s with heap:=h',toks:=tk}) S₁ L₁ zu (Qt:=λb C=>C= {s₀ with heap:=C.heap,toks:=C.toks}/\ ∃B,W.St (ao fs) B σ₅ C.heap/\Go (ao fs) [cE.locals] φ B h' C.heap/\D6 W cE cc B C.heap q b) (by
      rw[hq];exact λb h₅ tk₅ B S₅ U z₅=>⟨by rw[he],B,S₅,U,z₅⟩)
     refine gH<|Vh this (λZ s₂ h₂=>Vh h₂ (λok s₃ h₃=>?_) λZ Z e=>e) λZ Z e=>e;refine aB λgP gH=>?_;induction ok using Vs with
     |true=>
      refine gH ?_;rw[Vo rfl]at h₃ ⊢;exact Vh h₃ (λy s₄ h₄=>by
       obtain⟨e₄,B,S₅,U,z₅⟩:=h₄;exact cb (some y) s₄ B e₄ S₅ U z₅ _) λZ Z e=>e
     |false=>
      refine gH ?_;rw[Vn (by simp)]at h₃ ⊢;obtain⟨e₄,B,S₅,U,z₅⟩:=h₃;refine cb none s₃ B e₄ S₅ U z₅ (λZ Z=>True)
end
section
variable {W:Wd} {A:Around} {fs:List Env} {X Y:List Addr} {E:Env} {c:Cx} {l:Loc}
variable {F:List Addr} {φ φ' φ'':al} {σ:List O} {h h' h'' h₀:Heap} {a I:Addr} {it:It} {i:Nat}
theorem vM(Wk:WdOk5 W)(hh:A.handled=none){pos p2:Pos}{use:Option (Value->Sem Unit)}{Q₁:Value->Shared->Prop}{α β:Type}{RV:al->Heap->α->β->Prop}{s:Shared}{φ:al}{σ:List O}{g:List V->M α}{Q:β->Shared->Prop}
  (hwf:wf<=2^20)(ev:∀ {E c} l e,aI W A fs E c l VR (eval e E) (It0.ev c l e))(tst:∀ {E c} l e,aI W A fs E c l BB (isTrue e E (eval e E)) (It0.tst c l e))
  (S:W.St (ao fs) φ σ s.heap)(L:W.Loc E c l φ s.heap)(p:aj W fs X RV (mq (tZ It0 wf c l elt t iter ifs sc (jS It0)) g σ) s φ Q Er)
  (cb:∀D C f j J acc accU kD,f= {s with heap:=f.heap,toks:=f.toks}->W.St (ao fs) j J f.heap->Go (ao fs) [] φ j s.heap f.heap->W.Loc E c l j f.heap->Asd W (ao fs) j f.heap D->f.heap.get? D=some (listOf accU.toArray kD)->VRs j f.heap acc accU->s.heap.get? D=none->
   Asd W (ao fs) j f.heap C->(∃m,f.heap.Ns C m)->s.heap.get? C=none->D≠C->aj W fs X RV (g acc J) s φ Q Er->
   D5 (model W.prog W.w) A use Q₁ Er C (.ref D) f):
  wpAny (model W.prog W.w) A (comprehension (.ListComp elt [⟨t,iter,ifs,0⟩] sc pos) sc E p2 (newList []) false (eval iter E) use) Q₁ Er s:=by
 unfold tZ at p
 split at p
 ·exact p.elim
 rename_i hc
 simp only[Bool.or_eq_true,not_or,TX,T3,Nat.not_lt]at hc;refine af (hc) λgy0 c4=>?_;obtain⟨c2,hok⟩:=gy0;have c2':bZ t=true:=by simpa using c2
 have hok:fH c sc=true:=by simpa using hok
 rw[mx]at p;refine fD (iA hok) λk1 k2 k3 k4=>?_;have Zz:=rb (k:=λitv d=>wpAny (model W.prog W.w) A (newList []) (λacc s₃=>wpAny (model W.prog W.w) A (newFunctionEnv sc E.globals (fm E sc.names []) [] E.qual none .none (some E)) (λcenv s₄=>
    codeAny (model W.prog W.w) A (.compStart (.ListComp elt [⟨t,iter,ifs,0⟩] sc pos) 0 itv acc {cenv with scope:=relabel sc E}) (pc (model W.prog W.w) A use Q₁ Er cenv.locals acc) s₄) Er s₃) Er d) Wk (ev (E:=E) (c:=c) l) S L p ?_
 ·exact xN rfl Zz.2 (pb L hok) k1 k3 Zz.1
 intro it I d H σ₂ he U G₂ L₂ AI x hI q
 split at q
 ·exact q.elim
 rename_i c1
 have c1':b6 it t=true:=by simpa using c1
 refine ac (x.at_) λoI gI sI=>wpAny_newObj_type (hd:=by size_fits) (wpAny_newFunctionEnv k2 (by intro y hy;simp at hy) (λB G N=>?_) k1);dsimp only at G N ⊢;generalize hH1:d.heap.push {cls:=.type "list",dict:=none,data:=.seq ([]:List Value).toArray}=P at G N ⊢;have hD2:d.heap.get? d.heap.objs.size=none:=bK;have hC2:P.get? P.objs.size=none:=bK;have k₁:∀b o,d.heap.get? b=some o->P.get? b=some o:=λb o e=>hH1▸Tc _ e;have k₂:∀b o,P.get? b=some o->B.get? b=some o:=λb o e=>by
  have hb:b≠P.objs.size:=λq=>by rw[q,hC2]at e;cases e
  rw[N.2 b hb];exact Tc _ e
 have hC2':d.heap.get? P.objs.size=none:=by
  induction e:d.heap.get? P.objs.size using Vp with
  |none=>rfl
  |some o=>have:=k₁ _ _ e;rw[hC2]at this;cases this
 refine af (U.grow (h':=B) λb o e=>k₂ b o (k₁ b o e)) λS₄ g₄=>?_;have G₄:=Go.trans au G₂ g₄;have gDH:P.get? d.heap.objs.size=some (listOf ([]:List Value).toArray 0):=by rw[<-hH1];exact TA _ rfl
 have gD:B.get? d.heap.objs.size=some (listOf ([]:List Value).toArray 0):=k₂ _ _ gDH;have AD:Asd W (ao fs) H B d.heap.objs.size:=Asd.new U hD2 λo e=>by rw[gD]at e;injection e with e;rw[<-e];exact vK _ _
 have AC:Asd W (ao fs) H B P.objs.size:=Asd.new U hC2' λo e=>by
  refine bw (G) λo' es ep e' d' Z=>?_;rw[e']at e;injection e with e;rw[<-e];exact bP d'
 refine af (AI.go (by simp) gI g₄) λAI₄ gI₄=>?_;have x₄:ItR H B it 0 I:=x.map (λo e=>by rw[gI]at e;injection e with e;rw[<-e];exact gI₄) (λV v z=>VR.go U au g₄ z) (Ud _);have hD0:s.heap.get? d.heap.objs.size=none:=by
  by_cases hφ:d.heap.objs.size∈aT φ
  ·exact absurd (dO G₄.pre _ hφ) AD.phi
  ·exact dP au G₂ hφ hD2
 have hC0:s.heap.get? P.objs.size=none:=by
  by_cases hφ:P.objs.size∈aT φ
  ·exact absurd (dO G₄.pre _ hφ) AC.phi
  ·exact dP au G₂ hφ hC2'
 have hDI:d.heap.objs.size≠I:=λq=>by rw[q]at hD2;rw[gI]at hD2;cases hD2
 have hDC:d.heap.objs.size≠P.objs.size:=λq=>by rw[q]at gDH;rw[hC2]at gDH;cases gDH
 have hIC:I≠P.objs.size:=λq=>by rw[q]at gI;rw[hC2']at gI;cases gI
 have cL:W.Loc (compEnvC sc (fm E sc.names []) P.objs.size E) (cr c sc) [] H B:=AW (L₂.go U g₄) hok AC ⟨_,G⟩;have loop:∀tk,codeAny (model W.prog W.w) A (.compLoop (.ListComp elt [⟨t,iter,ifs,0⟩] sc pos) 0 (.ref I) (.ref d.heap.objs.size) (compEnvC sc (fm E sc.names []) P.objs.size E)) (pc (model W.prog W.w) A use Q₁ Er P.objs.size (.ref d.heap.objs.size)) {d with heap:=B,toks:=tk}:=λtk=>
  D8 (cc:=cr c sc) (s₀:=s) (φ₀:=φ) (s:= {d with heap:=B,toks:=tk}) hh hwf c4 c1' c2' hDI hDC hIC hI hD0 hC0 ev tst
   (λf j J acc accU kD he₅ S₅ G₅ L₅ AD₅ gD₅ za₅ q₅=>cb _ P.objs.size f j J acc accU kD he₅ S₅ G₅ (L.go S G₅) AD₅ gD₅ za₅ hD0 ⟨L₅.off,AC.fr,L₅.offB,λo e=>by
     refine ac (L₅.ns) λm gy1 Z=>?_;obtain⟨o',es,ep,e',d',_⟩:=gy1;have e'':f.heap.get? P.objs.size=some o':=e';rw[e'']at e;injection e with e;rw[<-e];exact bP d'⟩ (let⟨m,hm,_⟩:=L₅.ns;⟨m,hm⟩) hC0 hDC q₅)
   wf (by rw[he]) S₄ G₄ cL AI₄ x₄ AD gD .nil (by simp) q
 exact codeAny_compStart_list (loop _) (vL (φ:=H) (it:=it) (i:=0) (t:=t) c1' c2' x₄ (loop _))
end
section
variable {W:Wd} {A:Around} {fs:List Env} {X Y:List Addr} {E:Env} {c:Cx} {l:Loc}
variable {F:List Addr} {φ φ' φ'':al} {σ:List O} {h h' h'' h₀:Heap} {a I:Addr} {it:It} {i:Nat}
theorem pe(Wk:WdOk5 W)(hh:A.handled=none)(H:wf<=2^20)
  (ev:∀ {E c} l e,aI W A fs E c l VR (eval e E) (It0.ev c l e))(P:∀ {E c} l e,aI W A fs E c l BB (isTrue e E (eval e E)) (It0.tst c l e)):
  aI W A fs E c l VR (eval (.ListComp elt [⟨t,iter,ifs,0⟩] sc pos) E) (mq (tZ It0 wf c l elt t iter ifs sc (jS It0)) λvs=>aC (.list vs)):=λs φ σ Q Er S L p=>by
 rw[eval_ListComp];refine vM (use:=none) Wk hh H ev P S L p λD C f g U G accU kD he d j L₅ AD gD za N AC hC B z q=>?_;obtain⟨m,hm⟩:=hC;refine⟨m,hm,λh' sb=>?_⟩;have w:∀b o,b≠C->f.heap.get? b=some o->h'.get? b=some o:=λb o hb e=>(sb.2 b hb).trans e;refine af (AD.but z gD w) λJ Z=>?_;have S':=(d.but AC w).adopt (ax:=.none) J rfl (.list (l:=G) Z (VRs.but AC.sd w za));have:=q (.ref D) h' f.toks (g++ [(D,.none)]) S' (Go.adopt rfl (j.but B w) N) (.ref (p:=(D,.none)) (by rw[<-d.len,SP (U9 _),U3];rfl));rw[he];exact this
theorem jW {m:M V}(U:swapsWith e (some (.Name x px)) pos.line E=pure false)(y:aI W A fs E c l VR (eval e E) m):
  bT W A fs E c l (exec (.Assign [.Name x px] e pos) E) (mq m λv=>mq (target c (.Name x px) v l) λN=>mr (.next,N)):=λs φ σ Q Er S L p=>by
 refine wpAny_Assign_Name (y.afterX S L p λv u s₁ G σ₁ B d z g q=>?_) U;exact p9 B d z (aj.bind d.offL q λN Z J C tk H f P w j=>j.ret0 (s:= {s₁ with heap:=C,toks:=tk}) (tk:=tk) f ⟨w,rfl⟩)
theorem re(Wk:WdOk5 W)(hh:A.handled=none)(hwf:wf<=2^20)
  (ev:∀ {E c} l e,aI W A fs E c l VR (eval e E) (It0.ev c l e))(tst:∀ {E c} l e,aI W A fs E c l BB (isTrue e E (eval e E)) (It0.tst c l e)):
  bT W A fs E c l (exec (.Assign [.Name x px] (.ListComp elt [⟨t,iter,ifs,0⟩] sc p2) pos) E) (mq (mq (tZ It0 wf c l elt t iter ifs sc (jS It0)) λvs=>aC (.list vs)) λv=>mq (target c (.Name x px) v l) λl'=>mr (.next,l')):=λs φ σ Q Er S L p=>by
 have hb:∃b,swapsWith (.ListComp elt [⟨t,iter,ifs,0⟩] sc p2) (some (.Name x px)) pos.line E=pure b:=⟨_,rfl⟩;refine am (hb) λb hb=>?_;induction b using Vs with
 |false=>exact jW hb (pe Wk hh hwf ev tst) s φ σ Q Er S L p
 |true=>
  rw[exec_Assign_Name_used _ _ _ _ hb];refine Vf (UM (Vf ?_));show wpAny _ A (do let _ <-comprehension (.ListComp elt [⟨t,iter,ifs,0⟩] sc p2) sc E iter.pos (newList []) false (eval iter E) (some (assign (.Name x px) E))) _ _ s;rw[mx]at p;refine Vf (Vh (vM (use:=some (assign (.Name x px) E)) (Q₁:=λZ s'=>Q .next s') Wk hh hwf ev tst S L p λD C g f d N accU kD he B G₅ L₅ AD gD za hD0 AC hC J hDC q=>?_) (λZ s' hq=>Vi (Vi hq)) λZ Z e=>e);obtain⟨m,hm⟩:=hC;have S':=B.adopt (ax:=.none) AD rfl (.list (l:=N) gD za);have G':Go (ao fs) [] φ (f++ [(D,.none)]) s.heap g.heap:=Go.adopt rfl G₅ hD0;have L':W.Loc E c l (f++ [(D,.none)]) g.heap:=L.go S G';have zD:VR (f++ [(D,.none)]) g.heap (.ref d.length) (.ref D):=.ref (p:=(D,.none)) (by rw[<-B.len,SP (U9 _),U3];rfl);have AC':Asd W (ao fs) (f++ [(D,.none)]) g.heap C:=⟨λq=>by
   rw[fk]at q;rcases Ur.mp q with r|r
   ·exact AC.phi r
   ·have:C=D:=by simpa [Aux.toList]using r
    exact hDC this.symm,AC.fr,AC.base,AC.sd⟩
  have hCL:C≠E.locals:=λq=>by
   refine ac (L.ns) λm' gy1 Z=>?_;obtain⟨o,es,ep,e,_⟩:=gy1;rw[q,e]at J;cases J
  have U:aj W fs [E.locals] (FR W E c) (mq (target c (.Name x px) (.ref d.length) l) (λl'=>mr (.next,l')) (d++ [.list N])) s φ Q Er:=q;refine jm hh S' L' zD ?_;obtain⟨oC,eC⟩:∃oC,g.heap.get? C=some oC:=let⟨o,es,ep,e,_⟩:=hm;⟨o,e⟩;unfold mq at U;induction hT:target c (.Name x px) (.ref d.length) l (d++ [.list N])using Vv with
  |bad=>rw[hT]at U;exact U.elim
  |exc e σ'=>rw[hT]at U;exact λe' h' tk φ' x=>by rw[he];exact U e' h' tk φ' (x.before L.offL (G'.more L.offL))
  |ok l₂ σ₂=>
   rw[hT]at U;intro b H tk j S₆ G L₆;refine af (AC'.go (by simpa using hCL) eC G) λz P=>⟨m, ?_,λw sb=>?_⟩
   ·refine dK (hm) λo es ep e r=>?_
    have e6:H.get? C=some o:=by rw[eC]at e;injection e with e;rw[<-e];exact P
    exact⟨o,es,ep,e6,r⟩
   ·have kk:∀b o,b≠C->H.get? b=some o->w.get? b=some o:=λb o hb e=>(sb.2 b hb).trans e
    have L₇:=LocR.but L₆ z (Vm hCL) kk;have G₇:Go (ao fs) [E.locals] φ j s.heap w:=(Go.trans L.offL (G'.more L.offL) G).but J kk;have:=U .next w tk j (S₆.but z kk) G₇ ⟨L₇,rfl⟩;rw[he];exact this
theorem Gd(Wk:WdOk5 W)(hh:A.handled=none){b:List Stmt}{mb:Loc->M (Fl×Loc)}
  (ev:∀l e,aI W A fs E c l VR (eval e E) (It0.ev c l e))(y:∀l,bT W A fs E c l (execs b E) (mb l)):
  bT W A fs E c l (exec (.For t iter b [] pos) E) (mq (jS It0 c l iter) λit=>if b6 it t=false then bad else io (λv l=>mq (target c t v l) λl'=>mb l') it wf 0 l):=λs₀ φ₀ σ Q Er S L p=>by
 have Zz:=rb (k:=λitv s₂=>codeAny (model W.prog W.w) A (.forLoop t itv b [] E) (λr s'=>match r with|.ok f=>Q f s'|.error e=>cameBackBy (model W.prog W.w) A E Er e s') s₂) Wk (ev l) S L p ?_
 ·exact wpAny_For Zz.1 Zz.2
 clear p S
 intro it I s φ σ he S G L' AI x hI p;refine aB λgP J=>?_
 split at p
 ·exact p.elim
 rename_i ht
 have ht':b6 it t=true:=by simpa using ht
 refine ac (L.ns) λmL nL Z=>?_;have hIL:I≠E.locals:=λq=>by
  refine aB λgP J=>dK (nL) λo es ep e Z=>J ?_;rw[q,e]at hI;cases hI
 refine J ?_;refine codeAny_forLoop_any (λn s=>∃i φ σ l,s= {s₀ with heap:=s.heap,toks:=s.toks}/\W.St (ao fs) φ σ s.heap/\Go (ao fs) [E.locals] φ₀ φ s₀.heap s.heap/\W.Loc E c l φ s.heap/\Asd W (ao fs) φ s.heap I/\ItR φ s.heap it i I/\
  aj W fs [E.locals] (FR W E c) (io (λv l=>mq (target c t v l) λl'=>mb l') it n i l σ) s₀ φ₀ Q Er) (λn s hJ=>?_) wf ⟨0,φ,σ,l,he,S,G.more L.offL,L',AI,x,p⟩
 have O₀:=L.offL
 clear p x AI L' G S he L nL
 refine aB λgP J=>Oq (hJ) λi φ σ l he S G L AI x p=>?_;induction n using Nat.casesAuxOn with
 |zero=>exact p.elim
 |succ k=>
  rw[io]at p;induction hr:ci it i σ using Vv with
  |bad=>refine J ?_;rw[mu hr]at p;exact p.elim
  |exc e σ'=>exact(nK hr).elim
  |ok r σ'=>
   have:=lV hr;subst this;rw[mz hr]at p;induction r using Vp with
   |none=>
    refine J<|pa hh S x hr λh' kk=>wpAny_execs_nil ?_;have:=p .next h' s.toks φ (S.but AI kk) (G.but hI kk) ⟨LocR.but L AI (Vm hIL) kk,rfl⟩;rw[he];exact this
   |some v=>
    dsimp only at p;by_cases hq:∃q B,(mq (target c t v l) λl'=>mb l') σ'=.ok q B
    case neg=>
     rw[mu (uq λa b z=>hq ⟨a,b,z⟩)]at p;exact p.elim
    case pos=>
     refine cI (hq) λq B hq=>?_;rw[mz (xO hq)]at p;refine J<|Vh (o7 (Er:=notedBy (model W.prog W.w) A E λe s'=>cameBackBy (model W.prog W.w) A E Er e s') (Q:=λu s₁=>∃h' tk,s₁= {s with heap:=h',toks:=tk}/\(∀b o,b≠I->s.heap.get? b=some o->h'.get? b=some o)/\ItR φ h' it (i+1) I/\VR φ h' v u) S AI ht' x hr λu h' tk kk x' zu=>aU h' tk ⟨rfl,kk,x',zu⟩) (λr s₁ N=>?_) λZ Z e=>e;obtain⟨u,rfl,N⟩:=N;refine Vh N (λZ s₁ N=>?_) λZ Z e=>e;refine aB λgP J=>bM (N) λh' tk gz2 kk x' zu=>?_;subst gz2;have S₁:=S.but AI kk;refine ac (x'.at_) λoI gI sI=>?_;have AI':Asd W (ao fs) φ h' I:=AI.self gI sI;have L₁:=LocR.but L AI (Vm hIL) kk;have G₁:=G.but hI kk;have P₁:aj W fs [E.locals] (FR W E c) ((mq (target c t v l) λl'=>mb l') σ') {s with heap:=h',toks:=tk} φ (λf d=>match f with
       |.next|.cont=>∃m,m<k+1/\ ∃i φ σ l,d= {s₀ with heap:=d.heap,toks:=d.toks}/\W.St (ao fs) φ σ d.heap/\Go (ao fs) [E.locals] φ₀ φ s₀.heap d.heap/\W.Loc E c l φ d.heap/\Asd W (ao fs) φ d.heap I/\ItR φ d.heap it i I/\
         aj W fs [E.locals] (FR W E c) (io (λv l=>mq (target c t v l) λl'=>mb l') it m i l σ) s₀ φ₀ Q Er
       |.brk=>Q .next d
       |.ret v=>Q (.ret v) d) (notedBy (model W.prog W.w) A E λe s'=>cameBackBy (model W.prog W.w) A E Er e s'):=by
      rw[hq];intro f U tk₅ j S₅ H g;have hCI:I∉ [E.locals]:=by simpa using hIL
      refine aB λgP J=>af (AI'.go hCI gI H) λAI₅ gI₅=>?_;have P:Go (ao fs) [E.locals] φ₀ j s₀.heap U:=Go.trans O₀ G₁ H;have x₅:ItR j U it (i+1) I:=x'.map (λo e=>by rw[gI]at e;injection e with e;rw[<-e];exact gI₅) (λV v z=>VR.go S₁ L₁.offL H z) H.pre;obtain⟨fl,l₂⟩:=q;obtain⟨C,g⟩:=g;dsimp only at g C p;induction fl using Mine.Fl.casesOn with
      |next=>refine J ?_;subst g;exact⟨k,Ug _,i+1,j,B,l₂,by rw[he],S₅,P,C,AI₅,x₅,p⟩
      |cont=>refine J ?_;subst g;exact⟨k,Ug _,i+1,j,B,l₂,by rw[he],S₅,P,C,AI₅,x₅,p⟩
      |ret v=>
       obtain⟨w,rfl,g⟩:=g;have:=p (.ret w) U tk₅ j S₅ P ⟨C,w,rfl,g⟩;refine J ?_;show Q (.ret w) _;rw[he];exact this
     refine J<|jm hh (s:= {s with heap:=h',toks:=tk}) S₁ L₁ zu (aj.bind L₁.offL P₁ λl' Z σ₂ h₂ tk₂ φ₂ S₂ g₂ L₂ q₂=>?_);exact y l' {s with heap:=h₂,toks:=tk₂} φ₂ σ₂ _ _ S₂ L₂ q₂
end
section
variable {W:Wd} {A:Around} {fs:List Env} {X Y:List Addr} {E:Env} {c:Cx} {l:Loc}
variable {F:List Addr} {φ φ' φ'':al} {σ:List O} {h h' h'' h₀:Heap} {a I:Addr} {it:It} {i:Nat}
theorem sj:∀(kvs:List (Str×Value)) (k:Str) (v:Value),(kvs.map (·.1)).Nodup->stored kvs k v=put k v kvs
 | [],k,v,_=>rfl
 |(y,w)::r,k,v,hn=>by
  rw[UI,Us]at hn;have j:=sj r k v hn.2;unfold stored at j ⊢;unfold put;rw[UG];by_cases f:k=y
  ·subst f
   rw[Vo rfl];simp only[decide_true,Bool.true_or,if_true,UI]
   congr 1
   have:∀d∈r,(if d.1=k then(d.1,v)else d)=d:=λd g=>by
    rw[Vn];intro e;exact hn.1 (UV.mpr ⟨d,g,e⟩)
   rw[List.map_congr_left this];simp
  ·rw[Vn f,<-j]
   have hd:decide (y=k)=false:=by simpa using λe=>f e.symm
   simp only[hd,Bool.false_or]
   split
   ·simp only[UI]
    rw[Vn (λe=>f e.symm)]
   ·rfl
theorem xP {d:Type}{k:Str}{v w:d}{r:List (Str×d)}:Mine.put k v ((y,w)::r)=if k=y then(y,v)::r else(y,w)::Mine.put k v r:=rfl
theorem PR.put {k:Str}{V:V}{v:Value}(z:VR φ h V v){l:List (Str×Mine.V)}{es:List (Str×Value)}(x:PR φ h l es):PR φ h (Mine.put k V l) (Mine.put k v es):=
 PR.ind (Q:=λl es=>PR φ h (Mine.put k V l) (Mine.put k v es)) (.cons z .nil) (λ{y _ _ _ _} a r ih=>by
  rw[xP,xP];by_cases d:k=y
  ·rw[Vo d,Vo d];exact .cons z r
  ·rw[Vn d,Vn d];exact .cons a ih) x
theorem jX {d:Addr}{k:Str}{t:Tok}{v:Value}{s:Shared}{Q:Unit->Shared->Prop}{Er:Value->Shared->Prop}(hm:cj W.prog W.w s.heap d kvs b)(H:kvs.length<=sizeLine)
  (N:∀h' tk,cj W.prog W.w h' d (put k v kvs) b->Heap.SameBut d s.heap h'->Q () {s with heap:=h',toks:=tk}):wpAny (model W.prog W.w) A (dictSet d (.str k t) v) Q Er s:=by
 refine ac (hm) λep P p=>?_;obtain⟨o,es,B,S,hd,J,C,G⟩:=P;have g:(strKind W.prog W.w).is k (.str k t)=true:=by simp[strKind,Value.isStrOf]
 have q:es.size=kvs.length:=by rw[<-C.length];simp
 rw[<-sj kvs k v G]at N;unfold dictSet
 try with_reducible refine UL ?_
 refine Vf ((strKind W.prog W.w).pyHash g ?_);unfold dictSetHashed
 try with_reducible refine UL ?_
 refine Vf (wpAny_dictFind_of (s:= {s with toks:=s.toks+1}) g B hd J ?_);have j:(es.findIdx? λe=>(strKind W.prog W.w).is k e.key)=kvs.findIdx? λz=>decide (z.1=k):=by
  rw[<-C.findIdx k];obtain⟨l⟩:=es;simp
 induction hi:es.findIdx? λe=>(strKind W.prog W.w).is k e.key using Vp with
 |some i=>
  have f:=any_of_findIdx_some (j▸hi);refine Vf (wpAny_rule (Vf (wpAny_updateDict (s:= {s with toks:=s.toks+1}) B hd (wpAny_point (N _ _ ⟨ep,⟨_,_,Tg _ B (Obj.isFreed_of_dict (Obj.data_mapDict hd _)),
   S.mapDict _,Obj.data_mapDict hd _,J.modify _ _, ?_, ?_⟩, ?_⟩ (Tz ..))))))
  ·rw[stored,Vo f]
   have hl:(es.toList.findIdx? λe=>(strKind W.prog W.w).is k e.key)=some i:=by rw[<-hi];obtain⟨l⟩:=es;simp
   have:=C.modify G hl v;obtain⟨l⟩:=es;simpa using this
  ·rw[stored,Vo f,keys_map_store];exact G
  ·rw[stored,Vo f,Uo];exact p
 |none=>
  have m:k∉kvs.map (·.1):=not_mem_of_findIdx_none (j▸hi);have f:¬(kvs.any λz=>decide (z.1=k))=true:=by
   rw[List.any_eq_true];rintro⟨z,L,U⟩;exact m (UV.mpr ⟨z,L,T4 U⟩)
  refine Vf (wpAny_rule (wpAny_updateDictKeys (hz:=by rw[q];exact H) (s:= {s with toks:=s.toks+1}) B hd (N _ _ ⟨ep+1,⟨_,_,Tg _ B (Obj.isFreed_of_dict (Obj.data_mapDictKeys hd _)),
   S.mapDictKeys _,Obj.data_mapDictKeys hd _,J.push g _, ?_, ?_⟩, ?_⟩ (Tz ..))))
  ·rw[stored,Vn f]
   have:=C.append g ((strKind W.prog W.w).hash k) v;obtain⟨l⟩:=es;simpa using this
  ·rw[stored,Vn f,Uq,TZ]
   refine⟨G,by simp, ?_⟩;intro a Z b p;simp only[UI,List.map_nil,TO]at p;subst p;exact λe=>m (e▸Z)
  ·rw[stored,Vn f,TL,List.length_singleton];exact(Vk (· +1) p).trans (Int.add_assoc _ _ 1)
theorem Jn(Wk:WdOk5 W){o i v:V}{w x:Value}{s:Shared}{φ:al}{σ:List O}{Q:Unit->Shared->Prop}(S:W.St (ao fs) φ σ s.heap)(z:VR φ s.heap o u)(m:VR φ s.heap i w)(J:VR φ s.heap v x)
  (p:aj W fs [] (λ_ _ (_ _:Unit)=>True) (cH o i v σ) s φ Q Er):wpAny (model W.prog W.w) A (setItem u w x) Q Er s:=by
 refine ac p.el λn hn p=>ac p.el λB H p=>ac p.el λxs N p=>af p.it λf p=>?_;rw[cS hn]at z;rw[gM H]at m;refine ac z.ref' λq G C=>am m.str' λt Z=>?_;rw[G,Z];refine aV (rY S C (fy N)) λes e' L d r=>?_;have j:=d.of;unfold setItem
 try with_reducible refine UL ?_
 refine Vf (wpAny_sequenceKey j.typeIs (by decide) ?_);refine Vf (wpAny_callSpecial?_slot (name:=Str.ofString "__setitem__") j.typeIs slot_dict_setitem
  (wpAny_call_entry slot_dict_setitem j.typeIs entry_dict_setitem ?_ (args_dict_setitem _ _ _)))
 show wpAny _ _ (Builtin.Dict.notOrdered "__setitem__" ⟨[.ref q.1,.str B t,x],[]⟩>>=_) _ _ s;refine Vf (wpAny_notOrdered_dict j.typeIs ?_);show wpAny _ _ (dictSet q.1 (.str B t) x>>=_) _ _ s;refine Vf (jX d (by rw[r.length];exact UZ f (by decide)) λh' tk P sb=>Vi ⟨.none,rfl,Vi ?_⟩);refine af (zI (xs:=xs) S C L sb P (r.put J)) λU g=>p () h' tk φ U g trivial
theorem je {f:Option Expr}(d:ix e=false):swapsWith e f n E=pure false:=by
 induction e using Vq with
 |ListComp=>exact ff d.symm
 |SetComp=>exact ff d.symm
 |DictComp=>exact ff d.symm
 |_=>rfl
theorem D9 {m:M V}(w:ix e=false)(y:aI W A fs E c l VR (eval e E) m):bT W A fs E c l (exec (.Expr e pos) E) (mq m λZ=>mr (.next,l)):=λs φ σ Q Er S L p=>by
 rw[exec_Expr E e pos (by unfold interactive;rw[L.kind];rfl) (je w)];refine Vf (UM (Vf (y.afterX S L p λv u s₁ j σ₁ f d z g q=>?_)));exact wpAny_dropValue (q.ret0 (tk:=s₁.toks) f ⟨d,rfl⟩)
theorem rf(Wk:WdOk5 W){o:Expr}{a:Str}{m d:M V}(y:aI W A fs E c l VR (eval e E) m)(P:aI W A fs E c l VR (eval o E) d):
  bT W A fs E c l (exec (.Assign [.Attribute o a p'] e pos) E) (mq m λv=>mq d λx=>mq (dF x a v) λZ=>mr (.next,l)):=λs φ σ Q Er S L p=>by
 refine plainObj_wpAny_Assign_Attribute (y.afterX S L p λv u s₁ φ₁ σ₁ B L₁ z g q=>?_) (by
  induction e using Vq with
  |_=>rfl)
 refine P.afterX B L₁ q λx w H φ₂ σ₂ f j U C N=>I5 Wk.toWdOk3 f U (VR.go B au C z) (aj.bindX j.offL N λZ Z σ₃ h₃ tk φ₃ G J Z q₃=>q₃.ret0 (s:= {H with heap:=h₃,toks:=tk}) (tk:=tk) G ⟨j.go f J,rfl⟩)
theorem sp(Wk:WdOk5 W){o i e:Expr}{m f H:M V}(y:aI W A fs E c l VR (eval e E) m)(y₂:aI W A fs E c l VR (eval o E) f)(N:aI W A fs E c l VR (eval i E) H):
  bT W A fs E c l (exec (.Assign [.Subscript o i p'] e pos) E) (mq m λv=>mq f λx=>mq H λk=>mq (cH x k v) λZ=>mr (.next,l)):=λs φ σ Q Er S L p=>by
 refine wpAny_Assign_Subscript (y.afterX S L p λv u s₁ φ₁ σ₁ G L₁ z g q=>?_) (by
  induction e using Vq with
  |_=>rfl)
 refine y₂.afterX G L₁ q λx w s₂ φ₂ σ₂ d U z₂ J P=>N.afterX d U P λk w₃ s₃ φ₃ σ₃ j C z₃ B q₃=>Jn Wk j (VR.go d au B z₂) z₃ (VR.go d au B (VR.go G au J z)) (aj.bindX C.offL q₃ λZ Z σ₄ h₄ tk φ₄ S₄ g₄ Z q₄=>q₄.ret0 (s:= {s₃ with heap:=h₄,toks:=tk}) (tk:=tk) S₄ ⟨C.go j g₄,rfl⟩)
theorem LocR.congr {E:Env}{l d:Loc}(L:W.Loc E c l φ h)(e:∀z,look z d=look z l):W.Loc E c d φ h:=
 ⟨L.scope,L.kind,L.glob,L.blt,ac L.ns λm g f=>⟨m,g,λx V q=>f x V (by rw[<-e];exact q)⟩,L.off,L.offB,L.cells,L.code⟩
def xQ(E:Env)(x y:Str)(t:Sem (Option (List Str))):Prop:=∃r,t=pure r/\(r=none\/(r=some [x,y]/\E.kindOf x=some .local/\E.kindOf y=some .local))
theorem sq {d:Type}{P:d->Prop}{c:Prop}[Decidable c]{a b:d}(g:c->P a)(f:¬c->P b):P (if c then a else b):=by
 by_cases h:c
 ·rw[Vo h];exact g h
 ·rw[Vn h];exact f h
theorem OG {f:Expr->Option Str}{a b:Expr}{x y:Str}{cx d:Bool}(j:f a=if cx=true then some x else none)(g:f b=if d=true then some y else none)(h:([a,b].filterMap f).length=2): [a,b].filterMap f= [x,y]/\cx=true/\d=true:=by
 rw[TC,TC,List.filterMap_nil,j,g]at h ⊢;cases cx with
 |false=>cases d<;>cases h
 |true=>cases d with
  |false=>cases h
  |true=>exact⟨rfl,rfl,rfl⟩
theorem xQ.no {E:Env}:xQ E x y (pure none):=⟨none,rfl,.inl rfl⟩
theorem Ge {x y:Str}{p q p₁ p₂:Pos}{k k₂:Nat}{vs:List Expr}(g:vs.all (constantsAlone 8)=false):xQ E x y (swappedStores [.Tuple [.Name x p,.Name y q] k p₁] (.Tuple vs k₂ p₂) E):=by
 unfold swappedStores;dsimp only;refine sq (λZ=>xQ.no) λZ=>sq (λZ=>xQ.no) λZ=>sq (λZ=>xQ.no) λj=>sq (λZ=>xQ.no) λZ=>sq (λz=>absurd (g.symm.trans z) (by decide)) λZ=>?_;have d:=(Tn.mp (TW.mpr j)).1;have f:=OG (x:=x) (y:=y) rfl rfl (bne_eq_false_iff_eq.mp d);exact⟨_,rfl,.inr ⟨Vk some f.1,by have:=f.2.1;rw[T5]at this;exact Vd.mp this.1,by have:=f.2.2;rw[T5]at this;exact Vd.mp this.1⟩⟩
theorem Jo {z:Str}{a b:V}{l:Loc}(h:x≠y):look z (put y b (put x a l))=look z (put x a (put y b l)):=by
 rw[gS,gS,gS,gS];by_cases d:z=y
 ·rw[Vo d,Vn (λf=>h (f.symm.trans d)),Vo d]
 ·rw[Vn d,Vn d]
theorem MQ {d:List V}(h: [x,y].length=d.length):∃a b,d= [a,b]:=by
 induction d using Vr with
 |nil=>exact nomatch h
 |cons a r=>induction r using Vr with
  |nil=>exact nomatch h
  |cons b r=>induction r using Vr with
   |nil=>exact aU a b rfl
   |cons=>exact nomatch h
theorem H2 {z:Str}{l:Loc}{σ:List O}(hz:c.scope.names.lookup z=some .local):wr c z v l σ=.ok (put z v l) σ:=by unfold wr;rw[hz];rfl
theorem Jp {f:Pos}{a b:V}{l:Loc}{σ:List O}(d:c.scope.names.lookup x=some .local)(g:c.scope.names.lookup y=some .local):target c (.Tuple [.Name x px,.Name y f] k p') (.tup [a,b]) l σ=.ok (put y b (put x a l)) σ:=by
 show eH c [x,y] [a,b] l σ=_;rw[ng,my (H2 d),ng,my (H2 g)];rfl
theorem Jq {d:List Expr}{xs:List Str}{l:Loc}{σ:List O}(f:names? d=some xs)(h:∀vs,v=.tup vs-> ¬xs.length=vs.length):target c (.Tuple d k p') v l σ=.bad:=by
 show(names? d).elim _ _=_
 rw[f]
 show(jC v).elim _ _=_
 induction hv:jC v using Vp with
 |none=>rfl
 |some vs=>exact Vn (h vs (xD hv))
theorem Gf(hh:A.handled=none){va vb:V}{s:Shared}{φ:al}{σ:List O}{Q:Flow->Shared->Prop}(hxy:x≠y)(hx:c.scope.names.lookup x=some .local)(hy:c.scope.names.lookup y=some .local)(S:W.St (ao fs) φ σ s.heap)(L:W.Loc E c l φ s.heap)(z:VR φ s.heap (.tup [va,vb]) u)
  (q:aj W fs [E.locals] (FR W E c) (.ok (.next,put y vb (put x va l)) σ) s φ Q Er):wpAny (model W.prog W.w) A (unpackItems u ([x,y]:List Str).length none>>=λitems=>assignInOrder ([bindName E y,bindName E x]) items.reverse>>=λZ=>pure .next) Q Er s:=by
 refine jA z.tup' λad ob us nn zz et ct dt rt=>?_;rw[zz];refine aV rt.cons' λua us1 e1 za N=>aV N.cons' λub us2 e2 zb J=>?_;have g:us.toList= [ua,ub]:=by rw[e1,e2,J.nil']
 rw[show([x,y]:List Str).length=us.toList.toArray.size by rw[g];rfl];refine Vf (wpAny_unpackItems_tuple hh ⟨ob,et,ct,nn,dt⟩ λh' sb=>?_);rw[show us.toList.toArray.toList.reverse= [ub,ua] by rw[g];rfl];have kk:∀b o,s.heap.get? b=some o->h'.get? b=some o:=λb o e=>sb b o (U2 (UN e)) e
 clear zz g e1 e2 rt N J et ct dt
 refine af (S.grow kk) λS' g'=>?_;have L':=L.go S g';refine Vf (IO (wpAny_bindName (p9 (l:=l) (s:= {s with heap:=h'}) S' L' (VR.go S au g' zb) ?_)));rw[H2 hy];intro _ U f φ₂ C d G;refine IO (wpAny_bindName (p9 (l:=put y vb l) (s:= {s with heap:=U,toks:=f}) C G (VR.go S' L'.offL d (VR.go S au g' za)) ?_));rw[H2 hx];intro _ P j m p B H;refine PyProof.Rows.assignInOrder_nil (Vi ?_);exact q .next P j m p (Go.trans L.offL (g'.more L.offL) (Go.trans L'.offL d B)) ⟨LocR.congr H λz=>Jo hxy,rfl⟩
theorem zM(hh:A.handled=none){j:Pos}{k2:Nat}{vs:List Expr}{m:M V}{l:Loc}(G:x≠y)(C:E.kindOf x=some .local)(B:E.kindOf y=some .local)(P:swappedStores [.Tuple [.Name x px,.Name y j] k p'] (.Tuple vs k2 p2) E=pure (some [x,y]))(Z:aI W A fs E c l VR (eval (.Tuple vs k2 p2) E) m):
  bT W A fs E c l (exec (.Assign [.Tuple [.Name x px,.Name y j] k p'] (.Tuple vs k2 p2) pos) E) (mq m λv=>mq (target c (.Tuple [.Name x px,.Name y j] k p') v l) λl'=>mr (.next,l')):=λs φ σ Q Er S L p=>by
 rw[exec_Assign_arm];have N:swapsWithSole [.Tuple [.Name x px,.Name y j] k p'] (.Tuple vs k2 p2) pos.line E=pure false:=by unfold swapsWithSole;exact je rfl
 rw[N,P];refine Vf (UM (Vf (Vi ?_)));show wpAny _ A (eval (.Tuple vs k2 p2) E>>=_) _ _ _;refine Vf (Z.afterX S L p λv u s₁ H σ₁ f d z g q=>Vf (Vi ?_));refine Vf (wpAny_rule ?_)
 clear Z N P p
 replace C:c.scope.names.lookup x=some .local:=(jl d x).symm.trans C
 replace B:c.scope.names.lookup y=some .local:=(jl d y).symm.trans B
 by_cases w:∃J U,v=.tup [J,U]
 ·refine cI w λJ U w=>?_
  rw[w]at z q;rw[my (Jp C B)]at q;exact Gf hh G C B f d z q
 ·rw[mu (Jq (xs:= [x,y]) rfl λvs e hl=>cI (MQ hl) λa b e2=>w ⟨a,b,by rw[e,e2]⟩)]at q
  exact q.elim
theorem sr(hh:A.handled=none){j:List Expr}{m:M V}(hc:ix e=false)(d:oQ j e=true)(y:aI W A fs E c l VR (eval e E) m):
  bT W A fs E c l (exec (.Assign [.Tuple j k p'] e pos) E) (mq m λv=>mq (target c (.Tuple j k p') v l) λl'=>mr (.next,l')):=λs φ σ Q Er S L p=>by
 have plain:swappedStores [.Tuple j k p'] e E=pure none->wpAny (model W.prog W.w) A (exec (.Assign [.Tuple j k p'] e pos) E) Q Er s:=λhw=>by
  refine wpAny_Assign_stores (y.afterX S L p λv u s₁ U σ₁ H f z g q=>?_) (by unfold swapsWithSole;exact je hc) hw;show wpAny _ A (assignAll u [assign (.Tuple j k p') E]) _ _ _;rw[assignAll];exact jm hh H f z (aj.bind f.offL q λl' Z σ₂ J tk φ₂ B g₂ G C=>C.ret0 (s:= {s₁ with heap:=J,toks:=tk}) (tk:=tk) B ⟨G,rfl⟩)
 induction e using Vq with
 |Tuple vs k2 p2=>
  induction hq:Mq j using Vp with
  |none=>unfold oQ at d;rw[hq]at d;exact ff d
  |some q=>
   refine cI (Mr hq) λpx py P=>?_;have d:=Tm.mp (show(decide (q.1≠q.2)&& !(vs.all (constantsAlone 8)))=true by unfold oQ at d;rw[hq]at d;exact d);rw[P]at plain p ⊢;refine ac (Ge (E:=E) (x:=q.1) (y:=q.2) (p:=px) (q:=py) (p₁:=p') (p₂:=p2) (k:=k) (k₂:=k2) (vs:=vs) (TX _▸d.2)) λr hr N=>N.elim (λz=>plain (z▸hr)) λz=>zM hh (T4 d.1) z.2.1 z.2.2 (z.1▸hr) y s φ σ Q Er S L p
 |_=>exact plain rfl
end
section
variable {W:Wd} {A:Around} {fs:List Env} {X Y:List Addr} {E:Env} {c:Cx} {l:Loc}
variable {F:List Addr} {φ φ' φ'':al} {σ:List O} {h h' h'' h₀:Heap} {a I:Addr} {it:It} {i:Nat}
def MR(W:Wd)(E:Env)(c:Cx):al->Heap->Option V->Value×Value->Prop:=λφ h q b=>W.Loc E c [] φ h/\ ∃k t v,q=some (.tup [.str k,v])/\b.1=.str k t/\VR φ h v b.2
theorem Ca(hh:A.handled=none){s:Shared}{φ:al}{σ:List O}{Qt:Value×Value->Shared->Prop}{Qn:Shared->Prop}{Er:Value->Shared->Prop}
  (ev:∀l e,aI W A fs E c l VR (eval e E) (It0.ev c l e))
  (S:W.St (ao fs) φ σ s.heap)(L:W.Loc E c [] φ s.heap)(z:VR φ s.heap v u)
  (p:aj W fs [E.locals] (MR W E c) (eS It0 c t kx vx v σ) s φ Qt Er):
  wpAny (model W.prog W.w) A (assign t E u) (λZ f=>wpAny (model W.prog W.w) A (forIn ([]:List Expr) true λc r=>if r=true then do let ok <-isTrue c E (eval c E);pure (ForInStep.yield ok)else pure (ForInStep.yield r)) (λok d=>
   if ok=true then wpAny (model W.prog W.w) A (eval kx E) (λkv s₄=>wpAny (model W.prog W.w) A (eval vx E) (λvv U=>Qt (kv,vv) U) Er s₄) Er d else Qn d) Er f) Er s:=by
 unfold eS at p;refine jm hh S L z (aj.bind L.offL p λl' Z σ₁ C tk φ₁ S₁ g m q=>?_);refine wpAny_tests_nil ?_;rw[Vo rfl];refine(ev l' kx).afterG (s:= {s with heap:=C,toks:=tk}) m.offL S₁ m q λk w f φ₂ σ₂ H j P g₂ J=>(ev l' vx).afterG j.offL H j J λy w' d φ₃ σ₃ G N z₃ g₃ B=>?_;cases P with
 |str x tk'=>exact B.ret0 (tk:=d.toks) G ⟨N.drop,x,tk',y,rfl,rfl,z₃⟩
 |_=>exact B.elim
theorem Cb(ps:List V)(k:Str)(v:V):bR (ps++ [.tup [.str k,v]])=put k v (bR ps):=by
 unfold bR;rw[List.foldl_append];rfl
theorem qa {d:Type}(x:Str)(v:d)(l:List (Str×d)):(put x v l).length<=l.length+1:=by
 rw[rZ];split<;>omega
theorem Ea:∀ps:List V,(bR ps).length<=ps.length:=by
 intro ps;unfold bR;have:∀(ps:List V) (a:List (Str×V)),(ps.foldl (λl p=>Ms l (mi p)) a).length<=a.length+ps.length:=by
  intro ps;induction ps with
  |nil=>intro a;simp
  |cons p r ih=>
   intro a;rw[List.foldl_cons];refine UZ (ih _) ?_;have:=qa (mi p).1 (mi p).2 a
   show(put (mi p).1 (mi p).2 a).length+r.length<=_
   rw[T9];exact tt (Tw this _) (UX (TR _ 1 _))
 simpa using this ps []
theorem cj.stays(x:cj W.prog W.w h D kvs b)(k:∀o,h.get? D=some o->h'.get? D=some o):cj W.prog W.w h' D kvs b:=oY x k
theorem cj.at_(x:cj W.prog W.w h D kvs b):∃o,h.get? D=some o/\side o:=by
 refine ac (x) λep d Z=>?_;obtain⟨o,es,e,f,hd,r⟩:=d;refine⟨o,e,bP hd⟩
theorem Cc(hh:A.handled=none){cE:Env}{cc:Cx}{kx vx iter:Expr}{sc:Scope}{pos:Pos}{b:Int}{α β:Type}{RV:al->Heap->α->β->Prop}{s₀:Shared}{φ₀:al}{g:List V->M α}{Q:β->Shared->Prop}{Er:Value->Shared->Prop}{R:Result->Shared->Prop}
  (hwf:wf<=2^20)(ht:b6 it t=true)(htn:bZ t=true)(hDI:D≠I)(hDC:D≠cE.locals)(hIC:I≠cE.locals)(hI0:s₀.heap.get? I=none)(hD0:s₀.heap.get? D=none)(hC0:s₀.heap.get? cE.locals=none)
  (ev:∀l e,aI W A fs cE cc l VR (eval e cE) (It0.ev cc l e))
  (done:∀s φ σ N H,s= {s₀ with heap:=s.heap,toks:=s.toks}->W.St (ao fs) φ σ s.heap->Go (ao fs) [] φ₀ φ s₀.heap s.heap->W.Loc cE cc [] φ s.heap->Asd W (ao fs) φ s.heap D->cj W.prog W.w s.heap D H b->PR φ s.heap (bR N) H->aj W fs X RV (g N σ) s₀ φ₀ Q Er->R (.ok .next) s)
  (n:Nat){s:Shared}{φ:al}{σ:List O}{N:List V}{H:List (Str×Value)}{i:Nat}(he:s= {s₀ with heap:=s.heap,toks:=s.toks})(S:W.St (ao fs) φ σ s.heap)(G:Go (ao fs) [] φ₀ φ s₀.heap s.heap)(L:W.Loc cE cc [] φ s.heap)(AI:Asd W (ao fs) φ s.heap I)(x:ItR φ s.heap it i I)
  (AD:Asd W (ao fs) φ s.heap D)(gD:cj W.prog W.w s.heap D H b)(za:PR φ s.heap (bR N) H)(hn:N.length+n<=wf)
  (p:aj W fs X RV (mq (cz (eS It0 cc t kx vx) it n i N) g σ) s₀ φ₀ Q Er):
  codeAny (model W.prog W.w) A (.compLoop (.DictComp kx vx [⟨t,iter,[],0⟩] sc pos) 0 (.ref I) (.ref D) cE) R s:=by
 have htq:B8 t:=jT htn;obtain⟨J,mk,el⟩:∃J:Nat->Shared->Prop,(∀ {n s i φ σ N H},s= {s₀ with heap:=s.heap,toks:=s.toks}->W.St (ao fs) φ σ s.heap->Go (ao fs) [] φ₀ φ s₀.heap s.heap->W.Loc cE cc [] φ s.heap->Asd W (ao fs) φ s.heap I->ItR φ s.heap it i I->Asd W (ao fs) φ s.heap D->cj W.prog W.w s.heap D H b->PR φ s.heap (bR N) H->N.length+n<=wf->aj W fs X RV (mq (cz (eS It0 cc t kx vx) it n i N) g σ) s₀ φ₀ Q Er->J n s)/\ ∀ {n s} {P:Prop},J n s->(∀i φ σ N H,s= {s₀ with heap:=s.heap,toks:=s.toks}->W.St (ao fs) φ σ s.heap->Go (ao fs) [] φ₀ φ s₀.heap s.heap->W.Loc cE cc [] φ s.heap->Asd W (ao fs) φ s.heap I->ItR φ s.heap it i I->Asd W (ao fs) φ s.heap D->cj W.prog W.w s.heap D H b->PR φ s.heap (bR N) H->N.length+n<=wf->aj W fs X RV (mq (cz (eS It0 cc t kx vx) it n i N) g σ) s₀ φ₀ Q Er->P)->P:=
  ⟨λn s=>∀P:Prop,(∀i φ σ N H,s= {s₀ with heap:=s.heap,toks:=s.toks}->W.St (ao fs) φ σ s.heap->Go (ao fs) [] φ₀ φ s₀.heap s.heap->W.Loc cE cc [] φ s.heap->Asd W (ao fs) φ s.heap I->ItR φ s.heap it i I->Asd W (ao fs) φ s.heap D->cj W.prog W.w s.heap D H b->PR φ s.heap (bR N) H->N.length+n<=wf->aj W fs X RV (mq (cz (eS It0 cc t kx vx) it n i N) g σ) s₀ φ₀ Q Er->P)->P,λa b c d e f g h i j k Z z=>z _ _ _ _ _ a b c d e f g h i j k,λj z=>j _ z⟩
 refine codeAny_compLoop_testsD J (λn s hI=>?_) n (mk he S G L AI x AD gD za hn p) (λv=>htq _ _)
 clear p hn za gD AD x AI L G S he
 refine aB λgP gH=>el hI λi φ σ N H he S G L AI x AD gD za hn p=>?_;induction n using Nat.casesAuxOn with
 |zero=>exact p.elim
 |succ k=>
  rw[cz]at p;rw[mx]at p;induction hr:ci it i σ using Vv with
  |bad=>refine gH ?_;rw[mu hr]at p;exact p.elim
  |exc e σ'=>exact(nK hr).elim
  |ok r σ'=>
   have:=lV hr;subst this;rw[mz hr]at p;refine ac (gD.at_) λoD eD sD=>?_;induction r using Vp with
   |none=>
    refine gH<|pa hh S x hr λh' kk=>af (AD.but hDI eD kk) λAD' gD'=>done {s with heap:=h'} φ σ' N H (by rw[he]) (S.but AI kk) (G.but hI0 kk) (LocR.but L AI (Vm hIC) kk) AD' (gD.stays λo e=>kk _ _ hDI e) (PR.but AI.sd kk za) p
   |some v=>
    dsimp only at p;rw[mx]at p;by_cases hq:∃q σ₅,eS It0 cc t kx vx v σ'=.ok q σ₅
    case neg=>
     rw[mu (uq λa b z=>hq ⟨a,b,z⟩)]at p;exact p.elim
    case pos=>
     refine cI (hq) λq σ₅ hq=>?_;rw[mz (xO hq)]at p;refine gH<|Vh (o7 (Q:=λu s₁=>∃h' tk,s₁= {s with heap:=h',toks:=tk}/\(∀b o,b≠I->s.heap.get? b=some o->h'.get? b=some o)/\ItR φ h' it (i+1) I/\VR φ h' v u) S AI ht x hr λu h' tk kk x' zu=>aU h' tk ⟨rfl,kk,x',zu⟩) (λr s₁ hr'=>?_) λZ Z e=>e;obtain⟨u,rfl,hr'⟩:=hr';rw[htq]at hr';refine vJ (Vh hr' (λZ s₁ hr'=>?_) λZ Z e=>e);refine aB λgP gH=>bM (hr') λh' tk gz2 kk x' zu=>?_;subst gz2;have S₁:=S.but AI kk;refine ac (x'.at_) λoI gI sI=>?_;have AI':Asd W (ao fs) φ h' I:=AI.self gI sI;refine af (AD.but hDI eD kk) λAD' eD'=>?_;have L₁:=LocR.but L AI (Vm hIC) kk;have G₁:=G.but hI0 kk;have za₁:PR φ h' (bR N) H:=PR.but AI.sd kk za;have gD₁:cj W.prog W.w h' D H b:=gD.stays λo e=>kk _ _ hDI e;have cb:∀(y:Value×Value) (B:Shared) (C:al),B= {s₀ with heap:=B.heap,toks:=B.toks}->W.St (ao fs) C σ₅ B.heap->Go (ao fs) [cE.locals] φ C h' B.heap->MR W cE cc C B.heap q y-> ∀Er':Value->Shared->Prop,
       wpAny (model W.prog W.w) A (dictSet D y.1 y.2) (λZ s₆=>∃m,m<k+1/\J m s₆) Er' B:=by
      intro y B C he₅ S₅ U z₅ Er';have hCI:I∉ [cE.locals]:=by simpa using hIC
      have hCD:D∉ [cE.locals]:=by simpa using hDC
      refine aB λgP gH=>af (AI'.go hCI gI U) λAI₅ gI₅=>af (AD'.go hCD eD' U) λAD₅ eD₅=>?_;have gD₅:cj W.prog W.w B.heap D H b:=gD₁.stays λo e=>by rw[eD']at e;injection e with e;rw[<-e];exact eD₅
      have G₅:Go (ao fs) [] φ₀ C s₀.heap B.heap:=Go.transN au G₁ U λa ha=>.inr (by rw[TO.mp ha];exact hC0);obtain⟨L₅,ky,tt,vy,rfl,hk,z₅⟩:=z₅;obtain⟨y1,y2⟩:=y;refine gH ?_;dsimp only at hk z₅ ⊢;subst hk;have x₅:ItR C B.heap it (i+1) I:=x'.map (λo e=>by rw[gI]at e;injection e with e;rw[<-e];exact gI₅) (λV v z=>VR.go S₁ L₁.offL U z) U.pre;have za₅:PR C B.heap (bR N) H:=PR.go S₁ L₁.offL U za₁;refine jX gD₅ (by
       rw[za₅.length];have:=Ea N;have:sizeLine=16777216:=sizeLine_eq;omega) λh₆ tk₆ gD₆ sb=>?_
      have kk₆:∀b o,b≠D->B.heap.get? b=some o->h₆.get? b=some o:=λb o hb e=>(sb.2 b hb).trans e;refine af (AI₅.but (Vm hDI) gI₅ kk₆) λAI₆ gI₆=>ac (gD₆.at_) λoD₆ eD₆ sD₆=>?_;have AD₆:Asd W (ao fs) C h₆ D:=AD₅.self eD₆ sD₆;refine⟨k,Ug _,mk (by rw[he₅]) (S₅.but AD₅ kk₆) (G₅.but hD0 kk₆) (LocR.but L₅ AD₅ (Vm hDC) kk₆) AI₆ (x₅.map (λo e=>by rw[gI₅]at e;injection e with e;rw[<-e];exact gI₆) (λV v z=>VR.but AD₅.sd kk₆ z) (Ud _)) AD₆ gD₆ (by rw[Cb];exact(PR.but AD₅.sd kk₆ za₅).put (VR.but AD₅.sd kk₆ z₅)) (by rw[TL,List.length_singleton];exact Ld hn) p⟩
     have:=Ca (Er:=notedBy (model W.prog W.w) A cE λe s'=>R (.error e) s') (Qn:=λZ=>False) hh ev (s:= {s with heap:=h',toks:=tk}) S₁ L₁ zu (Qt:=λb B=>B= {s₀ with heap:=B.heap,toks:=B.toks}/\ ∃C,W.St (ao fs) C σ₅ B.heap/\Go (ao fs) [cE.locals] φ C h' B.heap/\MR W cE cc C B.heap q b) (by
      rw[hq];exact λb h₅ tk₅ C S₅ U z₅=>⟨by rw[he],C,S₅,U,z₅⟩)
     refine gH<|Vh this (λZ s₂ h₂=>Vh h₂ (λok s₃ h₃=>?_) λZ Z e=>e) λZ Z e=>e;induction ok using Vs with
     |true=>
      rw[Vo rfl]at h₃ ⊢;exact Vh h₃ (λy s₄ h₄=>Vh h₄ (λy' B h₅=>by
       obtain⟨e₄,C,S₅,U,z₅⟩:=h₅;exact cb (y,y') B C e₄ S₅ U z₅ _) λZ Z e=>e) λZ Z e=>e
     |false=>
      rw[Vn (by simp)]at h₃;exact h₃.elim
end
section
variable {W:Wd} {A:Around} {fs:List Env} {X Y:List Addr} {E:Env} {c:Cx} {l:Loc}
variable {F:List Addr} {φ φ' φ'':al} {σ:List O} {h h' h'' h₀:Heap} {a I:Addr} {it:It} {i:Nat}
theorem pf(h:Heap):∃b,cj W.prog W.w (h.push {cls:=.type "dict",data:=.dict #[] }) h.objs.size [] b:=by
 obtain⟨ep,d⟩:=(Heap.DictOf.new (knd:=strKind W.prog W.w) h).dictAt;exact⟨(ep:Int),ep,d,by simp⟩
theorem xR(Wk:WdOk5 W)(hh:A.handled=none)(hwf:wf<=2^20)
  (ev:∀ {E c} l e,aI W A fs E c l VR (eval e E) (It0.ev c l e)):
  aI W A fs E c l VR (eval (.DictComp kx vx [⟨t,iter,[],0⟩] sc pos) E) (if !bZ t|| !fH c sc then bad else mq (jS It0 c l iter) λit=>if b6 it t=false then bad else
     mq (cz (eS It0 (cr c sc) t kx vx) it wf 0 []) λps=>aC (.dict (bR ps))):=λs φ σ Q Er S L p=>by
 refine aB λgP gH=>?_
 split at p
 ·exact p.elim
 rename_i hc
 simp only[Bool.or_eq_true,not_or,TX]at hc;refine af (hc) λc2 hok=>?_;have c2':bZ t=true:=by simpa using c2
 have hok:fH c sc=true:=by simpa using hok
 refine fD (iA hok) λk1 k2 k3 k4=>gH ?_;rw[arm_eval_DictComp];have Zz:=rb (k:=λitv d=>wpAny (model W.prog W.w) A newDict (λacc s₃=>wpAny (model W.prog W.w) A (newFunctionEnv sc E.globals (fm E sc.names []) [] E.qual none .none (some E)) (λcenv s₄=>
    codeAny (model W.prog W.w) A (.compStart (.DictComp kx vx [⟨t,iter,[],0⟩] sc pos) 0 itv acc {cenv with scope:=relabel sc E}) (pc (model W.prog W.w) A none Q Er cenv.locals acc) s₄) Er s₃) Er d) Wk (ev (E:=E) (c:=c) l) S L p ?_
 ·exact xN (use:=none) rfl Zz.2 (pb L hok) k1 k3 Zz.1
 intro it I d j σ₂ he G G₂ L₂ AI x hI q
 split at q
 ·exact q.elim
 rename_i c1
 have c1':b6 it t=true:=by simpa using c1
 refine ac (x.at_) λoI gI sI=>wpAny_newObj_type (wpAny_newFunctionEnv k2 (by intro y hy;simp at hy) (λf g B=>?_) k1);dsimp only at g B ⊢;obtain⟨b0,hnew⟩:=pf (W:=W) d.heap;generalize hH1:d.heap.push {cls:=.type "dict",dict:=none,data:=.dict #[] }=C at g B hnew ⊢;have hD2:d.heap.get? d.heap.objs.size=none:=bK;have hC2:C.get? C.objs.size=none:=bK;have k₁:∀b o,d.heap.get? b=some o->C.get? b=some o:=λb o e=>hH1▸Tc _ e;have k₂:∀b o,C.get? b=some o->f.get? b=some o:=λb o e=>by
  have hb:b≠C.objs.size:=λq=>by rw[q,hC2]at e;cases e
  rw[B.2 b hb];exact Tc _ e
 have U:d.heap.get? C.objs.size=none:=by
  induction e:d.heap.get? C.objs.size using Vp with
  |none=>rfl
  |some o=>have:=k₁ _ _ e;rw[hC2]at this;cases this
 refine aB λgP gH=>af (G.grow (h':=f) λb o e=>k₂ b o (k₁ b o e)) λS₄ H=>?_;have G₄:=Go.trans au G₂ H;have gD:cj W.prog W.w f d.heap.objs.size [] b0:=hnew.stays λo e=>k₂ _ _ e;refine ac (hnew.at_) λoD eDH Z=>ac (gD.at_) λoD' eD sD=>?_;have AD:Asd W (ao fs) j f d.heap.objs.size:=Asd.new G hD2 λo e=>by rw[eD]at e;injection e with e;rw[<-e];exact sD
 have AC:Asd W (ao fs) j f C.objs.size:=Asd.new G U λo e=>by
  refine aB λgP gH=>bw (g) λo' es ep e' d' Z=>gH ?_;rw[e']at e;injection e with e;rw[<-e];exact bP d'
 refine af (AI.go (by simp) gI H) λAI₄ gI₄=>?_;have x₄:ItR j f it 0 I:=x.map (λo e=>by rw[gI]at e;injection e with e;rw[<-e];exact gI₄) (λV v z=>VR.go G au H z) (Ud _);have hD0:s.heap.get? d.heap.objs.size=none:=by
  by_cases P:d.heap.objs.size∈aT φ
  ·exact absurd (dO G₄.pre _ P) AD.phi
  ·refine dP au G₂ P hD2
 have hC0:s.heap.get? C.objs.size=none:=by
  by_cases P:C.objs.size∈aT φ
  ·exact absurd (dO G₄.pre _ P) AC.phi
  ·refine dP au G₂ P U
 have hDI:d.heap.objs.size≠I:=λq=>by rw[q]at hD2;rw[gI]at hD2;cases hD2
 have hDC:d.heap.objs.size≠C.objs.size:=λq=>by rw[q]at eDH;rw[hC2]at eDH;cases eDH
 have hIC:I≠C.objs.size:=λq=>by rw[q]at gI;rw[U]at gI;cases gI
 have cL:W.Loc (compEnvC sc (fm E sc.names []) C.objs.size E) (cr c sc) [] j f:=AW (L₂.go G H) hok AC ⟨_,g⟩;have loop:∀tk,codeAny (model W.prog W.w) A (.compLoop (.DictComp kx vx [⟨t,iter,[],0⟩] sc pos) 0 (.ref I) (.ref d.heap.objs.size) (compEnvC sc (fm E sc.names []) C.objs.size E)) (pc (model W.prog W.w) A none Q Er C.objs.size (.ref d.heap.objs.size)) {d with heap:=f,toks:=tk}:=λtk=>
  Cc (cc:=cr c sc) (s₀:=s) (φ₀:=φ) (s:= {d with heap:=f,toks:=tk}) hh hwf c1' c2' hDI hDC hIC hI hD0 hC0 ev
   (λJ φ₅ σ₅ acc accU he₅ S₅ G₅ N AD₅ gD₅ za₅ q₅=>by
    refine ac (N.ns) λm hm Z=>bw (id hm) λoC esC epC eC dC Z=>?_;have eC':J.heap.get? C.objs.size=some oC:=eC;have AC₅:Asd W (ao fs) φ₅ J.heap C.objs.size:=⟨N.off,AC.fr,N.offB,λo e=>by rw[eC']at e;injection e with e;rw[<-e];exact bP dC⟩;refine⟨m,hm,λh' sb=>?_⟩;have kk:∀b o,b≠C.objs.size->J.heap.get? b=some o->h'.get? b=some o:=λb o hb e=>(sb.2 b hb).trans e;refine ac (gD₅.at_) λoD₅ eD₅ Z=>af (AD₅.but hDC eD₅ kk) λAD' eD'=>?_;have S':=(S₅.but AC₅ kk).adopt (ax:=.base b0) AD' rfl (.dict (l:=bR acc) (gD₅.stays λo e=>kk _ _ hDC e) (PR.but AC₅.sd kk za₅));have:=q₅ (.ref d.heap.objs.size) h' J.toks (φ₅++ [(d.heap.objs.size,.base b0)]) S' (Go.adopt rfl (G₅.but hC0 kk) hD0) (.ref (p:=(d.heap.objs.size,.base b0)) (by rw[<-S₅.len,SP (U9 _),U3];rfl));rw[he₅];exact this)
   wf (by rw[he]) S₄ G₄ cL AI₄ x₄ AD gD .nil (by simp) q
 refine gH<|codeAny_compStart_dict (loop _) (vL (φ:=j) (it:=it) (i:=0) (t:=t) c1' c2' x₄ (loop _))
theorem Eb:aI W A fs E c l VR (eval (.Dict [] [] pos) E) (aC (.dict [])):=λs φ σ Q Er S L p=>by
 refine wpAny_Dict_empty ?_;obtain⟨b,d⟩:=pf (W:=W) s.heap;have k:∀b o,s.heap.get? b=some o->(s.heap.push {cls:=.type "dict",data:=.dict #[] }).get? b=some o:=λb o e=>Tc _ e;refine af (S.grow k) λj g=>ac (d.at_) λw q m=>?_;have f:Asd W (ao fs) φ (s.heap.push {cls:=.type "dict",data:=.dict #[] }) s.heap.objs.size:=Asd.new S bK λo e=>by rw[q]at e;injection e with e;rw[<-e];exact m
 exact p (.ref s.heap.objs.size) _ s.toks (φ++ [(s.heap.objs.size,.base b)]) (j.adopt (ax:=.base b) f rfl (.dict (l:= []) d .nil)) (Go.adopt rfl g bK) (.ref (p:=(s.heap.objs.size,.base b)) (by rw[<-S.len,SP (U9 _),U3];rfl))
theorem aI.afterS {H C β q:Type}{RV:al->Heap->H->β->Prop}{RV':al->Heap->C->q->Prop}{t:Sem β}{m:M H}{f:H->M C}(x:aI W A fs E c l RV t m)
  {s₀ s:Shared}{φ₀ φ:al}{σ:List O}{Q:q->Shared->Prop}{Q₁:β->Shared->Prop}{Er:Value->Shared->Prop}(O:eU X φ₀ s₀.heap)(J:s= {s₀ with heap:=s.heap,toks:=s.toks})(S:W.St (ao fs) φ σ s.heap)(L:W.Loc E c l φ s.heap)
  (G:Go (ao fs) [] φ₀ φ s₀.heap s.heap)(p:aj W fs X RV' (mq m f σ) s₀ φ₀ Q Er)
  (k:∀a b s₁ d σ₁,s₁= {s₀ with heap:=s₁.heap,toks:=s₁.toks}->W.St (ao fs) d σ₁ s₁.heap->W.Loc E c l d s₁.heap->RV d s₁.heap a b->Go (ao fs) [] φ d s.heap s₁.heap->aj W fs X RV' (f a σ₁) s₀ φ₀ Q Er->Q₁ b s₁):wpAny (model W.prog W.w) A t Q₁ Er s:=by
 refine x s φ σ _ _ S L ?_;unfold mq at p;induction hm:m σ using Vv with
 |ok a σ₁=>
  rw[hm]at p;exact λb B tk d j g z=>k a b {s with heap:=B,toks:=tk} d σ₁ (by rw[J]) j (L.go S g) z g p
 |exc e σ₁=>rw[hm]at p;exact λN h' tk φ' x=>by rw[J];exact p N h' tk φ' (ErrR.more (x.before au G))
 |bad=>rw[hm]at p;exact p.elim
theorem Ec {k1 k2 k3:Str}{c1 c2 c3:Nat}{p1 p3:Pos}{e1 e2 e3:Expr}{m1 m2 m3:M V}(x1:aI W A fs E c l VR (eval e1 E) m1)(x2:aI W A fs E c l VR (eval e2 E) m2)(x3:aI W A fs E c l VR (eval e3 E) m3):
  aI W A fs E c l VR (eval (.Dict [some (.Constant (.str k1) c1 p1),some (.Constant (.str k2) c2 p2),some (.Constant (.str k3) c3 p3)] [e1,e2,e3] pos) E)
   (mq m1 λv1=>mq m2 λv2=>mq m3 λv3=>aC (.dict (put k3 v3 (put k2 v2 (put k1 v1 []))))):=λs φ σ Q Er S L p=>by
 refine wpAny_Dict_any rfl rfl (by simp) (by simp)<|aB λgP gH=>?_;obtain⟨b,d⟩:=pf (W:=W) s.heap;have k:∀b o,s.heap.get? b=some o->(s.heap.push {cls:=.type "dict",data:=.dict #[] }).get? b=some o:=λb o e=>Tc _ e;refine af (S.grow k) λS' g=>ac (d.at_) λoD eD sD=>?_;have AD:Asd W (ao fs) φ (s.heap.push {cls:=.type "dict",data:=.dict #[] }) s.heap.objs.size:=Asd.new S bK λo e=>by rw[eD]at e;injection e with e;rw[<-e];exact sD
 have L':=L.go S g;refine gH ?_;unfold pairTrees pairTrees pairTrees pairTrees;have key:∀ {H:Str} {cc:Nat} {pp:Pos} {s':Shared} {Q':Value->Shared->Prop},(∀t tk,Q' (.str H t) {s' with toks:=tk})->wpAny (model W.prog W.w) A (eval (.Constant (.str H) cc pp) E) Q' Er s':=λhq=>PySem.Calls.Constant_str (hq _ _);refine evalPairs_cons (key λt1 tk1=>Vf ?_);refine x1.afterS (s:= {s with heap:=s.heap.push {cls:=.type "dict",data:=.dict #[] },toks:=tk1}) au rfl S' L' g p λv1 u1 s₁ φ₁ σ₁ he₁ G L₁ z₁ Z q₁=>Vf (UM (Vi ?_));refine af (AD.go (by simp) eD Z) λAD₁ eD₁=>evalPairs_cons (key λt2 tk2=>Vf ?_);have N:=Go.trans au g Z;refine x2.afterS (s:= {s₁ with toks:=tk2}) au (by rw[he₁]) G L₁ N q₁ λv2 u2 s₂ φ₂ σ₂ he₂ C L₂ z₂ B q₂=>Vf (UM (Vi ?_));refine af (AD₁.go (by simp) eD₁ B) λAD₂ eD₂=>evalPairs_cons (key λt3 tk3=>Vf ?_);have P:=Go.trans au N B;refine x3.afterS (s:= {s₂ with toks:=tk3}) au (by rw[he₂]) C L₂ P q₂ λv3 u3 z j σ₃ he₃ J L₃ z₃ m q₃=>Vf (UM (Vi ?_));refine af (AD₂.go (by simp) eD₂ m) λf eD₃=>?_;have G₃:=Go.trans au P m;refine evalPairs_nil ?_;unfold storeAll;have d₃:cj W.prog W.w z.heap s.heap.objs.size [] b:=d.stays λo e=>by rw[eD]at e;injection e with e;rw[<-e];exact eD₃
 have zz₁:=VR.go C au m (VR.go G au B z₁);have zz₂:=VR.go C au m z₂;rw[Un];refine Vf (Vf (jX d₃ (by simp) λh₄ tk₄ d₄ sb₄=>Vi ?_));dsimp only;rw[Un];refine Vf (Vf (jX (s:= {z with heap:=h₄,toks:=tk₄}) d₄ (by rw[sizeLine_eq];have:=qa k1 u1 [];simp at this ⊢;exact Q6 this) λh₅ tk₅ d₅ sb₅=>Vi ?_));dsimp only;rw[Un];refine Vf (Vf (jX (s:= {z with heap:=h₅,toks:=tk₅}) d₅ (by rw[sizeLine_eq];have:=qa k1 u1 [];have:=qa k2 u2 (put k1 u1 []);simp at*;omega) λq tk₆ U sb₆=>Vi ?_));dsimp only;rw[List.forIn_nil];refine Vi ?_;have H:∀b o,b≠s.heap.objs.size->z.heap.get? b=some o->q.get? b=some o:=λb o hb e=>(sb₆.2 b hb).trans ((sb₅.2 b hb).trans ((sb₄.2 b hb).trans e));refine ac (U.at_) λo₆ e₆ s₆=>?_;have AD₆:Asd W (ao fs) j q s.heap.objs.size:=f.self e₆ s₆;have PR₆:PR j q (put k3 v3 (put k2 v2 (put k1 v1 []))) (put k3 u3 (put k2 u2 (put k1 u1 []))):=((PR.put (VR.but f.sd H zz₁) .nil).put (VR.but f.sd H zz₂)).put (VR.but f.sd H z₃);have:=q₃ (.ref s.heap.objs.size) q tk₆ (j++ [(s.heap.objs.size,.base b)]) ((J.but f H).adopt (ax:=.base b) AD₆ rfl (.dict U PR₆)) (Go.adopt rfl (G₃.but bK H) bK) (.ref (p:=(s.heap.objs.size,.base b)) (by rw[<-J.len,SP (U9 _),U3];rfl));rw[he₃];exact this
end
end Mine
end
noncomputable section
open PySem PySem.W PySem.Calls
set_option exponentiation.threshold 3000
namespace Mine
structure IsiOk (K:Frag) (C:Addr):Prop where
 notStr:kin_notT K C "str"=true
 get:plainGet K C "__class__"=true
 dct:hasDictIn K C=true
 cls:findIn K (.ref C) "__class__"=some (some (.builtin "object.__class__"))
 spc:specialIn K (.builtin "object.__class__") "__get__"=some (some (.builtin "getset_descriptor.__get__"))
 tak:takesIn K (.builtin "object.__class__")=some true
 mro:mroIn K C (.type "object")=some true
structure WdOk6 (W:Wd):Prop extends WdOk5 W where
 isi:W.mg "isinstance"=none/\W.mb "isinstance"=some (.builtin "isinstance")
 strT:W.mg "str"=none/\W.mb "str"=some (.type "str")
 vec:∃C,W.cl.at_ "Vector"=some C/\W.mg "Vector"=some (.ref C)/\IsiOk W.K C
 code:CodeHd W.B W.cl.code W.cl.tab
 blt':W.B.BuiltinsAt W.mg W.cl.tab
 gtab:mainGlobals≠W.cl.tab
section
variable {W:Wd} {A:Around} {fs:List Env} {X Y:List Addr} {E:Env} {c:Cx} {l:Loc}
variable {F:List Addr} {φ φ' φ'':al} {σ:List O} {h h' h'' h₀:Heap} {a I:Addr} {it:It} {i:Nat}
theorem Cd {i:Int}{n:Nat}(h:i.natAbs<2^n)(b:n<=1920):i.natAbs.log2<1920:=by
 by_cases hz:i.natAbs=0
 ·rw[hz];decide
 ·exact TU ((Nat.log2_lt hz).mpr h) b
theorem Ed {f:Expr->M V}(D:∀e,aI W A fs E c l VR (eval e E) (f e))(y:List Expr):∀(b:Str) {s:Shared} {φ:al} {σ:List O} {Q:Value->Shared->Prop} {Er:Value->Shared->Prop},W.St (ao fs) φ σ s.heap->W.Loc E c l φ s.heap->b.length<=line->
  aj W fs [] VR (mq (eo f y b) (λs=>mr (V.str s)) σ) s φ Q Er->wpAny (model W.prog W.w) A (joinParts b (evalEach y E)) Q Er s:=by
 induction y using List.rec with
 |nil=>
  intro b s φ σ Q Er S L B p;exact PyProof.Rows.joinParts_nil (p.ret0 (tk:=s.toks+1) S (.str _ _)) (UZ B (by decide))
 |cons e r ihr=>
  intro b s φ σ Q Er S L B p;show wpAny _ A (joinParts b (eval e E::evalEach r E)) Q Er s;rw[eo]at p;induction hq:nh e using Vp with
  |none=>rw[hq]at p;exact p.elim
  |some q=>
   rw[hq]at p;induction q using Sum.casesOn with
   |inl st=>
    refine cI (DE hq) λk C x=>?_;rw[x]
    replace p:aj W fs [] VR (mq (if b.length+st.length<=line then eo f r (b++st)else bad) (λs=>mr (V.str s)) σ) s φ Q Er:=p
    refine PyProof.Rows.joinParts_cons (PySem.Calls.Constant_str ?_);by_cases d:b.length+st.length<=line
    ·rw[Vo d]at p
     exact⟨by rw[strLen_append];exact UZ d (by decide),ihr _ (s:= {s with toks:=s.toks+1}) S L (by rw[strLen_append];exact d) (p.after (tk:=s.toks+1) au (Go.refl _ _ _ _))⟩
    ·rw[Vn d]at p;exact p.elim
   |inr e'=>
    refine am (DF hq) λC x=>?_;rw[x]
    replace p:aj W fs [] VR (mq (mq (f e') λv=>mq (part b v) λa=>eo f r a) (λs=>mr (V.str s)) σ) s φ Q Er:=p
    rw[mx]at p;refine PyProof.Rows.joinParts_cons (PyProof.Rows.FormattedValue_plain ((D e').after S L p λv u s₁ m j o n z g q=>?_));rw[mx]at q;induction hi:eG v using Vp with
    |none=>rw[show part b v=bad by unfold part;rw[hi];rfl]at q;exact q.elim
    |some i=>
     rw[gN hi]at z q;refine am z.int' λt G=>?_;rw[G];by_cases d:i.natAbs<2^1000/\b.length+(Str.ofString (toString i)).length<=line
     ·rw[show part b (.int i)=mr (b++Str.ofString (toString i)) from Vo d]at q
      replace q:aj W fs [] VR (mq (eo f r (b++Str.ofString (toString i))) (λs=>mr (V.str s)) j) s₁ m Q Er:=q
      refine PyProof.Rows.formatField_int_small (Cd d.1 (by decide))<|⟨by rw[strLen_append];exact UZ d.2 (by decide),ihr _ (s:= {s₁ with toks:=s₁.toks+1+1}) o n (by rw[strLen_append];exact d.2) (q.after (tk:=s₁.toks+1+1) au (Go.refl _ _ _ _))⟩
     ·rw[show part b (.int i)=bad from Vn d]at q;exact q.elim
theorem Ce {f:Expr->M V}{b d:Expr}{r:List Expr}{pos:Pos}(g:∀e,aI W A fs E c l VR (eval e E) (f e)):
  aI W A fs E c l VR (eval (.JoinedStr (b::d::r) pos) E) (mq (eo f (b::d::r) Str.empty) λs=>mr (.str s)):=λs φ σ Q Er S L p=>
 PyProof.Rows.JoinedStr_many (Ed g (b::d::r) Str.empty S L (by decide) p)
theorem Jr {F:List Addr}(S:W.St F φ σ h){n:Nat}{g:Str}{xs:List (Str×V)}{p:Addr×Aux}(o:φ[n]?=some p)(q:σ[n]?=some (.inst g xs)):∃C d e,W.cl.at_ g=some C/\h.get? p.1=some (instObj C d)/\InstAt h p.1 (instObj C d) C (some e):=by
 refine aB λt k=>jd (kP S o q) λC d m j hd f b r=>ac (lT f b.ns) λe I Z=>k<|bJ C d e ⟨j,f,I⟩
theorem Gg(S:W.St F φ σ h){v:V}{u:Value}{f:Str}(z:VR φ h v u)(e:nC σ v=some f):∃a C d b,u=.ref a/\W.cl.at_ f=some C/\h.get? a=some (instObj C d)/\InstAt h a (instObj C d) C (some b):=by
 refine ac (Tf.mp e) λq e o=>ac (S9.mp e) λn w p=>?_;rw[cS w]at z;refine ac z.ref' λm g t=>bw (Jr S t (rR p)) λC d b k j r=>vt m.1 C d b ⟨g, ?_,j,r⟩;rw[<-o];exact k
theorem xS(S:W.St F φ σ h){v:V}{u:Value}{f:Str}{C:Addr}(g:W.cl.at_ "Vector"=some C)(z:VR φ h v u)(e:nC σ v=some f)(j:f= "Vector"):∃a d b,u=.ref a/\InstAt h a (instObj C d) C (some b):=by
 rw[j]at e;refine mZ (Gg S z e) λa n d b m k Z I=>bJ a d b ⟨m, ?_⟩;rw[Uu (g.symm.trans k)];exact I
theorem ut(y:WdOk6 W){e:Expr}{k:Str}{np G pos:Pos}{m:M V}(Z:c.scope.names.lookup ("isinstance":Str)=some .globalImplicit)(P:bI e=false)(x:aI W A fs E c l VR (eval e E) m):
  aI W A fs E c l VR (eval (.Call (.Name "isinstance" np) [e,.Name k G] [] pos) E) (if c.scope.names.lookup k=some .globalImplicit then mq m (isV k)else bad):=λs φ σ Q Er S L p=>by
 by_cases f:c.scope.names.lookup k=some .globalImplicit
 case neg=>rw[Vn f]at p;exact p.elim
 rw[Vo f]at p;refine Uk<|dR y.toWdOk Z (by decide+kernel) S L (.inr y.isi)<|jt (first:= []) (as:= [e,.Name k G]) (by rw[UG,P];rfl) (Ul (x.after S L p λv u s₁ r j b n z g q=>?_) (cN P));refine aP (y.vec) λC U H o=>?_;have KI:=vG y.toWdOk b;unfold isV at q;by_cases B:k= "Vector"
 ·rw[Vo B]at q
  rw[B]at f ⊢;refine Ul (e:=.Name "Vector" G) (dR y.toWdOk f (by decide+kernel) b n (.inl H) (Uw ?_)) rfl;refine ac q.el λJ N q=>af q.it λw q=>dK (xS b U z N w) λa d od D I=>?_;rw[D];exact isi_call KI (λM=>I.type (M:=M)) (by unfold isIn;simp) (by simp) (q.ret0 (tk:=s₁.toks) b (.bool true))
 rw[Vn B]at q;refine af q.it λB q=>?_;rw[B]at f ⊢;refine Ul (e:=.Name "str" G) (dR y.toWdOk f (by decide+kernel) b n (.inr y.strT) (Uw ?_)) rfl;induction hst:ik v using Vp with
 |some x=>
  rw[hst]at q;rw[gM hst]at z;refine am z.str' λt D=>?_;rw[D];exact call_isinstance (isinstance_true PySem.F.isi_meta_str PySem.F.isi_self_str) ⟨typeIs_str _ _ _,q.ret0 (tk:=s₁.toks) b (.bool true)⟩
 |none=>
  rw[hst]at q
  replace q:aj W fs [] VR ((nC j v).elim .bad λJ=>if J= "Vector" then .ok (.bool false) j else .bad) s₁ r Q Er:=q
  refine ac q.el λJ N q=>af q.it λw q=>dK (xS b U z N w) λa d od D I=>?_;rw[D];exact kin_callT KI I o.notStr PySem.F.isi_meta_str o.get o.dct o.cls o.spc o.tak o.mro (q.ret0 (tk:=s₁.toks+1) b (.bool false))
end
end Mine
end
noncomputable section
open PySem PySem.W PySem.Calls
namespace Mine
variable {pos:Pos} {sc:Scope} {base:Heap} {env:Env} {outer:List Env} {L e C b L':Addr} {a0:Value} {fd:FuncData} {us:List Value} {f:Fn} {n:Nat} {x:Str} {Er:Value->Shared->Prop} {I0:Itp}
section
variable {W:Wd} {A:Around} {fs:List Env} {X Y:List Addr} {E:Env} {c:Cx} {l:Loc}
variable {F:List Addr} {φ φ' φ'':al} {σ:List O} {h h' h'' h₀:Heap} {a I:Addr} {it:It} {i:Nat}
theorem wq {a b:Int}{c d:Value}(l:List Value)(h:TriplesOk l)(e:codeAmong pos (l++ [rawInt a,rawInt b,c])=some d):codeAmong pos l=some d\/d=c:=by
 fun_induction TriplesOk l with
 |case1=>
  simp only[List.nil_append,codeAmong,rawInt]at e
  split at e
  ·injection e with e;exact .inr e.symm
  ·cases e
 |case2 a' t b' u x rest ih=>
  simp only[List.cons_append,codeAmong]at e ⊢
  split at e
  ·rename_i hc;rw[Vo hc];exact .inl e
  ·rename_i hc;rw[Vn hc];exact ih h e
 |case3 l h1 h2=>exact h.elim
theorem zN(h:pQ c sc=true):c.name= "law"/\sc.kind=.function/\sc.isGenerator=false/\sc.isCoroutine=false/\(∀x∈sc.names,x.2≠ .cell/\x.2≠ .local)/\ ∀x∈sc.names,x.2=.free-> ∃n,look x.1 c.cells=some n:=by
 unfold pQ at h;simp only[T5,T3,Vd,T6]at h;refine aB λt r=>?_;obtain⟨⟨⟨⟨o,m⟩,p⟩,k⟩,g⟩:=h;refine r<|⟨o,m,p,k,λx d=>?_,λx d j=>?_⟩
 ·have:=g x d;simp at this;exact⟨this.1.1,this.1.2⟩
 ·have:=g x d;simp at this
  exact S5.mp (this.2.resolve_left λq=>q j)
theorem xT {W:Wd}(S:W.St F φ σ h)(L:W.Loc E c l φ h){body:Expr}(ok:pQ c sc=true){d:Str}{pm:Value}{j ctv:Value}(m:d=q6)(k:h.CodeRec j q6):
  W.St F (φ++ [(h.objs.size,Aux.none)]) (σ++ [.clo body sc (cq c sc)]) (h.push {cls:=.type "function",data:=.func (kla_fn "<lambda>" d ⟨[],[],none,[],[],none,[]⟩ body sc (fm E sc.names []) pm j ctv) })/\
   Go F [] φ (φ++ [(h.objs.size,Aux.none)]) h (h.push {cls:=.type "function",data:=.func (kla_fn "<lambda>" d ⟨[],[],none,[],[],none,[]⟩ body sc (fm E sc.names []) pm j ctv) }):=by
 refine BZ S (.clo (TA _ rfl) ⟨rfl,_,rfl,rfl,rfl,rfl,rfl,rfl,rfl,rfl,rfl, ?_,λx n H=>?_⟩)
 ·refine aB λG g=>mZ (k) λz o vs t J v w B=>g<|⟨z,o,vs,t,J,Tc _ v,w,by rw[B];rw[m]⟩
 ·refine aB λG g=>af (qJ H) λD u=>ac (L.cells x n u) λa p r=>g<|⟨a,gv p _ _ (.inl D) (λy b q=>nomatch q),dp (TP _ _) r⟩
theorem Cf(Wk:WdOk6 W){body:Expr}:
  aI W A fs E c l VR (eval (.Lambda ⟨[],[],none,[],[],none,[]⟩ body sc pos) E) (if pQ c sc then BX c body sc else bad):=λs φ σ Q Er S L p=>by
 by_cases ok:pQ c sc=true
 case neg=>rw[Vn ok]at p;exact p.elim
 rw[Vo ok]at p;refine BH (zN ok) λk1 k2 k3 k4 k5 k6=>af (L.code k1) λm y=>af p.bi λz p=>?_;have z:=FE z;have D:0<φ.length:=by rw[S.len];exact(SV.mp z).1
 refine am (show ∃pr,φ[0]?=some pr from⟨_,S1 D⟩) λpr v=>?_;have hq:E.qual++("<lambda>":Str)=q6:=by rw[y];decide+kernel
 have J:closureFor sc E=pure (fm E sc.names []):=om λx hx hf=>by
  refine aB λgP u=>am (k6 x hx hf) λn hn=>ac (L.cells x.1 n hn) λa h1 Z=>u<|⟨a,h1⟩
 refine w4 (S.obj 0 _ _ v z).tab' λP ps ep ea em hP N hcs=>?_;rw[ep]at v;rw[ea]at hP v;have C:=Wk.code.keeps S.base;have hg:=Wk.g.keeps S.base;have hb:s.heap.BuiltinsAt W.mg W.cl.tab:=by
  refine aB λgP u=>w4 (Wk.blt') λbm o r1 r2 r3 r4 r5 r=>u<|⟨bm,o,r1,r2,r3,r4,S.base _ _ r5,r⟩
 refine kla_eval rfl<|aB λgP u=>?_;induction hf:codeAmong pos ps.toList using Vp with
 |some cv=>
  refine u<|kla_makeFunctionHit J L.glob hg m C hP N hf hb λctv h' tk k Z=>aB λgP u=>af (S.grow k) λS' g=>?_;have L':=L.go S g;have hcd:h'.CodeRec cv q6:=(hcs pos cv hf).keeps k;refine af (xT (pm:=(W.mg "__name__").getD .none) (ctv:=ctv) (body:=body) S' L' ok hq hcd) λj d=>u<|p _ _ tk _ j (Go.trans au g d) (.ref (p:=(h'.objs.size,Aux.none)) ?_);rw[<-S.len,SP (U9 _),U3];rfl
 |none=>
  refine u<|kla_makeFunction J L.glob hg m C hP N hf Wk.gtab hb λH ctv h' tk hx hge D w B=>?_
  have⟨S',g⟩:=St.upd (o:=.tab) (h':=h') S v (λb ob e hb=>hx b ob (λq=>hb (by rw[q];simp)) e) λg=>.tab rfl (let⟨more,em⟩:=em;⟨more++ #[rawInt pos.line,rawInt pos.col,Value.ref H],by rw[em,Array.append_assoc]⟩) B (by
   have:(ps++ #[rawInt pos.line,rawInt pos.col,Value.ref H]).toList=ps.toList++ [rawInt pos.line,rawInt pos.col,Value.ref H]:=by simp
   rw[this];exact TriplesOk_snoc _ _ _ _ N) λG cv e=>by
   have:(ps++ #[rawInt pos.line,rawInt pos.col,Value.ref H]).toList=ps.toList++ [rawInt pos.line,rawInt pos.col,Value.ref H]:=by simp
   rw[this]at e;rcases wq _ N e with e|e
   ·refine aB λgP u=>mZ (hcs G cv e) λc'' o vs t e1 U e3 e4=>u<|⟨c'',o,vs,t,e1,hx _ _ (λq=>?_) U,e3,e4⟩
    rw[q,hP]at U;injection U with U;subst U;injection e3 with e3;subst e3;exact AJ N e4
   ·rw[e];rw[<-hq];exact w
  have hs:σ.set 0 O.tab=σ:=by
   apply List.ext_getElem?;intro i;rw[List.getElem?_set]
   split
   ·rename_i h0;subst h0
    rw[z]
    split
    ·rfl
    ·rename_i hn;exact absurd (SV.mp z).1 hn
   ·rfl
  rw[hs]at S';have L':=L.go S g;refine af (xT (pm:=(W.mg "__name__").getD .none) (ctv:=ctv) (body:=body) S' L' ok hq (by rw[<-hq];exact w)) λj d=>p _ _ tk _ j (Go.trans au g d) (.ref (p:=(h'.objs.size,Aux.none)) ?_);rw[<-S.len,SP (U9 _),U3];rfl
end
section
variable {M:Model} {A:Around} {E:Value->Shared->Prop} {s:Shared}
theorem uu(f:Array Value->Array Value)(o:Obj):(o.mapFields f).dict=o.dict:=by
 unfold Obj.mapFields;split<;>rfl
theorem AX {p:Obj}{vs:Array Value}{g:Value}{i:Bool}{Q:Unit->Shared->Prop}
  (S:A.frames=some (env::outer))(B:s.heap.FunFrames base (env::outer))(hf:env.frame=some L)
  (F:s.heap.get? e=some p)(H:base.StaysIn s.heap)(G:base.get? e=none)(hd:p.data=.fields vs)(l:1<vs.size)(h0:vs[0]?=some a0)
  (h:∀h' oe',Heap.LeftW base (env::outer) e p.cls a0 s.heap h'->h'.get? e=some oe'->oe'.dict=p.dict->Q () {s with heap:=h'}):
  wpAny M A (do let a <-frameOf env;let t <-entryPlaceOf L i;let b <-EntryCells.newEntry g a .none (rawInt L) .none t;setField (.ref e) 1 b) (λZ s'=>wpAny M A (setFlight (.ref e) none) Q E s') E s:=by
 have eF:e∉(env::outer).filterMap (·.frame):=λN=>by
  obtain⟨_,o,D,I⟩:=B.mem N;rw[F]at D;injection D with D;subst D;exact I vs hd
 refine Vf (wpAny_frameOf_fun S B hf λc y=>?_);refine Vf (wpAny_entryPlaceOf λt u=>?_);unfold EntryCells.newEntry newFields;refine Vf (wpAny_newObj_type ?_ (u.sizeOk5 _ _ _ _ _));have e1:c.get? e=some p:=(y.2.1 e eF).trans F;have w:base.StaysIn c:=λb o q=>(y.2.1 b λN=>by rw[(B.mem N).1]at q;cases q).trans (H b o q);generalize J:({cls:=.type "traceback",dict:=none,data:=.fields ([g,.ref L,.none,rawInt L,.none]++(if t.isEmpty then List.replicate 6 Value.none else t)).toArray}:Obj)=r;have k:r.data=.fields ([g,.ref L,.none,rawInt L,.none]++(if t.isEmpty then List.replicate 6 Value.none else t)).toArray:=by rw[<-J]
 have X:(c.push r).get? e=some p:=Tc r e1;have m:c.objs.size≠e:=U1 (UN e1);refine wpAny_setField X hd l ?_;have d3:=Obj.data_mapFields hd (·.setIfInBounds 1 (Value.ref c.objs.size));have Y:=Tg (Obj.mapFields (·.setIfInBounds 1 (Value.ref c.objs.size))) X (Obj.isFreed_of_fields d3);have W:=(Td (c.push r) (Obj.mapFields (·.setIfInBounds 1 (Value.ref c.objs.size))) (Vm m)).trans (TA c (Obj.isFreed_of_fields k));refine Vf (wpAny_field Y d3 (x:=.ref c.objs.size) (by simp[l]) ?_);rw[Vo (show(Value.ref c.objs.size !=Value.none)=true from by simp)];refine wpAny_setField W k (by simp only[T1,TL,T9,List.length_nil]<;>exact QG) ?_;have e4:=(Td ((c.push r).update e (Obj.mapFields (·.setIfInBounds 1 (Value.ref c.objs.size)))) (Obj.mapFields (·.setIfInBounds 3 ((none:Option Addr).elim Value.none λf=>rawInt f))) m).trans Y;have j:∀b o,b≠e->c.get? b=some o->(((c.push r).update e (Obj.mapFields (·.setIfInBounds 1 (Value.ref c.objs.size)))).update c.objs.size (Obj.mapFields (·.setIfInBounds 3 ((none:Option Addr).elim Value.none λf=>rawInt f)))).get? b=some o:=λb o nb d=>by
  have nT:c.objs.size≠b:=U1 (UN d);rw[Td _ _ nT,Td _ _ (Vm nb)];exact Tc _ d
 have plain:∀b o,s.heap.get? b=some o->(∀vs,o.data≠ .fields vs)->b≠e:=λb o d v q=>by
  rw[q,F]at d;injection d with d;subst d;exact v vs hd
 refine h _ _ ⟨λb o q=>j b o (λz=>by rw[z,G]at q;cases q) (w b o q),B.of_keeps λb o d v=>?_, ?_,λb o d v=>?_⟩ e4 (uu _ _)
 ·refine am (y.2.2 b o d) λx P=>⟨_,j b _ (plain b o d v) P,rfl⟩
 ·have U:=Obj.data_mapFields k (·.setIfInBounds 3 ((none:Option Addr).elim Value.none λf=>rawInt f))
  refine⟨_,_,c.objs.size,_,_,e4,⟨Obj.cls_mapFields _ _,by rw[Array.getElem?_setIfInBounds_ne (by decide)];exact h0⟩,d3,by simp[l],w.fresh,m,Tg _ W (Obj.isFreed_of_fields U),U, ?_⟩
  first|(simp;done)|(rcases u with rfl|⟨_,_,_,_,_,_,_,rfl⟩<;>simp)
 ·refine am (y.2.2 b o d) λx P=>⟨x,j b _ (plain b o d v) P⟩
noncomputable def MS(base:Heap)(e C:Addr)(a0:Value)(h:Heap):Prop:=
 (∃oe vs,h.get? e=some oe/\oe.cls=.ref C/\oe.data=.fields vs/\vs[1]?=some .none/\vs[0]?=some a0)\/h.TracedW base e (.ref C) a0
theorem ss {Q:Unit->Shared->Prop}
  (r:A.frames=some (env::outer))(I:s.heap.FunFrames base (env::outer))(D:env.frame=some L)
  (m:base.StaysIn s.heap)(l:base.get? e=none)(J:MS base e C a0 s.heap)
  (h:∀h',Heap.LeftW base (env::outer) e (.ref C) a0 s.heap h'->(∀t,s.heap.get? e=some t-> ∃c,h'.get? e=some c/\c.dict=t.dict)->Q () {s with heap:=h'}):wpAny M A (noteFrame (.ref e) env) (λZ k=>wpAny M A (setFlight (.ref e) none) Q E k) E s:=by
 unfold noteFrame;simp only[D];refine aB λP H=>?_;rcases J with⟨t,vs,g,F,hd,p,w⟩|⟨t,vs,T,S,N,g,⟨F,w⟩,hd,p,y,u,v,i,G⟩
 ·refine H<|Vf (wpAny_field g hd p ?_)
  rw[Vn (by decide)];refine AX r I D g m l hd (SK.mp p).1 w λh' c x B q=>h h' (F▸x) λo z=>?_;rw[g]at z;injection z with z;subst z;exact⟨c,B,q⟩
 ·refine H<|Vf (wpAny_field g hd p ?_)
  rw[Vo (show(Value.ref T !=Value.none)=true from by simp)];refine Vf (wpAny_field v i G ?_);rw[Vn (show ¬((Value.none==rawInt L)=true) from by simp[rawInt])];refine Vf (wpAny_setField v i (SK.mp G).1 ?_);have a:∀b,b≠T->(s.heap.update T (Obj.mapFields (·.setIfInBounds 3 Value.none))).get? b=s.heap.get? b:=λb d=>Td _ _ (Vm d);have plain:∀b o,s.heap.get? b=some o->(∀vs,o.data≠ .fields vs)->b≠T:=λb o d j q=>by
   rw[q,v]at d;injection d with d;subst d;exact j N i
  refine AX (s:= {s with heap:=s.heap.update T (Obj.mapFields (·.setIfInBounds 3 Value.none)) }) r (I.of_keeps λb o d j=>⟨o,(a b (plain b o d j)).trans d,rfl⟩) D ((a e (Vm u)).trans g)
   (λb o q=>(a b λz=>by rw[z,y]at q;cases q).trans (m b o q)) l hd (SK.mp p).1 w
   λh' c x B q=>h h' (F▸⟨x.1,x.2.1,x.2.2.1,λb o d j=>x.2.2.2 b o ((a b (plain b o d j)).trans d) j⟩) λo z=>?_
  rw[g]at z;injection z with z;subst z;exact⟨c,B,q⟩
theorem Ee {Q:Unit->Shared->Prop}
  (d:A.frames=some (env::outer))(j:s.heap.FunFrames base (env::outer))(g:env.frame=some L)
  (c:base.StaysIn s.heap)(a:base.get? e=none)(i:MS base e C a0 s.heap)
  (h:∀h',Heap.LeftW base (env::outer) e (.ref C) a0 s.heap h'->(∀oe,s.heap.get? e=some oe-> ∃oe',h'.get? e=some oe'/\oe'.dict=oe.dict)->Q () {s with heap:=h'}):wpAny M A (leaving env (.ref e)) Q E s:=Vf (ss d j g c a i h)
end
section
variable {M:Model} {A:Around} {E:Value->Shared->Prop} {s:Shared}
theorem sw:∀ {xs:List Str} {us:List Value},us.length=xs.length->xs.Nodup->(xs.filterMap λn=>((xs.zip us).lookup n).map (n,·))=xs.zip us:=by
 intro xs us c d;have key:∀(xs:List Str) (us:List Value) (l:List (Str×Value)),us.length=xs.length->xs.Nodup->(∀p∈xs.zip us,l.lookup p.1=some p.2)->(xs.filterMap λn=>(l.lookup n).map (n,·))=xs.zip us:=by
  intro xs;induction xs with
  |nil=>intro us l _ _ _;simp
  |cons x r ih=>
   intro us l c d a;induction us using Vr with
   |nil=>cases c
   |cons u ur=>
    have h:=a (x,u) (by simp);rw[TC,h];simp only[Option.map_some,TQ,List.cons.injEq,true_and];exact ih ur l (by simpa using c) (Us.mp d).2 λp g=>a p (by simp[g])
 refine key xs us _ c d ?_
 clear key
 induction xs generalizing us with
 |nil=>intro p a;simp at a
 |cons x r ih=>
  induction us using Vr with
  |nil=>cases c
  |cons u ur=>
   intro p a;rw[TQ]at a ⊢;rw[Ua];rcases UJ.mp a with rfl|a
   ·simp
   ·have i:p.1∈r:=(List.of_mem_zip a).1
    have:(p.1==x)=false:=by
     rw[TI];intro q;exact(Us.mp d).1 (q▸i)
    rw[this];exact ih (by simpa using c) (Us.mp d).2 p a
theorem gG {x:Str}:∀ {xs:List Str} {us:List Value},us.length=xs.length->x∈xs->((xs.zip us).lookup x).isSome=true
 | [],_,_,h=>nomatch h
 |y::r,[],h,_=>by cases h
 |y::r,u::ur,h,hx=>by
  rw[TQ,Ua];induction hb:x==y using Vs with
  |true=>rfl
  |false=>
   refine gG (by simpa using h) ?_;rcases UJ.mp hx with q|q
   ·rw[q]at hb;simp at hb
   ·exact q
theorem on {x:Str}:∀ {xs:List Str} {us:List Value},x∉xs->(xs.zip us).lookup x=none
 | [],_,_=>by simp
 |y::r,[],_=>by simp
 |y::r,u::ur,hx=>by
  rw[TQ,Ua];have:(x==y)=false:=by rw[TI];intro q;exact hx (by simp[q])
  rw[this];exact on λq=>hx (by simp[q])
noncomputable def nM(xs:List Str)(us:List Value)(c a:Option (Array Value)->Sem (List (Str×Value)))(r:Option (Array Value)):Sem (List (Str×Value)):=
 if(decide (us.length>xs.length)&&true)=true then c r else
  let d:=(r.getD #[]).toList.drop ((r.getD #[]).toList.length-xs.length)
  if(!((xs.take (xs.length-d.length)).filter λn=>((xs.zip us).lookup n).isNone).isEmpty)=true then a r else
   (forIn ((xs.drop (xs.length-d.length)).zip d) (xs.zip us) λp s=>if(s.lookup p.1).isNone=true then pure (ForInStep.yield (s++ [(p.1,p.2)]))else pure (ForInStep.yield s))>>=λs=>pure ((xs++ []).filterMap λn=>(s.lookup n).map (n,·))
theorem sx {ps:List Arg}{ds:List Expr}{us:List Value}(a:fd.params=⟨[],ps,none,[],[],none,ds⟩):
  ∃X1 X2,bindArgs fd ⟨us,[]⟩=seqItems? fd.defaults>>=λr=>nM (ps.map (·.arg)) us X1 X2 r:=by
 obtain⟨v,o,k,m,p,q,t,l,u,i,c,g,j,d,h⟩:=fd;dsimp only at a;subst a;refine aU ?_ ?_ ?_
 rotate_left 2
 ·unfold bindArgs nM
  dsimp only[List.map_nil,List.nil_append,List.forIn_nil,Um];rfl
theorem kQ {ps:List Arg}{ds:List Expr}{Q:List (Str×Value)->Shared->Prop}{dv:List Value}(g:fd.params=⟨[],ps,none,[],[],none,ds⟩)(l:us.length=ps.length)(k:(ps.map (·.arg)).Nodup)
  (hd:∀Q':Option (Array Value)->Shared->Prop,(∀r,(r.getD #[]).toList=dv->Q' r s)->wpAny M A (seqItems? fd.defaults) Q' E s)(m:dv= []\/ ∃d,dv= [d]/\ps≠ [])(h:Q ((ps.map (·.arg)).zip us) s):wpAny M A (bindArgs fd ⟨us,[]⟩) Q E s:=by
 obtain⟨w,v,e⟩:=sx (us:=us) g;rw[e];refine Vf (hd _ λr o=>?_)
 clear e hd
 have a:us.length=(ps.map (·.arg)).length:=by simp[l]
 generalize ps.map (·.arg)=xs at a k h ⊢;have c:∀(L:List (Str×Value)),(∀p∈L,p.1∈xs)->(forIn L (xs.zip us) λp s=>if(s.lookup p.1).isNone=true then pure (ForInStep.yield (s++ [(p.1,p.2)]))else pure (ForInStep.yield s):Sem (List (Str×Value)))=pure (xs.zip us):=by
  intro L;induction L with
  |nil=>intro _;rfl
  |cons p r ih=>
   intro j;rw[Un];have:=gG a (j p (by simp));rw[Vn (by rw[SX];intro q;rw[q]at this;cases this),pure_bind];exact ih λt i=>j t (by simp[i])
 unfold nM;rw[o];refine wpAny_ite_false (by simp[a]) (wpAny_ite_false (Uv λq=>?_) ?_)
 ·rw[TX,List.isEmpty_eq_false_iff,ne_eq,List.filter_eq_nil_iff]at q
  refine q λx u=>?_;have:=gG a (Tv u);rw[SX];intro q;rw[q]at this;cases this
 ·rw[c _ λp g=>List.mem_of_mem_drop (List.of_mem_zip g).1,pure_bind,Um]
  refine Vi ?_;rw[sw a k];exact h
theorem Ef {ps:List Arg}{ds:List Expr}{Q:List (Str×Value)->Shared->Prop}{d:Value}(o:fd.params=⟨[],ps,none,[],[],none,ds⟩)(t:us.length+1=ps.length)(i:(ps.map (·.arg)).Nodup)
  (hd:∀Q':Option (Array Value)->Shared->Prop,(∀r,(r.getD #[]).toList= [d]->Q' r s)->wpAny M A (seqItems? fd.defaults) Q' E s)(h:Q ((ps.map (·.arg)).zip (us++ [d])) s):wpAny M A (bindArgs fd ⟨us,[]⟩) Q E s:=by
 obtain⟨F,D,e⟩:=sx (us:=us) o;rw[e];refine Vf (hd _ λr v=>?_)
 clear e hd
 have c:us.length+1=(ps.map (·.arg)).length:=by simp[t]
 generalize ps.map (·.arg)=xs at c i h ⊢;obtain⟨a,y,rfl⟩:∃a y,xs=a++ [y]:=aU xs.dropLast (xs.getLast (by intro q;rw[q]at c;simp at c)) ((List.dropLast_concat_getLast _).symm);have g:us.length=a.length:=by simpa using c
 have hz:(a++ [y]).zip us=a.zip us:=by
  rw[<-Um us,List.zip_append g.symm];simp
 rw[TZ]at i;have j:y∉a:=λq=>i.2.2 y q y (by simp) rfl;have z:(List.drop (([d]:List Value).length-(a++ [y]).length) [d])= [d]:=by
  have:([d]:List Value).length-(a++ [y]).length=0:=by simp
  rw[this];rfl
 have l:(a++ [y]).length-([d]:List Value).length=a.length:=by simp
 have m:(a++ [y]).take a.length=a:=by simp
 have u:(a++ [y]).drop a.length= [y]:=by simp
 unfold nM;rw[v];refine wpAny_ite_false (by simp[g]) ?_;dsimp only;rw[z,l,hz,m,u];refine wpAny_ite_false (Uv λq=>?_) ?_
 ·rw[TX,List.isEmpty_eq_false_iff,ne_eq,List.filter_eq_nil_iff]at q
  refine q λx w=>?_;have:=gG g w;rw[SX];intro q;rw[q]at this;cases this
 ·have B:(forIn ([y].zip [d]) (a.zip us) λp s=>if(s.lookup p.1).isNone=true then pure (ForInStep.yield (s++ [(p.1,p.2)]))else pure (ForInStep.yield s):Sem (List (Str×Value)))=pure (a.zip us++ [(y,d)]):=by
   rw[show [y].zip [d]= [(y,d)] from rfl,Un,Vo (by rw[on j];rfl)];rfl
  rw[B,pure_bind,Um];refine Vi ?_;have k:a.zip us++ [(y,d)]=(a++ [y]).zip (us++ [d]):=by rw[List.zip_append g.symm];rfl
  rw[k,sw (by simp[g]) (by rw[TZ];exact i)];exact h
end
structure FuncOk (W:Wd) (name:Str) (f:Fn) (a:Addr):Prop where
 ex:∃o fd,W.B.get? a=some o/\o.data=.func fd/\fd.body=.stmts f.body/\fd.scope=f.scope/\fd.globals=mainGlobals/\fd.builtins=builtinsNs/\fd.closure= []/\W.B.CodeRec fd.code fd.qualname/\
  fd.params=⟨[],f.params.args,none,[],[],none,f.params.defaults⟩/\(name= "law"->fd.code=.ref W.cl.code/\fd.qualname= "law")/\
  ((f.params.defaults= []/\fd.defaults=.none)\/(∃k p T oT n,f.params.defaults= [.Constant .none k p]/\f.params.args≠ []/\fd.defaults=.ref T/\W.B.get? T=some oT/\oT.data=.seq #[.none] n))
 kind:f.scope.kind=.function
 gen:f.scope.isGenerator=false
 cor:f.scope.isCoroutine=false
 nodup:(f.scope.names.map (·.1)).Nodup
 pnodup:(f.params.args.map (·.arg)).Nodup
structure Top (E:Env) (fs:List Env):Prop where
 hd:∃r,fs=E::r
 fr:E.frame=some E.locals
section
variable {W:Wd} {A:Around} {fs:List Env} {X Y:List Addr} {E:Env} {c:Cx} {l:Loc}
variable {F:List Addr} {φ φ' φ'':al} {σ:List O} {h h' h'' h₀:Heap} {a I:Addr} {it:It} {i:Nat}
theorem Gh {W:Wd}{name:Str}{M:Model}{vs:List V}{bs:List (Str×V)}{s:Shared}{E:Value->Shared->Prop}{Q:List (Str×Value)->Shared->Prop}(K:FuncOk W name f b)(Z:W.B.StaysIn s.heap)
  (P:fd.params=⟨[],f.params.args,none,[],[],none,f.params.defaults⟩)
  (hd:(f.params.defaults= []/\fd.defaults=.none)\/(∃k p T G n,f.params.defaults= [.Constant .none k p]/\f.params.args≠ []/\fd.defaults=.ref T/\W.B.get? T=some G/\G.data=.seq #[.none] n))
  (z:VRs φ s.heap vs us)(g:pS f.params.args f.params.defaults vs=some bs)
  (k:∀us',VRs φ s.heap (bs.map (·.2)) us'->us'.length=bs.length->Q ((bs.map (·.1)).zip us') s):wpAny M A (bindArgs fd ⟨us,[]⟩) Q E s:=by
 have U:=K.pnodup;have j:=z.length;have names:∀o:List V,o.length=f.params.args.length->((f.params.args.map (·.arg)).zip o).map (·.1)=f.params.args.map (·.arg)/\((f.params.args.map (·.arg)).zip o).map (·.2)=o:=λo y=>by
  constructor
  ·rw[List.map_fst_zip];simp[y]
  ·rw[List.map_snd_zip];simp[y]
 unfold pS at g;refine aB λgP N=>?_;by_cases q:vs.length=f.params.args.length
 ·rw[Vo q]at g
  injection g with g;refine af (names vs q) λD w=>?_;rcases hd with⟨v,r⟩|⟨kk,p,T,G,n,v,u,r,H,J⟩
  ·refine N<|kQ (dv:= []) P (LP j q) U (λS t=>?_) (.inl rfl) ?_
   ·rw[r]
    show wpAny M A (do notAStandIn .none;pure none) S E s;exact Vf (Vi (Vi (t _ rfl)))
   ·have:=k us (by rw[<-g,w];exact z) (by rw[j,<-g];simp[q])
    rw[<-g,D]at this;exact this
  ·refine N<|kQ (dv:= [.none]) P (LP j q) U (λS t=>?_) (.inr ⟨_,rfl,u⟩) ?_
   ·rw[r];exact wpAny_seqItems (Z _ _ H) J (t _ rfl)
   ·have:=k us (by rw[<-g,w];exact z) (by rw[j,<-g];simp[q])
    rw[<-g,D]at this;exact this
 ·rw[Vn q]at g
  rcases hd with⟨v,r⟩|⟨kk,p,T,G,n,v,u,r,H,J⟩
  ·rw[v]at g;exact ns g
  ·rw[v]at g
   replace g:(if vs.length+1=f.params.args.length then some ((f.params.args.map (·.arg)).zip (vs++ [V.none]))else none)=some bs:=g
   by_cases m:vs.length+1=f.params.args.length
   ·rw[Vo m]at g
    injection g with g;have y:(vs++ [V.none]).length=f.params.args.length:=by simpa using m
    refine af (names _ y) λD w=>N<|Ef (d:=.none) P (Rz j m) U (λS t=>?_) ?_
    ·rw[r];exact wpAny_seqItems (Z _ _ H) J (t _ rfl)
    ·have:=k (us++ [.none]) (by rw[<-g,w];exact z.append (.cons .none .nil)) (by rw[<-g];simp;exact Rl j m)
     rw[<-g,D]at this;exact this
   ·rw[Vn m]at g;cases g
theorem AY {k:NameKind}(h:k≠ .cell):(k==NameKind.cell)=false:=TI.mpr h
theorem ml {y:Str}{r:List (Str×NameKind)}{d:List (Str×Addr)}:cellsFrom n ((y,.cell)::r) d=cellsFrom (n+1) r ((y,n)::d):=rfl
theorem ph {y:Str}{k:NameKind}{r:List (Str×NameKind)}{d:List (Str×Addr)}(h:k≠ .cell):cellsFrom n ((y,k)::r) d=cellsFrom n r d:=by rw[cellsFrom,AY h];rfl
theorem sy(names:List (Str×NameKind)):∀(n:Nat) (d:List (Str×Addr)),x∉names.map (·.1)->(cellsFrom n names d).lookup x=d.lookup x:=by
 induction names using List.rec with
 |nil=>exact λZ Z Z=>rfl
 |cons p r ih=>
  intro n d h;obtain⟨y,k⟩:=p;rw[UI,UJ,not_or]at h;by_cases g:k=.cell
  ·rw[g,ml,ih _ _ h.2,Ua,TI.mpr h.1]
  ·rw[ph g];exact ih _ _ h.2
def MT(φ':al)(g:List (Str×Nat))(names:List (Str×NameKind))(n:Nat)(d:List (Str×Addr)):Prop:=∀x i,look x g=some i->x∈names.map (·.1)/\ ∃a,(cellsFrom n names d).lookup x=some a/\φ'[i]?=some (a,Aux.none)
theorem Gi(names:List (Str×NameKind)):∀(g:List (Str×Addr)) {h:Heap} {φ:al} {σ:List O},(names.map (·.1)).Nodup->W.St F φ σ h->
  ∃φ' d t,hM.go names σ=.ok t d/\W.St F φ' d (pushCells h names)/\Go F [] φ φ' h (pushCells h names)/\MT φ' t names h.objs.size g:=by
 induction names using List.rec with
 |nil=>exact λg h φ σ w S=>bJ φ σ [] ⟨rfl,S,Go.refl _ _ _ _,λx n e=>ns e⟩
 |cons p r ih=>
  intro g h φ σ w S;obtain⟨y,k⟩:=p;rw[UI,Us]at w;by_cases z:k=.cell
  ·rw[z]
   refine af (BZ (o:= {cls:=.type "cell",data:=.cell none}) (ob:=.cell Option.none) S (.cellN (TA _ rfl))) λv u=>?_;refine kG (ih ((y,h.objs.size)::g) w.2 v) λφ' d t e G B H=>bJ φ' d ((y,σ.length)::t) ⟨my e,G,Go.trans au u B,λx n m=>?_⟩;rw[kO]at m;rw[ml];by_cases j:x=y
   ·rw[Vo j]at m
    rw[j,<-Uu m,sy r _ _ w.1,Ua,beq_self_eq_true];exact⟨TM ..,h.objs.size,rfl,dp B.pre (by rw[<-S.len,SP (U9 _),U3];rfl)⟩
   ·rw[Vn j]at m
    refine af (H x n m) λD q=>ac q λa J N=>⟨Tt _ D,a, ?_,N⟩;rw[UA]at J;exact J
  ·refine kG (ih g w.2 S) λφ' d t e G B H=>?_
   rw[show pushCells h ((y,k)::r)=pushCells h r by rw[pushCells,AY z];rfl];refine bJ φ' d t ⟨?_,G,B,λx n m=>?_⟩
   ·induction k using NameKind.casesOn with
    |cell=>exact absurd rfl z
    |_=>exact e
   ·rw[ph z]
    exact af (H x n m) λD q=>⟨Tt _ D,q⟩
theorem Gj(xs:List Str):∀ {vs:List V} {us:List Value} {l:Loc} {s:Shared} {φ:al} {σ:List O} {Q:PUnit->Shared->Prop} {Er:Value->Shared->Prop} (f:Str×Value->PUnit->Sem (ForInStep PUnit)),(∀n v u,f (n,v) u=(do storeName E n v;pure (.yield ⟨⟩)))->
  W.St (ao fs) φ σ s.heap->W.Loc E c l φ s.heap->VRs φ s.heap vs us->
  aj W fs [E.locals] (λφ h l (_:PUnit)=>W.Loc E c l φ h) (eH c xs vs l σ) s φ Q Er->wpAny (model W.prog W.w) A (forIn (xs.zip us) ⟨⟩ f) Q Er s:=by
 induction xs using List.rec with
 |nil=>
  intro vs us l s φ σ Q Er f r S L z p;induction vs using Vr with
  |nil=>
   rw[List.zip_nil_left,List.forIn_nil];exact Vi (p.ret0 (tk:=s.toks) S L)
  |cons=>exact p.elim
 |cons x xs ih=>
  intro vs us l s φ σ Q Er f r S L z p;induction vs using Vr with
  |nil=>exact p.elim
  |cons v vs=>
   refine aV z.cons' λu y t a b=>?_;rw[t,TQ,Un,r];refine Vf (Vf (p9 S L a ?_));exact aj.bind L.offL p λB Z m d tk o k g j q=>Vi (ih (s:= {s with heap:=d,toks:=tk}) f r k j (VRs.go S L.offL g b) q)
theorem Eg {j g:Type}{o:Option g}{f:g->R j}{e:V}{d:List O}(h:∀x,f x≠ .exc e d):o.elim .bad f≠ .exc e d:=by
 induction o using Vp with
 |none=>exact λz=>nomatch z
 |some x=>exact h x
theorem MU {v:V}{l:Loc}{e:V}{σ d:List O}:wr c x v l σ≠ .exc e d:=by
 refine Eg λk=>?_;induction k using NameKind.casesOn with
 |«local»=>exact λz=>nomatch z
 |cell=>
  refine Eg (o:=look x c.cells) λn=>?_;induction jB σ[n]? using Vs with
  |false=>exact λz=>nomatch z
  |true=>exact λz=>nomatch z
 |_=>exact λz=>nomatch z
theorem vN:∀ {xs:List Str} {vs:List V} {l:Loc} {e:V} {σ σ':List O},eH c xs vs l σ≠ .exc e σ'
 | [],[],_,_,_,_=>λh=>by injection h
 | [],_::_,_,_,_,_=>λh=>by injection h
 |_::_,[],_,_,_,_=>λh=>by injection h
 |x::xs,v::vs,l,e,σ,σ'=>by
  rw[ng];unfold mq;induction h:wr c x v l σ using Vv with
  |ok a σ₁=>exact vN
  |exc m σ₁=>exact absurd h MU
  |bad=>simp
theorem Go.dropF {L:Addr}(x:Go (L::F) X φ φ' h h')(g:L∈X):Go F X φ φ' h h':=
 ⟨x.pre,x.new,λb o e d=>by
  refine af (x.kp b o e d) λk1 k2=>?_;exact⟨λj=>k1 λq=>by
   rcases UJ.mp q with q|q
   ·exact d (Ts _ (q▸g))
   ·exact j q,k2⟩,x.xs⟩
theorem Cg {xs:List Str}{vs:List V}{j x:Str}{b:Addr}{d:Value}{s:Shared}{φ:al}{σ:List O}{α β:Type}{RV:al->Heap->α->β->Prop}{f:List (Str×Nat)->Loc->M α}{Q0:β->Shared->Prop}{Er0 Er:Value->Shared->Prop}{Q:Env->Shared->Prop}
  (hk:sc.kind=.function)(hn:(sc.names.map (·.1)).Nodup)(N:x= "law"->d=.ref W.cl.code/\j= "law.<locals>.")(S:W.St (ao fs) φ σ s.heap)(z:VRs φ s.heap vs us)
  (p:aj W fs X RV (mq (hM sc) (λB=>mq (eH ⟨x,sc,B⟩ xs vs []) (f B)) σ) s φ Q0 Er0)
  (k:∀E' h' tk φ' σ' B l',E'.scope=sc->E'.frame=some E'.locals->E'.code=d->s.heap.get? E'.locals=none->W.St (E'.locals::ao fs) φ' σ' h'->W.Loc E' ⟨x,sc,B⟩ l' φ' h'->Go (ao fs) [] φ φ' s.heap h'->
   aj W fs X RV (f B l' σ') s φ Q0 Er0->Q E' {s with heap:=h',toks:=tk}):
  wpAny (model W.prog W.w) A (newFunctionEnv sc mainGlobals [] ((xs.zip us)) j (some b) d none builtinsNs) Q Er s:=by
 simp only[newFunctionEnv,Option.isSome_none,TJ,Vl];refine Vf (wpAny_alloc ?_);refine Vf (wpAny_layCells _ (λname kind cells=>by cases hkc:kind==NameKind.cell<;>simp[hkc]) _ _ _ _ ?_);have k1:∀b o,s.heap.get? b=some o->(s.heap.push {cls:=.type "frame",data:=.dict #[] }).get? b=some o:=λb o e=>Tc _ e;refine af (S.grow k1) λm g₀=>?_;have D:s.heap.get? s.heap.objs.size=none:=bK;have gL:(s.heap.push {cls:=.type "frame",data:=.dict #[] }).get? s.heap.objs.size=some {cls:=.type "frame",data:=.dict #[] }:=TA _ rfl;have As:=Asd.new (h':=s.heap.push {cls:=.type "frame",data:=.dict #[] }) S D (λo e=>by rw[gL]at e;injection e with e;rw[<-e];exact bP rfl);have S₁:W.St (s.heap.objs.size::ao fs) φ σ (s.heap.push {cls:=.type "frame",data:=.dict #[] }):=⟨m.base,m.nodup,m.fresh,m.len,m.obj,λg hg=>by
  rcases UJ.mp hg with q|q
  ·rw[q];exact⟨⟨_,_,_,gL,rfl⟩,As.phi,As.base⟩
  ·exact m.frames g q⟩
 refine kG (Gi sc.names [] hn S₁) λt v B hcs S₂ G hc=>?_;rw[show({s with heap:=s.heap.push {cls:=.type "frame",data:=.dict #[] } }:Shared).heap.objs.size=(s.heap.push {cls:=.type "frame",data:=.dict #[] }).objs.size from rfl];have hmk:hM sc σ=.ok B v:=hcs;unfold mq at p;rw[hmk]at p;dsimp only at p;have sz:(s.heap.push {cls:=.type "frame",data:=.dict #[] }).objs.size=s.heap.objs.size+1:=UA ..;have hLoc:W.Loc (newEnv sc s.heap.objs.size mainGlobals (cellsFrom (s.heap.push {cls:=.type "frame",data:=.dict #[] }).objs.size sc.names []) j (some b) d none builtinsNs) ⟨x,sc,B⟩ [] t (pushCells (s.heap.push {cls:=.type "frame",data:=.dict #[] }) sc.names):=by
  refine⟨rfl,hk,rfl,rfl,⟨_,(Heap.Ns.new s.heap (.type "frame")).keeps (pushCells_keeps _ _),λx V e=>nomatch e⟩, ?_,As.base,λy n hy=>?_,λq=>?_⟩
  ·intro q
   rcases G.new _ q with r|r
   ·exact As.phi r
   ·have r':(s.heap.push {cls:=.type "frame",data:=.dict #[] }).get? s.heap.objs.size=none:=r
    rw[gL]at r';cases r'
  ·obtain⟨_,a,h2,h3⟩:=hc y n hy;exact⟨a,h2,h3⟩
  ·exact N q
 induction hw:eH ⟨x,sc,B⟩ xs vs [] v using Vv with
 |bad=>rw[hw]at p;exact p.elim
 |exc e σ'=>exact absurd hw vN
 |ok l' σ₂=>
  rw[hw]at p;have H:Go (ao fs) [] φ t s.heap (pushCells (s.heap.push {cls:=.type "frame",data:=.dict #[] }) sc.names):=by
   have J:Go (ao fs) [s.heap.objs.size] φ t _ _:=(Go.more (X:= [s.heap.objs.size]) (λa U=>by
    rw[TO.mp U];exact⟨As.phi,_,gL,bP rfl⟩) G).dropF (by simp)
   exact Go.transN au g₀ J λa U=>.inr (by rw[TO.mp U];exact D)
  refine Vf (Gj (E:=newEnv sc s.heap.objs.size mainGlobals (cellsFrom (s.heap.push {cls:=.type "frame",data:=.dict #[] }).objs.size sc.names []) j (some b) d none builtinsNs) (c:=⟨x,sc,B⟩) (l:= []) (vs:=vs)
   (fs:=newEnv sc s.heap.objs.size mainGlobals (cellsFrom (s.heap.push {cls:=.type "frame",data:=.dict #[] }).objs.size sc.names []) j (some b) d none builtinsNs::fs)
   (s:= {s with heap:=pushCells (s.heap.push {cls:=.type "frame",data:=.dict #[] }) sc.names}) _ _ (λZ Z Z=>rfl) S₂ hLoc (VRs.go S au H z) ?_)
  rw[hw];intro u h₃ tk P S₃ g₃ L₃;refine Vi<|k (newEnv sc s.heap.objs.size mainGlobals (cellsFrom (s.heap.push {cls:=.type "frame",data:=.dict #[] }).objs.size sc.names []) j (some b) d none builtinsNs) h₃ tk P σ₂ B l' rfl rfl rfl D S₃ L₃ ?_ p;exact Go.transN au H (Go.dropF (L:=s.heap.objs.size) g₃ (by simp[newEnv])) λa U=>.inr (by rw[TO.mp U];exact D)
end
section
variable {W:Wd} {A:Around} {fs:List Env} {X Y:List Addr} {E:Env} {c:Cx} {l:Loc}
variable {F:List Addr} {φ φ' φ'':al} {σ:List O} {h h' h'' h₀:Heap} {a I:Addr} {it:It} {i:Nat}
theorem nN {E':Env}(d:E'.frame=some L'):ao (E'::fs)=L'::ao fs:=by unfold ao;rw[TC,d]
theorem rX.air {Y:Heap}{h:Heap}(x:rX Y fs e C h):Y.StaysIn h/\Y.get? e=none/\h.FunFrames Y fs/\ ∃a0,MS Y e C a0 h:=x
theorem ErrR.leave {E':Env}(hf:E'.frame=some L')(hfr:A.frames=some (E'::fs)){φ p φ':al}{h y:Heap}{B:List O}{m:V}{s':Shared}{Q:Unit->Shared->Prop}{Er:Value->Shared->Prop}
  (g:Go (ao fs) [] φ p h y)(S:h.get? L'=none)(x:ErrR W (E'::fs) [L'] p y φ' B m e s'.heap)
  (k:∀h'',ErrR W fs [] φ h φ' B m e h''->Q () {s' with heap:=h''}):wpAny (model W.prog W.w) A (leaving E' (.ref e)) Q Er s':=by
 refine aB λD j=>?_;obtain⟨pre,new,Y,st,kp,fr,air,ms⟩:=x;obtain⟨a1,a2,a3,a0,a4⟩:=rX.air air;rw[nN hf]at kp fr;refine j<|Ee hfr a3 hf a1 a2 a4 λh'' lf dd=>k h''<|aB λD j=>fD (lf) λb1 b2 b3 b4=>j<|⟨g.pre.trans pre,λa ha=>?_,Y,st,λb o t hb Z hF=>?_,λf P=>?_,⟨b1,a2,b2.2.2,a0,.inr b3⟩, ?_⟩
 ·rcases new a ha with q|q
  ·exact g.new a q
  ·refine aB λD j=>?_
   by_cases u:a∈aT φ
   ·refine j<|.inl u
   ·refine j<|.inr (dP au g u q)
 ·have H:=(g.kp b o t (by simpa using hb)).1 hF
  refine kp b o H (λq=>(g.new b q).elim hb λr=>by rw[t]at r;cases r) (λq=>?_) λq=>?_
  ·rw[TO.mp q,S]at t;cases t
  ·rcases UJ.mp q with r|r
   ·rw[r,S]at t;cases t
   ·exact hF r
 ·refine aB λD j=>fD (fr f (Tt _ P)) λc1 c2 N c5=>?_;obtain⟨o,es,n,G,c4⟩:=N
  obtain⟨sl,d1⟩:=b4 f o G λvs q=>by rw[c4]at q;cases q
  refine j<|⟨c1,c2,⟨_,es,n,d1,c4⟩,λZ o' t=>?_⟩;have u:f∉aT φ:=λz=>c2 (dO (g.pre.trans pre) f z);refine aB λD j=>?_;obtain⟨_,sl1,H⟩:=g.kp f o' t (by simpa using u);refine am (c5 (λq=>by rw[TO.mp q,S]at t;cases t) _ H) λsl2 U=>j ?_;rw[U]at G;injection G with G;subst G;exact⟨sl,d1⟩
 ·refine aB λD j=>?_
  obtain⟨oe,d,mm,v,m1,m2,m3,m4,m5⟩:=ms;refine ac (dd oe m1) λJ H U=>j<|⟨J,d,mm,v,H,U.trans m2,m3,m4,m5⟩
structure Room (A:Around) (fs:List Env) (n:Nat):Prop where
 frames:A.frames=some fs
 depth:A.depth+1+2*n+20<=recursionLimit
 units:A.units+3+12*n+300<=cLine
 handled:A.handled=none
 envs:∀e∈fs,e.scope.kind≠ .module/\ ∃L,e.frame=some L
theorem Room.deeper {n:Nat}(d:Room A fs n){E':Env}{L':Addr}(g:E'.scope.kind≠ .module)(j:E'.frame=some L'):At (A.deeper E') (E'::fs) n:=
 ⟨Around.frames_deeper d.frames,d.depth,by have:=d.units;rw[Around.deeper_units];exact Qk this,d.handled,λe k=>by
  rcases UJ.mp k with q|q
  ·rw[q];exact⟨g,L',j⟩
  ·exact d.envs e q⟩
theorem At.room(d:At A fs (n+1)):Room A fs n:=
 ⟨d.frames,by have:=d.depth;exact tt (Tw (tt (UX (TR _ 1 (2*_))) (Nat.le_succ _)) 20) this,by have:=d.units;exact gp (by decide) this,d.handled,d.envs⟩
theorem St.pop(S:W.St (L'::F) φ σ h):W.St F φ σ h:=S.drop λf d=>Tt _ d
theorem vO(Wk:WdOk6 W)(hA:Room A fs n)(K:FuncOk W x f b)
  (ex:∀ {A fs E c},At A fs n->Top E fs-> ∀l st,bT W A fs E c l (exec st E) (I0.ex c l st))
  {vs:List V}{us:List Value}{s:Shared}{φ:al}{σ:List O}{R:Result->Shared->Prop}(S:W.St (ao fs) φ σ s.heap)(z:VRs φ s.heap vs us)
  (p:aj W fs [] VR (fj I0 x f vs σ) s φ (λv y=>R (.ok (.ret v)) y) (λe y=>R (.error e) y)):codeAny (model W.prog W.w) A (.call (.ref b) ⟨us,[]⟩) R s:=by
 refine aB λgP D=>?_;obtain⟨o,fd,e1,e2,e3,e4,e5,e6,e7,e8,e9,e10,e11⟩:=K.ex;have H:=hA.depth;have hrl:recursionLimit=1000:=rfl;unfold fj at p;refine D ?_;induction hb:pS f.params.args f.params.defaults vs using Vp with
 |none=>rw[hb]at p;exact p.elim
 |some bs=>
  rw[hb]at p;dsimp only at p;refine codeAny_call_function (tt (tt (Ue (_+1) (2*_)) (Ue _ 20)) H) (S.base _ _ e1) e2 (by rw[e4];exact K.cor) (by rw[e4];exact K.gen) e3 (e8.keeps S.base)<|Gh K S.base e9 e11 z hb λus' z' hl=>?_;rw[e4,e5,e6,e7];refine Cg (x:=x) (fs:=fs) K.kind K.nodup (λq=>?_) S z' p λE' h' tk φ' t cs l' h1 h2 h3 h4 S' L' g q=>?_
  ·obtain⟨q1,q2⟩:=e10 q
   exact⟨q1,by rw[q2];decide+kernel⟩
  ·refine⟨Wk.lim.keeps S'.base,codeAny_func ?_⟩
   have hkm:E'.scope.kind≠ .module:=by rw[h1,K.kind];decide
   have J:=hA.deeper hkm h2;have N:ao (E'::fs)=E'.locals::ao fs:=nN h2;have U:aj W (E'::fs) [E'.locals] (FR W E' ⟨x,f.scope,cs⟩) (db (I0.ex ⟨x,f.scope,cs⟩) f.body l' t) {s with heap:=h',toks:=tk} φ'
     (λfl y=>R (.ok (.ret (match fl with|.ret v=>v|_=>.none))) y)
     (λe y=>wpAny (model W.prog W.w) (A.deeper E') (leaving E' e) (λZ r=>R (.error e) r) (λe' r=>R (.error e') r) y):=by
    unfold mq at q;induction hm:db (I0.ex ⟨x,f.scope,cs⟩) f.body l' t using Vv with
    |bad=>rw[hm]at q;exact q.elim
    |exc m σ₂=>
     rw[hm]at q;intro e h'' d φ'' xe;exact ErrR.leave h2 J.frames g h4 xe λP xe'=>q e P d φ'' xe'
    |ok a σ₂=>
     rw[hm]at q;intro fl h'' d φ'' k B j;refine aB λgP D=>?_;obtain⟨fl0,l''⟩:=a;obtain⟨L'',j⟩:=j;rw[N]at k B;have G:Go (ao fs) [] φ φ'' s.heap h'':=Go.transN au g (B.dropF (by simp)) λa ha=>.inr (by rw[TO.mp ha];exact h4);induction fl0 using Mine.Fl.casesOn with
     |next=>refine D ?_;have z3:fl=.next:=j;rw[z3];exact q .none h'' d φ'' k.pop G .none
     |cont=>refine D ?_;have z3:fl=.cont:=j;rw[z3];exact q .none h'' d φ'' k.pop G .none
     |ret v=>refine D ?_;obtain⟨u,z3,z4⟩:=j;rw[z3];exact q u h'' d φ'' k.pop G z4
   exact hU (λl st=>ex J ⟨⟨fs,rfl⟩,h2⟩ l st) f.body l' {s with heap:=h',toks:=tk} φ' t _ _ (by rw[N];exact S') L' U
end
structure MakeOk (W:Wd) (C:Addr) (b:Addr):Prop where
 makes:makesIn W.K C=true
 keep:keepIn W.K (.ref C)=true
 init:findIn W.K (.ref C) "__init__"=some (some (.ref b))
 fn:typeIn W.K (.ref b)=some (.type "function")
structure WdOk7 (W:Wd):Prop extends WdOk6 W where
 defs:∀x f,W.P.fn x=some f-> ∃b,W.mg x=some (.ref b)/\FuncOk W x f b
 clss:∀x f,W.P.init x=some f-> ∃C b,W.cl.at_ x=some C/\W.mg x=some (.ref C)/\MakeOk W C b/\FuncOk W "__init__" f b
 names:∀x f,(W.P.fn x=some f\/W.P.init x=some f)->(x==("__debug__":Str))=false
section
variable {W:Wd} {A:Around} {fs:List Env} {X Y:List Addr} {E:Env} {c:Cx} {l:Loc}
variable {F:List Addr} {φ φ' φ'':al} {σ:List O} {h h' h'' h₀:Heap} {a I:Addr} {it:It} {i:Nat}
theorem xU(A:Around)(d:Args):A.under (.builtin "type.__call__" d)= {A with depth:=A.depth+(Code.builtin "type.__call__" d).weight,units:=A.units+(Code.builtin "type.__call__" d).cUnits}:=rfl
theorem At.roomTc(j:At A fs (n+1))(d:Args):Room (A.under (.builtin "type.__call__" d)) fs n:=by
 have w:(Code.builtin "type.__call__" d).weight<=1:=by
  have f:(Code.builtin "type.__call__" d).frames=0:=by kernel_rfl
  have g:(Code.builtin "type.__call__" d).isGuard=false:=by kernel_rfl
  have c:(Code.builtin "type.__call__" d).isCaller=false:=by kernel_rfl
  unfold Code.weight;rw[f,g,c]
  split<;>simp
 have u:(Code.builtin "type.__call__" d).cUnits=1:=by kernel_rfl
 rw[xU,u];exact⟨j.frames,by have:=j.depth;show A.depth+_+1+2*n+20<=_;exact tt (Tw (tt (Tw (TE (Uh w) _) (2*_)) (UX (TR _ 2 (2*_)))) 20) this,by have:=j.units;show A.units+1+3+12*n+300<=_;exact P6 this,j.handled,j.envs⟩
theorem Ch(Wk:WdOk7 W)(hA:At A fs (n+1))(hx:W.P.init x=some f)
  (ex:∀ {A fs E c},At A fs n->Top E fs-> ∀l st,bT W A fs E c l (exec st E) (I0.ex c l st))
  {vs:List V}{us:List Value}{s:Shared}{φ:al}{σ:List O}{Q:Value->Shared->Prop}{Er:Value->Shared->Prop}{C b:Addr}(hC:W.cl.at_ x=some C)(K:MakeOk W C b)(KF:FuncOk W "__init__" f b)(S:W.St (ao fs) φ σ s.heap)(z:VRs φ s.heap vs us)
  (p:aj W fs [] VR (mq (aC (.inst x [])) (λo=>mq (fj I0 "__init__" f (o::vs)) λr=>match r with|.none=>mr o|_=>bad) σ) s φ Q Er):wpAny (model W.prog W.w) A (call (.ref C) us) Q Er s:=by
 obtain⟨j,g,d,t,U⟩:=s;have X:=vG Wk.toWdOk S;refine Vg (make_core (makes_of X K.makes) (U5 X K.init) (λself=>bind_fn X self K.fn) (.inl rfl) ?_);have k:∀b o,j.get? b=some o->((j.push emptyDict).push (instObj C j.objs.size)).get? b=some o:=λb o e=>Tc _ (Tc _ e);have sz:(j.push emptyDict).objs.size=j.objs.size+1:=UA ..;have gx:((j.push emptyDict).push (instObj C j.objs.size)).get? (j.objs.size+1)=some (instObj C j.objs.size):=by rw[<-sz];exact TA _ rfl
 have gd:((j.push emptyDict).push (instObj C j.objs.size)).get? j.objs.size=some emptyDict:=Tc _ (TA _ rfl);have S2:=St.push (p:=(j.objs.size+1,Aux.some j.objs.size)) (o:=.inst x []) (h':=(j.push emptyDict).push (instObj C j.objs.size)) S k (λa ha=>by
  have:a=j.objs.size+1\/a=j.objs.size:=by simpa [Aux.toList]using ha
  rcases this with q|q<;>rw[q]<;>exact SQ (by show j.objs.size<=_;omega)) (by simp[Aux.toList])
  (.inst hC gx ⟨emptyDict, #[],0,gd,rfl,by intro e he;simp at he,λname=>rfl,rfl⟩ (λy=>by
   show(none:Option Value).isSome=(look y ([]:List (Str×V))).isSome;rfl) (λy V e=>nomatch e))
 refine af (S2) λm B=>?_;have zr:VR (φ++ [(j.objs.size+1,Aux.some j.objs.size)]) ((j.push emptyDict).push (instObj C j.objs.size)) (.ref σ.length) (.ref (j.objs.size+1)):=
  .ref (p:=(j.objs.size+1,Aux.some j.objs.size)) (by rw[<-S.len,SP (U9 _),U3];rfl)
 have H:=VRs.go S au B z;have p₂:aj W fs [] VR (mq (fj I0 "__init__" f (.ref σ.length::vs)) (λr=>match r with|.none=>mr (.ref σ.length)|_=>bad) (σ++ [.inst x []])) ⟨(j.push emptyDict).push (instObj C j.objs.size),g,d,t,U⟩ (φ++ [(j.objs.size+1,Aux.some j.objs.size)]) Q Er:=
  aj.after (s:=⟨j,g,d,t,U⟩) (tk:=t) au B p
 refine vO (s:=⟨(j.push emptyDict).push (instObj C j.objs.size),g,d,t,U⟩) Wk.toWdOk6 (hA.roomTc _) KF ex (us:=.ref (j.objs.size+1)::us) m (.cons zr H) ?_;have:=aj.bind (RV:=VR) (Q₁:=λv Z=>InitBack (j.objs.size+1) (λr Z=>match r with|.ok (.ret v)=>Q v Z|.ok _=>False|.error e=>Er e Z) (.ok (.ret v)) Z) au p₂ λr u σ₃ J tk φ₃ D G N q=>by
  cases N with
  |none=>
   refine⟨rfl, ?_⟩;exact q.ret0 (s:=⟨J,g,d,tk,U⟩) (tk:=tk) D (VR.go m au G zr)
  |_=>exact q.elim
 exact this
end
section
variable {W:Wd} {A:Around} {fs:List Env} {X Y:List Addr} {E:Env} {c:Cx} {l:Loc}
variable {F:List Addr} {φ φ' φ'':al} {σ:List O} {h h' h'' h₀:Heap} {a I:Addr} {it:It} {i:Nat}
def Ci(W:Wd)(A:Around)(fs:List Env)(d:Str->List V->M V):Prop:=
 ∀(x:Str) (v:Value) (vs:List V) (us:List Value) (s:Shared) (φ:al) (σ:List O) (Q:Value->Shared->Prop) (Er:Value->Shared->Prop),nq W.P x=true->W.mg x=some v->
  W.St (ao fs) φ σ s.heap->VRs φ s.heap vs us->aj W fs [] VR (d x vs σ) s φ Q Er->wpAny (model W.prog W.w) A (call v us) Q Er s
theorem qK(m:WdOk7 W)(d:nq W.P x=true):(∃f b,W.P.fn x=some f/\W.mg x=some (.ref b)/\FuncOk W x f b)\/(W.P.fn x=none/\ ∃f C b,W.P.init x=some f/\W.cl.at_ x=some C/\W.mg x=some (.ref C)/\MakeOk W C b/\FuncOk W "__init__" f b):=by
 induction h:W.P.fn x using Vp with
 |some f=>refine ac (m.defs x f h) λb j g=>?_;exact .inl ⟨f,b,rfl,j,g⟩
 |none=>
  unfold nq at d;rw[h]at d;refine am (S5.mp (show(W.P.init x).isSome=true by simpa using d)) λf k=>?_;refine bM (m.clss x f k) λC b j g p o=>.inr ⟨rfl,f,C,b,k,j,g,p,o⟩
theorem Cj(m:WdOk7 W)(u:At A fs (n+1)){wf:Nat}
  (t:∀ {A fs E c},At A fs n->Top E fs-> ∀l st,bT W A fs E c l (exec st E) (I0.ex c l st)):Ci W A fs (AH W.P wf I0).call:=λx v vs us s φ σ Q Er w d S z p=>by
 rcases qK m w with⟨f,b,g,k,j⟩|⟨y,f,C,b,g,k,j,B,D⟩
 ·rw[k]at d;injection d with d;subst d
  have q:aj W fs [] VR (fj I0 x f vs σ) s φ Q Er:=by
   have e:(AH W.P wf I0).call x vs=fj I0 x f vs:=by show(match W.P.fn x with|some fn=>_|none=>_)=_;rw[g]
   rw[e]at p;exact p
  exact Vg (vO m.toWdOk6 u.room j t S z q)
 ·rw[j]at d;injection d with d;subst d
  have q:aj W fs [] VR (mq (aC (.inst x [])) (λo=>mq (fj I0 "__init__" f (o::vs)) λr=>match r with|.none=>mr o|_=>bad) σ) s φ Q Er:=by
   have e:(AH W.P wf I0).call x vs=mq (aC (.inst x [])) (λo=>mq (fj I0 "__init__" f (o::vs)) λr=>match r with|.none=>mr o|_=>bad):=by
    show(match W.P.fn x with|some fn=>_|none=>match W.P.init x with|some fn=>_|none=>_)=_;rw[y,g]<;>rfl
   rw[e]at p;exact p
  exact Ch m u g t k B D S z q
theorem vP {M:Model}{h:Heap}{o:Obj}(e:h.get? b=some o)(d:o.data=.func fd):∃k,(k=Keeper.frame\/k=Keeper.machine\/k=Keeper.boundFrame)/\Looks M h (keeperOf (.ref b)) k:=
 ⟨.frame,.inl rfl,by
  obtain⟨q,p,g,m⟩:=o;have j:g=.func fd:=d;subst j;exact(Looks.ld (part:=none) e).andThen .now⟩
theorem wt {f:Value}{d:Pos}{s:Shared}{Q:Args->Shared->Prop}{M:Model}(h:Q ⟨[],[]⟩ s):wpAny M A (evalArgs f true (backTo d (starEach [] E)) []) Q Er s:=PyProof.Rows.evalArgs_nil3 h
theorem iB {P:Heap->Prop}{f:Value}{as:List Expr}{g:Pos}{s:Shared}{Q:Value->Shared->Prop}{M:Model}(j:as.any bI=false)
  (o:∀h,P h-> ∃k,(k=Keeper.frame\/k=Keeper.machine\/k=Keeper.boundFrame)/\Looks M h (keeperOf f) k)(t:P s.heap)
  (h:wpAny M A (spliced (backTo g (starEach as E))) (λvs s₁=>P s₁.heap/\wpAny M A (call f vs) Q Er s₁) Er s):wpAny M A (callWith pos f [] (backTo g (starEach as E)) []) Q Er s:=by
 have q:((backTo g (starEach as E)).any (·.1)||([]:List (Option Str×Sem Value)).any (·.1.isNone))=false:=by rw[(jk as j g).1];rfl
 refine callWith_of q o ?_;induction as using Vr with
 |nil=>
  refine wt ⟨t, ?_⟩;have h':wpAny M A (pure []) (λvs s₁=>wpAny M A (call f vs) Q Er s₁) Er s:=Vh h (λZ Z z=>z.2) λZ Z z=>z;exact λm p d=>by
   have k:=h' m p d;rw[Sem.wp_pure']at k;exact k m p d
 |cons e r=>
  rw[UG,Tn]at j;rw[cN j.1]at h ⊢;exact evalArgs_plain h
theorem Gk(t:WdOk7 W){np:Pos}{as:List Expr}{f:Expr->M V}{m:Str->List V->M V}(G:c.scope.names.lookup x=some .globalImplicit)(H:as.any bI=false)(r:nq W.P x=true)(J:∀e∈as,aI W A fs E c l VR (eval e E) (f e))(N:Ci W A fs m):
  aI W A fs E c l VR (eval (.Call (.Name x np) as [] pos) E) (mq (dN f as) λvs=>m x vs):=λs φ σ Q Er S L p=>by
 refine Uk<|aB λgP w=>?_;rcases qK t r with⟨D,b,B,y,v⟩|⟨h0,D,C,b,B,y,v,h4,h5⟩
 ·refine w<|dR t.toWdOk G (t.names x D (.inl B)) S L (.inl y)<|aB λgP w=>aV (v.ex) λo fd U e2 Z=>w<|iB (P:=λh=>h.get? b=some o) H (λh e=>vP e e2) (S.base _ _ U) ((gO as J).after S L p λvs us s₁ k j d u z g q=>⟨d.base _ _ U, ?_⟩)
  exact N x _ vs us s₁ k j Q Er r y d z q
 ·refine w<|dR t.toWdOk G (t.names x D (.inr B)) S L (.inl v)<|iB (P:=λh=>W.K.In h) H (keeps_K h4.keep) (vG t.toWdOk S) ((gO as J).after S L p λvs us s₁ k j d u z g q=>⟨vG t.toWdOk d, ?_⟩)
  exact N x _ vs us s₁ k j Q Er r v d z q
theorem zO(h:jD sc=true):sc.kind=.function/\sc.isGenerator=false/\sc.isCoroutine=false/\(∀x∈sc.names,x.2≠ .cell):=by
 unfold jD at h;simp only[T5,Vd,T6]at h;refine af (h) λd k=>?_;obtain⟨⟨j,m⟩,g⟩:=d;exact⟨j,m,g,λx o=>by have:=k x o;simp at this;exact this.1⟩
theorem Gl(Wk:WdOk7 W)(hA:At A fs (n+1))(ev:∀ {A fs E c},At A fs n-> ∀l e,aI W A fs E c l VR (eval e E) (I0.ev c l e))
  {b:Addr}{o:Obj}{body:Expr}{sc:Scope}{k:List (Str×Nat)}{s:Shared}{φ:al}{σ:List O}{Q:Value->Shared->Prop}{Er:Value->Shared->Prop}(S:W.St (ao fs) φ σ s.heap)(ho:s.heap.get? b=some o)(hc:CloR φ s.heap o body sc k)(hl:jD sc=true)
  (p:aj W fs [] VR (I0.ev ⟨Str.empty,sc,k⟩ [] body σ) s φ Q Er):wpAny (model W.prog W.w) A (call (.ref b) []) Q Er s:=by
 refine aB λgP P=>fD (zO hl) λk1 k2 k3 k4=>?_;obtain⟨c1,fd,d1,d2,d3,d4,d5,d6,d7,d8,d9,d10,d11⟩:=hc;have hR:=hA.room;have N:=hA.depth;have hrl:recursionLimit=1000:=rfl;refine P<|Vg (kla_callFunE (tt (Ue (_+1) (2*_+21)) (tt (UX (Nat.add_assoc (_+1) (2*_) 21).symm) (tt (UX (Vk (· +21) (TR _ 1 (2*_)))) N))) ho d1 (by rw[d3];exact k3) (by rw[d3];exact k2) d2 d10 ?_);refine kQ (ps:= []) (ds:= []) (dv:= []) (by rw[d6,d7,d8]) rfl (by simp) (λQ' hq=>?_) (.inl rfl) ?_
 ·rw[d9]
  exact Vf (m:=notAStandIn .none) (Vi (Vi (hq _ rfl)))
 rw[d3,d4,d5];refine wpAny_newFunctionEnv k4 (by intro y hy;simp at hy) (λd hns hsb=>?_) k1;have z:s.heap.get? s.heap.objs.size=none:=bK;have kk:∀b o,s.heap.get? b=some o->d.get? b=some o:=λb o e=>hsb.extBut b o (U2 (UN e)) (Tc _ e);refine⟨(Wk.lim.keeps (S.grow kk).1.base), ?_⟩;refine aB λgP P=>af (S.grow kk) λj t=>bw (id hns) λoL esL epL eL dL Z=>?_;have J:=Asd.new (h':=d) S z (λo' e=>by rw[eL]at e;injection e with e;rw[<-e];exact bP dL);have H:W.St (s.heap.objs.size::ao fs) φ σ d:=⟨j.base,j.nodup,j.fresh,j.len,j.obj,λg hg=>by
  rcases UJ.mp hg with q|q
  ·rw[q];exact⟨⟨oL,esL,epL,eL,dL⟩,J.phi,J.base⟩
  ·exact j.frames g q⟩
 refine P ?_;generalize B:newEnv sc s.heap.objs.size mainGlobals fd.closure (fd.qualname++ ".<locals>.") (some b) fd.code none builtinsNs=E';have f1:E'.frame=some s.heap.objs.size:=by rw[<-B];rfl
 have f2:E'.locals=s.heap.objs.size:=by rw[<-B];rfl
 have f3:E'.scope=sc:=by rw[<-B];rfl
 have U:W.Loc E' ⟨Str.empty,sc,k⟩ [] φ d:=by
  refine⟨f3,by rw[f3];exact k1,by rw[<-B];rfl,by rw[<-B];rfl,⟨_,by rw[f2];exact hns,λx V e=>nomatch e⟩,by rw[f2];exact J.phi,by rw[f2];exact J.base,λx n hx=>?_,λq=>absurd (show Str.empty=("law":Str) from q) (by decide+kernel)⟩;refine aB λgP P=>ac (d11 x n hx) λa r1 r2=>P<|⟨a,by rw[<-B];exact r1,r2⟩
 have hA':=hR.deeper (E':=E') (by rw[f3,k1];decide) f1;have hfs:ao (E'::fs)=s.heap.objs.size::ao fs:=nN f1;refine kla_codeExpr (ev hA' [] body {s with heap:=d,toks:=s.toks+([]:List (Str×Value)).length} φ σ _ _ (by rw[hfs];exact H) U ?_);induction hm:I0.ev ⟨Str.empty,sc,k⟩ [] body σ using Vv with
 |bad=>rw[hm]at p;exact p.elim
 |exc m σ₂=>
  rw[hm]at p;intro e h'' r φ'' xe;exact ErrR.leave f1 hA'.frames t z xe.more λh₃ xe'=>p e h₃ r φ'' xe'
 |ok v σ₂=>
  rw[hm]at p;intro u h'' r φ'' G D z'';rw[hfs]at G D;have g3:Go (ao fs) [s.heap.objs.size] φ φ'' d h'':=(D.more (X:= [s.heap.objs.size]) (λa ha=>by
   rw[TO.mp ha];exact⟨J.phi,oL,eL,bP dL⟩)).dropF (by simp)
  exact p u h'' r φ'' G.pop (Go.transN au t g3 λa ha=>.inr (by rw[TO.mp ha];exact z)) z''
theorem zP(H:WdOk7 W)(hA:At A fs (n+1))(J:∀ {A fs E c},At A fs n-> ∀l e,aI W A fs E c l VR (eval e E) (I0.ev c l e)){D:Pos}(hd:(x==("__debug__":Str))=false):
  aI W A fs E c l VR (eval (.Call (.Name x D) [] [] pos) E) (mq (rd c l x) (BU I0)):=λs φ σ Q Er S L p=>by
 refine Uk ?_;have hx:¬x= "__debug__":=by simpa using hd
 have y:=xK (W:=W) (A:=A) (fs:=fs) (E:=E) (c:=c) (l:=l) H.toWdOk (x:=x) (pos:=D);rw[Vn hx]at y;refine y.after S L p λv u s₁ w m d G z g q=>ac q.el λr hr q=>af q.it λt q=>ac (S9.mp hr) λk N j=>?_;rw[cS N]at z;refine ac z.ref' λpr ez e1=>aV (d.obj k _ _ e1 (IK j)).clo' λa o ep B j=>?_;rw[ez,ep];refine ac j.ex λfd U Z=>iB (P:=λh=>h.get? _=some _) (as:= []) rfl (λh e=>vP e U) B<|Uw ⟨B,Gl H hA J d B j t q⟩
end
end Mine
end
noncomputable section
open PySem PySem.W PySem.Calls
set_option maxRecDepth 100000
namespace Mine
variable {e:Expr} {u:Value} {Er:Value->Shared->Prop} {b:Bool} {n:Nat} {v:V} {pos p:Pos} {as:List Expr} {c:Cx} {l:Loc}
structure RefOk (W:Wd):Prop where
 glob:W.mg "Refusal"=some (.ref W.CR)
 obj:∃nm q N bs D hdct sn sub ab col dd k0 k1 k2 k3 k5,W.B.get? W.CR=some (excClassObj nm q W.CR N bs [.ref D,.type "Exception",.type "BaseException",.type "object"] hdct sn sub ab col dd k0 k1 k2 k3 k5 "Exception.__new__")
 cls:∃cd D,clsIn W.K W.CR=some cd/\cd.mro= [.ref W.CR,.ref D,.type "Exception",.type "BaseException",.type "object"]/\cd.hasDict=true
 call:specialIn W.K (.ref W.CR) "__call__"=some (some (.builtin "type.__call__"))
 typ:instIn W.K (.ref W.CR) (.type "type")=some true
 keep:keepIn W.K (.ref W.CR)=true
 setattr:findIn W.K (.ref W.CR) "__setattr__"=some (some (.builtin "object.__setattr__"))
 getattribute:findIn W.K (.ref W.CR) "__getattribute__"=some (some (.builtin "BaseException.__getattribute__"))
 getattr:findIn W.K (.ref W.CR) "__getattr__"=some none
 message:findIn W.K (.ref W.CR) "message"=some none
 init:∃b f p1 p2 p3 p4,findIn W.K (.ref W.CR) "__init__"=some (some (.ref b))/\typeIn W.K (.ref b)=some (.type "function")/\FuncOk W "__init__" f b/\f.body= [.Assign [.Attribute (.Name "self" p1) "message" p2] (.Name "message" p3) p4]/\
  f.params.args.map (·.arg)=(["self", "message"]:List Str)/\f.params.defaults= []/\f.scope.names.lookup ("self":Str)=some .local/\f.scope.names.lookup ("message":Str)=some .local/\(∀x∈f.scope.names,x.2≠ .cell)
section
variable {W:Wd} {A:Around} {fs:List Env} {X Y:List Addr} {E:Env} {c:Cx} {l:Loc}
variable {F:List Addr} {φ φ' φ'':al} {σ:List O} {h h' h'' h₀:Heap} {a I:Addr} {it:It} {i:Nat}
theorem Js {k:Program}{w:World}{A:Around}{R:Result->Shared->Prop}{h:Heap}{g:Array GenState}{d:Drawn}{t:Nat}{G:OsState}
  {nm q:Str}{C N D:Addr}{bs:List Value}{hdct:Bool}{sn:List Str}{sub:List Value}{ab:Bool}{col:Option Bool}{dd:Option Addr}{k0 k1 k2 k3 k5:Option Value}{f:List Value}
  (j:h.get? C=some (excClassObj nm q C N bs [.ref D,.type "Exception",.type "BaseException",.type "object"] hdct sn sub ab col dd k0 k1 k2 k3 k5 "Exception.__new__"))
  (H:R (.ok (.ret (.ref (h.objs.size+1)))) ⟨(h.push {cls:=.type "tuple",data:=.seq f.toArray}).push
   {cls:=.ref C,data:=.fields #[.ref h.objs.size,.none,.none,.none,.bool false,.none] },g,d,t,G⟩)(z:f.length<=sizeLine:=by size_fits):
  codeAny (model k w) A (.call (.builtin "Exception.__new__") ⟨.ref C::f,[]⟩) R ⟨h,g,d,t,G⟩:=by
 have F:=PySem.F.excBase_Exception;have x:=F.ends;have m:(Value.ref C:: [.ref D,.type "Exception",.type "BaseException",.type "object"]).contains (.type "Exception")=true:=by simp
 have B:(Value.ref C:: [.ref D,.type "Exception",.type "BaseException",.type "object"]).contains (.type "AttributeError")=false:=by simp
 have y:(Value.ref C:: [.ref D,.type "Exception",.type "BaseException",.type "object"]).contains (.type "NameError")=false:=by simp
 refine codeAny_call_builtin_code (Code.quiet_builtin _ F.quiet) ?_;have r:=F.noStar;simp only[checkBuiltinCall,F.newKind,F.newSplit,F.newRow]
 repeat (first|refine wpAny_loadPart_at j ?_|(refine wpAny_isSubtype_exc j ?_;rw[m])|refine wpAny_staticBase_exc j ?_|refine wpAny_madeBy_exc j ?_|simp only[bne_self_eq_false,TJ,Vl]|wp_step)
 refine codeAny_builtinAt F.entry ?_;unfold Builtin.«BaseException.__new__»;refine wpAt_bind ?_;show wpAt _ _ _ (stack>>=_) _ _ _;refine wpAt_bind (wpAt_stack λp o=>wpAt_of_wpAny ?_)
 wp_walk
 refine wpAt_of_wpAny ?_;rw[F.owner]
 repeat (first|with_reducible refine wpAny_madeHere_exc F.canon j ?_|with_reducible refine wpAny_loadPart_at j ?_|(with_reducible refine wpAny_isSubtype_exc j ?_;first|rw[m]|rw[B]|rw[y])|wp_step)
 show R _ _;rw[UA];exact H
theorem Ck(self:Value)(C D:Addr):refuseLoop self "__setattr__" [.ref C,.ref D,.type "Exception",.type "BaseException",.type "object"]=pure ():=by
 rw[refuseLoop_ref,refuseLoop_ref]
 kernel_rfl
theorem Jt(Wk:WdOk W)(C:RefOk W){e:Addr}{g:Obj}{u:Value}{s:Shared}{Q:Unit->Shared->Prop}{Er:Value->Shared->Prop}(hB:W.B.StaysIn s.heap)(q:s.heap.get? e=some g)(P:g.cls=.ref W.CR)(hd:g.dict=none){vs:Array Value}(N:g.data=.fields vs)
  (hQ:∀h' d tk,s.heap.get? d=none->(∀b o,s.heap.get? b=some o->b≠e->h'.get? b=some o)->h'.get? e=some {g with dict:=some d}->(∃mm,h'.Ns d mm/\mm "message"=some u)->Q () {s with heap:=h',toks:=tk}):
  wpAny (model W.prog W.w) A (setAttr (.ref e) "message" u) Q Er s:=by
 have X:W.K.In s.heap:=Wk.K.keeps hB;have I:InstAt s.heap e g W.CR none:=⟨q,P,by unfold notCls;rw[N],by rw[hd];trivial⟩;refine aB λgP G=>aV (C.cls) λcd D j f k=>G<|set_plain X I C.setattr ?_;have y:=PySem.F.store_object;have hm:∀M,Looks M s.heap (mroOf (.ref W.CR)) [.ref W.CR,.ref D,.type "Exception",.type "BaseException",.type "object"]:=λM=>f▸(looks_clsIn X j).andThen .now;have sub:Looks (model W.prog W.w) s.heap (isInstance (.ref e) (.type "object")) true:=I.type.andThen (looks_mroIn X (by unfold mroIn;rw[j,Ui,f];rfl));refine codeAny_call_builtin y.slot.plain y.entry (@check_slot (model W.prog W.w) _ _ {s with toks:=s.toks+1} "object.__setattr__" "object" "__setattr__" (.ref e) [.str "message" s.toks,u] [] _ y.kind y.split sub (y.args (.ref e) (.str "message" s.toks) u) ?_);rw[osa_eq,refuse_eq];refine Vf (Vf (Looks.here (s:= {s with toks:=s.toks+1}) I.type (Vf (Looks.here (s:= {s with toks:=s.toks+1}) (hm _) ?_))));rw[Ck];refine Vi (Vf (Looks.here (s:= {s with toks:=s.toks+1}) I.type (Vf (Looks.here (s:= {s with toks:=s.toks+1}) (U5 X C.message) (Vf (Vi ?_))))));dsimp only;refine Vf (Vi ?_);refine aB λgP G=>?_;obtain⟨oc,odi,oda,osl⟩:=g;dsimp only at P hd N;subst P hd N;refine G<|Vf (Vf (wpAny_loadPart (s:= {s with toks:=s.toks+1}) q (Vf (Looks.here (s:= {s with toks:=s.toks+1}) (looks_clsIn X j) ?_))));rw[k];refine Vf (wpAny_alloc (Vf ?_));have x:=Tc {cls:=.type "dict",data:=.dict #[] } q;have gd:(s.heap.push {cls:=.type "dict",data:=.dict #[] }).get? s.heap.objs.size=some {cls:=.type "dict",data:=.dict #[] }:=TA _ rfl;have r:e≠s.heap.objs.size:=U2 (UN q);refine wpAny_update (s:= {s with heap:=s.heap.push {cls:=.type "dict",data:=.dict #[] },toks:=s.toks+1}) x ?_;have gu:=Tg (λo:Obj=> {o with dict:=some s.heap.objs.size}) x rfl;have H:=(Td (s.heap.push {cls:=.type "dict",data:=.dict #[] }) (λo:Obj=> {o with dict:=some s.heap.objs.size}) r).trans gd;refine Vi (a:=some s.heap.objs.size) (Vf (Vi (Vf ?_)));refine AT (n:=0) (m:=λZ=>none) ⟨_,_,_,H,rfl,by intro e q;simp at q,λname=>rfl,rfl⟩ λh' n' sb o' L es ep t z=>?_;refine Vf (wpAny_lookBehind (s:=({s with heap:=h',toks:=s.toks+1+1}:Shared)) L (by
  rw[t];refine pastItsLine_dict ?_;rw[z];have:sizeLine=16777216:=sizeLine_eq
  split<;>omega) (Vi ?_))
 refine hQ h' s.heap.objs.size _ bK (λb o S U=>?_) ?_ ⟨_,n'.ns,by simp⟩
 ·have J:b≠s.heap.objs.size:=U2 (UN S)
  rw[sb.2 b J,Td _ _ (Vm U)];exact Tc _ S
 ·rw[sb.2 e r];exact gu
end
section
variable {W:Wd} {A:Around} {fs:List Env} {X Y:List Addr} {E:Env} {c:Cx} {l:Loc}
variable {F:List Addr} {φ φ' φ'':al} {σ:List O} {h h' h'' h₀:Heap} {a I:Addr} {it:It} {i:Nat}
structure Made (W:Wd) (u:Value) (e:Addr) (h':Heap):Prop where
 ex:∃oe t d mm,h'.get? e=some oe/\oe.cls=.ref W.CR/\oe.data=.fields #[.ref t,.none,.none,.none,.bool false,.none]/\oe.dict=some d/\h'.Ns d mm/\mm "message"=some u
theorem Gm(Wk:WdOk7 W)(Rk:RefOk W){b:Addr}{f:Fn}{p1 p2 p3 p4:Pos}(z:FuncOk W "__init__" f b)(t:f.body= [.Assign [.Attribute (.Name "self" p1) "message" p2] (.Name "message" p3) p4])(g:f.params.args.map (·.arg)=(["self", "message"]:List Str))(hdf:f.params.defaults= [])
  (H:f.scope.names.lookup ("self":Str)=some .local)(L:f.scope.names.lookup ("message":Str)=some .local)(y:∀x∈f.scope.names,x.2≠ .cell)(G:A.depth<recursionLimit)
  {e:Addr}{J:Obj}{u:Value}{s:Shared}{R:Result->Shared->Prop}(S:W.B.StaysIn s.heap)(he:s.heap.get? e=some J)(hc:J.cls=.ref W.CR)(hd:J.dict=none){vs:Array Value}(hf:J.data=.fields vs)
  (hQ:∀h' d tk,s.heap.get? d=none->(∀b o,s.heap.get? b=some o->b≠e->h'.get? b=some o)->h'.get? e=some {J with dict:=some d}->(∃mm,h'.Ns d mm/\mm "message"=some u)->R (.ok (.ret .none)) {s with heap:=h',toks:=tk}):
  codeAny (model W.prog W.w) A (.call (.ref b) ⟨[.ref e,u],[]⟩) R s:=by
 refine aB λgP P=>?_;obtain⟨o,fd,e1,e2,e3,r,e5,e6,e7,e8,e9,e10,e11⟩:=z.ex;have D:fd.defaults=.none:=by
  refine aB λgP P=>?_;rcases e11 with⟨_,h⟩|⟨k,p,T,oT,n,h,_⟩
  ·refine P<|h
  ·refine P ?_
   rw[hdf]at h;cases h
 have C:f.params.args.length=2:=by
  have:=Vk List.length g;simpa using this
 refine P<|codeAny_call_def (fd:=fd) (body:=f.body) (binds:= [("self",.ref e),("message",u)]) G (S _ _ e1) e2 (Wk.lim.keeps S) (e8.keeps S) e3 (λM A' E' Q' hq=>?_) (by rw[r];exact y) ?_ (λj N U=>?_) (by rw[r];exact z.cor) (by rw[r];exact z.gen) (by rw[r];exact z.kind)
 ·refine kQ (ps:=f.params.args) (dv:= []) e9 (by rw[C];rfl) z.pnodup (λQ'' hq'=>?_) (.inl rfl) ?_
  ·rw[D]
   exact Vf (m:=notAStandIn .none) (Vi (Vi (hq' _ rfl)))
  ·rw[g];exact hq
 ·intro x hx
  rw[r];rcases UJ.mp hx with q|q
  ·rw[q];exact H
  ·rw[TO.mp q];exact L
 ·rw[t]
  have hk:(callEnv fd s.heap.objs.size b).scope.kind=.function:=by show fd.scope.kind=_;rw[r];exact z.kind
  have Z:(callEnv fd s.heap.objs.size b).kindOf "self"=some .local:=by show fd.scope.names.lookup _=_;rw[r];exact H
  have hn2:(callEnv fd s.heap.objs.size b).kindOf "message"=some .local:=by show fd.scope.names.lookup _=_;rw[r];exact L
  refine wpAny_execs_cons (plainObj_wpAny_Assign_Attribute (wpAny_Name (Ty hk hn2 N (v:=u) (by kernel_rfl) ?_) (by decide+kernel)) (by rfl));refine wpAny_Name (Ty hk Z N (v:=.ref e) (by kernel_rfl) ?_) (by decide+kernel);refine Jt Wk.toWdOk Rk (s:= {s with heap:=j,toks:=s.toks+_}) (λb o q=>U b o (S b o q)) (U _ _ he) hc hd hf λh' d tk hn keep ge gm=>wpAny_execs_nil<|hQ h' d tk ?_ (λb o q hb=>keep b o (U b o q) hb) ge gm;induction q:s.heap.get? d using Vp with
  |none=>rfl
  |some o=>have:=U d o q;have hn':j.get? d=none:=hn;rw[hn']at this;cases this
theorem xV(Wk:WdOk7 W)(C:RefOk W)(J:A.depth+2<recursionLimit){s:Shared}{Q:Value->Shared->Prop}{Er:Value->Shared->Prop}(hB:W.B.StaysIn s.heap)
  (hQ:∀h' e tk,(∀b o,s.heap.get? b=some o->h'.get? b=some o)->s.heap.get? e=none->(∃oe t d U,h'.get? e=some oe/\oe.cls=.ref W.CR/\oe.data=.fields #[.ref t,.none,.none,.none,.bool false,.none]/\oe.dict=some d/\s.heap.get? d=none/\d≠e/\h'.Ns d U/\U "message"=some u)->Q (.ref e) {s with heap:=h',toks:=tk}):
  wpAny (model W.prog W.w) A (call (.ref W.CR) [u]) Q Er s:=by
 refine aB λgP gH=>?_;obtain⟨j,g,d,t,os⟩:=s;have X:W.K.In j:=Wk.K.keeps hB;refine xq (C.obj) λnm q N bs D hdct sn sub ab col dd k0 k1 k2 k3 k5 hCB=>?_;have hC:j.get? W.CR=_:=hB _ _ hCB;refine aV (C.cls) λcd D' S x hdict=>?_;obtain⟨b,f,p1,p2,p3,p4,i1,i2,KF,i4,i5,i6,i7,i8,i9⟩:=C.init;have call:=looks_specialIn (M:=model W.prog W.w) X C.call;have L:=looks_instIn (M:=model W.prog W.w) X C.typ;have P:Looks (model W.prog W.w) j (Bind.madeBy (.ref W.CR)) (some "Exception.__new__"):=by
  intro A' Q' E' s' k z;obtain⟨h1,g1,d1,t1,o1⟩:=s';refine wpAny_madeBy_exc (k _ _ hC) z
 have self:Looks (model W.prog W.w) j (isSubtype (.ref W.CR) (.ref W.CR)) true:=looks_mroIn X (by unfold mroIn;rw[S,Ui,x];simp);have hm:Looks (model W.prog W.w) j (mroOf (.ref W.CR)) cd.mro:=(looks_clsIn X S).andThen .now;have e4:cd.mro.isEmpty=false:=by rw[x];rfl
 have hi:=U5 (M:=model W.prog W.w) X i1;have hb:∀self,Looks (model W.prog W.w) j (bindSpecial (.ref b) self) (.ref b,[self]):=λself=>bind_fn X self i2;refine gH<|Vg (codeAny_of_tree ?_);show wpAny _ _ (callAny (.ref W.CR) _) _ _ _;refine nd_load hC ?_;show wpAny _ _ (callAny.viaDunder (.ref W.CR) _) _ _ _;unfold callAny.viaDunder;refine Vf (call.at ?_);dsimp only;rw[tc_bind];refine Vf (Vi (Vf (Vi ?_)));refine Vi (a:=Fin.again (.call (.builtin "type.__call__") ⟨.ref W.CR:: [u],[]⟩)) (And.intro rfl ?_);refine codeAny_call_builtin_at (Code.quiet_builtin _ (by decide+kernel)) entry_typeCall (PySem.W.check_slot tc_kind tc_split L (tc_args _ _ _) ?_);unfold Builtin.«type.__call__»
 repeat (first|simp only[e4,TJ,Vl]|with_reducible refine Vg ?_|lk)
 refine Js hC ?_ (by size_fits)
 clear hm P call L
 have sz:(j.push {cls:=.type "tuple",data:=.seq [u].toArray}).objs.size=j.objs.size+1:=UA ..;generalize hH:((j.push {cls:=.type "tuple",data:=.seq [u].toArray}).push {cls:=.ref W.CR,data:=.fields #[.ref j.objs.size,.none,.none,.none,.bool false,.none] })=H;have k:∀b o,j.get? b=some o->H.get? b=some o:=λb o e=>hH▸Tc _ (Tc _ e);have hx:H.get? (j.objs.size+1)=some {cls:=.ref W.CR,data:=.fields #[.ref j.objs.size,.none,.none,.none,.bool false,.none] }:=by rw[<-hH,<-sz];exact TA _ rfl
 have t1:Looks (model W.prog W.w) H (typeOf (.ref (j.objs.size+1))) (.ref W.CR):=(Looks.ld hx).andThen .now;have s1:=self.keeps k;have i1':=hi.keeps k;have b1:=(hb (.ref (j.objs.size+1))).keeps k
 clear self hi hb
 unfold isInstance callSpecial? specialOf
 repeat (first|with_reducible refine Vg ?_|lk)
 have y:(A.under (.builtin "type.__call__" ⟨.ref W.CR:: [u],[]⟩)).depth<recursionLimit:=by
  have w:(Code.builtin "type.__call__" ⟨.ref W.CR:: [u],[]⟩).weight<=1:=by
   have f:(Code.builtin "type.__call__" ⟨.ref W.CR:: [u],[]⟩).frames=0:=by kernel_rfl
   have g:(Code.builtin "type.__call__" ⟨.ref W.CR:: [u],[]⟩).isGuard=false:=by kernel_rfl
   have c:(Code.builtin "type.__call__" ⟨.ref W.CR:: [u],[]⟩).isCaller=false:=by kernel_rfl
   unfold Code.weight;rw[f,g,c]
   split<;>simp
  rw[xU];show A.depth+_<_;exact tt (Uh (TE w _)) (tl J)
 refine Gm (s:=⟨H,g,d,t,os⟩) Wk C KF i4 i5 i6 i7 i8 i9 y (λb o q=>k b o (hB b o q)) hx rfl rfl rfl λh' m tk hn keep ge gm=>Vi (Vi ?_);refine ac (gm) λU gm1 Z=>?_;have G:j.get? (j.objs.size+1)=none:=SQ (Nat.le_succ _);refine hQ h' (j.objs.size+1) tk (λb o q=>keep b o (k b o q) λz=>by rw[z,G]at q;cases q) G ⟨_,_,m,U,ge,rfl,rfl,rfl, ?_,λz=>?_,gm1,Z⟩
 ·induction q:j.get? m using Vp with
  |none=>rfl
  |some o=>have:=k _ o q;have r:H.get? m=none:=hn;rw[r]at this;cases this
 ·have r:H.get? m=none:=hn
  rw[z,hx]at r;cases r
end
section
variable {W:Wd} {A:Around} {fs:List Env} {X Y:List Addr} {E:Env} {c:Cx} {l:Loc}
variable {F:List Addr} {φ φ' φ'':al} {σ:List O} {h h' h'' h₀:Heap} {a I:Addr} {it:It} {i:Nat}
theorem Ju {b a:Addr}{o:Obj}(e:h.get? b=some o)(d:b≠a):(h.hide a).get? b=some o:=hideAll_get [a] e (by simpa using d)
theorem St.hide(as:List Addr):∀ {h:Heap},W.St [] φ σ h->(∀a∈as,Asd W [] φ h a)->W.St [] φ σ (hideAll h as)/\(∀ {V:V} {v:Value},VR φ h V v->VR φ (hideAll h as) V v):=by
 induction as using List.rec with
 |nil=>exact λS Z=>⟨S,λz=>z⟩
 |cons a r ih=>
  intro h S k;have f:=k a (TM ..);have g:∀b o,b≠a->h.get? b=some o->(h.hide a).get? b=some o:=λb o d e=>Ju e d;refine af (ih (S.but f g) λb d=>?_) λj m=>⟨j,λz=>m (VR.but f.sd g z)⟩;have q:=k b (Tt _ d);exact⟨q.phi,q.fr,q.base,λo e=>q.sd o (Heap.of_hide e)⟩
theorem Eh(hA:At A fs n){s:Shared}{φ:al}{σ:List O}(S:W.St (ao fs) φ σ s.heap)(z:VR φ s.heap v u){h':Heap}{e:Addr}(keep:∀b o,s.heap.get? b=some o->h'.get? b=some o)(hn:s.heap.get? e=none)
  {D:Obj}{t d:Addr}{mm:Str->Option Value}(g1:h'.get? e=some D)(g2:D.cls=.ref W.CR)(g3:D.data=.fields #[.ref t,.none,.none,.none,.bool false,.none])(g4:D.dict=some d)(g5:s.heap.get? d=none)(g6:d≠e)(g7:h'.Ns d mm)(g8:mm "message"=some u):
  ErrR W fs X φ s.heap φ σ v e h':=by
 refine aB λN m=>af (S.grow keep) λS' g=>?_;have U:∀f∈ao fs,(∃o w n,s.heap.get? f=some o/\o.data=.dict w n)/\f∉aT φ/\W.B.get? f=none:=S.frames;have Ae:Asd W (ao fs) φ h' e:=Asd.new S hn λo q=>by rw[g1]at q;injection q with q;rw[<-q];exact jN g3 (by simp)
 have aside:∀a∈e::ao fs,Asd W [] φ h' a:=λa ha=>by
  rcases UJ.mp ha with q|q
  ·rw[q];exact⟨Ae.phi,by simp,Ae.base,Ae.sd⟩
  ·refine aB λN m=>cQ (U a q) λj J f3=>?_;obtain⟨o,w,k,C,G⟩:=j
   refine m<|⟨J,by simp,f3,λo' H=>by rw[keep _ _ C]at H;injection H with H;rw[<-H];exact bP G⟩
 refine af (St.hide (e::ao fs) (S'.drop (F':= []) (λf P=>nomatch P)) aside) λSY zY=>?_;have hdf:d∉e::ao fs:=λq=>by
  rcases UJ.mp q with q|q
  ·exact g6 q
  ·refine aB λN m=>af (U d q) λj Z=>?_;obtain⟨o,w,k,C,G⟩:=j
   refine m ?_;rw[g5]at C;cases C
 refine m<|⟨Ud _,λa ha=>.inl ha,hideAll h' (e::ao fs),SY,λb o hb hφ hX hF=>?_,λf P=>?_,⟨λb o q=>of_hideAll _ q,hideAll_none _ (TM ..), ?_,⟨.ref t,.inl ⟨D,_,g1,g2,g3,rfl,rfl⟩⟩⟩, ?_⟩
 ·refine hideAll_get _ (keep _ _ hb) λq=>?_
  rcases UJ.mp q with q|q
  ·rw[q,hn]at hb;cases hb
  ·exact hF q
 ·refine aB λN m=>cQ (U f P) λj J f3=>?_;obtain⟨o,w,k,C,G⟩:=j
  refine m<|⟨hideAll_none _ (Tt _ P),J,⟨o,w,k,keep _ _ C,G⟩,λZ o' e'=>⟨o'.slots,keep _ _ e'⟩⟩
 ·have:∀(l:List Env),(∀x∈l,x∈fs)->h'.FunFrames (hideAll h' (e::ao fs)) l:=by
   intro l;induction l with
   |nil=>intro _;trivial
   |cons x r ih=>
    intro hl;obtain⟨k1,L,k2⟩:=hA.envs x (hl x (TM ..));have hm:L∈ao fs:=TN.mpr ⟨x,hl x (TM ..),k2⟩;refine cQ (U L hm) λj J f3=>?_;obtain⟨o,w,k,C,G⟩:=j;exact⟨k1,⟨L,o,k2,hideAll_none _ (Tt _ hm),keep _ _ C,λvs q=>by rw[G]at q;cases q⟩,ih λy hy=>hl y (Tt _ hy)⟩
  exact this fs λZ h=>h
 ·refine aB λN m=>dK (g7) λo w ep ho r=>m<|⟨D,d,mm,u,g1,g4,⟨o,w,ep,hideAll_get _ ho hdf,r⟩,g8,zY (VR.go S au g z)⟩
theorem wu {M:Model}{m:Env}{nm q:Str}{C N:Addr}{bs bm:List Value}{hdct:Bool}{sn:List Str}{sub:List Value}{ab:Bool}{col:Option Bool}{dd:Option Addr}{k0 k1 k2 k3 k5:Option Value}{newId:String}
  {s:Shared}{x:Sem Value}{Q:Flow->Shared->Prop}{Er:Value->Shared->Prop}(f:bm.contains (.type "BaseException")=true)(G:A.handled=none)
  (h:wpAny M A x (λv s₁=>∃e t oe,v=.ref e/\s₁.heap.get? C=some (excClassObj nm q C N bs bm hdct sn sub ab col dd k0 k1 k2 k3 k5 newId)/\
   s₁.heap.get? e=some oe/\oe.cls=.ref C/\oe.data=.fields #[.ref t,.none,.none,.none,.bool false,.none]/\Er (.ref e) s₁) Er s):
  wpAny M A (raiseStmt m (some x) none) Q Er s:=by
 have r:(Value.ref C::bm).contains (.type "BaseException")=true:=by rw[List.contains_cons,f,Bool.or_true]
 refine Vf (Vh h (λv s₁ j=>?_) λZ Z x=>x);refine aB λgP H=>kH (j) λe t k o z B y w J=>?_;obtain⟨S,od,D,L⟩:=k;subst o;dsimp only at y w;subst y w;obtain⟨P,g,d,tk,U⟩:=s₁;refine H ?_
 repeat (first|with_reducible refine wpAny_loadPart_at B ?_|with_reducible refine wpAny_loadPart_at z ?_|(with_reducible refine wpAny_isSubtype_exc z ?_;rw[r])|wp_step)
 exact wpAny_raiseNew_none G J
theorem Cl(w:WdOk7 W)(r:RefOk W)(G:At A fs n){U j:Pos}{m:M V}(hk:c.scope.names.lookup ("Refusal":Str)=some .globalImplicit)(J:bI e=false)(y:aI W A fs E c l VR (eval e E) m):
  bT W A fs E c l (exec (.Raise (some (.Call (.Name "Refusal" U) [e] [] j)) none pos) E) (mq m λv h=>.exc v h):=λs φ σ Q Er S L p=>by
 refine aB λgP gH=>xq (r.obj) λnm q N bs D hdct sn sub ab col dd k0 k1 k2 k3 k5 B=>gH ?_;rw[arm_exec_Raise];refine Vf (UM ?_);show wpAny _ A (raiseStmt E (some (do let v <-eval (.Call (.Name "Refusal" U) [e] [] j) E;standAt pos;pure v)) none) _ _ _;refine wu (C:=W.CR) (bm:= [.ref D,.type "Exception",.type "BaseException",.type "object"]) (nm:=nm) (q:=q) (N:=N) (bs:=bs) (hdct:=hdct) (sn:=sn) (sub:=sub) (ab:=ab) (col:=col) (dd:=dd) (k0:=k0) (k1:=k1) (k2:=k2) (k3:=k3) (k5:=k5) (newId:= "Exception.__new__") (by simp) G.handled (Vf (Uk ?_));refine dR w.toWdOk hk (by decide+kernel) S L (.inl r.glob) ?_;have o:=G.depth;have hrl:recursionLimit=1000:=rfl;refine iB (P:=λh=>W.K.In h) (as:= [e]) (by rw[UG,J];rfl) (keeps_K r.keep) (vG w.toWdOk S) (Ul (y.afterX S L p λv u s₁ k x f Z z g q=>Uw ⟨vG w.toWdOk f, ?_⟩) (cN J));refine xV w r (tt (Nat.add_le_add (Ue _ (2*_)) (by decide:3<=20)) o) f.base λh' e' tk keep hn ms=>Os ms λoe t d mm g1 g2 H g4 g5 g6 g7 g8=>Vf (UM (Vi ?_));exact bJ e' t oe ⟨rfl,keep _ _ (f.base _ _ B),g1,g2,H,q e' h' tk k (Eh G f z keep hn g1 g2 H g4 g5 g6 g7 g8)⟩
end
section
variable {W:Wd} {A:Around} {fs:List Env} {X Y:List Addr} {E:Env} {c:Cx} {l:Loc}
variable {F:List Addr} {φ φ' φ'':al} {σ:List O} {h h' h'' h₀:Heap} {a I:Addr} {it:It} {i:Nat}
theorem Jv {d:Program}{w:World}{A:Around}{e C:Addr}{t:Tok}{s:Shared}{R:Result->Shared->Prop}(k:Looks (model d w) s.heap (typeOf (.ref e)) (.ref C))
  (g:Looks (model d w) s.heap (Builtin.ObjectAttr.find (.ref e) (.ref C) "message") (.value u))(sub:Looks (model d w) s.heap (isInstance (.ref e) (.type "BaseException")) true)(m:R (.ok (.ret u)) s):
  codeAny (model d w) A (.call (.builtin "BaseException.__getattribute__") ⟨[.ref e,.str "message" t],[]⟩) R s:=by
 have o:builtinKind "BaseException.__getattribute__"=some .slot:=by decide+kernel
 have f:splitId "BaseException.__getattribute__"=some ("BaseException", "__getattribute__"):=by decide+kernel
 have j:plainId "BaseException.__getattribute__"=true:=PySem.F.excAttr_ValueError.ga.plain;refine codeAny_call_builtin j PySem.F.entry_bexc_ga (@PySem.W.check_slot (model d w) _ _ s "BaseException.__getattribute__" "BaseException" "__getattribute__" (.ref e) [.str "message" t] [] _ o f sub (PySem.F.args_bexc_ga (.ref e) (.str "message" t)) ?_);unfold Builtin.«object.__getattribute__»;refine Vf (Vi ?_);dsimp only;refine Vf (Vi ?_);refine Vf (k.here (Vf (g.here ?_)));exact Vi m
theorem Jw(Wk:WdOk W)(o:RefOk W){e d:Addr}{j:Obj}{G:Str->Option Value}{q:Bool}{s:Shared}{Q:Value->Shared->Prop}{Er:Value->Shared->Prop}(hB:W.B.StaysIn s.heap)(J:s.heap.get? e=some j)(hc:j.cls=.ref W.CR){vs:Array Value}(hf:j.data=.fields vs)(hd:j.dict=some d)
  (hm:s.heap.Ns d G)(N:G "message"=some u)(P:handedIn u=true)(hQ:∀tk,Q u {s with toks:=tk}):wpAny (model W.prog W.w) A (getAttr (.ref e) "message" q) Q Er s:=by
 have X:W.K.In s.heap:=Wk.K.keeps hB;refine ac (vH hm) λH Z x=>?_;have I:InstAt s.heap e j W.CR (some H):=⟨J,hc,by unfold notCls;rw[hf],by rw[hd];exact Z⟩;refine aV (o.cls) λcd D m k f=>?_;have y:hasDictIn W.K W.CR=true:=by unfold hasDictIn;rw[m];exact f
 have C:findObj W.K W.CR (some H) "message"=some (.value u):=findObj_own (v:=u) y o.message rfl (by rw[x,N]);obtain⟨S,g,dr,t,os⟩:=s;have r:=I.type (M:=model W.prog W.w);have U:=U5 (M:=model W.prog W.w) X o.getattribute;have L2:=U5 (M:=model W.prog W.w) X o.getattr;have L:=looks_find (M:=model W.prog W.w) X I C;have sub:Looks (model W.prog W.w) S (isInstance (.ref e) (.type "BaseException")) true:=r.andThen (looks_mroIn X (by unfold mroIn;rw[m,Ui,k];rfl));unfold getAttr getAttrBy;refine Vf (wpAny_mkText (UL (Vf (r.at (Vf (U.at ?_))))));dsimp only;rw[Vn (by simp[onTheHeap])];unfold getAttrByItsOwn hookBefore;refine Vf (L2.at ?_);have z:(q&&onTheHeap (Value.builtin "BaseException.__getattribute__"))=false:=by cases q<;>rfl
 unfold callGetattribute;rw[z];refine Vf (wpAny_attempt (UL ?_));simp only[TJ,Vl];unfold boundAndCalled;rw[PySem.F.excAttr_ValueError.ga.bind];refine Vf (Vi ?_);show wpAny _ _ (call (.builtin "BaseException.__getattribute__") [.ref e,.str "message" t]) _ _ _;refine Vg (Jv r L sub ?_);show wpAny _ A (handedOut u) Q Er _;rw[handedOut_of P];exact Vi (hQ _)
theorem wv {M:Model}{base:Heap}{e C:Addr}{y:Value}{s:Shared}{Q:Unit->Shared->Prop}{Er:Value->Shared->Prop}(t:s.heap.TracedW base e (.ref C) y)
  (h:∀h' T,T≠e->base.get? T=none->(∃g f,s.heap.get? T=some f/\f.data=.fields g)->(∀b,b≠T->h'.get? b=s.heap.get? b)->Q () {s with heap:=h'}):wpAny M A (setFlight (.ref e) none) Q Er s:=by
 refine aB λD x=>HJ (t) λB vs T f g r o hd z k j m d w=>x ?_;refine Vf (wpAny_field r hd z ?_);rw[Vo (show(Value.ref T !=Value.none)=true from by simp)];exact wpAny_setField m d (SK.mp w).1 (h _ T j k ⟨g,f,m,d⟩ λb q=>Td _ _ (Vm q))
theorem Ei {G:Prop}{c:Cx}{f:List ExceptHandler}(d:fX c f=true)(k:∀nn m j o g r,f= [.ExceptHandler (some (.Name "Refusal" m)) (some nn) [.Return (some (.Attribute (.Name nn j) "message" o)) g] r]->c.scope.names.lookup ("Refusal":Str)=some .globalImplicit->c.scope.names.lookup nn=some .local->(nn==("__debug__":Str))=false->G):G:=by
 unfold fX at d;induction hq:(fI f).bind MB using Vp with
 |none=>rw[hq]at d;exact ff d
 |some q=>
  rw[hq]at d;have e:=Tm.mp (show(decide (q.1=("Refusal":Str))&&(decide (q.2.1=q.2.2.1)&&(decide (q.2.2.2=("message":Str))&&(decide (c.scope.names.lookup ("Refusal":Str)=some .globalImplicit)&&(decide (c.scope.names.lookup q.2.1=some .local)&& !(q.2.1==("__debug__":Str)))))))=true from d);have y:=Tm.mp e.2;have z:=Tm.mp y.2;have w:=Tm.mp z.2;have t:=Tm.mp w.2;refine ac (S9.mp hq) λx C B=>HI (MC B) λm j o g r D=>k q.2.1 m j o g r (by rw[dn C,D,T4 e.1,<-T4 y.1,T4 z.1]) (T4 w.1) (T4 t.1) (TX _▸t.2)
theorem Gn(Wk:WdOk7 W)(Rk:RefOk W)(hA:At A fs n)(Tp:Top E fs){rp:Pos}{hs:List ExceptHandler}{m:M V}(hcat:fX c hs=true)(y:aI W A fs E c l VR (eval e E) m):
  bT W A fs E c l (exec (.Try [.Return (some e) rp] hs [] [] pos) E) (xI m l):=λs φ σ Q Er S L p=>by
 refine Ei hcat λnn p1 p2 p3 p4 p5 hh hg hloc hdb=>?_;rw[hh]
 clear hcat hh
 unfold xI at p;refine aB λgP B=>xq (Rk.obj) λnm q N bs D hdct sn sub ab col dd k0 k1 k2 k3 k5 hCB=>am (Tp.hd) λr gz1=>?_;subst gz1;have hfr:=Tp.fr;refine B<|wpAny_Try_except (wpAny_execs_cons (wpAny_Return_some (y s φ σ _ _ S L ?_)));induction hm:m σ using Vv with
 |bad=>rw[hm]at p;exact p.elim
 |ok v σ₁=>
  rw[hm]at p;intro u h₁ tk j S₁ g z;exact p (.ret u) h₁ tk j S₁ (g.more L.offL) ⟨L.go S g,u,rfl,z⟩
 |exc msg σ₁=>
  rw[hm]at p;intro e' h₁ tk j xe;refine aB λgP B=>?_;obtain⟨pre,new,Y,SY,kp,fr,air,ms⟩:=xe;obtain⟨a1,a2,a3,a0,a4⟩:=rX.air air;refine B<|ss (s:= {s with heap:=h₁,toks:=tk}) hA.frames a3 hfr a1 a2 a4 λt lf dk=>aB λgP B=>fD (lf) λb1 b2 b3 b4=>?_;obtain⟨oe0,dm,mm,um,m1,m2,m3,m4,m5⟩:=ms;refine ac (dk oe0 m1) λoe m1' m2'=>HJ (id b3) λoe' vsE T oT ts t1 gy6 t4 t5 t6 t7 t8 t9 t10=>?_;obtain⟨t2,t3⟩:=gy6;refine B ?_;rw[m1']at t1;injection t1 with t1;subst t1;have H:E.locals∈ao (E::r):=by rw[nN hfr];exact TM ..
  have fr2:∀f∈ao (E::r),∃o w k,t.get? f=some o/\o.data=.dict w k:=λf hf=>by
   refine aB λgP B=>fD (fr f hf) λZ Z gy2 Z=>?_;obtain⟨o,w,k,c3,c4⟩:=gy2;obtain⟨sl,J⟩:=b4 f o c3 λvs z=>by rw[c4]at z;cases z
   refine B<|bJ _ w k ⟨J,c4⟩
  have stAt:∀ {hx:Heap},(∀b o,Y.get? b=some o->hx.get? b=some o)->(∀f∈ao (E::r),∃o w k,hx.get? f=some o/\o.data=.dict w k)->W.St (ao (E::r)) j σ₁ hx:=λ{hx} kY kf=>by
   refine af (SY.grow kY) λS3 Z=>⟨S3.base,S3.nodup,S3.fresh,S3.len,S3.obj,λf hf=>⟨kf f hf,(fr f hf).2.1,(S.frames f hf).2.2⟩⟩
  have S2:=stAt b1 fr2;have ns2:∃mL,t.Ns E.locals mL:=by
   refine aB λgP B=>ac (L.ns) λmL gy1 Z=>?_;obtain⟨o,w,ep,d,J,r1⟩:=gy1;refine am ((fr E.locals H).2.2.2 (by simp) o d) λsl e2=>?_;obtain⟨sl',e3⟩:=b4 E.locals _ e2 λvs z=>by
    have z':o.data=.fields vs:=z;rw[J]at z';cases z'
   refine B<|⟨mL,_,w,ep,e3,J,r1⟩
  have L2:W.Loc E c [] j t:=⟨L.scope,L.kind,L.glob,L.blt,let⟨mL,q⟩:=ns2;⟨mL,q,λZ Z z=>nomatch z⟩,(fr E.locals H).2.1,L.offB,λz k hz=>let⟨b,q1,q2⟩:=L.cells z k hz;⟨b,q1,dp pre q2⟩,L.code⟩;have hC2:t.get? W.CR=_:=S2.base _ _ hCB;refine wpAny_handleBy_cons (codeAny_handlers_test ?_) (by intro z;cases z);refine dR (A:=A.mark (some (.ref e'))) (s:= {s with heap:=t,toks:=tk}) Wk.toWdOk hg (by decide+kernel) S2 L2 (.inl Rk.glob) ?_;have hbm:([.ref D,.type "Exception",.type "BaseException",.type "object"]:List Value).contains (.type "BaseException")=true:=by simp
  refine wpAny_excMatches_sub_self (h:=t) hC2 m1' t2 hbm<|codeAny_handlers_suite_as<|wv (s:= {s with heap:=t,toks:=tk}) (base:=Y) b3 λh₃ T' hTe' hnT' hT' kT=>?_;have hT'':=hT';refine aB λgP B=>cY (hT'') λtsT oT' gT dT=>?_;have notT:∀b o,t.get? b=some o->(∀vs,o.data≠ .fields vs)->b≠T':=λb o d nf z=>by
   have gT2:t.get? T'=some oT':=gT;rw[z,gT2]at d;injection d with d;exact nf tsT (d▸dT)
  have kY3:∀b o,Y.get? b=some o->h₃.get? b=some o:=λb o d=>(kT b λz=>by rw[z,hnT']at d;cases d).trans (b1 b o d);obtain⟨mL,hns⟩:=ns2;have hLd:∃o w k,t.get? E.locals=some o/\o.data=.dict w k:=let⟨o,w,ep,d,J,_⟩:=hns;⟨o,w,ep,d,J⟩;have hLT:E.locals≠T':=by obtain⟨o,w,k,d,J⟩:=hLd;exact notT _ o d λvs z=>by rw[J]at z;cases z
  have hns3:h₃.Ns E.locals mL:=by
   refine aB λgP B=>dK (hns) λo w ep d rr=>B<|⟨o,w,ep,(kT _ hLT).trans d,rr⟩
  have P:E.kindOf nn=some .local:=(jl L nn).trans hloc;refine B<|wpAny_storeName_local (s:= {s with heap:=h₃,toks:=tk}) P hns3 (λh₄ hn₄ C=>?_) (uo L.kind);have kY4:∀b o,Y.get? b=some o->h₄.get? b=some o:=λb o d=>(C.2 b λz=>by rw[z,(fr E.locals H).1]at d;cases d).trans (kY3 b o d);have heL:e'≠E.locals:=λz=>by
   refine aB λgP B=>dK (hLd) λo w k d J=>B ?_;rw[<-z,m1']at d;injection d with d;rw[<-d,t4]at J;cases J
  have he4:h₄.get? e'=some oe:=(C.2 e' heL).trans ((kT e' (Vm hTe')).trans m1');have hdm4:h₄.Ns dm mm:=by
   refine aB λgP B=>dK (m3) λo w ep d rr=>B<|⟨o,w,ep,kY4 _ _ d,rr⟩
  refine wpAny_execs_cons (wpAny_Return_some ?_);rw[arm_eval_Attribute,nH rfl];refine Vf (wpAny_Name (Ty L.kind P hn₄ (v:=.ref e') (by simp) ?_) (by simpa using hdb));refine Vf (UM (Vf (UL (Jw Wk.toWdOk Rk (λb o z=>kY4 b o (SY.base b o z)) he4 t2 t4 (m2'.trans m2) hdm4 m4 (DU m5) λtk'=>?_))));refine Vf (wpAny_letTemporaryGo (Vi ?_));refine wpAny_nameGoes (m:=λz=>if z=nn then some (.ref e')else mL z) P hn₄ (uo L.kind) λx m₅ hn₅ U=>?_;have kY5:∀b o,Y.get? b=some o->x.get? b=some o:=λb o d=>(U.2 b λz=>by rw[z,(fr E.locals H).1]at d;cases d).trans (kY4 b o d);have fr5:∀f∈ao (E::r),∃o w k,x.get? f=some o/\o.data=.dict w k:=λf hf=>by
   refine aB λgP B=>?_;by_cases hfl:f=E.locals
   ·refine bw (hn₅) λo w ep d J Z=>B<|bJ o w ep ⟨by rw[hfl];exact d,J⟩
   ·refine dK (fr2 f hf) λo w k d J=>B<|bJ o w k ⟨(U.2 f hfl).trans ((C.2 f hfl).trans ((kT f (notT f o d λvs z=>by rw[J]at z;cases z)).trans d)),J⟩
  have L5:W.Loc E c [] j x:=⟨L.scope,L.kind,L.glob,L.blt,⟨m₅,hn₅,λZ Z z=>nomatch z⟩,(fr E.locals H).2.1,L.offB,λz k hz=>let⟨b,q1,q2⟩:=L.cells z k hz;⟨b,q1,dp pre q2⟩,L.code⟩;have G:Go (ao (E::r)) [E.locals] φ j s.heap x:=⟨pre,new,λb o d hb=>by
    have hbφ:b∉aT φ:=λz=>hb (Tk _ z);have hbL:b≠E.locals:=λz=>hb (Ts _ (TO.mpr z));by_cases hF:b∈ao (E::r)
    ·refine⟨λz=>absurd hF z, ?_⟩
     refine am ((fr b hF).2.2.2 (by simp) o d) λsl e2=>fD (fr b hF) λZ Z gy2 Z=>?_;obtain⟨o',w,k,c3,c4⟩:=gy2;rw[e2]at c3;injection c3 with c3;subst c3;obtain⟨sl',e3⟩:=b4 b _ e2 λvs z=>by
      have z':o.data=.fields vs:=z;have c4':o.data=.dict w k:=c4;rw[c4']at z';cases z'
     refine⟨sl',(U.2 b hbL).trans ((C.2 b hbL).trans ((kT b (notT b _ e3 λvs z=>?_)).trans e3))⟩;have z':o.data=.fields vs:=z;have c4':o.data=.dict w k:=c4;rw[c4']at z';cases z'
    ·have e2:=kY5 b o (kp b o d hbφ (by simp) hF)
     exact⟨λZ=>e2,o.slots,e2⟩,λa ha o d J=>by
    rw[TO.mp ha]at d ⊢;refine bw (hn₅) λo' w ep e2 d2 Z=>?_;exact⟨o',e2,bP d2,λZ Z Z=>⟨w,ep,d2⟩⟩⟩
  have zm:VR j x msg um:=by
   refine af (SY.grow kY5) λZ g5=>VR.go SY au g5 m5
  exact p (.ret um) x _ j (stAt kY5 fr5) G ⟨L5,um,rfl,zm⟩
end
section
variable {W:Wd} {A:Around} {fs:List Env} {X Y:List Addr} {E:Env} {c:Cx} {l:Loc}
theorem At.mono(a:At A fs (n+1)):At A fs n:=⟨a.frames,by have:=a.depth;exact tt (Tw (Ue (_+2*_) 2) 20) this,by have:=a.units;exact tt (Tw (Ue (_+12*_) 12) 300) this,a.handled,a.envs⟩
theorem dq {a β:Type}{RV:al->Heap->a->β->Prop}{t:Sem β}:aI W A fs E c l RV t bad:=λs φ σ Q Er S L p=>p.elim
theorem fp {t:Sem Flow}:bT W A fs E c l t bad:=λs φ σ Q Er S L p=>p.elim
structure All (W:Wd) (n:Nat) (I:Itp):Prop where
 ev:∀ {A fs E c},At A fs n-> ∀l e,aI W A fs E c l VR (eval e E) (I.ev c l e)
 tst:∀ {A fs E c},At A fs n-> ∀l e,aI W A fs E c l BB (isTrue e E (eval e E)) (I.tst c l e)
 ex:∀ {A fs E c},At A fs n->Top E fs-> ∀l st,bT W A fs E c l (exec st E) (I.ex c l st)
 call:∀ {A fs},At A fs n->Ci W A fs I.call
theorem mn {a β:Type}{RV:al->Heap->a->β->Prop}{t:Sem β}{m:M a}(h:b=false->aI W A fs E c l RV t m):aI W A fs E c l RV t (if b=true then bad else m):=by
 induction b using Vs with
 |true=>exact dq
 |false=>exact h rfl
theorem xW {t:Sem Flow}{m:M (Fl×Loc)}(h:b=false->bT W A fs E c l t m):bT W A fs E c l t (if b=true then bad else m):=by
 induction b using Vs with
 |true=>exact fp
 |false=>exact h rfl
theorem Gp {a:Type}{l:List a}(h:¬l.length<2):∃v w r,l=v::w::r:=by
 induction l using Vr with
 |nil=>exact absurd (Nat.zero_lt_succ 1) h
 |cons v r=>induction r using Vr with
  |nil=>exact absurd (Ug 1) h
  |cons w r=>exact bJ v w r rfl
theorem fK {a β d:Type}{RV:al->Heap->a->β->Prop}{t:Sem β}{o:Option d}{m:d->M a}(h:∀x,o=some x->aI W A fs E c l RV t (m x)):aI W A fs E c l RV t (o.elim bad m):=by
 induction o using Vp with
 |none=>exact dq
 |some x=>exact h x rfl
theorem qb {a:Type}{t:Sem Flow}{o:Option a}{m:a->M (Fl×Loc)}(h:∀x,o=some x->bT W A fs E c l t (m x)):bT W A fs E c l t (o.elim bad m):=by
 induction o using Vp with
 |none=>exact fp
 |some x=>exact h x rfl
theorem uv {a β:Type}{RV:al->Heap->a->β->Prop}{t:Sem β}{m:M a}(h:b=true->aI W A fs E c l RV t m):aI W A fs E c l RV t (bif b then m else bad):=by
 induction b using Vs with
 |false=>exact dq
 |true=>exact h rfl
theorem rg {t:Sem Flow}{m:M (Fl×Loc)}(h:b=true->bT W A fs E c l t m):bT W A fs E c l t (bif b then m else bad):=by
 induction b using Vs with
 |false=>exact fp
 |true=>exact h rfl
theorem gw {P:Prop}[Decidable P]{a β:Type}{RV:al->Heap->a->β->Prop}{t:Sem β}{m n:M a}(h:P->aI W A fs E c l RV t m)(k:¬P->aI W A fs E c l RV t n):aI W A fs E c l RV t (if P then m else n):=by
 by_cases q:P
 ·rw[Vo q];exact h q
 ·rw[Vn q];exact k q
theorem rh {P:Prop}[Decidable P]{t:Sem Flow}{m n:M (Fl×Loc)}(h:P->bT W A fs E c l t m)(k:¬P->bT W A fs E c l t n):bT W A fs E c l t (if P then m else n):=by
 by_cases q:P
 ·rw[Vo q];exact h q
 ·rw[Vn q];exact k q
theorem Jx {q:Expr×Str}(h:Mw as=some q):∃p,as= [q.1,.Name q.2 p]:=by
 refine ac (S9.mp h) λr f h=>ac (Tf.mp h) λk a h=>am (ip a) λp d=>⟨p, ?_⟩;rw[oS f,d,<-h]
section
variable {wf n:Nat} {I:Itp}
theorem Ej(j:WdOk7 W)(g:All W n I)(m:At A fs (n+1)){f:Str}{w:Pos}:aI W A fs E c l VR (eval (.Call (.Name f w) as [] pos) E) (HX W.P I c l f as):=by
 have d:=m.mono;refine mn λa=>gw (λi=>gw (λo=>?_) λZ=>gw (λr=>zJ j.toWdOk4 m r i a λe Z=>g.ev d l e) λZ=>gw (λk=>Gk j i a k (λe Z=>g.ev d l e) (g.call d)) λZ=>dq) λZ=>gw (λh=>?_) λZ=>dq
 ·refine fK λq x=>am (Jx x) λy t=>?_
  rw[o]at i ⊢;rw[t]at a ⊢;rw[UG,Tn]at a;exact ut j.toWdOk6 i a.1 (g.ev d l _)
 ·rw[h.2.1]
  exact zP j m g.ev h.2.2
theorem Gq(j:WdOk7 W)(g:All W n I)(i:At A fs (n+1)){r:Expr×Str×Pos}:aI W A fs E c l VR (eval (.Call (.Attribute r.1 r.2.1 r.2.2) as [] pos) E) (HY I c l r as pos):=by
 refine mn λh=>?_;have d:=Tn.mp (show(eQ r.1|| !(r.2.2.endLine==pos.line)||decide (20<as.length)||as.any bI)=false from h);have a:=Tn.mp d.1;have f:=Tn.mp a.1;exact F1 j.toWdOk3 f.1 (Bool.not_eq_false' _▸f.2) (Nat.not_lt.mp (of_decide_eq_false a.2)) d.2 (g.ev i.mono l _) λe Z=>g.ev i.mono l e
theorem Gs(j:WdOk7 W)(d:All W n I)(f:At A fs n){o i:Expr}:aI W A fs E c l VR (eval (.Subscript o i p) E) (Mz I c l o i):=by
 refine gw (λZ=>fK λk g=>pP (FD g) λkd q m a=>?_) λa=>I7 j.toWdOk3 (TW.mpr a) (d.ev f l _) (d.ev f l _);rw[a];exact gw (λh=>DV h (d.ev f l _)) λZ=>dq
theorem Ek(f:All W n I)(g:At A fs n){ks:List (Option Expr)}{vs:List Expr}:aI W A fs E c l VR (eval (.Dict ks vs p) E) (H0 I c l ks vs):=by
 refine gw (λh=>gw (λd=>?_) λZ=>dq) λZ=>fK λq i=>fK λe d=>BI (IH i) λj r k o m t=>?_
 ·rw[T8.mp h,T8.mp d];exact Eb
 ·intro a
  rw[a,oU d];exact Ec (f.ev g l _) (f.ev g l _) (f.ev g l _)
theorem Jy(m:WdOk7 W)(t:wf<=2^20)(j:All W n I)(o:At A fs (n+1))(l:Loc)(e:Expr):aI W A fs E c l VR (eval e E) (ME W.P wf I c l e):=by
 have d:=o.mono;induction e using Vw with
 |Constant k i p=>induction k using PySem.Const.casesOn with
  |none=>exact FK
  |bool=>exact FL
  |int=>exact IM
  |str=>exact IN
  |_=>exact dq
 |Name=>exact xK m.toWdOk
 |BinOp=>exact DO (j.ev d l _) (j.ev d l _)
 |UnaryOp op a p=>induction op using PySem.UnaryOp.casesOn with
  |USub=>exact FT (j.ev d l _)
  |Not=>exact IT m.toWdOk2 (j.ev d l _)
  |_=>exact dq
 |BoolOp=>exact AS m.toWdOk2 _ λe Z=>j.ev d l e
 |Compare a ops bs p=>exact fK λop C=>fK λb z=>mn λh=>by rw[dn C,dn z];exact IU m.toWdOk2 o h (j.ev d l _) (j.ev d l _)
 |IfExp=>exact DP (j.tst d l _) (j.ev d l _) (j.ev d l _)
 |Attribute=>exact mn λh=>FV m.toWdOk3 h (j.ev d l _)
 |Subscript=>exact Gs m j d
 |Tuple=>exact IY λe Z=>j.ev d l e
 |List=>exact FU λe Z=>j.ev d l e
 |Dict=>exact Ek j d
 |Call f as kws p=>
  refine uv λB=>?_;rw[T8.mp B];induction hf:mh f using Vp with
  |some x=>exact am (ip hf) λq e=>by rw[e];exact Ej m j o
  |none=>exact fK λr D=>by rw[uc D];exact Gq m j o
 |Lambda ag body sc p=>exact uv λh=>by rw[BW h];exact Cf m.toWdOk6
 |ListComp elt gs sc p=>exact fK λg y=>by rw[ug y];exact pe m.toWdOk5 o.handled t (λl e=>j.ev d l e) (λl e=>j.tst d l e)
 |DictComp k v gs sc p=>exact fK λg y=>uv λh=>by rw[ug y,T8.mp h];exact xR m.toWdOk5 o.handled t (λl e=>j.ev d l e)
 |JoinedStr vs p=>exact gw (λZ=>dq) λh=>pP (Gp h) λv w r e=>by rw[e];exact Ce λe=>j.ev d l e
 |_=>exact dq
theorem Gu(g:WdOk7 W)(f:All W n I)(i:At A fs (n+1))(l:Loc)(e:Expr):aI W A fs E c l BB (isTrue e E (eval e E)) (FH I c l e):=by
 have d:=i.mono;induction e using Vw with
 |UnaryOp op a p=>induction op using PySem.UnaryOp.casesOn with
  |Not=>exact IV (f.tst d l _)
  |_=>exact vF g.toWdOk2 rfl (f.ev d l _)
 |BoolOp=>exact λs φ σ Q Er S L p=>wpAny_isTrue_BoolOp (qI _ (λe Z=>f.tst d l e) s φ σ Q Er S L p)
 |IfExp=>exact DT (f.tst d l _) (f.tst d l _) (f.tst d l _)
 |Compare a ops bs p=>exact fK λop k=>fK λb j=>mn λh=>by rw[dn k,dn j];exact IW g.toWdOk2 i h (f.ev d l _) (f.ev d l _)
 |_=>exact vF g.toWdOk2 rfl (f.ev d l _)
theorem Gv(f:WdOk7 W)(g:wf<=2^20)(d:All W n I)(i:At A fs (n+1))(l:Loc){t:Expr}:bT W A fs E c l (exec (.Assign [t] e p) E) (FF I wf c l t e):=by
 have a:=i.mono;induction t using Vw with
 |Attribute=>exact rf f.toWdOk5 (d.ev a l _) (d.ev a l _)
 |Subscript=>exact sp f.toWdOk5 (d.ev a l _) (d.ev a l _) (d.ev a l _)
 |Name x px=>
  show bT W A fs E c l _ ((vB e).elim _ _);induction hq:vB e using Vp with
  |none=>exact xW λj=>jW (je j) (d.ev a l _)
  |some q=>exact am (MA hq) λp e=>by rw[e];exact re f.toWdOk5 i.handled g (λl e=>d.ev a l e) (λl e=>d.tst a l e)
 |Tuple ts k q=>exact rh (λZ=>fp) λh=>sr i.handled (TW.mpr (not_or.mp h).1) (Bool.not_eq_false _▸(not_or.mp h).2) (d.ev a l _)
 |_=>exact fp
theorem Gw(f:WdOk7 W)(k:RefOk W)(m:All W n I)(d:At A fs (n+1))(l:Loc){o y:Option Expr}:bT W A fs E c l (exec (.Raise o y p) E) (MD I c l o y):=by
 refine qb λq a=>rh (λh=>?_) λZ=>fp;induction hy:y.isNone using Vs with
 |false=>rw[hy]at a;exact ns a
 |true=>
  rw[hy]at a;refine ac (S9.mp a) λe j i=>cI (xH i) λt r g=>?_;rw[SX.mp hy,j,g,h.1];exact Cl f k d (by rw[<-h.1];exact h.2.1) h.2.2 (m.ev d.mono l _)
theorem Jz(k:WdOk7 W)(w:RefOk W)(q:wf<=2^20)(d:All W n I)(j:At A fs (n+1))(i:Top E fs)(l:Loc)(g:Stmt):bT W A fs E c l (exec g E) (BY W.P wf I c l g):=by
 have a:=j.mono;induction g using PySem.Stmt.casesOn with
 |Return v p=>exact qb λe m=>by rw[m];exact zL (d.ev a l _)
 |Expr e p=>exact xW λr=>D9 r (d.ev a l _)
 |Continue=>exact wo
 |If=>exact Jm (d.tst a l _) (hU (λl g=>d.ex a i l g) _ l) (hU (λl g=>d.ex a i l g) _ l)
 |While t b o p=>exact rg λh=>by rw[T8.mp h];exact DZ (λl=>d.tst a l _) (λl=>hU (λl g=>d.ex a i l g) _ l) wf
 |For t it b o p=>exact rg λh=>by rw[T8.mp h];exact Gd k.toWdOk5 j.handled (λl e=>d.ev a l e) (λl=>hU (λl g=>d.ex a i l g) _ l)
 |Assign ts e p=>exact qb λt x=>by rw[dn x];exact Gv k q d j l
 |Raise=>exact Gw k w d j l
 |Try b hs o f p=>
  refine rg λh=>qb λe m=>rh (λr=>?_) λZ=>fp;have h:=Tm.mp h;refine ac (S9.mp m) λg B z=>am (AG z) λC y=>?_;rw[T8.mp h.1,T8.mp h.2,dn B,y];exact Gn k w j i r (d.ev a l _)
 |_=>exact fp
end
end
def jY(P:Prg)(wf:Nat)(C:Str->List V->M V):Nat->Itp
 |0=>⟨λZ Z Z=>bad,λZ Z Z=>bad,λZ Z Z=>bad,C⟩
 |n+1=> {AH P wf (jY P wf C n)with call:=C}
def T(P:Prg)(wf k:Nat):Nat->Str->List V->M V
 |0=>λZ Z=>bad
 |j+1=>(AH P wf (jY P wf (T P wf k j) k)).call
def H3(W:Wd)(C:Str->List V->M V)(m:Nat):Prop:=∀A fs,At A fs m->Ci W A fs C
theorem H4 {A:Around}{fs:List Env}{m:Nat}(h:n<=m)(a:At A fs m):At A fs n:=⟨a.frames,by have:=a.depth;exact tt (Tw (TE (TH 2 h) _) 20) this,by have:=a.units;exact tt (Tw (TE (TH 12 h) _) 300) this,a.handled,a.envs⟩
theorem H5 {W:Wd}(f:WdOk7 W)(i:RefOk W){wf:Nat}(d:wf<=2^20){C:Str->List V->M V}{m:Nat}(g:H3 W C m):∀n,All W (m+n) (jY W.P wf C n)
 |0=>⟨λZ Z Z=>dq,λZ Z Z=>dq,λZ Z Z Z=>fp,λa=>g _ _ a⟩
 |n+1=>by
  have h:=H5 f i d g n;exact⟨λa l e=>Jy f d h a l e,λa l e=>Gu f h a l e,λa k l j=>Jz f i d h a k l j,λa=>g _ _ (H4 Qr a)⟩
theorem AZ {W:Wd}(g:WdOk7 W)(h:RefOk W){wf:Nat}(a:wf<=2^20)(k:Nat):∀j,H3 W (T W.P wf k j) (j*(k+1))
 |0=>by intro A fs d x v vs us s φ σ Q Er _ _ _ _ p;exact p.elim
 |j+1=>by
  intro A fs d;have m:=H5 g h a (AZ g h a k j) k;have f:At A fs (j*(k+1)+k+1):=H4 (by have:=Nat.succ_mul j (k+1);simp only[Nat.succ_eq_add_one]at this;exact UX this.symm) d;exact Cj g f λd i l o=>m.ex d i l o
theorem mw {d β i:Type}(m:M d)(f:d->M β)(g:β->M i):mq (mq m f) g=mq m λa=>mq (f a) g:=by
 funext h
 unfold mq;cases m h<;>rfl
theorem mB {a:Type}(m:M a):mq m mr=m:=by
 funext h
 unfold mq mr;cases m h<;>rfl
theorem mP {d β:Type}(a:d)(f:d->M β):mq (mr a) f=f a:=rfl
structure KI (β:Type) where
 ev:Cx->Loc->Expr->(V->M β)->M β
 tst:Cx->Loc->Expr->(Bool->M β)->M β
 ex:Cx->Loc->Stmt->(Fl->Loc->M β)->M β
def iC {β:Type}(f:Expr->(V->M β)->M β):List Expr->(List V->M β)->M β
 | [],k=>k []
 |e::r,k=>if bI e then bad else f e λv=>iC f r λvs=>k (v::vs)
noncomputable def PE {f:Type}(op:BoolOp)(b:Bool)(a d:f):f:=match op with
 |.And=>(match b with|true=>d|false=>a)
 |.Or=>(match b with|true=>a|false=>d)
noncomputable def MV:BoolOp->Bool
 |.And=>false
 |.Or=>true
noncomputable def H6 {d:Type}(f:Fl)(a:d)(k:Fl->d):d:=match f with
 |.next=>a
 |.cont=>k .cont
 |.ret v=>k (.ret v)
def Cm {β:Type}(f:Expr->(V->M β)->M β)(op:BoolOp):List Expr->(V->M β)->M β
 | [],_=>bad
 | [e],k=>f e k
 |e::r,k=>f e λv=>mq (truth v) λb=>PE op b (k v) (Cm f op r k)
def sA {β:Type}(f:Expr->(Bool->M β)->M β)(op:BoolOp):List Expr->(Bool->M β)->M β
 | [],k=>k (match op with|.And=>true|.Or=>false)
 |x::r,k=>f x λb=>PE op b (k (MV op)) (sA f op r k)
def bj {β:Type}(f:Loc->Stmt->(Fl->Loc->M β)->M β):List Stmt->Loc->(Fl->Loc->M β)->M β
 | [],l,k=>k .next l
 |s::r,l,k=>f l s λd a=>H6 d (bj f r a k) λx=>k x a
theorem vQ {β:Type}{f:Expr->(V->M β)->M β}{g:Expr->M V}(e:∀x k,f x k=mq (g x) k):∀xs k,iC f xs k=mq (dN g xs) k
 | [],k=>rfl
 |x::r,k=>by
  rw[iC,dN];by_cases a:bI x=true
  ·rw[Vo a,Vo a];rfl
  rw[Vn a,Vn a,e,mw]
  congr 1;funext v
  rw[vQ e r,mw];rfl
theorem A0 {β:Type}{f:Expr->(V->M β)->M β}{g:Expr->M V}(e:∀x k,f x k=mq (g x) k)(op:BoolOp):∀xs k,Cm f op xs k=mq (AA g op xs) k
 | [],k=>rfl
 | [x],k=>e x k
 |x::y::r,k=>by
  unfold Cm;rw[DQ];rw[e,mw]
  congr 1;funext v
  rw[mw]
  congr 1;funext b
  cases op<;>cases b<;>first|rfl|exact A0 e _ (y::r) k
theorem rj {β:Type}{f:Expr->(Bool->M β)->M β}{g:Expr->M Bool}(e:∀x k,f x k=mq (g x) k)(op:BoolOp):∀xs k,sA f op xs k=mq (nc g op xs) k
 | [],k=>rfl
 |x::r,k=>by
  rw[sA,nc];rw[e,mw]
  congr 1;funext b
  cases op<;>cases b<;>first|rfl|exact rj e _ r k
theorem jn {β:Type}{f:Loc->Stmt->(Fl->Loc->M β)->M β}{g:Loc->Stmt->M (Fl×Loc)}(e:∀l x k,f l x k=mq (g l x) λp=>k p.1 p.2):∀xs l k,bj f xs l k=mq (db g xs l) λp=>k p.1 p.2
 | [],l,k=>rfl
 |x::r,l,k=>by
  rw[bj,db];rw[e,mw]
  congr 1;funext p
  obtain⟨d,a⟩:=p;induction d using Mine.Fl.casesOn with
  |next=>exact jn e r a k
  |cont=>rfl
  |ret v=>rfl
def aZ(n:Nat):M V:=λh=>(qF h[n]?).elim .bad λv=>.ok v h
def fL(n:Nat)(v:V):M Unit:=λh=>bif jB h[n]? then .ok () (h.set n (.cell (some v)))else .bad
def xX {β:Type}(c:Cx)(x:Str)(k:V->M β):M β:=if x= "__classdict__" then bad else(look x c.cells).elim bad λn=>mq (aZ n) k
def Sd {β:Type}(c:Cx)(l:Loc)(x:Str)(k:V->M β)(kd:NameKind):M β:=match kd with
 |.local=>(look x l).elim bad k
 |.cell|.free=>xX c x k
 |.globalImplicit=>(jP x).elim bad k
 |_=>bad
def MW {β:Type}(c:Cx)(l:Loc)(x:Str)(k:V->M β):M β:=(c.scope.names.lookup x).elim bad (Sd c l x k)
def Se {β:Type}(c:Cx)(x:Str)(v:V)(l:Loc)(k:Loc->M β)(kd:NameKind):M β:=match kd with
 |.local=>k (put x v l)
 |.cell=>(look x c.cells).elim bad λn=>mq (fL n v) λZ=>k l
 |_=>bad
def jZ {β:Type}(c:Cx)(x:Str)(v:V)(l:Loc)(k:Loc->M β):M β:=(c.scope.names.lookup x).elim bad (Se c x v l k)
def sB {β:Type}(c:Cx):List Str->List V->Loc->(Loc->M β)->M β
 | [],vs,l,k=>(match vs with| []=>k l|_::_=>bad)
 |x::xs,vs,l,k=>(match vs with|v::vs=>jZ c x v l λa=>sB c xs vs a k| []=>bad)
def dS(v:V):M (V×V):=λh=>((jC v).bind rV).elim .bad λp=>.ok p h
def j0(v:V):M (V×V×V):=λh=>((jC v).bind rW).elim .bad λp=>.ok p h
def Gx {β:Type}(c:Cx)(a:List Expr)(v:V)(l:Loc)(k:Loc->M β):M β:=(names? a).elim bad λxs=>(rV xs).elim ((rW xs).elim (mq (jr c a v l) k) λq=>mq (j0 v) λp=>jZ c q.1 p.1 l λl=>jZ c q.2.1 p.2.1 l λl=>jZ c q.2.2 p.2.2 l k)
 λq=>mq (dS v) λp=>jZ c q.1 p.1 l λl=>jZ c q.2 p.2 l k
def fY {β:Type}(c:Cx)(t:Expr)(v:V)(l:Loc)(k:Loc->M β):M β:=by
 induction t using Expr.casesOn with
 |Name x=>exact jZ c x v l k
 |Tuple ts=>exact Gx c ts v l k
 |_=>exact bad
def kR {β:Type}(f:Expr->(V->M β)->M β):List Expr->Str->(Str->M β)->M β
 | [],acc,k=>k acc
 |e::r,acc,k=>(nh e).elim bad λq=>match q with
   |.inl s=>if acc.length+s.length<=line then kR f r (acc++s) k else bad
   |.inr e=>f e λv=>mq (part acc v) λa=>kR f r a k
theorem jO {d β a:Type}{o:Option a}{f:a->R d}{k:d->M β}{h:List O}{g:a->R β}(e:∀x,g x=mq (λZ=>f x) k h):o.elim .bad g=mq (λZ=>o.elim .bad f) k h:=by
 induction o using Vp with
 |none=>rfl
 |some x=>exact e x
theorem mo {β a:Type}{o:Option a}{f:a->M β}{h:List O}:(o.elim bad f) h=o.elim .bad λx=>f x h:=by
 induction o using Vp with
 |none=>rfl
 |some x=>rfl
theorem xY {β:Type}(c:Cx)(x:Str)(k:V->M β)(h:List O):xX c x k h=mq (λZ=>BJ c x h) k h:=by
 unfold xX BJ;by_cases a:x= "__classdict__"
 ·rw[Vo a,Vo a];rfl
 ·rw[Vn a,Vn a,mo]
  exact jO (f:=λn=>(qF h[n]?).elim .bad λv=>.ok v h) (k:=k) (h:=h) λn=>rfl
theorem MX {β:Type}(c:Cx)(l:Loc)(x:Str)(k:V->M β):MW c l x k=mq (rd c l x) k:=by
 funext h
 unfold MW;rw[mo];refine jO (h:=h) (f:=Pz c l x h) λkd=>?_;induction kd using PySem.NameKind.casesOn with
 |«local»=>exact mo.trans (jO (h:=h) (f:=λv=>.ok v h) λv=>rfl)
 |cell=>exact xY c x k h
 |free=>exact xY c x k h
 |globalImplicit=>exact mo.trans (jO (h:=h) (f:=λv=>.ok v h) λv=>rfl)
 |_=>rfl
theorem El {β:Type}(c:Cx)(x:Str)(v:V)(l:Loc)(k:Loc->M β):jZ c x v l k=mq (wr c x v l) k:=by
 funext h
 unfold jZ;rw[mo];refine jO (h:=h) (f:=PA c x v l h) λkd=>?_;induction kd using PySem.NameKind.casesOn with
 |cell=>
  refine mo.trans (jO (h:=h) (f:=λn=>bif jB h[n]? then .ok l (h.set n (.cell (some v)))else .bad) λn=>?_);induction hc:jB h[n]? using Vs with
  |false=>rw[mu (show fL n v h=.bad by unfold fL;rw[hc];rfl)];rfl
  |true=>rw[my (show fL n v h=.ok () (h.set n (.cell (some v))) by unfold fL;rw[hc];rfl)];rfl
 |_=>rfl
theorem kS {β:Type}(c:Cx):∀(xs:List Str) (vs:List V) (l:Loc) (k:Loc->M β),sB c xs vs l k=mq (eH c xs vs l) k
 | [],[],l,k=>rfl
 |x::xs,v::vs,l,k=>by
  show(jZ c x v l λa=>sB c xs vs a k)=mq (mq (wr c x v l) λa=>eH c xs vs a) k
  rw[El,mw]
  congr 1;funext a
  exact kS c xs vs a k
 | [],_::_,_,_=>rfl
 |_::_,[],_,_=>rfl
theorem A2 {f β:Type}{xs:List Str}{a:List Expr}{k:Loc->M β}{g:List V->Option f}{n:Nat}{w:f->M β}(d:names? a=some xs)(i:xs.length=n)(len:∀ {vs:List V},vs.length=n-> ∃q,g vs=some q)(j:∀ {vs q},g vs=some q->vs.length=n)
  (e:∀vs q,g vs=some q->w q=mq (eH c xs vs l) k):mq (λh=>((jC v).bind g).elim .bad λp=>.ok p h) w=mq (jr c a v l) k:=by
 funext h
 induction hv:jC v using Vp with
 |none=>rw[mu (show(((none:Option (List V)).bind g).elim R.bad λp=>R.ok p h)=R.bad from rfl),mu (show jr c a v l h=.bad by unfold jr;rw[d,hv];rfl)]
 |some vs=>
  induction hg:g vs using Vp with
  |none=>
   rw[mu (show(((some vs).bind g).elim R.bad λp=>R.ok p h)=R.bad by rw[Ui,hg];rfl),mu (show jr c a v l h=.bad by unfold jr;rw[d,hv];exact Vn λz=>am (len (z.symm.trans i)) λq e=>ns (hg.symm.trans e))]
  |some q=>
   rw[my (show(((some vs).bind g).elim R.bad λp=>R.ok p h)=R.ok q h by rw[Ui,hg];rfl),e vs q hg];show mq _ k h=_;unfold mq;rw[show jr c a v l h=eH c xs vs l h by unfold jr;rw[d,hv];exact Vo (i.trans (j hg).symm)]
theorem jE {β:Type}(c:Cx)(t:Expr)(v:V)(l:Loc)(k:Loc->M β):fY c t v l k=mq (target c t v l) k:=by
 induction t using Vw with
 |Name x p=>exact El c x v l k
 |Tuple ts q p=>
  show Gx c ts v l k=mq (jr c ts v l) k;unfold Gx;induction hx:names? ts using Vp with
  |none=>funext h;exact(mu (show jr c ts v l h=.bad by unfold jr;rw[hx];rfl)).symm
  |some xs=>
   show(rV xs).elim _ _=_
   induction h2:rV xs using Vp with
   |some q=>
    have a:=oS h2;exact A2 (n:=2) (w:=λp=>jZ c q.1 p.1 l λl=>jZ c q.2 p.2 l k) hx (by rw[a];rfl) AE (λe=>by rw[oS e];rfl) λvs p e=>by rw[oS e,a];exact kS c [q.1,q.2] [p.1,p.2] l k
   |none=>
    show(rW xs).elim _ _=_
    induction h3:rW xs using Vp with
    |some q=>
     have a:=oU h3;exact A2 (n:=3) (w:=λp=>jZ c q.1 p.1 l λl=>jZ c q.2.1 p.2.1 l λl=>jZ c q.2.2 p.2.2 l k) hx (by rw[a];rfl) IG (λe=>by rw[oU e];rfl) λvs p e=>by rw[oU e,a];exact kS c [q.1,q.2.1,q.2.2] [p.1,p.2.1,p.2.2] l k
    |none=>rfl
 |_=>rfl
theorem ju {d β a:Type}{o:Option a}{f:a->M β}{g:a->M d}{k:d->M β}(e:∀x,f x=mq (g x) k):o.elim bad f=mq (o.elim bad g) k:=by
 induction o using Vp with
 |none=>rfl
 |some x=>exact e x
theorem eJ {a β:Type}{p:Prop}[Decidable p]{x y:M β}{m n:M a}{k:a->M β}(h:x=mq m k)(h':y=mq n k):(if p then x else y)=mq (if p then m else n) k:=by
 by_cases q:p
 ·rw[Vo q,Vo q];exact h
 ·rw[Vn q,Vn q];exact h'
theorem w8 {a β:Type}{p:Bool}{x y:M β}{m n:M a}{k:a->M β}(h:x=mq m k)(h':y=mq n k):(bif p then x else y)=mq (bif p then m else n) k:=by
 induction p using Vs with
 |false=>exact h'
 |true=>exact h
theorem cont {d β i:Type}{m:M d}{f:d->M β}{g:β->M i}{h:d->M i}(e:∀a,h a=mq (f a) g):mq m h=mq (mq m f) g:=by
 rw[mw,funext e]
theorem xZ {β:Type}{f:Expr->(V->M β)->M β}{g:Expr->M V}(e:∀x k,f x k=mq (g x) k)(h:List Expr):∀(d:Str) (k:Str->M β),kR f h d k=mq (eo g h d) k:=by
 induction h using List.rec with
 |nil=>exact λZ Z=>rfl
 |cons x r ih=>
  intro d k;refine ju λq=>?_;induction q using Sum.casesOn with
  |inl s=>exact eJ (ih _ _) rfl
  |inr y=>exact(e _ _).trans (cont λv=>cont λa=>ih _ _)
def uw {β:Type}(K:KI β)(c:Cx)(l:Loc)(e:Expr)(k:It->M β):M β:=if oR e then bad else match nu e with
 |some q=>if q.1= "range"/\c.scope.names.lookup q.1=some .globalImplicit/\bI q.2=false then K.ev c l q.2 λv=>mq (bt v) k else K.ev c l e λv=>mq (bY v) k
 |Option.none=>match rU e with
  |some q=>if q.2.1= "items"/\eQ q.1=false/\q.2.2=true then K.ev c l q.1 λv=>mq (dI v) k else K.ev c l e λv=>mq (bY v) k
  |Option.none=>K.ev c l e λv=>mq (bY v) k
theorem JA {β:Type}{I:Itp}{K:KI β}(o:∀c l e k,K.ev c l e k=mq (I.ev c l e) k)(c:Cx)(l:Loc)(e:Expr)(k:It->M β):uw K c l e k=mq (jS I c l e) k:=by
 unfold uw jS;by_cases h:oR e=true
 ·rw[Vo h,Vo h];rfl
 rw[Vn h,Vn h];induction nu e using Vp with
 |some q=>
  dsimp only;by_cases h:q.1= "range"/\c.scope.names.lookup q.1=some .globalImplicit/\bI q.2=false
  ·rw[Vo h,Vo h,o,mw]
  ·rw[Vn h,Vn h,o,mw]
 |none=>
  dsimp only;induction rU e using Vp with
  |some q=>
   dsimp only;by_cases h:q.2.1= "items"/\eQ q.1=false/\q.2.2=true
   ·rw[Vo h,Vo h,o,mw]
   ·rw[Vn h,Vn h,o,mw]
  |none=>dsimp only;rw[o,mw]
def Cn(wf:Nat)(I:Itp)(c:Cx)(t:Expr)(b:List Stmt)(it:It)(l:Loc):M (Fl×Loc):=
 if b6 it t=false then bad else io (λv l=>mq (target c t v l) λa=>db (I.ex c) b a) it wf 0 l
noncomputable def ka(wf:Nat)(I:Itp)(c:Cx)(t:Expr)(b:List Stmt)(l:Loc):M (Fl×Loc):=
 me (λl=>I.tst c l t) (λl=>db (I.ex c) b l) wf l
def w9(wf:Nat)(I:Itp)(c:Cx)(d t:Expr)(a:List Expr)(sc:Scope)(it:It):M (List V):=
 if b6 it t=false then bad else cz (gF I (cr c sc) t d a) it wf 0 []
def mA(wf:Nat)(I:Itp)(c:Cx)(k v t:Expr)(sc:Scope)(it:It):M (List V):=
 if b6 it t=false then bad else cz (eS I (cr c sc) t k v) it wf 0 []
noncomputable def MY {β:Type}(c:Const)(k:V->M β):M β:=by
 induction c using Const.casesOn with
 |none=>exact k .none
 |bool b=>exact k (.bool b)
 |int i=>exact k (.int i)
 |str s=>exact k (.str s)
 |_=>exact bad
def Sy {β:Type}(op:UnaryOp)(m:(V->M β)->M β)(k:V->M β):M β:=by
 induction op using UnaryOp.casesOn with
 |USub=>exact m λx=>mq (nz x) k
 |Not=>exact m λx=>mq (truth x) λb=>k (.bool (!b))
 |_=>exact bad
def Sf {β:Type}(K:KI β)(c:Cx)(l:Loc)(o i:Expr)(k:V->M β):M β:=if mf i then(BR i).elim bad λn=>if bZ o then K.ev c l o λv=>mq (kM v n) k else bad else K.ev c l o λv=>K.ev c l i λx=>mq (ak v x) k
def OH {β:Type}(I:Itp)(K:KI β)(c:Cx)(l:Loc)(ks:List (Option Expr))(vs:List Expr)(k:V->M β):M β:=if ks.isEmpty then mq (if vs.isEmpty then aC (.dict [])else bad) k else(FC ks).elim bad λq=>(rW vs).elim bad λe=>K.ev c l e.1 λa=>K.ev c l e.2.1 λf=>K.ev c l e.2.2 λd=>mq (d3 q a f d) k
def MZ {β:Type}(P:Prg)(I:Itp)(K:KI β)(c:Cx)(l:Loc)(f:Str)(as:List Expr)(k:V->M β):M β:=
 if as.any bI then bad else if c.scope.names.lookup f=some .globalImplicit then
  (if f= "isinstance" then mq (Mx I c l as) k
  else if xy f then iC (K.ev c l) as λvs=>mq (builtin f vs) k
  else if nq P f then iC (K.ev c l) as λvs=>mq (I.call f vs) k else bad)
 else if c.scope.names.lookup f=some .local/\as= []/\(f==("__debug__":Str))=false then mq (mq (rd c l f) (BU I)) k
 else bad
def M0 {β:Type}(K:KI β)(c:Cx)(l:Loc)(r:Expr×Str×Pos)(as:List Expr)(pos:Pos)(k:V->M β):M β:=if DG r as pos then bad else K.ev c l r.1 λv=>mq (bQ v r.2.1) λZ=>iC (K.ev c l) as λvs=>mq (bN v r.2.1 vs) k
def H7 {β:Type}(wf:Nat)(I:Itp)(K:KI β)(c:Cx)(l:Loc)(a:Expr)(sc:Scope)(g:oV)(k:V->M β):M β:=if !bZ g.1|| !fH c sc||decide (1<g.2.2.length)then bad else uw K c l g.2.1 λit=>mq (w9 wf I c a g.1 g.2.2 sc it) λvs=>mq (aC (.list vs)) k
def Sz {β:Type}(wf:Nat)(I:Itp)(K:KI β)(c:Cx)(l:Loc)(d v:Expr)(sc:Scope)(t a:Expr)(k:V->M β):M β:=if !bZ t|| !fH c sc then bad else uw K c l a λit=>mq (mA wf I c d v t sc it) λps=>mq (aC (.dict (bR ps))) k
def PF {β:Type}(P:Prg)(wf:Nat)(I:Itp)(K:KI β)(c:Cx)(l:Loc)(e:Expr)(k:V->M β):M β:=by
 induction e using Expr.casesOn with
 |Constant c=>exact MY c k
 |Name x=>exact if x= "__debug__" then bad else MW c l x k
 |BinOp a op b=>exact K.ev c l a λx=>K.ev c l b λy=>mq (ah op x y) k
 |UnaryOp op a=>exact Sy op (K.ev c l a) k
 |BoolOp op vs=>exact Cm (K.ev c l) op vs k
 |Compare a ops bs=>exact uf ops bs λop b=>K.ev c l a λx=>K.ev c l b λy=>mq (cmp op x y) λr=>k (.bool r)
 |IfExp t a b=>exact K.tst c l t λr=>match r with|true=>K.ev c l a k|false=>K.ev c l b k
 |Attribute o a=>exact if eQ o then bad else K.ev c l o λv=>mq (aM v a) k
 |Subscript o i=>exact Sf K c l o i k
 |Tuple es=>exact iC (K.ev c l) es λvs=>if vs.length<=64 then k (.tup vs)else bad
 |List es=>exact iC (K.ev c l) es λvs=>if vs.length<=64 then mq (aC (.list vs)) k else bad
 |Dict ks vs=>exact OH I K c l ks vs k
 |Call f as ks pos=>exact bif ks.isEmpty then(mh f).elim ((xG f).elim bad λr=>M0 K c l r as pos k) λx=>MZ P I K c l x as k else bad
 |Lambda a body sc=>exact mq (My c a body sc) k
 |ListComp elt gs sc=>exact(dc gs).elim bad λg=>H7 wf I K c l elt sc g k
 |DictComp kx v gs sc=>exact(dc gs).elim bad λg=>bif g.2.2.isEmpty then Sz wf I K c l kx v sc g.1 g.2.1 k else bad
 |JoinedStr vs=>exact if vs.length<2 then bad else kR (K.ev c l) vs Str.empty λs=>k (.str s)
 |_=>exact bad
def M1 {β:Type}(K:KI β)(c:Cx)(l:Loc)(e:Expr)(k:Bool->M β):M β:=by
 have d:M β:=K.ev c l e λv=>mq (truth v) k;induction e using Expr.casesOn with
 |UnaryOp op a=>
  induction op using UnaryOp.casesOn with
  |Not=>exact K.tst c l a λb=>k (!b)
  |_=>exact d
 |BoolOp op vs=>exact sA (K.tst c l) op vs k
 |IfExp t a b=>exact K.tst c l t λr=>match r with|true=>K.tst c l a k|false=>K.tst c l b k
 |Compare a ops bs=>exact uf ops bs λop b=>K.ev c l a λx=>K.ev c l b λy=>mq (cmp op x y) k
 |_=>exact d
def M2 {β:Type}(wf:Nat)(I:Itp)(K:KI β)(c:Cx)(l:Loc)(t e:Expr)(k:Fl->Loc->M β):M β:=by
 induction t using Expr.casesOn with
 |Attribute o a=>exact K.ev c l e λv=>K.ev c l o λx=>mq (dF x a v) λZ=>k .next l
 |Subscript o i=>exact K.ev c l e λv=>K.ev c l o λx=>K.ev c l i λy=>mq (cH x y v) λZ=>k .next l
 |Name x px=>exact(vB e).elim (if ix e then bad else K.ev c l e λv=>fY c (.Name x px) v l λd=>k .next d) λq=>H7 wf I K c l q.1 q.2.2 q.2.1 λv=>fY c (.Name x px) v l λd=>k .next d
 |Tuple ts q p=>exact if ix e=true\/oQ ts e=false then bad else K.ev c l e λv=>fY c (.Tuple ts q p) v l λd=>k .next d
 |_=>exact bad
def PG {β:Type}(P:Prg)(wf:Nat)(I:Itp)(K:KI β)(c:Cx)(l:Loc)(s:Stmt)(k:Fl->Loc->M β):M β:=by
 have d:M β:=mq (BY P wf I c l s) λp=>k p.1 p.2;induction s using Stmt.casesOn with
 |Return o=>exact o.elim bad λe=>K.ev c l e λv=>k (.ret v) l
 |Expr e=>exact if ix e then bad else K.ev c l e λZ=>k .next l
 |If t a b=>exact K.tst c l t λr=>match r with|true=>bj (K.ex c) a l k|false=>bj (K.ex c) b l k
 |While t b els=>exact bif els.isEmpty then mq (ka wf I c t b l) λp=>k p.1 p.2 else bad
 |For t iter b els=>exact bif els.isEmpty then uw K c l iter λit=>mq (Cn wf I c t b it l) λp=>k p.1 p.2 else bad
 |Assign ts e=>exact(fI ts).elim bad λt=>M2 wf I K c l t e k
 |Raise o y=>exact(bif y.isNone then o.bind nu else none).elim bad λq=>if q.1= "Refusal"/\c.scope.names.lookup q.1=some .globalImplicit/\bI q.2=false then K.ev c l q.2 λv h=>.exc v h else bad
 |_=>exact d
def M3 {β:Type}(P:Prg)(wf:Nat)(I:Itp)(K:KI β):KI β where
 ev:=PF P wf I K
 tst:=M1 K
 ex:=PG P wf I K
structure KOk {β:Type} (I:Itp) (K:KI β):Prop where
 ev:∀c l e k,K.ev c l e k=mq (I.ev c l e) k
 tst:∀c l e k,K.tst c l e k=mq (I.tst c l e) k
 ex:∀c l e k,K.ex c l e k=mq (I.ex c l e) λp=>k p.1 p.2
theorem nO {a β:Type}{x:M β}{m:M a}{k:a->M β}(h:b=false->x=mq m k):(if b=true then bad else x)=mq (if b=true then bad else m) k:=by
 induction b using Vs with
 |true=>rfl
 |false=>exact h rfl
theorem Em {d β:Type}{a:List CmpOp}{bs:List Expr}{f:CmpOp->Expr->M β}{g:CmpOp->Expr->M d}{k:d->M β}(e:∀op b,f op b=mq (g op b) k):uf a bs f=mq (uf a bs g) k:=ju λop=>ju λb=>eJ rfl (e op b)
section
variable {β:Type} {P:Prg} {wf:Nat} {I:Itp} {K:KI β}
theorem KOk.go(o:KOk I K){a:Type}{f:V->M β}{g:V->M a}{k:a->M β}(h:∀v,f v=mq (g v) k):K.ev c l e f=mq (mq (I.ev c l e) g) k:=(o.ev c l e f).trans (cont h)
theorem KOk.gt(o:KOk I K){a:Type}{f:Bool->M β}{g:Bool->M a}{k:a->M β}(h:∀v,f v=mq (g v) k):K.tst c l e f=mq (mq (I.tst c l e) g) k:=(o.tst c l e f).trans (cont h)
theorem KOk.gs(o:KOk I K){a:List Expr}{d:Type}{f:List V->M β}{g:List V->M d}{k:d->M β}(h:∀v,f v=mq (g v) k):iC (K.ev c l) a f=mq (mq (dN (I.ev c l) a) g) k:=(vQ (o.ev c l) a f).trans (cont h)
theorem KOk.gi(o:KOk I K){a:Type}{f:It->M β}{g:It->M a}{k:a->M β}(h:∀v,f v=mq (g v) k):uw K c l e f=mq (mq (jS I c l e) g) k:=(JA o.ev c l e f).trans (cont h)
theorem x9 {a:Type}{x y:M β}{m n:M a}{k:a->M β}(h:x=mq m k)(h':y=mq n k):(match b with|true=>x|false=>y)=mq (match b with|true=>m|false=>n) k:=by
 induction b using Vs with
 |true=>exact h
 |false=>exact h'
theorem M4(o:KOk I K){a:Expr}{sc:Scope}{g:oV}(k:V->M β):H7 wf I K c l a sc g k=mq (HZ I wf c l a sc g) k:=by
 unfold H7 HZ tZ;rw[mw];exact nO λZ=>o.gi λit=>rfl
theorem JB(o:KOk I K)(c:Cx)(l:Loc)(e:Expr)(k:V->M β):PF P wf I K c l e k=mq (ME P wf I c l e) k:=by
 induction e using Vw with
 |Constant v i p=>induction v using Const.casesOn with
  |_=>rfl
 |Name x p=>exact eJ rfl (MX c l x k)
 |BinOp a op b p=>exact o.go λx=>o.go λy=>rfl
 |UnaryOp op a p=>induction op using PySem.UnaryOp.casesOn with
  |USub=>exact o.go λx=>rfl
  |Not=>exact o.go λx=>cont λb=>rfl
  |_=>rfl
 |BoolOp op vs p=>exact A0 (o.ev c l) op vs k
 |Compare a ops bs p=>exact Em λop b=>o.go λx=>o.go λy=>cont λr=>rfl
 |IfExp t a b p=>exact o.gt λr=>x9 (o.ev c l a k) (o.ev c l b k)
 |Attribute ob a p=>exact nO λZ=>o.go λv=>rfl
 |Subscript ob i p=>exact eJ (ju λn=>eJ (o.go λv=>rfl) rfl) (o.go λv=>o.go λx=>rfl)
 |Tuple es q p=>exact o.gs λvs=>eJ rfl rfl
 |List es p=>exact o.gs λvs=>eJ rfl rfl
 |Dict ks vs p=>exact eJ rfl (ju λq=>ju λe=>o.go λd=>o.go λj=>o.go λh=>rfl)
 |Call f as kws p=>
  refine w8 ?_ rfl;induction mh f using Vp with
  |none=>exact ju λr=>nO λZ=>o.go λv=>cont λZ=>o.gs λvs=>rfl
  |some x=>exact nO λZ=>eJ (eJ rfl (eJ (o.gs λvs=>rfl) (eJ (o.gs λvs=>rfl) rfl))) (eJ rfl rfl)
 |ListComp elt gs sc p=>exact ju λg=>M4 o k
 |DictComp kx v gs sc p=>
  refine ju λg=>w8 (nO λZ=>o.gi λit=>?_) rfl;unfold mA;by_cases q:b6 it g.1=false
  ·rw[Vo q,Vo q];rfl
  ·rw[Vn q,Vn q,mw]
 |JoinedStr vs p=>exact eJ rfl ((xZ (o.ev c l) vs Str.empty _).trans (cont λs=>rfl))
 |_=>rfl
theorem Gy(o:KOk I K)(c:Cx)(l:Loc)(e:Expr)(k:Bool->M β):M1 K c l e k=mq (FH I c l e) k:=by
 have d:∀e,K.ev c l e (λv=>mq (truth v) k)=mq (mq (I.ev c l e) truth) k:=λe=>o.go λv=>rfl;induction e using Vw with
 |UnaryOp op a p=>induction op using PySem.UnaryOp.casesOn with
  |Not=>exact o.gt λb=>rfl
  |_=>exact d _
 |BoolOp=>exact rj (o.tst c l) _ _ k
 |IfExp t a b p=>exact o.gt λr=>x9 (o.tst c l a k) (o.tst c l b k)
 |Compare a ops bs p=>exact Em λop b=>o.go λx=>o.go λy=>rfl
 |_=>exact d _
theorem Co {t:Expr}{k:Fl->Loc->M β}:(fY c t v l λa=>k .next a)=mq (mq (target c t v l) λa=>mr (.next,a)) λp=>k p.1 p.2:=(jE c t v l _).trans (cont λa=>rfl)
theorem JC(o:KOk I K)(c:Cx)(l:Loc)(t e:Expr)(k:Fl->Loc->M β):M2 wf I K c l t e k=mq (FF I wf c l t e) λp=>k p.1 p.2:=by
 induction t using Vw with
 |Attribute ob a q=>exact o.go λv=>o.go λx=>cont λZ=>rfl
 |Subscript ob i q=>exact o.go λv=>o.go λx=>o.go λy=>cont λZ=>rfl
 |Name x px=>
  show(vB e).elim _ _=mq ((vB e).elim _ _) _
  induction vB e using Vp with
  |none=>exact nO λZ=>o.go λv=>Co
  |some q=>exact(M4 o _).trans (cont λv=>Co)
 |Tuple ts q p'=>exact eJ rfl (o.go λv=>Co)
 |_=>rfl
theorem JD(o:KOk I K)(c:Cx)(l:Loc)(s:Stmt)(k:Fl->Loc->M β):PG P wf I K c l s k=mq (BY P wf I c l s) λp=>k p.1 p.2:=by
 induction s using PySem.Stmt.casesOn with
 |Return v p=>exact ju λe=>o.go λv=>rfl
 |Expr e p=>exact nO λZ=>o.go λZ=>rfl
 |If t a b p=>exact o.gt λr=>x9 (jn (o.ex c) a l k) (jn (o.ex c) b l k)
 |While t b q p=>exact w8 rfl rfl
 |For t iter b q p=>exact w8 (o.gi λit=>rfl) rfl
 |Assign ts e p=>exact ju λt=>JC o c l t e k
 |Raise x y p=>exact ju λq=>eJ (o.go λv=>rfl) rfl
 |_=>rfl
end
theorem JE {β:Type}(P:Prg)(wf:Nat){I:Itp}{K:KI β}(o:KOk I K):KOk (AH P wf I) (M3 P wf I K):=
 ⟨JB o,Gy o,JD o⟩
def kK {β:Type}(P:Prg)(wf:Nat)(C:Str->List V->M V):Nat->KI β
 |0=>⟨λZ Z Z Z=>bad,λZ Z Z Z=>bad,λZ Z Z Z=>bad⟩
 |n+1=>M3 P wf (jY P wf C n) (kK P wf C n)
theorem nP {β:Type}(P:Prg)(wf:Nat)(C:Str->List V->M V):∀n,KOk (β:=β) (jY P wf C n) (kK P wf C n)
 |0=>⟨λZ Z Z Z=>rfl,λZ Z Z Z=>rfl,λZ Z Z Z=>rfl⟩
 |n+1=>by
  have o:=JE P wf (nP (β:=β) P wf C n);exact⟨o.ev,o.tst,o.ex⟩
noncomputable def ke:List (Str×NameKind)->Nat->List (Str×Nat)
 | [],_=> []
 |(x,k)::r,b=>match k with
  |.cell=>(x,b)::ke r (b+1)
  |_=>ke r b
noncomputable def cellN:List (Str×NameKind)->Nat
 | []=>0
 |(_,k)::r=>match k with
  |.cell=>cellN r+1
  |_=>cellN r
theorem nQ:∀(ns:List (Str×NameKind)) (h:List O),hM.go ns h=.ok (ke ns h.length) (h++List.replicate (cellN ns) (.cell none))
 | [],h=>by show R.ok [] h=_;simp[ke,cellN]
 |(x,k)::r,h=>by
  cases k
  case cell=>
   show mq (hM.go r) (λl=>mr ((x,h.length)::l)) (h++ [.cell Option.none])=_;unfold mq;rw[nQ r];simp[mr,ke,cellN,TD]
  all_goals exact nQ r h
def aw(x:Str)(f:Fn)(b:Nat):Cx:=⟨x,f.scope,ke f.scope.names b⟩
def kU(P:Prg)(wf:Nat)(C:Str->List V->M V)(n:Nat)(x:Str)(f:Fn)(vs:List V)(b:Nat):M V:=match pS f.params.args f.params.defaults vs with
 |some bs=>sB (aw x f b) (bs.map (·.1)) (bs.map (·.2)) [] λl=>
   bj ((kK P wf C n).ex (aw x f b)) f.body l λa Z=>mr (match a with|.ret v=>v|_=>.none)
 |Option.none=>bad
theorem yc(P:Prg)(wf:Nat)(C:Str->List V->M V)(n:Nat)(x:Str)(f:Fn)(vs:List V)(h:List O):
  fj (jY P wf C n) x f vs h=kU P wf C n x f vs h.length (h++List.replicate (cellN f.scope.names) (.cell none)):=by
 unfold fj kU;induction pS f.params.args f.params.defaults vs using Vp with
 |some bs=>
  show mq (hM.go f.scope.names) _ h=_;rw[show ∀g,mq (hM.go f.scope.names) g h=(g:List (Str×Nat)->M V) (ke f.scope.names h.length) (h++List.replicate (cellN f.scope.names) (.cell none)) from λg=>by unfold mq;rw[nQ]];dsimp only;rw[kS]
  congr 1
  congr 1;funext l
  rw[jn (g:=(jY P wf C n).ex (aw x f h.length)) ((nP P wf C n).ex _)]
  congr 1
 |none=>rfl
end Mine
end
noncomputable section
open PySem PySem.W PySem.Calls PyProof.Rows
set_option maxRecDepth 100000
namespace Mine
variable {wf j:Nat} {h h':List O} {op:CmpOp} {u v:V}
noncomputable def aq(x:Str):Fn:=(ai.fn x).getD ⟨⟨[],[],none,[],[],none,[]⟩,[],default⟩
abbrev cx (f:Str) (b:Nat):Cx:=aw f (aq f) b
structure Tb where
 f:Str->List V->M V
 wf:Nat
abbrev iq {β:Type} (op:CmpOp) (a b:V) (x y:M β):M β:=mq (cmp op a b) λc=>bif c then x else y
abbrev Bd (C:Tb) (x:Str) (vs:List V) (b:Nat):M V:=kU ai C.wf C.f 24 x (aq x) vs b
abbrev Ic (C:Tb) (m:Nat):Itp:=jY ai C.wf C.f m
noncomputable def Sg(s:Stmt)(n:Nat):List Stmt:=by
 induction s using Stmt.casesOn with
 |If _ a b=>exact if n=0 then a else b
 |For _ _ b=>exact b
 |While _ b=>exact b
 |Try b=>exact b
 |_=>exact []
def H8:List Stmt->List Nat->List Stmt
 |l,i::p::r=>match l[i]? with|some s=>H8 (Sg s p) r|none=> []
 |l,[i]=>l.drop i
 |l,[]=>l
abbrev aG (f:Str) (p:List Nat):List Stmt:=H8 (aq f).body p
noncomputable def yd:Expr:=.Constant .none 0 default
noncomputable def H9 {a:Type}(d:a)(f:Stmt->a)(l:List Stmt):a:=@List.casesOn Stmt (λZ=>a) l d λs Z=>f s
def yf:List Stmt->Expr:=H9 yd λs=>by
 induction s using Stmt.casesOn with
 |For t=>exact t
 |_=>exact yd
def kg:List Stmt->List Stmt:=H9 [] λs=>by
 induction s using Stmt.casesOn with
 |For _ _ b=>exact b
 |While _ b=>exact b
 |_=>exact []
def nU:List Stmt->Expr:=H9 yd λs=>by
 induction s using Stmt.casesOn with
 |While t=>exact t
 |If t=>exact t
 |_=>exact yd
def bG:List Stmt->Expr:=H9 yd λs=>by
 induction s using Stmt.casesOn with
 |Return o=>exact o.getD yd
 |Assign _ e=>exact e
 |Expr e=>exact e
 |For _ e=>exact e
 |If e=>exact e
 |_=>exact yd
noncomputable def En(l:List Expr)(n:Nat):Expr:=l.getD n (.Constant .none 0 default)
def SA(e:Expr)(n:Nat):Expr:=by
 have d:=e;induction e using Expr.casesOn with
 |Call _ as=>exact En as n
 |List es=>exact En es n
 |Tuple es=>exact En es n
 |BoolOp _ es=>exact En es n
 |BinOp a _ b=>exact if n=0 then a else b
 |Compare a _ bs=>exact if n=0 then a else En bs (n-1)
 |IfExp t a b=>exact if n=0 then t else if n=1 then a else b
 |Subscript a b=>exact if n=0 then a else b
 |UnaryOp _ a=>exact a
 |Attribute a=>exact a
 |_=>exact d
def aX:Expr->List Nat->Expr
 |e,[]=>e
 |e,n::r=>aX (SA e n) r
def cF(wf:Nat)(I:Itp)(c:Cx)(e:Expr)(it:It):M (List V):=by
 induction e using Expr.casesOn with
 |ListComp elt gs sc=>exact(dc gs).elim bad λg=>w9 wf I c elt g.1 g.2.2 sc it
 |DictComp kx v gs sc=>exact(dc gs).elim bad λg=>bif g.2.2.isEmpty then mA wf I c kx v g.1 sc it else bad
 |_=>exact bad
def Eo {β:Type}(C:Tb)(m:Nat)(c:Cx)(a:Expr)(g:oV)(sc:Scope)(v:V)(k:Option V->M β):M β:=fY (cr c sc) g.1 v [] λd=>sA ((kK ai C.wf C.f m).tst (cr c sc) d) .And g.2.2 λb=>match b with
  |true=>(kK ai C.wf C.f m).ev (cr c sc) d a λx=>k (some x)
  |false=>k Option.none
def A3 {β:Type}(C:Tb)(m:Nat)(c:Cx)(e i:Expr)(g:oV)(sc:Scope)(v:V)(k:Option V->M β):M β:=fY (cr c sc) g.1 v [] λa=>(kK ai C.wf C.f m).ev (cr c sc) a e λb=>(kK ai C.wf C.f m).ev (cr c sc) a i λd=>match b with
  |.str _=>k (some (.tup [b,d]))
  |_=>bad
def bS {β:Type}(C:Tb)(m:Nat)(c:Cx)(e:Expr)(v:V)(k:Option V->M β):M β:=by
 induction e using Expr.casesOn with
 |ListComp elt gs sc=>exact(dc gs).elim bad λg=>Eo C m c elt g sc v k
 |DictComp kx vx gs sc=>exact(dc gs).elim bad λg=>bif g.2.2.isEmpty then A3 C m c kx vx g sc v k else bad
 |_=>exact bad
noncomputable def cb:Fl->Loc->M V:=λa Z=>mr (match a with|.ret v=>v|_=>.none)
def cm {β:Type}(C:Tb)(m:Nat)(c:Cx)(r:List Stmt)(k:Fl->Loc->M β)(a:Fl)(l:Loc):M β:=H6 a (bj ((kK ai C.wf C.f m).ex c) r l k) λx=>k x l
abbrev bF (C:Tb) (m:Nat) (f:Str) (b:Nat) (p:List Nat) (it:It) (l:Loc):M (Fl×Loc):=Cn C.wf (Ic C m) (cx f b) (yf (aG f p)) (kg (aG f p)) it l
abbrev A4 (C:Tb) (m:Nat) (f:Str) (b:Nat) (p:List Nat) (l:Loc):M (Fl×Loc):=ka C.wf (Ic C m) (cx f b) (nU (aG f p)) (kg (aG f p)) l
abbrev aJ {β:Type} (C:Tb) (m:Nat) (f:Str) (b:Nat) (p:List Nat) (v:V) (l:Loc) (k:Fl->Loc->M β):M β:=
 fY (cx f b) (yf (aG f p)) v l λa=>bj ((kK ai C.wf C.f m).ex (cx f b)) (kg (aG f p)) a k
noncomputable def Sh(e:Expr):Option (Expr×Scope):=by
 induction e using Expr.casesOn with
 |Lambda _ b sc=>exact some (b,sc)
 |_=>exact none
def xc(e:Expr)(c:Cx):M V:=(Sh e).elim bad λq=>BX c q.1 q.2
def Cp(C:Tb)(b:Nat)(d a:V):M V:=mq (aM d "attrs") λf=>iq .Is f .none (mr .none) (mq (aM d "attrs") λc=>mq (bQ c "get") λZ=>mq (bN c "get" [a]) λe=>mr e)
theorem Cq(C:Tb)(b:Nat)(c a:V)(h:List O):Bd C "get_attr" [c,a] b h=Cp C b c a h:=by kernel_rfl
def yg(C:Tb)(b:Nat)(d:V):M V:=mq (C.f "get_attr" [d,(.str "dim")]) λa=>iq .Is a .none (mr .none) (mq (aM a "items") λe=>mq (builtin "list" [e]) λc=>mr c)
theorem Gz(C:Tb)(b:Nat)(a:V)(h:List O):Bd C "dim_of" [a] b h=yg C b a h:=by kernel_rfl
def OI(C:Tb)(b:Nat)(d c:V):M V:=mq (A4 C 23 "gcd" b [0] [("a",d),("b",c)]) λa=>cm C 24 (aw "gcd" (aq "gcd") b) (aG "gcd" [1]) cb a.1 a.2
theorem OJ(C:Tb)(b:Nat)(c a:V)(h:List O):Bd C "gcd" [c,a] b h=OI C b c a h:=by kernel_rfl
def Ep(C:Tb)(b:Nat)(a c:V):M V:=iq .Eq c (.int 0) (iq .Eq a (.int 0) (mr (.tup [.int 0,.int 0])) (let j1:V->M V:=λn=>mr n;iq .Gt a (.int 0) (j1 (.tup [(.int 1),(.int 0)])) (j1 (.tup [(.int (-1)),(.int 0)])))) (let j5:V->V->M V:=λl m=>mq (builtin "abs" [l]) λo=>mq (C.f "gcd" [o,m]) λk=>mq (ah .FloorDiv l k) λd=>mq (ah .FloorDiv m k) λe=>mr (.tup [d,e]);iq .Lt c (.int 0) (mq (ah .Sub (.int 0) a) λi=>mq (ah .Sub (.int 0) c) λg=>j5 i g) (j5 a c))
theorem M5(C:Tb)(b:Nat)(a c:V)(h:List O):Bd C "make" [a,c] b h=Ep C b a c h:=by kernel_rfl
def sC(C:Tb)(b:Nat)(a:V):M V:=iq .Is a .none (mr .none) (mr (.tup [a,(.int 1)]))
theorem Cr(C:Tb)(b:Nat)(a:V)(h:List O):Bd C "from_int" [a] b h=sC C b a h:=by kernel_rfl
def A5(C:Tb)(b:Nat)(d:V):M V:=let j1:V->M V:=λk=>mr k;mq (cmp .Is d .none) λf=>mq (truth (.bool f)) λi=>bif i then(j1 (.bool f))else(let j5:V->M V:=λl=>j1 l;mq (ak d (.int 0)) λm=>mq (cmp .Eq m (.int 0)) λe=>mq (truth (.bool e)) λg=>bif g then(mq (ak d (.int 1)) λa=>mq (cmp .Eq a (.int 0)) λc=>j5 (.bool c))else(j5 (.bool e)))
theorem JF(C:Tb)(b:Nat)(a:V)(h:List O):Bd C "is_na" [a] b h=A5 C b a h:=by kernel_rfl
def qL(C:Tb)(b:Nat)(c:V):M V:=let j1:V->M V:=λg=>mr g;mq (cmp .IsNot c .none) λa=>mq (truth (.bool a)) λe=>bif e then(mq (ak c (.int 1)) λf=>mq (cmp .Gt f (.int 0)) λd=>j1 (.bool d))else(j1 (.bool a))
theorem zQ(C:Tb)(b:Nat)(a:V)(h:List O):Bd C "is_finite" [a] b h=qL C b a h:=by kernel_rfl
def yh(C:Tb)(b:Nat)(c a:V):M V:=let t1:M V:=mr .none;let f2:M V:=mr (.tup [.int 0,.int 0]);iq .Is c .none t1 (iq .Is a .none t1 f2)
theorem GA(C:Tb)(b:Nat)(c a:V)(h:List O):Bd C "marked" [c,a] b h=yh C b c a h:=by kernel_rfl
def Ia(C:Tb)(b:Nat)(a:V):M V:=iq .Is a .none (mr .none) (mq (ak a (.int 0)) λd=>mq (ah .Sub (.int 0) d) λe=>mq (ak a (.int 1)) λc=>mr (.tup [e,c]))
theorem OK(C:Tb)(b:Nat)(a:V)(h:List O):Bd C "neg" [a] b h=Ia C b a h:=by kernel_rfl
def JG(a b:V):M V:=mq (ak a (.int 0)) λc=>mq (ak b (.int 0)) λd=>iq .Eq c d (mr a) (mr (.tup [.int 0,.int 0]))
def M6(C:Tb)(g m:V):M V:=mq (ak g (.int 0)) λo=>mq (ak m (.int 1)) λp=>mq (ah .Mult o p) λn=>mq (ak m (.int 0)) λa=>mq (ak g (.int 1)) λd=>mq (ah .Mult a d) λi=>mq (ah .Add n i) λb=>mq (ak g (.int 1)) λe=>mq (ak m (.int 1)) λk=>mq (ah .Mult e k) λl=>mq (C.f "make" [b,l]) λc=>mr c
def A6(C:Tb)(c a:V):M V:=mq (ak c (.int 1)) λb=>iq .Eq b (.int 0) (mr c) (mq (ak a (.int 1)) λd=>iq .Eq d (.int 0) (mr a) (M6 C c a))
def JH(C:Tb)(b a:V):M V:=mq (ak b (.int 1)) λd=>iq .Eq d (.int 0) (mq (ak a (.int 1)) λc=>iq .Eq c (.int 0) (JG b a) (A6 C b a)) (A6 C b a)
def OL(C:Tb)(b:Nat)(a c:V):M V:=mq (C.f "is_na" [a]) λi=>mq (truth i) λk=>bif k then(mq (C.f "marked" [a,c]) λd=>mr d)else(mq (C.f "is_na" [c]) λe=>mq (truth e) λg=>bif g then(mq (C.f "marked" [a,c]) λd=>mr d)else(JH C a c))
theorem OM(C:Tb)(b:Nat)(c a:V)(h:List O):Bd C "add" [c,a] b h=OL C b c a h:=by kernel_rfl
noncomputable def ON(C:Tb)(b:Nat)(c a:V):M V:=mq (C.f "neg" [a]) λd=>mq (C.f "add" [c,d]) λe=>mr e
theorem OO(C:Tb)(b:Nat)(c a:V)(h:List O):Bd C "sub" [c,a] b h=ON C b c a h:=by kernel_rfl
def OP(C:Tb)(b:Nat)(a c:V):M V:=let t9:M V:=mq (C.f "marked" [a,c]) λk=>mr k;let f10:M V:=mq (ak a (.int 0)) λn=>mq (ak c (.int 0)) λo=>mq (ah .Mult n o) λp=>mq (ak a (.int 1)) λq=>mq (ak c (.int 1)) λm=>mq (ah .Mult q m) λr=>mq (C.f "make" [p,r]) λl=>mr l;mq (C.f "is_na" [a]) λd=>mq (truth d) λe=>bif e then(t9)else(mq (C.f "is_na" [c]) λg=>mq (truth g) λi=>bif i then(t9)else(f10))
theorem OQ(C:Tb)(b:Nat)(c a:V)(h:List O):Bd C "mul" [c,a] b h=OP C b c a h:=by kernel_rfl
def M7(C:Tb)(e g:V):M V:=mq (ak e (.int 0)) λk=>mq (ak g (.int 1)) λl=>mq (ah .Mult k l) λi=>mq (ak e (.int 1)) λa=>mq (ak g (.int 0)) λc=>mq (ah .Mult a c) λd=>mq (C.f "make" [i,d]) λb=>mr b
def A7(C:Tb)(a c:V):M V:=mq (ak a (.int 1)) λb=>iq .Eq b (.int 0) (mq (ak c (.int 0)) λe=>iq .Lt e (.int 0) (mq (C.f "neg" [a]) λd=>mr d) (mr a)) (M7 C a c)
def JI(C:Tb)(c a:V):M V:=mq (ak c (.int 1)) λb=>iq .Eq b (.int 0) (mq (ak a (.int 1)) λd=>iq .Eq d (.int 0) (mr (.tup [.int 0,.int 0])) (A7 C c a)) (A7 C c a)
def OR(C:Tb)(b:Nat)(a c:V):M V:=mq (C.f "is_na" [a]) λk=>mq (truth k) λg=>bif g then(mq (C.f "marked" [a,c]) λe=>mr e)else(mq (C.f "is_na" [c]) λd=>mq (truth d) λi=>bif i then(mq (C.f "marked" [a,c]) λe=>mr e)else(JI C a c))
theorem OS(C:Tb)(b:Nat)(c a:V)(h:List O):Bd C "div" [c,a] b h=OR C b c a h:=by kernel_rfl
def GB(C:Tb)(g e:V):M V:=mq (ak e (.int 1)) λa=>iq .Eq a (.int 2) (mq (C.f "root" [g]) λb=>mq (ak e (.int 0)) λc=>mq (C.f "whole_power" [b,c]) λd=>mr d) (λh=>.exc (.str "result is not exact") h)
def GC(C:Tb)(b d:V):M V:=mq (ak d (.int 1)) λe=>iq .Eq e (.int 1) (mq (ak d (.int 0)) λg=>mq (C.f "whole_power" [b,g]) λa=>mr a) (mq (ak b (.int 0)) λc=>iq .Lt c (.int 0) (mr (.tup [.int 0,.int 0])) (GB C b d))
def GD(C:Tb)(a b:V):M V:=mq (ak b (.int 1)) λc=>iq .Eq c (.int 0) (mq (ak b (.int 0)) λg=>mq (C.f "endless_power" [a,g]) λi=>mr i) (mq (ak a (.int 1)) λd=>iq .Eq d (.int 0) (mq (C.f "infinite_power" [a,b]) λe=>mr e) (GC C a b))
def Es(C:Tb)(b a:V):M V:=iq .Eq b (.tup [.int 0,.int 1]) (mq (ak a (.int 0)) λc=>iq .Gt c (.int 0) (mr (.tup [.int 0,.int 1])) (mr (.tup [.int 1,.int 0]))) (GD C b a)
def Et(C:Tb)(a b:V):M V:=mq (C.f "is_na" [a]) λe=>mq (truth e) λg=>bif g then(mq (C.f "marked" [a,b]) λd=>mr d)else(mq (C.f "is_na" [b]) λi=>mq (truth i) λc=>bif c then(mq (C.f "marked" [a,b]) λd=>mr d)else(Es C a b))
def A8(C:Tb)(b:Nat)(c a:V):M V:=iq .Eq c (.tup [.int 1,.int 1]) (mr (.tup [.int 1,.int 1])) (iq .Eq a (.tup [.int 0,.int 1]) (mr (.tup [.int 1,.int 1])) (Et C c a))
theorem JJ(C:Tb)(b:Nat)(c a:V)(h:List O):Bd C "power" [c,a] b h=A8 C b c a h:=by kernel_rfl
def qr(a e:V):M V:=mq (ak a (.int 0)) λb=>iq .Lt b (.int 0) (mq (ak e (.int 0)) λc=>mq (ah .Mod c (.int 2)) λd=>iq .Eq d (.int 0) (mr (.tup [.int 1,.int 0])) (mr a)) (mr a)
def fM(b a:V):M V:=mq (ak a (.int 0)) λc=>iq .Lt c (.int 0) (mr (.tup [.int 0,.int 1])) (qr b a)
def kh(C:Tb)(b:Nat)(c a:V):M V:=mq (ak c (.int 0)) λe=>iq .Lt e (.int 0) (mq (ak a (.int 1)) λd=>iq .NotEq d (.int 1) (mr (.tup [.int 0,.int 0])) (fM c a)) (fM c a)
theorem rk(C:Tb)(b:Nat)(c a:V)(h:List O):Bd C "infinite_power" [c,a] b h=kh C b c a h:=by kernel_rfl
def sE(b c:V):M V:=mq (ah .Mod c (.int 2)) λa=>iq .Eq a (.int 0) (mr (.tup [.int 1,.int 1])) (mr b)
def uz(C:Tb)(k i:V):M V:=mq (ak k (.int 1)) λl=>mq (ah .Sub (.int 0) i) λa=>mq (ah .Pow l a) λb=>mq (ak k (.int 0)) λd=>mq (ah .Sub (.int 0) i) λg=>mq (ah .Pow d g) λc=>mq (C.f "make" [b,c]) λe=>mr e
def iD(C:Tb)(c a:V):M V:=mq (builtin "abs" [a]) λb=>iq .Gt b (.int 4096) (λh=>.exc (.str "result is not exact") h) (iq .GtE a (.int 0) (mq (ak c (.int 0)) λf=>mq (ah .Pow f a) λe=>mq (ak c (.int 1)) λg=>mq (ah .Pow g a) λd=>mr (.tup [e,d])) (uz C c a))
def uA(C:Tb)(a b:V):M V:=mq (ak a (.int 0)) λc=>iq .Eq c (.int (-1)) (mq (ak a (.int 1)) λd=>iq .Eq d (.int 1) (sE a b) (iD C a b)) (iD C a b)
def oo(C:Tb)(b:Nat)(a c:V):M V:=iq .Eq a (.tup [.int 1,.int 1]) (mr (.tup [.int 1,.int 1])) (uA C a c)
theorem ww(C:Tb)(b:Nat)(a c:V)(h:List O):Bd C "whole_power" [a,c] b h=oo C b a c h:=by kernel_rfl
def A9(C:Tb)(b:Nat)(a:V):M V:=mq (C.f "is_finite" [a]) λg=>mq (truth g) λi=>bif !i then(mr a)else(mq (ak a (.int 0)) λc=>mq (ak a (.int 1)) λd=>mq (ah .FloorDiv c d) λe=>mr (.tup [e,(.int 1)]))
theorem JK(C:Tb)(b:Nat)(a:V)(h:List O):Bd C "floor" [a] b h=A9 C b a h:=by kernel_rfl
def vR(C:Tb)(b:Nat)(g e:V):M V:=mq (C.f "div" [g,e]) λa=>mq (C.f "is_finite" [a]) λc=>mq (truth c) λd=>bif ! d then(mr a)else(mq (ak e (.int 1)) λi=>iq .Eq i (.int 0) (let j2:V->M V:=λl=>mr l;mq (ak g (.int 0)) λm=>mq (ak e (.int 0)) λn=>mq (ah .Mult m n) λk=>iq .Lt k (.int 0) (j2 (.tup [(.int (-1)),(.int 1)])) (j2 (.tup [.int 0,.int 1]))) (mq (C.f "floor" [a]) λo=>mr o))
theorem Eu(C:Tb)(b:Nat)(c a:V)(h:List O):Bd C "int_div" [c,a] b h=vR C b c a h:=by kernel_rfl
def oq(C:Tb)(b a:V):M V:=mq (ak a (.int 1)) λe=>iq .Eq e (.int 0) (mq (ak b (.int 0)) λk=>mq (ak a (.int 0)) λl=>mq (ah .Mult k l) λi=>iq .Lt i (.int 0) (mr a) (mr b)) (mq (C.f "div" [b,a]) λm=>mq (C.f "floor" [m]) λg=>mq (C.f "mul" [g,a]) λc=>mq (C.f "sub" [b,c]) λd=>mr d)
def wA(C:Tb)(d c:V):M V:=mq (ak c (.int 0)) λb=>iq .Eq b (.int 0) (mr (.tup [.int 0,.int 0])) (mq (ak d (.int 1)) λa=>iq .Eq a (.int 0) (mr (.tup [.int 0,.int 0])) (oq C d c))
def qM(C:Tb)(b:Nat)(a c:V):M V:=mq (C.f "is_na" [a]) λd=>mq (truth d) λk=>bif k then(mq (C.f "marked" [a,c]) λe=>mr e)else(mq (C.f "is_na" [c]) λg=>mq (truth g) λi=>bif i then(mq (C.f "marked" [a,c]) λe=>mr e)else(wA C a c))
theorem zR(C:Tb)(b:Nat)(c a:V)(h:List O):Bd C "remainder" [c,a] b h=qM C b c a h:=by kernel_rfl
def rl(C:Tb)(b:Nat)(a:V):M V:=mq (aM a "kind") λc=>iq .Eq c (.str "NULL") (mr (.int 0)) (let t10:M V:=mq (aM a "items") λg=>mq (builtin "len" [g]) λi=>mr i;let f11:M V:=iq .Eq c (.str "environment") (mq (aM a "frame") λk=>mq (builtin "len" [k]) λl=>mr l) (iq .Eq c (.str "dots") (mq (aM a "args") λf=>mq (builtin "len" [f]) λm=>mr m) (mr (.int 1)));mq (isV "Vector" a) λd=>mq (truth d) λe=>bif e then(t10)else(iq .Eq c (.str "language") t10 f11))
theorem yi(C:Tb)(b:Nat)(a:V)(h:List O):Bd C "length" [a] b h=rl C b a h:=by kernel_rfl
def ki(C:Tb)(b:Nat)(c a:V):M V:=let t2:M V:=mr (.int 0);let f3:M V:=mq (builtin "max" [c,a]) λd=>mr d;iq .Eq c (.int 0) t2 (iq .Eq a (.int 0) t2 f3)
theorem rm(C:Tb)(b:Nat)(c a:V)(h:List O):Bd C "recycle_length" [c,a] b h=ki C b c a h:=by kernel_rfl
def gU(C:Tb)(b:Nat)(c d a:V):M V:=let j1:M V:=mr .none;let t3:M V:=mq (bQ a "append") λZ=>mq (bN a "append" [(.str "longer object length is not a multiple of shorter object length")]) λi=>j1;let f4:M V:=j1;iq .Gt c (.int 0) (iq .Gt d (.int 0) (mq (builtin "max" [c,d]) λf=>mq (builtin "min" [c,d]) λe=>mq (ah .Mod f e) λg=>iq .NotEq g (.int 0) t3 f4) f4) f4
theorem rn(C:Tb)(b:Nat)(d c a:V)(h:List O):Bd C "note_recycling" [d,c,a] b h=gU C b d c a h:=by kernel_rfl
def Ev(C:Tb)(b:Nat)(a:V):M V:=mq (bY a) λc=>mq (bF C 23 "product" b [1] c [("numbers",a),("found",(.int 1))]) λd=>cm C 24 (aw "product" (aq "product") b) (aG "product" [2]) cb d.1 d.2
theorem Ew(C:Tb)(b:Nat)(a:V)(h:List O):Bd C "product" [a] b h=Ev C b a h:=by kernel_rfl
noncomputable def iE(C:Tb)(b:Nat)(c d a:V):M V:=mq (C.f "result_dim" [c,d]) λm=>mq (C.f "note_array_of_one" [c,d,a]) λn=>mq (C.f "length" [c]) λi=>mq (C.f "length" [d]) λk=>mq (C.f "note_recycling" [i,k,a]) λo=>mq (C.f "length" [c]) λg=>mq (C.f "length" [d]) λl=>mq (C.f "recycle_length" [g,l]) λe=>mr e
theorem sF(C:Tb)(b:Nat)(c d a:V)(h:List O):Bd C "common_length" [c,d,a] b h=iE C b c d a h:=by kernel_rfl
def zS(C:Tb)(b:Nat)(d a:V):M V:=mq (aM d "attrs") λf=>iq .Is f .none (mr .none) (mq (aM d "attrs") λc=>mq (bQ c "get") λZ=>mq (bN c "get" [a]) λe=>mr e)
theorem zT(C:Tb)(b:Nat)(c a:V)(h:List O):Bd C "attribute" [c,a] b h=zS C b c a h:=by kernel_rfl
def uB(C:Tb)(b:Nat)(e g a d i:V):M V:=mq (builtin "list" [i]) λl=>mq (C.f "Vector" [.str "integer",l]) λm=>mq (cH d (.str "dim") m) λZ=>mq (bY (.tup [g,e])) λc=>mq (bF C 22 "shape_attrs" b [2,0,1] c [("u",e),("v",g),("result",a),("found",d),("shape",i)]) λk=>cm C 23 (aw "shape_attrs" (aq "shape_attrs") b) (aG "shape_attrs" [2,0,2]) (cm C 24 (aw "shape_attrs" (aq "shape_attrs") b) (aG "shape_attrs" [3]) cb) k.1 k.2
def uC(C:Tb)(b:Nat)(d e a g i:V):M V:=mq (bY (.tup [e,d])) λc=>mq (bF C 22 "shape_attrs" b [2,1,0] c [("u",d),("v",e),("result",a),("found",g),("shape",i)]) λf=>cm C 23 (aw "shape_attrs" (aq "shape_attrs") b) (aG "shape_attrs" [2,1,1]) (cm C 24 (aw "shape_attrs" (aq "shape_attrs") b) (aG "shape_attrs" [3]) cb) f.1 f.2
def ot(C:Tb)(b:Nat)(c d a:V):M V:=mq (aC (.dict [])) λg=>mq (C.f "result_dim" [c,d]) λe=>iq .IsNot e .none (uB C b c d a g e) (uC C b c d a g e)
theorem wB(C:Tb)(b:Nat)(c d a:V)(h:List O):Bd C "shape_attrs" [c,d,a] b h=ot C b c d a h:=by kernel_rfl
def mC(C:Tb)(b:Nat)(c d a:V):M V:=mq (C.f "shape_attrs" [c,d,a]) λi=>mq (bY (.tup [d,c])) λe=>mq (bF C 23 "result_attrs" b [1] e [("u",c),("v",d),("result",a)]) λg=>cm C 24 (aw "result_attrs" (aq "result_attrs") b) (aG "result_attrs" [2]) cb g.1 g.2
theorem uD(C:Tb)(b:Nat)(c d a:V)(h:List O):Bd C "result_attrs" [c,d,a] b h=mC C b c d a h:=by kernel_rfl
def cX(C:Tb)(b:Nat)(f i g:V):M V:=let t21:M V:=mr .none;let f22:M V:=let j1:V->M V:=λa=>mq (builtin "abs" [a]) λn=>iq .Gt n (.int 2147483647) (mr .none) (mr a);iq .Eq f (.str "+") (mq (ah .Add i g) λo=>j1 o) (let j6:V->M V:=λe=>j1 e;iq .Eq f (.str "-") (mq (ah .Sub i g) λp=>j6 p) (let j9:V->M V:=λc=>j6 c;iq .Eq f (.str "*") (mq (ah .Mult i g) λk=>j9 k) (iq .Eq g (.int 0) (mr .none) (let j12:V->M V:=λd=>j9 d;iq .Eq f (.str "%/%") (mq (ah .FloorDiv i g) λl=>j12 l) (mq (ah .Mod i g) λm=>j12 m)))));iq .Is i .none t21 (iq .Is g .none t21 f22)
theorem yj(C:Tb)(b:Nat)(a c d:V)(h:List O):Bd C "integer_op" [a,c,d] b h=cX C b a c d h:=by kernel_rfl
def df(C:Tb)(b:Nat)(a c d:V):M V:=iq .Eq a (.str "+") (mq (C.f "add" [c,d]) λe=>mr e) (iq .Eq a (.str "-") (mq (C.f "sub" [c,d]) λi=>mr i) (iq .Eq a (.str "*") (mq (C.f "mul" [c,d]) λk=>mr k) (iq .Eq a (.str "/") (mq (C.f "div" [c,d]) λl=>mr l) (iq .Eq a (.str "^") (mq (C.f "power" [c,d]) λm=>mr m) (iq .Eq a (.str "%/%") (mq (C.f "int_div" [c,d]) λg=>mr g) (mq (C.f "remainder" [c,d]) λn=>mr n))))))
theorem zU(C:Tb)(b:Nat)(a c d:V)(h:List O):Bd C "double_op" [a,c,d] b h=df C b a c d h:=by kernel_rfl
def iV(C:Tb)(b:Nat)(a:V):M V:=mq (aM a "kind") λf=>iq .Eq f (.str "NULL") (mq (aC (.list [])) λc=>mr c) (mq (aM a "kind") λe=>iq .NotIn e (.tup [(.str "logical"),(.str "integer"),(.str "double")]) (λh=>.exc (.str "non-numeric argument to binary operator") h) (mq (aM a "items") λd=>mr d))
theorem mD(C:Tb)(b:Nat)(a:V)(h:List O):Bd C "number_items" [a] b h=iV C b a h:=by kernel_rfl
def mE(C:Tb)(b:Nat)(e:V):M V:=mq (C.f "number_items" [e]) λd=>mq (aM e "kind") λi=>iq .Eq i (.str "double") (mr d) (mq (bY d) λa=>mq (cF C.wf (Ic C 22) (aw "double_items" (aq "double_items") b) (aX (bG (aG "double_items" [2])) []) a) λc=>mq (aC (.list c)) λg=>mr g)
theorem uE(C:Tb)(b:Nat)(a:V)(h:List O):Bd C "double_items" [a] b h=mE C b a h:=by kernel_rfl
def kj(C:Tb)(b:Nat)(e d a i c:V):M V:=mq (aC (.list [])) λk=>mq (bt i) λf=>mq (bF C 23 "integer_result" b [2] f [("op",e),("left",d),("right",a),("n",i),("notes",c),("found",k),("overflow",(.bool false))]) λg=>cm C 24 (aw "integer_result" (aq "integer_result") b) (aG "integer_result" [3]) cb g.1 g.2
theorem ro(C:Tb)(b:Nat)(e d a f c:V)(h:List O):Bd C "integer_result" [e,d,a,f,c] b h=kj C b e d a f c h:=by kernel_rfl
def kW(C:Tb)(b:Nat)(e c a g:V):M V:=mq (fL b e) λZ=>mq (fL (b+1) c) λZ=>mq (fL (b+2) a) λZ=>mq (bt g) λf=>mq (cF C.wf (Ic C 22) (aw "double_result" (aq "double_result") b) (aX (bG (aG "double_result" [0])) []) f) λd=>mq (aC (.list d)) λi=>mr i
theorem sG(C:Tb)(b:Nat)(d c a e:V)(h:List O):Bd C "double_result" [d,c,a,e] b h=kW C b d c a e h:=by kernel_rfl
noncomputable def kX(C:Tb)(b c d i:V):M V:=mq (C.f "double_items" [c]) λk=>mq (C.f "double_items" [d]) λg=>mq (C.f "double_result" [b,k,g,i]) λe=>mq (C.f "Vector" [.str "double",e]) λa=>mq (C.f "result_attrs" [c,d,a]) λl=>mr a
noncomputable def Ex(C:Tb)(c g i a e k l:V):M V:=mq (C.f "integer_result" [c,e,k,l,a]) λd=>mq (C.f "Vector" [.str "integer",d]) λb=>mq (C.f "result_attrs" [g,i,b]) λm=>mr b
def GE(C:Tb)(a d c b g i e:V):M V:=mq (aM c "kind") λf=>iq .Eq f (.str "double") (kX C a d c e) (iq .In a (.tup [.str "/",.str "^"]) (kX C a d c e) (Ex C a d c b g i e))
def Ba(C:Tb)(b:Nat)(c d e a:V):M V:=mq (C.f "number_items" [d]) λk=>mq (C.f "number_items" [e]) λl=>mq (C.f "common_length" [d,e,a]) λi=>mq (aM d "kind") λg=>iq .Eq g (.str "double") (kX C c d e i) (GE C c d e a k l i)
theorem Bc(C:Tb)(b:Nat)(c d e a:V)(h:List O):Bd C "arith" [c,d,e,a] b h=Ba C b c d e a h:=by kernel_rfl
def Cs(C:Tb)(b:Nat)(c a:V):M V:=let j1:M V:=mr a;mq (aM c "attrs") λf=>iq .IsNot f .none (mq (aM c "attrs") λd=>mq (builtin "dict" [d]) λe=>mq (dF a "attrs" e) λZ=>j1) j1
theorem Ct(C:Tb)(b:Nat)(c a:V)(h:List O):Bd C "keep_all" [c,a] b h=Cs C b c a h:=by kernel_rfl
def jv(C:Tb)(b:Nat)(a:V):M V:=mq (aM a "kind") λc=>iq .NotIn c (.tup [(.str "logical"),(.str "integer"),(.str "double")]) (λh=>.exc (.str "invalid argument to unary operator") h) (mr .none)
theorem ou(C:Tb)(b:Nat)(a:V)(h:List O):Bd C "check_unary" [a] b h=jv C b a h:=by kernel_rfl
def Ey(C:Tb)(b:Nat)(d:V):M V:=mq (aM d "items") λg=>mq (bY g) λc=>mq (cF C.wf (Ic C 19) (aw "negate" (aq "negate") b) (aX (bG (aG "negate" [1,0,0])) [1,1]) c) λa=>mq (aC (.list a)) λi=>mq (C.f "Vector" [.str "double",i]) λe=>mq (C.f "keep_all" [d,e]) λk=>mr k
def Ez(C:Tb)(b:Nat)(i:V):M V:=mq (aM i "items") λk=>mq (bY k) λe=>mq (cF C.wf (Ic C 23) (aw "negate" (aq "negate") b) (aX (bG (aG "negate" [2])) []) e) λa=>mq (aC (.list a)) λd=>mq (C.f "Vector" [.str "integer",d]) λg=>mq (C.f "keep_all" [i,g]) λc=>mr c
def yk(C:Tb)(b:Nat)(c a:V):M V:=mq (C.f "check_unary" [c]) λe=>mq (aM c "kind") λd=>iq .Eq d (.str "double") (Ey C b c) (Ez C b c)
theorem yl(C:Tb)(b:Nat)(c a:V)(h:List O):Bd C "negate" [c,a] b h=yk C b c a h:=by kernel_rfl
def EA(C:Tb)(b:Nat)(a c:V):M V:=mq (C.f "check_unary" [a]) λm=>let j2:V->M V:=λg=>mq (aM a "items") λi=>mq (builtin "list" [i]) λk=>mq (C.f "Vector" [g,k]) λe=>mq (C.f "keep_all" [a,e]) λl=>mr l;mq (aM a "kind") λd=>iq .Eq d (.str "double") (j2 (.str "double")) (j2 (.str "integer"))
theorem M8(C:Tb)(b:Nat)(c a:V)(h:List O):Bd C "plus" [c,a] b h=EA C b c a h:=by kernel_rfl
def EB(C:Tb)(b:Nat)(a:V):M V:=mq (aC (.list [])) λe=>mq (kM a 40) λf=>mq (bY f) λc=>mq (bF C 23 "_law_row" b [1] c [("script",a),("row",e)]) λd=>cm C 24 (aw "_law_row" (aq "_law_row") b) (aG "_law_row" [2]) cb d.1 d.2
theorem EC(C:Tb)(b:Nat)(a:V)(h:List O):Bd C "_law_row" [a] b h=EB C b a h:=by kernel_rfl
def sH(C:Tb)(b:Nat)(a:V):M V:=let j1:V->M V:=λe=>mr e;mq (aC (.list [])) λd=>iq .NotEq a d (mq (bQ a "pop") λZ=>mq (bN a "pop" []) λc=>j1 c) (j1 (.int 0))
theorem Cu(C:Tb)(b:Nat)(a:V)(h:List O):Bd C "_law_next" [a] b h=sH C b a h:=by kernel_rfl
def wC(C:Tb)(b:Nat)(c d:V):M V:=mq (builtin "abs" [c]) λe=>mq (A4 C 23 "_law_reduced" b [2] [("n",c),("d",d),("a",e),("b",d)]) λa=>cm C 24 (aw "_law_reduced" (aq "_law_reduced") b) (aG "_law_reduced" [3]) cb a.1 a.2
theorem wD(C:Tb)(b:Nat)(a c:V)(h:List O):Bd C "_law_reduced" [a,c] b h=wC C b a c h:=by kernel_rfl
def wE(C:Tb)(a d:V):M V:=mq (aC (.list [.tup [.int 1,.int 0],.tup [.int (-1),.int 0]])) λe=>mq (C.f "_law_next" [a]) λg=>mq (ah .Mod g (.int 2)) λi=>mq (ak e i) λc=>mq (aC (.list [.tup [.int 0,.int 1],.none,.tup [.int 0,.int 0],c])) λk=>mq (ak k d) λb=>mr b
def mF(C:Tb)(c i b:V):M V:=iq .Lt i (.int 6) (mq (C.f "_law_reduced" [b,(.int 1)]) λa=>mr a) (mq (C.f "_law_next" [c]) λe=>mq (ah .Mod e (.int 12)) λd=>mq (ah .Add (.int 1) d) λg=>mq (C.f "_law_reduced" [b,g]) λa=>mr a)
def wF(C:Tb)(a m g:V):M V:=mq (ah .Mult g (.int 1024)) λl=>mq (ah .Mult l (.int 1024)) λc=>mq (C.f "_law_next" [a]) λd=>mq (ah .Mult d (.int 1024)) λb=>mq (ah .Add c b) λi=>mq (C.f "_law_next" [a]) λk=>mq (ah .Add i k) λe=>mF C a m e
def ym(C:Tb)(b:Nat)(a:V):M V:=mq (C.f "_law_next" [a]) λg=>mq (ah .Mod g (.int 9)) λc=>iq .Lt c (.int 4) (wE C a c) (mq (C.f "_law_next" [a]) λi=>mq (ah .Mod i (.int 40)) λe=>mq (ah .Sub e (.int 15)) λd=>iq .Eq c (.int 8) (wF C a c d) (mF C a c d))
theorem yn(C:Tb)(b:Nat)(a:V)(h:List O):Bd C "_law_double" [a] b h=ym C b a h:=by kernel_rfl
def sJ(C:Tb)(b:Nat)(c a:V):M V:=let t5:M V:=mr (.tup [.none,(.bool true)]);let f6:M V:=let t1:M V:=mr (.tup [(.tup [(.int 0),(.int 0)]),(.bool true)]);let f2:M V:=mr (.tup [.none,(.bool false)]);iq .Eq c (.tup [(.int 0),(.int 0)]) t1 (iq .Eq a (.tup [(.int 0),(.int 0)]) t1 f2);iq .Is c .none t5 (iq .Is a .none t5 f6)
theorem Cv(C:Tb)(b:Nat)(c a:V)(h:List O):Bd C "_law_mark" [c,a] b h=sJ C b c a h:=by kernel_rfl
def sK(C:Tb)(b:Nat)(a:V):M V:=let j1:V->M V:=λe=>mr e;mq (ak a (.int 0)) λf=>iq .Gt f (.int 0) (j1 (.int 1)) (let j3:V->M V:=λc=>j1 c;mq (ak a (.int 0)) λd=>iq .Lt d (.int 0) (j3 (.int (-1))) (j3 (.int 0)))
theorem Cw(C:Tb)(b:Nat)(a:V)(h:List O):Bd C "_law_side" [a] b h=sK C b a h:=by kernel_rfl
def lW(C:Tb)(b:Nat)(k l:V):M V:=mq (aC (.list [k,l])) λi=>mq (bY i) λd=>mq (cF C.wf (Ic C 22) (aw "_law_sum" (aq "_law_sum") b) (aX (bG (aG "_law_sum" [2,0,0])) []) d) λf=>mq (aC (.list f)) λc=>mq (ak c (.int 0)) λa=>mq (ak c (.int (-1))) λe=>iq .Eq a e (mq (ak c (.int 0)) λg=>mr g) (mr (.tup [.int 0,.int 0]))
def zV(C:Tb)(g m:V):M V:=mq (ak g (.int 0)) λo=>mq (ak m (.int 1)) λe=>mq (ah .Mult o e) λi=>mq (ak m (.int 0)) λk=>mq (ak g (.int 1)) λd=>mq (ah .Mult k d) λp=>mq (ah .Add i p) λn=>mq (ak g (.int 1)) λb=>mq (ak m (.int 1)) λl=>mq (ah .Mult b l) λa=>mq (C.f "_law_reduced" [n,a]) λc=>mr c
def Cy(C:Tb)(b:Nat)(c a:V):M V:=mq (ak c (.int 1)) λd=>iq .Eq d (.int 0) (lW C b c a) (mq (ak a (.int 1)) λe=>iq .Eq e (.int 0) (lW C b c a) (zV C c a))
def ED(C:Tb)(b:Nat)(d e:V):M V:=mq (C.f "_law_mark" [d,e]) λg=>mq (dS g) λc=>mq (truth c.2) λa=>bif a then(mr c.1)else(Cy C b d e)
theorem EE(C:Tb)(b:Nat)(c a:V)(h:List O):Bd C "_law_sum" [c,a] b h=ED C b c a h:=by kernel_rfl
def iF(C:Tb)(b e:V):M V:=mq (C.f "_law_side" [b]) λa=>mq (C.f "_law_side" [e]) λc=>mq (ah .Mult a c) λd=>mr (.tup [d,.int 0])
def sL(C:Tb)(d e:V):M V:=mq (ak d (.int 0)) λk=>mq (ak e (.int 0)) λi=>mq (ah .Mult k i) λl=>mq (ak d (.int 1)) λg=>mq (ak e (.int 1)) λa=>mq (ah .Mult g a) λb=>mq (C.f "_law_reduced" [l,b]) λc=>mr c
def uF(C:Tb)(b a:V):M V:=mq (ak b (.int 1)) λc=>iq .Eq c (.int 0) (iF C b a) (mq (ak a (.int 1)) λd=>iq .Eq d (.int 0) (iF C b a) (sL C b a))
def wG(C:Tb)(b:Nat)(d e:V):M V:=mq (C.f "_law_mark" [d,e]) λg=>mq (dS g) λc=>mq (truth c.2) λa=>bif a then(mr c.1)else(uF C d e)
theorem wH(C:Tb)(b:Nat)(c a:V)(h:List O):Bd C "_law_product" [c,a] b h=wG C b c a h:=by kernel_rfl
def sM(C:Tb)(d e:V):M V:=mq (C.f "_law_side" [d]) λc=>mq (ak e (.int 0)) λb=>iq .Lt b (.int 0) (mq (ah .Mult c (.int (-1))) λa=>mr (.tup [a,.int 0])) (mq (ah .Mult c (.int 1)) λa=>mr (.tup [a,.int 0]))
def sN(C:Tb)(o l:V):M V:=mq (ak o (.int 0)) λe=>mq (ak l (.int 1)) λi=>mq (ah .Mult e i) λg=>mq (C.f "_law_side" [l]) λd=>mq (ah .Mult g d) λn=>mq (ak o (.int 1)) λm=>mq (ak l (.int 0)) λb=>mq (builtin "abs" [b]) λk=>mq (ah .Mult m k) λa=>mq (C.f "_law_reduced" [n,a]) λc=>mr c
def sO(C:Tb)(a d:V):M V:=mq (ak a (.int 1)) λc=>iq .Eq c (.int 0) (sM C a d) (mq (ak d (.int 0)) λb=>iq .Eq b (.int 0) (mq (C.f "_law_side" [a]) λe=>mr (.tup [e,.int 0])) (sN C a d))
def sP(C:Tb)(c b:V):M V:=mq (ak b (.int 1)) λa=>iq .Eq a (.int 0) (mq (ak c (.int 1)) λd=>iq .Eq d (.int 0) (mr (.tup [.int 0,.int 0])) (mr (.tup [.int 0,.int 1]))) (sO C c b)
def uG(C:Tb)(b:Nat)(d e:V):M V:=mq (C.f "_law_mark" [d,e]) λg=>mq (dS g) λc=>mq (truth c.2) λa=>bif a then(mr c.1)else(sP C d e)
theorem uH(C:Tb)(b:Nat)(c a:V)(h:List O):Bd C "_law_quotient" [c,a] b h=uG C b c a h:=by kernel_rfl
def yo(a c:V):M V:=iq .Lt c (.int 0) (mr (.tup [.int 0,.int 1])) (mq (ak a (.int 0)) λb=>iq .Gt b (.int 0) (mr a) (mq (ah .Mod c (.int 2)) λd=>iq .Eq d (.int 1) (mr a) (mr (.tup [.int 1,.int 0]))))
def pj(C:Tb)(b:Nat)(f e:V):M V:=mq (builtin "abs" [e]) λd=>mq (bt d) λa=>mq (bF C 23 "_law_power" b [5] a [("x",f),("n",e),("found",.tup [.int 1,.int 1])]) λc=>cm C 24 (aw "_law_power" (aq "_law_power") b) (aG "_law_power" [6]) cb c.1 c.2
def wI(C:Tb)(b:Nat)(a c:V):M V:=iq .Eq a (.tup [.int 0,.int 1]) (iq .Gt c (.int 0) (mr (.tup [.int 0,.int 1])) (mr (.tup [.int 1,.int 0]))) (mq (ak a (.int 1)) λd=>iq .Eq d (.int 0) (yo a c) (pj C b a c))
def wJ(C:Tb)(b:Nat)(a c:V):M V:=iq .Is a .none (mr a) (iq .Eq a (.tup [.int 0,.int 0]) (mr a) (wI C b a c))
def qN(C:Tb)(b:Nat)(a c:V):M V:=iq .Eq a (.tup [.int 1,.int 1]) (mr (.tup [.int 1,.int 1])) (iq .Eq c (.int 0) (mr (.tup [.int 1,.int 1])) (wJ C b a c))
theorem zW(C:Tb)(b:Nat)(a c:V)(h:List O):Bd C "_law_power" [a,c] b h=qN C b a c h:=by kernel_rfl
def uI(a:V):M V:=mq (ak a (.int 0)) λb=>iq .Gt b (.int 0) (mr (.tup [.tup [(.int 1),.int 0],.tup [.int 0,.int 0]])) (mq (ak a (.int 0)) λc=>iq .Lt c (.int 0) (mr (.tup [.tup [(.int (-1)),.int 0],.tup [.int 0,.int 0]])) (mr (.tup [.tup [(.int 0),.int 0],.tup [.int 0,.int 0]])))
def uJ(e f:V):M V:=mq (ak f (.int 0)) λa=>iq .Gt a (.int 0) (mq (ak e (.int 0)) λb=>mr (.tup [.tup [b,.int 0],.tup [.int 0,.int 0]])) (mq (ak e (.int 0)) λc=>mq (nz c) λd=>mr (.tup [.tup [d,.int 0],.tup [.int 0,.int 0]]))
def kZ(d e:V)(c:Bool)(a:V):M V:=mq (truth (.bool c)) λb=>bif b then(mr (.tup [a,e]))else(mr (.tup [a,d]))
def uK(d f:V):M V:=mq (ak d (.int 0)) λe=>mq (ak f (.int 0)) λb=>mq (ah .Mult e b) λg=>mq (cmp .Lt g (.int 0)) λa=>mq (truth (.bool a)) λc=>bif c then(kZ d f a (.tup [.int (-1),.int 1]))else(kZ d f a (.tup [.int 0,.int 1]))
def mG(C:Tb)(a b:V):M V:=mq (ak a (.int 0)) λl=>mq (ak b (.int 1)) λr=>mq (ah .Mult l r) λd=>mq (ak a (.int 1)) λg=>mq (ak b (.int 0)) λp=>mq (ah .Mult g p) λk=>mq (ah .FloorDiv d k) λc=>mq (ak a (.int 0)) λA=>mq (ak b (.int 1)) λz=>mq (ah .Mult A z) λe=>mq (ak b (.int 0)) λy=>mq (ah .Mult c y) λq=>mq (ak a (.int 1)) λi=>mq (ah .Mult q i) λt=>mq (ah .Sub e t) λw=>mq (ak a (.int 1)) λm=>mq (ak b (.int 1)) λn=>mq (ah .Mult m n) λx=>mq (C.f "_law_reduced" [w,x]) λo=>mr (.tup [.tup [c,.int 1],o])
def la(C:Tb)(b a:V):M V:=mq (ak b (.int 1)) λd=>iq .Eq d (.int 0) (uJ b a) (mq (ak a (.int 1)) λc=>iq .Eq c (.int 0) (uK b a) (mG C b a))
def uL(C:Tb)(c a:V):M V:=mq (ak c (.int 1)) λb=>iq .Eq b (.int 0) (mq (ak a (.int 1)) λd=>iq .Eq d (.int 0) (mr (.tup [.tup [.int 0,.int 0],.tup [.int 0,.int 0]])) (la C c a)) (la C c a)
def sQ(C:Tb)(c b:V):M V:=mq (ak b (.int 0)) λa=>iq .Eq a (.int 0) (uI c) (uL C c b)
def sR(C:Tb)(b a:V):M V:=iq .Eq b (.tup [.int 0,.int 0]) (mr (.tup [.tup [.int 0,.int 0],.tup [.int 0,.int 0]])) (iq .Eq a (.tup [.int 0,.int 0]) (mr (.tup [.tup [.int 0,.int 0],.tup [.int 0,.int 0]])) (sQ C b a))
def ow(C:Tb)(b:Nat)(c a:V):M V:=iq .Is c .none (mr (.tup [.none,.none])) (iq .Is a .none (mr (.tup [.none,.none])) (sR C c a))
theorem wK(C:Tb)(b:Nat)(c a:V)(h:List O):Bd C "_law_divided" [c,a] b h=ow C b c a h:=by kernel_rfl
def uM(a:V):M V:=mq (ah .FloorDiv a (.int 2)) λb=>mq (aC (.list [.int 2,b])) λc=>mr c
def wL(a:V):M V:=mq (ah .FloorDiv a (.int 3)) λc=>mq (aC (.list [c,.int 3])) λb=>mr b
def fZ(a c:V):M V:=iq .Eq c (.int 6) (mq (ah .Mod a (.int 3)) λb=>iq .Eq b (.int 0) (iq .Gt a (.int 0) (wL a) (mr .none)) (mr .none)) (mr .none)
def iW(a b:V):M V:=iq .Eq b (.int 5) (mq (ah .Mod a (.int 2)) λc=>iq .Eq c (.int 0) (iq .Gt a (.int 0) (uM a) (fZ a b)) (fZ a b)) (fZ a b)
def pk(C:Tb)(b:Nat)(c a:V):M V:=mq (C.f "_law_next" [c]) λe=>mq (ah .Mod e (.int 7)) λd=>iq .Eq d (.int 4) (iq .Gt a (.int 0) (mq (aC (.list [a])) λg=>mr g) (iW a d)) (iW a d)
theorem yp(C:Tb)(b:Nat)(c a:V)(h:List O):Bd C "_law_shaped" [c,a] b h=pk C b c a h:=by kernel_rfl
def sS(C:Tb)(b:Nat)(a:V):M V:=let j1:V->M V:=λk=>mr k;let t7:M V:=j1 .none;let f8:M V:=mq (aM a "attrs") λf=>mq (ak f (.str "dim")) λg=>mq (aM g "items") λi=>mq (builtin "list" [i]) λe=>j1 e;mq (aM a "attrs") λc=>iq .Is c .none t7 (mq (aM a "attrs") λd=>iq .NotIn (.str "dim") d t7 f8)
theorem Cz(C:Tb)(b:Nat)(a:V)(h:List O):Bd C "_law_dims" [a] b h=sS C b a h:=by kernel_rfl
def CA(C:Tb)(b:Nat)(f:V):M V:=mq (fL b f) λZ=>mq (aZ b) λd=>mq (aM d "attrs") λl=>iq .Is l .none (mq (aC (.dict [])) λe=>mr e) (mq (aZ b) λi=>mq (aM i "attrs") λk=>mq (bY k) λa=>mq (cF C.wf (Ic C 22) (aw "_law_seen" (aq "_law_seen") b) (aX (bG (aG "_law_seen" [1])) []) a) λc=>mq (aC (.dict (bR c))) λg=>mr g)
theorem CB(C:Tb)(b:Nat)(a:V)(h:List O):Bd C "_law_seen" [a] b h=CA C b a h:=by kernel_rfl
def zX(C:Tb)(b:Nat)(g i k l a c d:V):M V:=mq (aC (.dict [])) λf=>let j2:M V:=mq (aC (.list [(.tup [i,l]),(.tup [g,k])])) λn=>mq (bY n) λe=>mq (bF C 23 "_law_attrs" b [2] e [("u",g),("v",i),("n",k),("m",l),("shape",a),("total",c),("extra",d),("found",f)]) λm=>cm C 24 (aw "_law_attrs" (aq "_law_attrs") b) (aG "_law_attrs" [3]) cb m.1 m.2;iq .IsNot a .none (mq (cH f (.str "dim") (.tup [(.str "integer"),a])) λZ=>j2) j2
theorem zZ(C:Tb)(b:Nat)(e f g i d a c:V)(h:List O):Bd C "_law_attrs" [e,f,g,i,d,a,c] b h=zX C b e f g i d a c h:=by kernel_rfl
def wM(C:Tb)(b:Nat)(k:V):M V:=mq (aZ b) λc=>mq (bt k) λd=>mq (cF C.wf (Ic C 19) (aw "_law_vector" (aq "_law_vector") b) (aX (bG (aG "_law_vector" [2,0,0])) [1,1]) d) λa=>mq (aC (.list a)) λi=>mq (C.f "Vector" [.str "logical",i]) λe=>mq (C.f "_law_dressed" [c,e]) λg=>mr g
def oy(C:Tb)(b:Nat)(f e:V):M V:=mq (aC (.list [])) λd=>mq (bt e) λc=>mq (bF C 22 "_law_vector" b [3,0,1] c [("kind",f),("many",e),("items",d)]) λa=>cm C 23 (aw "_law_vector" (aq "_law_vector") b) (aG "_law_vector" [3,0,2]) (cm C 24 (aw "_law_vector" (aq "_law_vector") b) (aG "_law_vector" [4]) cb) a.1 a.2
def wN(C:Tb)(b:Nat)(k:V):M V:=mq (aZ b) λa=>mq (bt k) λc=>mq (cF C.wf (Ic C 19) (aw "_law_vector" (aq "_law_vector") b) (aX (bG (aG "_law_vector" [4,0,0])) [1,1]) c) λd=>mq (aC (.list d)) λi=>mq (C.f "Vector" [.str "double",i]) λe=>mq (C.f "_law_dressed" [a,e]) λg=>mr g
def wO(C:Tb)(b:Nat)(p:V):M V:=mq (aZ b) λa=>mq (aZ b) λd=>mq (C.f "_law_next" [d]) λm=>mq (ah .Mod m (.int 3)) λk=>iq .Eq k (.int 2) (mq (aC (.list [.str "1"])) λe=>mq (ah .Mult e p) λg=>mq (C.f "Vector" [.str "character",g]) λi=>mq (C.f "_law_dressed" [a,i]) λc=>mr c) (mq (aC (.list [.int 1])) λl=>mq (ah .Mult l p) λn=>mq (C.f "Vector" [.str "integer",n]) λo=>mq (C.f "_law_dressed" [a,o]) λc=>mr c)
def wP(C:Tb)(b:Nat)(a d:V):M V:=iq .Lt a (.int 4) (oy C b a d) (iq .Lt a (.int 6) (wN C b d) (iq .Eq a (.int 6) (mq (C.f "Null" []) λc=>mr c) (wO C b d)))
def pn(C:Tb)(b:Nat)(a:V):M V:=mq (fL b a) λZ=>mq (aZ b) λc=>mq (C.f "_law_next" [c]) λk=>mq (ah .Mod k (.int 8)) λg=>mq (aC (.list [.int 1,.int 2,.int 3,.int 4,.int 6,.int 9,.int 0,.int 1])) λl=>mq (aZ b) λd=>mq (C.f "_law_next" [d]) λi=>mq (ah .Mod i (.int 8)) λm=>mq (ak l m) λe=>iq .Eq g (.int 0) (wM C b e) (wP C b g e)
theorem yq(C:Tb)(b:Nat)(a:V)(h:List O):Bd C "_law_vector" [a] b h=pn C b a h:=by kernel_rfl
def cg(C:Tb)(b:Nat)(d f e:V):M V:=let t20:M V:=mr .none;let f21:M V:=mq (ah .Add f e) λp=>mq (ah .Sub f e) λq=>mq (ah .Mult f e) λr=>mq (aC (.dict (put "*" r (put "-" q (put "+" p []))))) λo=>mq (bQ o "get") λZ=>mq (bN o "get" [d,.none]) λt=>let j6:V->M V:=λc=>let j8:V->M V:=λa=>let j10:V->M V:=λn=>mr n;mq (builtin "abs" [a]) λk=>iq .Gt k (.int 2147483647) (j10 .none) (j10 a);iq .Eq d (.str "%%") (mq (ah .FloorDiv f e) λi=>mq (ah .Mult i e) λl=>mq (ah .Sub f l) λm=>j8 m) (j8 c);iq .Eq d (.str "%/%") (mq (ah .FloorDiv f e) λg=>j6 g) (j6 t);iq .Is f .none t20 (iq .Is e .none t20 (let t22:M V:=t20;let f23:M V:=f21;iq .In d (.tup [(.str "%%"),(.str "%/%")]) (iq .Eq e (.int 0) t22 f23) f23))
theorem wQ(C:Tb)(b:Nat)(a c d:V)(h:List O):Bd C "_law_integer" [a,c,d] b h=cg C b a c d h:=by kernel_rfl
def cO(C:Tb)(b:Nat)(a d c:V):M V:=iq .Eq a (.str "+") (mq (C.f "_law_sum" [d,c]) λn=>mr n) (iq .Eq a (.str "-") (let j2:V->M V:=λq=>mq (C.f "_law_sum" [d,q]) λw=>mr w;iq .Is c .none (j2 .none) (mq (ak c (.int 0)) λr=>mq (nz r) λt=>mq (ak c (.int 1)) λp=>j2 (.tup [t,p]))) (iq .Eq a (.str "*") (mq (C.f "_law_product" [d,c]) λo=>mr o) (iq .Eq a (.str "/") (mq (C.f "_law_quotient" [d,c]) λe=>mr e) (iq .Eq a (.str "^") (mq (ak c (.int 0)) λi=>mq (C.f "_law_power" [d,i]) λl=>mr l) (mq (C.f "_law_divided" [d,c]) λg=>let j14:V->M V:=λk=>mq (ak g k) λm=>mr m;iq .Eq a (.str "%/%") (j14 (.int 0)) (j14 (.int 1)))))))
theorem wR(C:Tb)(b:Nat)(a c d:V)(h:List O):Bd C "_law_doubled" [a,c,d] b h=cO C b a c d h:=by kernel_rfl
def z0(C:Tb)(b:Nat)(c a:V):M V:=mq (aM c "kind") λf=>iq .Eq f (.str "NULL") (mq (aC (.list [])) λi=>mr i) (let t8:M V:=mq (aM c "items") λm=>mq (bY m) λg=>mq (cF C.wf (Ic C 21) (aw "_law_items" (aq "_law_items") b) (aX (bG (aG "_law_items" [1,0,0])) []) g) λe=>mq (aC (.list e)) λn=>mr n;let f9:M V:=mq (aM c "items") λl=>mq (builtin "list" [l]) λk=>mr k;iq .Eq a (.str "double") (mq (aM c "kind") λd=>iq .NotEq d (.str "double") t8 f9) f9)
theorem z5(C:Tb)(b:Nat)(c a:V)(h:List O):Bd C "_law_items" [c,a] b h=z0 C b c a h:=by kernel_rfl
theorem GF {β:Type}(C:Tb)(b:Nat)(c a:V)(k:Bool->M β)(h:List O):(kK ai C.wf C.f 23).tst (aw "gcd" (aq "gcd") b) [("a",c),("b",a)] (nU (aG "gcd" [0])) k h=(mq (cmp .Gt a (.int 0)) k) h:=by kernel_rfl
def GG {β:Type}(C:Tb)(b:Nat)(c a:V)(k:Fl->Loc->M β):M β:=mq (ah .Mod c a) λd=>k .next [("a",a),("b",d)]
theorem GH {β:Type}(C:Tb)(b:Nat)(c a:V)(k:Fl->Loc->M β)(h:List O):bj ((kK ai C.wf C.f 23).ex (aw "gcd" (aq "gcd") b)) (kg (aG "gcd" [0])) [("a",c),("b",a)] k h=GG C b c a k h:=by kernel_rfl
noncomputable def GI(C:Tb)(b:Nat)(a c:V):M V:=mr a
theorem GJ(C:Tb)(b:Nat)(c a:V)(h:List O):bj ((kK ai C.wf C.f 24).ex (aw "gcd" (aq "gcd") b)) (aG "gcd" [1]) [("a",c),("b",a)] cb h=GI C b c a h:=by kernel_rfl
theorem rq {β:Type}(C:Tb)(b:Nat)(d e c a:V)(k:Bool->M β)(h:List O):(kK ai C.wf C.f 23).tst (aw "_law_reduced" (aq "_law_reduced") b) [("n",d),("d",e),("a",c),("b",a)] (nU (aG "_law_reduced" [2])) k h=(mq (cmp .Gt a (.int 0)) k) h:=by kernel_rfl
def rs {β:Type}(C:Tb)(b:Nat)(e f c a:V)(k:Fl->Loc->M β):M β:=mq (ah .Mod c a) λd=>k .next [("n",e),("d",f),("a",a),("b",d)]
theorem ru {β:Type}(C:Tb)(b:Nat)(d e c a:V)(k:Fl->Loc->M β)(h:List O):bj ((kK ai C.wf C.f 23).ex (aw "_law_reduced" (aq "_law_reduced") b)) (kg (aG "_law_reduced" [2])) [("n",d),("d",e),("a",c),("b",a)] k h=rs C b d e c a k h:=by kernel_rfl
def rv(C:Tb)(b:Nat)(d f a g:V):M V:=mq (ah .FloorDiv d a) λc=>mq (ah .FloorDiv f a) λe=>mr (.tup [c,e])
theorem rx(C:Tb)(b:Nat)(d e c a:V)(h:List O):bj ((kK ai C.wf C.f 24).ex (aw "_law_reduced" (aq "_law_reduced") b)) (aG "_law_reduced" [3]) [("n",d),("d",e),("a",c),("b",a)] cb h=rv C b d e c a h:=by kernel_rfl
def iG {β:Type}(C:Tb)(b:Nat)(w a c:V)(k:Fl->Loc->M β):M β:=mq (ah .Mult c w) λd=>k .next [("numbers",a),("found",d),("value",w)]
theorem yr {β:Type}(C:Tb)(b:Nat)(w a c:V)(k:Fl->Loc->M β)(h:List O):aJ C 23 "product" b [1] w [("numbers",a),("found",c)] k h=iG C b w a c k h:=by kernel_rfl
theorem yt {β:Type}(C:Tb)(b:Nat)(w a c d:V)(k:Fl->Loc->M β)(h:List O):aJ C 23 "product" b [1] w [("numbers",a),("found",c),("value",d)] k h=iG C b w a c k h:=by kernel_rfl
noncomputable def po(C:Tb)(b:Nat)(c a:V):M V:=mr a
theorem yu(C:Tb)(b:Nat)(a c:V)(h:List O):bj ((kK ai C.wf C.f 24).ex (aw "product" (aq "product") b)) (aG "product" [2]) [("numbers",a),("found",c)] cb h=po C b a c h:=by kernel_rfl
theorem yv(C:Tb)(b:Nat)(a c d:V)(h:List O):bj ((kK ai C.wf C.f 24).ex (aw "product" (aq "product") b)) (aG "product" [2]) [("numbers",a),("found",c),("value",d)] cb h=po C b a c h:=by kernel_rfl
def gV {β:Type}(C:Tb)(b:Nat)(w g i c a d:V)(k:Fl->Loc->M β):M β:=mq (C.f "attribute" [w,(.str "dimnames")]) λe=>let j2:M β:=k .next [("u",g),("v",i),("result",c),("found",a),("shape",d),("operand",w),("heads",e)];iq .IsNot e .none (mq (cH a (.str "dimnames") e) λZ=>j2) j2
theorem ry {β:Type}(C:Tb)(b:Nat)(w e f a c d:V)(k:Fl->Loc->M β)(h:List O):aJ C 22 "shape_attrs" b [2,0,1] w [("u",e),("v",f),("result",a),("found",c),("shape",d)] k h=gV C b w e f a c d k h:=by kernel_rfl
theorem rz {β:Type}(C:Tb)(b:Nat)(w g i a c d e f:V)(k:Fl->Loc->M β)(h:List O):aJ C 22 "shape_attrs" b [2,0,1] w [("u",g),("v",i),("result",a),("found",c),("shape",d),("operand",e),("heads",f)] k h=gV C b w g i a c d k h:=by kernel_rfl
def fq {β:Type}(C:Tb)(b:Nat)(w g l a c d:V)(k:Fl->Loc->M β):M β:=mq (C.f "attribute" [w,(.str "names")]) λe=>let j2:M β:=k .next [("u",g),("v",l),("result",a),("found",c),("shape",d),("operand",w),("heads",e)];let t3:M β:=mq (cH c (.str "names") e) λZ=>j2;let f4:M β:=j2;iq .IsNot e .none (mq (C.f "length" [w]) λn=>mq (C.f "length" [a]) λi=>iq .Eq n i (mq (C.f "dim_of" [w]) λm=>iq .Is m .none t3 f4) f4) f4
theorem rA {β:Type}(C:Tb)(b:Nat)(w e f a c d:V)(k:Fl->Loc->M β)(h:List O):aJ C 22 "shape_attrs" b [2,1,0] w [("u",e),("v",f),("result",a),("found",c),("shape",d)] k h=fq C b w e f a c d k h:=by kernel_rfl
theorem rB {β:Type}(C:Tb)(b:Nat)(w g i a c d e f:V)(k:Fl->Loc->M β)(h:List O):aJ C 22 "shape_attrs" b [2,1,0] w [("u",g),("v",i),("result",a),("found",c),("shape",d),("operand",e),("heads",f)] k h=fq C b w g i a c d k h:=by kernel_rfl
def ft(C:Tb)(b:Nat)(f g c a d:V):M V:=let j1:M V:=mr .none;mq (truth a) λe=>bif e then(mq (dF c "attrs" a) λZ=>j1)else(j1)
def jx {β:Type}(C:Tb)(b:Nat)(w d e a:V)(k:Fl->Loc->M β):M β:=let t4:M β:=mq (aM w "attrs") λm=>mq (dI m) λc=>mq (bF C 21 "result_attrs" b [1,0,0,0,0] c [("u",d),("v",e),("result",a),("operand",w)]) λg=>cm C 22 (aw "result_attrs" (aq "result_attrs") b) (aG "result_attrs" [1,0,0,0,1]) (cm C 23 (aw "result_attrs" (aq "result_attrs") b) (aG "result_attrs" [1,0,1]) k) g.1 g.2;let f5:M β:=k .next [("u",d),("v",e),("result",a),("operand",w)];mq (aM w "attrs") λi=>iq .IsNot i .none (mq (C.f "length" [w]) λl=>mq (C.f "length" [a]) λn=>iq .Eq l n t4 f5) f5
theorem qs {β:Type}(C:Tb)(b:Nat)(w c d a:V)(k:Fl->Loc->M β)(h:List O):aJ C 23 "result_attrs" b [1] w [("u",c),("v",d),("result",a)] k h=jx C b w c d a k h:=by kernel_rfl
theorem qt {β:Type}(C:Tb)(b:Nat)(w d e a c:V)(k:Fl->Loc->M β)(h:List O):aJ C 23 "result_attrs" b [1] w [("u",d),("v",e),("result",a),("operand",c)] k h=jx C b w d e a k h:=by kernel_rfl
def qu {β:Type}(C:Tb)(b:Nat)(w i l a e d c:V)(k:Fl->Loc->M β):M β:=let t4:M β:=mq (aM w "attrs") λp=>mq (dI p) λg=>mq (bF C 21 "result_attrs" b [1,0,0,0,0] g [("u",i),("v",l),("result",a),("operand",w),("name",d),("value",c)]) λm=>cm C 22 (aw "result_attrs" (aq "result_attrs") b) (aG "result_attrs" [1,0,0,0,1]) (cm C 23 (aw "result_attrs" (aq "result_attrs") b) (aG "result_attrs" [1,0,1]) k) m.1 m.2;let f5:M β:=k .next [("u",i),("v",l),("result",a),("operand",w),("name",d),("value",c)];mq (aM w "attrs") λn=>iq .IsNot n .none (mq (C.f "length" [w]) λo=>mq (C.f "length" [a]) λq=>iq .Eq o q t4 f5) f5
theorem qw {β:Type}(C:Tb)(b:Nat)(w f g c a e d:V)(k:Fl->Loc->M β)(h:List O):aJ C 23 "result_attrs" b [1] w [("u",f),("v",g),("result",c),("operand",a),("name",e),("value",d)] k h=qu C b w f g c a e d k h:=by kernel_rfl
def eK {β:Type}(C:Tb)(b:Nat)(w e f a c:V)(k:Fl->Loc->M β):M β:=mq (dS w) λd=>let j2:M β:=k .next [("u",e),("v",f),("result",a),("operand",c),("name",d.1),("value",d.2)];iq .NotIn d.1 (.tup [(.str "names"),(.str "dim"),(.str "dimnames")]) (let j3:M β:=mq (aM a "attrs") λi=>mq (cH i d.1 d.2) λZ=>j2;mq (aM a "attrs") λg=>iq .Is g .none (mq (aC (.dict [])) λl=>mq (dF a "attrs" l) λZ=>j3) j3) j2
theorem qx {β:Type}(C:Tb)(b:Nat)(w d e c a:V)(k:Fl->Loc->M β)(h:List O):aJ C 21 "result_attrs" b [1,0,0,0,0] w [("u",d),("v",e),("result",c),("operand",a)] k h=eK C b w d e c a k h:=by kernel_rfl
theorem qy {β:Type}(C:Tb)(b:Nat)(w f g c a e d:V)(k:Fl->Loc->M β)(h:List O):aJ C 21 "result_attrs" b [1,0,0,0,0] w [("u",f),("v",g),("result",c),("operand",a),("name",e),("value",d)] k h=eK C b w f g c a k h:=by kernel_rfl
noncomputable def jy(C:Tb)(b:Nat)(d e c a:V):M V:=mr .none
theorem qz(C:Tb)(b:Nat)(d e c a:V)(h:List O):bj ((kK ai C.wf C.f 24).ex (aw "result_attrs" (aq "result_attrs") b)) (aG "result_attrs" [2]) [("u",d),("v",e),("result",c),("operand",a)] cb h=jy C b d e c a h:=by kernel_rfl
theorem qA(C:Tb)(b:Nat)(g i c a e d:V)(h:List O):bj ((kK ai C.wf C.f 24).ex (aw "result_attrs" (aq "result_attrs") b)) (aG "result_attrs" [2]) [("u",g),("v",i),("result",c),("operand",a),("name",e),("value",d)] cb h=jy C b g i c a h:=by kernel_rfl
def dA {β:Type}(C:Tb)(b:Nat)(w l d a r i c g:V)(k:Fl->Loc->M β):M β:=mq (builtin "len" [d]) λp=>mq (ah .Mod w p) λt=>mq (ak d t) λn=>mq (builtin "len" [a]) λx=>mq (ah .Mod w x) λy=>mq (ak a y) λm=>mq (C.f "integer_op" [l,n,m]) λo=>let j8:V->M β:=λe=>mq (bQ c "append") λZ=>mq (bN c "append" [o]) λq=>k .next [("op",l),("left",d),("right",a),("n",r),("notes",i),("found",c),("overflow",e),("i",w),("a",n),("b",m),("value",o)];let t11:M β:=j8 (.bool true);let f12:M β:=j8 g;iq .Is o .none (iq .In l (.tup [(.str "+"),(.str "-"),(.str "*")]) (iq .IsNot n .none (iq .IsNot m .none t11 f12) f12) f12) f12
theorem oJ {β:Type}(C:Tb)(b:Nat)(w g f c i d e a:V)(k:Fl->Loc->M β)(h:List O):aJ C 23 "integer_result" b [2] w [("op",g),("left",f),("right",c),("n",i),("notes",d),("found",e),("overflow",a)] k h=dA C b w g f c i d e a k h:=by kernel_rfl
theorem oK {β:Type}(C:Tb)(b:Nat)(w i f c l d e a o n m g:V)(k:Fl->Loc->M β)(h:List O):aJ C 23 "integer_result" b [2] w [("op",i),("left",f),("right",c),("n",l),("notes",d),("found",e),("overflow",a),("i",o),("a",n),("b",m),("value",g)] k h=dA C b w i f c l d e a k h:=by kernel_rfl
def iQ(C:Tb)(b:Nat)(g f e k c d a:V):M V:=let j1:M V:=mr d;mq (truth a) λi=>bif i then(mq (bQ c "append") λZ=>mq (bN c "append" [(.str "NAs produced by integer overflow")]) λl=>j1)else(j1)
theorem oM(C:Tb)(b:Nat)(i g c k d e a:V)(h:List O):bj ((kK ai C.wf C.f 24).ex (aw "integer_result" (aq "integer_result") b)) (aG "integer_result" [3]) [("op",i),("left",g),("right",c),("n",k),("notes",d),("found",e),("overflow",a)] cb h=iQ C b i g c k d e a h:=by kernel_rfl
theorem oN(C:Tb)(b:Nat)(k g c l d e a o n m i:V)(h:List O):bj ((kK ai C.wf C.f 24).ex (aw "integer_result" (aq "integer_result") b)) (aG "integer_result" [3]) [("op",k),("left",g),("right",c),("n",l),("notes",d),("found",e),("overflow",a),("i",o),("a",n),("b",m),("value",i)] cb h=iQ C b k g c l d e a h:=by kernel_rfl
def yw {β:Type}(C:Tb)(b:Nat)(w a c:V)(k:Fl->Loc->M β):M β:=let j1:V->M β:=λf=>mq (bQ c "append") λZ=>mq (ah .Mod f (.int 1024)) λl=>mq (bN c "append" [l]) λm=>mq (ah .FloorDiv f (.int 1024)) λg=>mq (bt (.int 30)) λd=>mq (bF C 22 "_law_row" b [1,0,3] d [("script",a),("row",c),("cell",w),("figure",g)]) λe=>cm C 23 (aw "_law_row" (aq "_law_row") b) (aG "_law_row" [1,0,4]) k e.1 e.2;iq .GtE w (.int 0) (j1 w) (mq (ah .Sub (.int 7) w) λi=>j1 i)
theorem yx {β:Type}(C:Tb)(b:Nat)(w a c:V)(k:Fl->Loc->M β)(h:List O):aJ C 23 "_law_row" b [1] w [("script",a),("row",c)] k h=yw C b w a c k h:=by kernel_rfl
def yy {β:Type}(C:Tb)(b:Nat)(w a c g e d:V)(k:Fl->Loc->M β):M β:=let j1:V->M β:=λl=>mq (bQ c "append") λZ=>mq (ah .Mod l (.int 1024)) λo=>mq (bN c "append" [o]) λp=>mq (ah .FloorDiv l (.int 1024)) λm=>mq (bt (.int 30)) λf=>mq (bF C 22 "_law_row" b [1,0,3] f [("script",a),("row",c),("cell",w),("figure",m),("lap",d)]) λi=>cm C 23 (aw "_law_row" (aq "_law_row") b) (aG "_law_row" [1,0,4]) k i.1 i.2;iq .GtE w (.int 0) (j1 w) (mq (ah .Sub (.int 7) w) λn=>j1 n)
theorem yz {β:Type}(C:Tb)(b:Nat)(w c f d a e:V)(k:Fl->Loc->M β)(h:List O):aJ C 23 "_law_row" b [1] w [("script",c),("row",f),("cell",d),("figure",a),("lap",e)] k h=yy C b w c f d a e k h:=by kernel_rfl
def fN {β:Type}(C:Tb)(b:Nat)(w d e f a:V)(k:Fl->Loc->M β):M β:=let j1:V->M β:=λc=>k .next [("script",d),("row",e),("cell",f),("figure",c),("lap",w)];iq .Gt a (.int 0) (mq (bQ e "append") λZ=>mq (ah .Mod a (.int 1024)) λg=>mq (bN e "append" [g]) λl=>mq (ah .FloorDiv a (.int 1024)) λi=>j1 i) (j1 a)
theorem yA {β:Type}(C:Tb)(b:Nat)(w a e d c:V)(k:Fl->Loc->M β)(h:List O):aJ C 22 "_law_row" b [1,0,3] w [("script",a),("row",e),("cell",d),("figure",c)] k h=fN C b w a e d c k h:=by kernel_rfl
theorem yB {β:Type}(C:Tb)(b:Nat)(w c e d a f:V)(k:Fl->Loc->M β)(h:List O):aJ C 22 "_law_row" b [1,0,3] w [("script",c),("row",e),("cell",d),("figure",a),("lap",f)] k h=fN C b w c e d a k h:=by kernel_rfl
def pq(C:Tb)(b:Nat)(a c:V):M V:=mq (kM c 160) λd=>mq (bQ d "reverse") λZ=>mq (bN d "reverse" []) λe=>mr d
theorem yC(C:Tb)(b:Nat)(a c:V)(h:List O):bj ((kK ai C.wf C.f 24).ex (aw "_law_row" (aq "_law_row") b)) (aG "_law_row" [2]) [("script",a),("row",c)] cb h=pq C b a c h:=by kernel_rfl
theorem yD(C:Tb)(b:Nat)(a d e c g:V)(h:List O):bj ((kK ai C.wf C.f 24).ex (aw "_law_row" (aq "_law_row") b)) (aG "_law_row" [2]) [("script",a),("row",d),("cell",e),("figure",c),("lap",g)] cb h=pq C b a d h:=by kernel_rfl
noncomputable def mH {β:Type}(C:Tb)(b:Nat)(w c d a:V)(k:Fl->Loc->M β):M β:=mq (C.f "_law_product" [a,c]) λe=>k .next [("x",c),("n",d),("found",e),("lap",w)]
theorem uN {β:Type}(C:Tb)(b:Nat)(w c d a:V)(k:Fl->Loc->M β)(h:List O):aJ C 23 "_law_power" b [5] w [("x",c),("n",d),("found",a)] k h=mH C b w c d a k h:=by kernel_rfl
theorem uO {β:Type}(C:Tb)(b:Nat)(w d e a c:V)(k:Fl->Loc->M β)(h:List O):aJ C 23 "_law_power" b [5] w [("x",d),("n",e),("found",a),("lap",c)] k h=mH C b w d e a k h:=by kernel_rfl
def mI(C:Tb)(b:Nat)(g c a:V):M V:=let j1:V->M V:=λe=>mr e;iq .Gt c (.int 0) (j1 a) (mq (C.f "_law_quotient" [(.tup [(.int 1),(.int 1)]),a]) λd=>j1 d)
theorem uP(C:Tb)(b:Nat)(c d a:V)(h:List O):bj ((kK ai C.wf C.f 24).ex (aw "_law_power" (aq "_law_power") b)) (aG "_law_power" [6]) [("x",c),("n",d),("found",a)] cb h=mI C b c d a h:=by kernel_rfl
theorem uQ(C:Tb)(b:Nat)(d e a c:V)(h:List O):bj ((kK ai C.wf C.f 24).ex (aw "_law_power" (aq "_law_power") b)) (aG "_law_power" [6]) [("x",d),("n",e),("found",a),("lap",c)] cb h=mI C b d e a h:=by kernel_rfl
def mJ {β:Type}(C:Tb)(b:Nat)(w n o p q e a c d:V)(k:Fl->Loc->M β):M β:=mq (dS w) λg=>mq (C.f "_law_seen" [g.1]) λl=>mq (bY l) λi=>mq (bF C 22 "_law_attrs" b [2,0,1] i [("u",n),("v",o),("n",p),("m",q),("shape",e),("total",a),("extra",c),("found",d),("side",g.1),("size",g.2),("seen",l)]) λm=>cm C 23 (aw "_law_attrs" (aq "_law_attrs") b) (aG "_law_attrs" [2,0,2]) k m.1 m.2
theorem uR {β:Type}(C:Tb)(b:Nat)(w f g i l e a c d:V)(k:Fl->Loc->M β)(h:List O):aJ C 23 "_law_attrs" b [2] w [("u",f),("v",g),("n",i),("m",l),("shape",e),("total",a),("extra",c),("found",d)] k h=mJ C b w f g i l e a c d k h:=by kernel_rfl
theorem uS {β:Type}(C:Tb)(b:Nat)(w l m n o e a c d i g f:V)(k:Fl->Loc->M β)(h:List O):aJ C 23 "_law_attrs" b [2] w [("u",l),("v",m),("n",n),("m",o),("shape",e),("total",a),("extra",c),("found",d),("side",i),("size",g),("seen",f)] k h=mJ C b w l m n o e a c d k h:=by kernel_rfl
def uT {β:Type}(C:Tb)(b:Nat)(w r t x y e a c d o n i g:V)(k:Fl->Loc->M β):M β:=mq (dS w) λl=>mq (C.f "_law_seen" [l.1]) λp=>mq (bY p) λm=>mq (bF C 22 "_law_attrs" b [2,0,1] m [("u",r),("v",t),("n",x),("m",y),("shape",e),("total",a),("extra",c),("found",d),("side",l.1),("size",l.2),("seen",p),("name",g)]) λq=>cm C 23 (aw "_law_attrs" (aq "_law_attrs") b) (aG "_law_attrs" [2,0,2]) k q.1 q.2
theorem uU {β:Type}(C:Tb)(b:Nat)(w m n o p e a c d l i g f:V)(k:Fl->Loc->M β)(h:List O):aJ C 23 "_law_attrs" b [2] w [("u",m),("v",n),("n",o),("m",p),("shape",e),("total",a),("extra",c),("found",d),("side",l),("size",i),("seen",g),("name",f)] k h=uT C b w m n o p e a c d l i g f k h:=by kernel_rfl
def gb {β:Type}(C:Tb)(b:Nat)(w l n o r g a f c i e d:V)(k:Fl->Loc->M β):M β:=let j1:M β:=let j2:M β:=k .next [("u",l),("v",n),("n",o),("m",r),("shape",g),("total",a),("extra",f),("found",c),("side",i),("size",e),("seen",d),("name",w)];let t4:M β:=mq (ak d w) λq=>mq (cH c w q) λZ=>j2;let f5:M β:=j2;iq .NotIn w (.tup [(.str "names"),(.str "dim")]) (iq .Eq e a (mq (truth f) λp=>bif p then(t4)else(f5)) f5) f5;let t10:M β:=mq (ak d (.str "names")) λm=>mq (cH c (.str "names") m) λZ=>j1;let f11:M β:=j1;iq .Eq w (.str "names") (iq .Is g .none (iq .Eq e a t10 f11) f11) f11
theorem uV {β:Type}(C:Tb)(b:Nat)(w l m n o e a c d i g f:V)(k:Fl->Loc->M β)(h:List O):aJ C 22 "_law_attrs" b [2,0,1] w [("u",l),("v",m),("n",n),("m",o),("shape",e),("total",a),("extra",c),("found",d),("side",i),("size",g),("seen",f)] k h=gb C b w l m n o e a c d i g f k h:=by kernel_rfl
theorem uW {β:Type}(C:Tb)(b:Nat)(w m n o p e a c d i g f l:V)(k:Fl->Loc->M β)(h:List O):aJ C 22 "_law_attrs" b [2,0,1] w [("u",m),("v",n),("n",o),("m",p),("shape",e),("total",a),("extra",c),("found",d),("side",i),("size",g),("seen",f),("name",l)] k h=gb C b w m n o p e a c d i g f k h:=by kernel_rfl
noncomputable def mK(C:Tb)(b:Nat)(k l m n e c d a i g f:V):M V:=mr a
theorem uX(C:Tb)(b:Nat)(l m n o e a c d k i g:V)(h:List O):bj ((kK ai C.wf C.f 24).ex (aw "_law_attrs" (aq "_law_attrs") b)) (aG "_law_attrs" [3]) [("u",l),("v",m),("n",n),("m",o),("shape",e),("total",a),("extra",c),("found",d),("side",k),("size",i),("seen",g)] cb h=mK C b l m n o e a c d k i g h:=by kernel_rfl
theorem uY(C:Tb)(b:Nat)(m n o p e a c d k i g l:V)(h:List O):bj ((kK ai C.wf C.f 24).ex (aw "_law_attrs" (aq "_law_attrs") b)) (aG "_law_attrs" [3]) [("u",m),("v",n),("n",o),("m",p),("shape",e),("total",a),("extra",c),("found",d),("side",k),("size",i),("seen",g),("name",l)] cb h=mK C b m n o p e a c d k i g h:=by kernel_rfl
noncomputable def kl {β:Type}(C:Tb)(b:Nat)(w:V)(k:Option V->M β):M β:=mq (C.f "from_int" [w]) λa=>k (some a)
theorem rC {β:Type}(C:Tb)(b:Nat)(w:V)(k:Option V->M β)(h:List O):bS C 22 (aw "double_items" (aq "double_items") b) (aX (bG (aG "double_items" [2])) []) w k h=kl C b w k h:=by kernel_rfl
def jz {β:Type}(C:Tb)(b:Nat)(w:V)(k:Option V->M β):M β:=mq (aZ b) λl=>mq (aZ (b+1)) λe=>mq (aZ (b+1)) λd=>mq (builtin "len" [d]) λq=>mq (ah .Mod w q) λp=>mq (ak e p) λo=>mq (aZ (b+2)) λa=>mq (aZ (b+2)) λc=>mq (builtin "len" [c]) λn=>mq (ah .Mod w n) λg=>mq (ak a g) λi=>mq (C.f "double_op" [l,o,i]) λm=>k (some m)
theorem qB {β:Type}(C:Tb)(b:Nat)(w:V)(k:Option V->M β)(h:List O):bS C 22 (aw "double_result" (aq "double_result") b) (aX (bG (aG "double_result" [0])) []) w k h=jz C b w k h:=by kernel_rfl
noncomputable def CC {β:Type}(C:Tb)(b:Nat)(w:V)(k:Option V->M β):M β:=mq (C.f "neg" [w]) λa=>k (some a)
theorem CD {β:Type}(C:Tb)(b:Nat)(w:V)(k:Option V->M β)(h:List O):bS C 19 (aw "negate" (aq "negate") b) (aX (bG (aG "negate" [1,0,0])) [1,1]) w k h=CC C b w k h:=by kernel_rfl
def sU {β:Type}(C:Tb)(b:Nat)(w:V)(k:Option V->M β):M β:=let j1:V->M β:=λc=>k (some c);iq .Is w .none (j1 .none) (mq (ah .Sub (.int 0) w) λa=>j1 a)
theorem CE {β:Type}(C:Tb)(b:Nat)(w:V)(k:Option V->M β)(h:List O):bS C 23 (aw "negate" (aq "negate") b) (aX (bG (aG "negate" [2])) []) w k h=sU C b w k h:=by kernel_rfl
def qO {β:Type}(C:Tb)(b:Nat)(w:V)(k:Option V->M β):M β:=mq (ak w (.int 1)) λa=>iq .Eq a (.int 0) (k (some w)) (k none)
theorem z6 {β:Type}(C:Tb)(b:Nat)(w:V)(k:Option V->M β)(h:List O):bS C 22 (aw "_law_sum" (aq "_law_sum") b) (aX (bG (aG "_law_sum" [2,0,0])) []) w k h=qO C b w k h:=by kernel_rfl
def lg {β:Type}(C:Tb)(b:Nat)(w:V)(k:Option V->M β):M β:=mq (aZ b) λa=>mq (C.f "_law_next" [a]) λc=>mq (ah .Mod c (.int 26)) λd=>mq (ah .Add (.int 97) d) λe=>mq (builtin "chr" [e]) λg=>k (some g)
theorem sV {β:Type}(C:Tb)(b:Nat)(w:V)(k:Option V->M β)(h:List O):bS C 19 (aw "_law_dressed" (aq "_law_dressed") b) (aX (bG (aG "_law_dressed" [3,1,0,0,0])) [1]) w k h=lg C b w k h:=by kernel_rfl
def pt {β:Type}(C:Tb)(b:Nat)(w:V)(k:Option V->M β):M β:=mq (aZ b) λa=>mq (aM a "attrs") λf=>mq (ak f w) λi=>mq (aM i "kind") λl=>mq (aZ b) λe=>mq (aM e "attrs") λg=>mq (ak g w) λm=>mq (aM m "items") λd=>mq (builtin "list" [d]) λc=>match w with|.str _=>k (some (.tup [w,(.tup [l,c])]))|_=>bad
theorem yE {β:Type}(C:Tb)(b:Nat)(w:V)(k:Option V->M β)(h:List O):bS C 22 (aw "_law_seen" (aq "_law_seen") b) (aX (bG (aG "_law_seen" [1])) []) w k h=pt C b w k h:=by kernel_rfl
def oz {β:Type}(C:Tb)(b:Nat)(w:V)(k:Option V->M β):M β:=let j1:V->M β:=λa=>k (some a);iq .Is w .none (j1 .none) (j1 (.tup [w,(.int 1)]))
theorem wS {β:Type}(C:Tb)(b:Nat)(w:V)(k:Option V->M β)(h:List O):bS C 21 (aw "_law_items" (aq "_law_items") b) (aX (bG (aG "_law_items" [1,0,0])) []) w k h=oz C b w k h:=by kernel_rfl
abbrev Tj (wf j:Nat):Tb:=⟨T ai wf 24 j,wf⟩
theorem xf {x:Str}{vs:List V}(a:ai.fn x=some (aq x)):T ai wf 24 (j+1) x vs h=Bd (Tj wf j) x vs h.length (h++List.replicate (cellN (aq x).scope.names) (.cell none)):=by
 show(match ai.fn x with|some fn=>fj (jY ai wf (T ai wf 24 j) 24) x fn vs|none=>_) h=_
 rw[a];exact yc ai wf (T ai wf 24 j) 24 x (aq x) vs h
theorem aK {x:Str}{vs:List V}(b:ai.fn x=some (aq x))(a:cellN (aq x).scope.names=0):T ai wf 24 (j+1) x vs h=Bd (Tj wf j) x vs h.length h:=by
 rw[xf b,a,List.replicate_zero,Um]
theorem aa {b β:Type}{m:M b}{f:b->M β}{a:b}(e:m h=.ok a h'):mq m f h=f a h':=by
 unfold mq;rw[e]
@[simp] theorem bA (a b:Int):cmp .Eq (.int a) (.int b)=mr (decide (a=b)):=rfl
@[simp] theorem jF (a b:Int):cmp .Lt (.int a) (.int b)=mr (decide (a<b)):=rfl
@[simp] theorem OT (a b:Int):cmp .LtE (.int a) (.int b)=mr (decide (a<=b)):=rfl
@[simp] theorem cJ (a b:Int):cmp .Gt (.int a) (.int b)=mr (decide (a>b)):=rfl
@[simp] theorem sW (a b:Int):cmp .GtE (.int a) (.int b)=mr (decide (a>=b)):=rfl
@[simp] theorem cZ (a b:Int):ah .Add (.int a) (.int b)=mr (.int (a+b)):=rfl
@[simp] theorem ch (a b:Int):ah .Sub (.int a) (.int b)=mr (.int (a-b)):=rfl
theorem qc {a:Type}{c:Bool}{r:R a}(h:c=true):(bif c then r else .bad)=r:=by rw[h];rfl
theorem bn {a b:Int}(c:a.natAbs<2^2000)(d:b.natAbs<2^2000):ah .Mult (.int a) (.int b)=mr (.int (a*b)):=by
 funext h;exact qc (Tm.mpr ⟨UD c,UD d⟩)
theorem bu {a b:Int}(c:b≠0)(d:b.natAbs<2^2000):ah .FloorDiv (.int a) (.int b)=mr (.int (a.fdiv b)):=by
 funext h;exact qc (Tm.mpr ⟨show(!(decide (b=0)))=true by rw[Uv c];rfl,UD d⟩)
theorem aD {a b:Int}(c:b≠0):ah .Mod (.int a) (.int b)=mr (.int (a.fmod b)):=by
 funext h;exact qc (show(!(decide (b=0)))=true by rw[Uv c];rfl)
@[simp] theorem aW (b:Bool):truth (.bool b)=mr b:=rfl
@[simp] theorem ae {b β:Type} (a:b) (f:b->M β):mq (mr a) f=f a:=rfl
section
variable {α β:Type} {m:M α} {f:α->M β} {h h':List O} {a:α} {r:R β} {P:R β->Prop} {x y:M β} {c:Prop} [Decidable c]
theorem aN(e:m h=.ok a h')(q:f a h'=r):mq m f h=r:=(aa e).trans q
theorem aQ(e:m=mr a)(q:f a h=r):mq m f h=r:=by subst e;exact q
theorem sX(e:c)(q:x h=r):(bif decide c then x else y) h=r:=by rw[UD e];exact q
theorem sY(e:¬c)(q:y h=r):(bif decide c then x else y) h=r:=by rw[Uv e];exact q
theorem oA {c:Bool}(e:c=true)(q:x h=r):(bif c then x else y) h=r:=by rw[e];exact q
theorem mM {c:Bool}(e:c=false)(q:y h=r):(bif c then x else y) h=r:=by rw[e];exact q
theorem EF {c:Bool}(e:c=true)(q:P (x h)):P ((bif c then x else y) h):=by rw[e];exact q
theorem Be {c:Bool}(e:c=false)(q:P (y h)):P ((bif c then x else y) h):=by rw[e];exact q
theorem vS(q:x h=r):(bif true then x else y) h=r:=q
theorem lh(q:y h=r):(bif false then x else y) h=r:=q
theorem az(e:m h=.ok a h')(q:P (f a h')):P (mq m f h):=by rw[aa e];exact q
theorem bC(e:m=mr a)(q:P (f a h)):P (mq m f h):=by subst e;exact q
theorem qP(e:c)(q:P (x h)):P ((bif decide c then x else y) h):=by rw[UD e];exact q
theorem sZ(e:¬c)(q:P (y h)):P ((bif decide c then x else y) h):=by rw[Uv e];exact q
theorem M9(e:cmp op u v=mr (decide c))(k:c)(q:x h=r):iq op u v x y h=r:=aQ e (sX k q)
theorem Na(e:cmp op u v=mr (decide c))(k:¬c)(q:y h=r):iq op u v x y h=r:=aQ e (sY k q)
theorem SB(e:cmp op u v=mr (decide c))(k:c)(q:P (x h)):P (iq op u v x y h):=bC e (qP k q)
theorem SC(e:cmp op u v=mr true)(q:P (x h)):P (iq op u v x y h):=bC e q
theorem SD(e:cmp op u v=mr false)(q:P (y h)):P (iq op u v x y h):=bC e q
theorem yF(q:P (x h)):P ((bif true then x else y) h):=q
theorem qQ(q:P (y h)):P ((bif false then x else y) h):=q
end
@[elab_as_elim] theorem bO {b:Sort _} {G:b->Prop} (a:b) (h:∀P:b->Prop,(∀x,G x->P x)->P a):G a:=h G λZ x=>x
theorem eV {I:Itp}{c:Cx}{t:Expr}{b:List Stmt}{l:Loc}(e:I.tst c l t h=.ok false h'):ka (wf+1) I c t b l h=.ok (.next,l) h':=by
 show mq (eP (I.tst c l t)) _ h=_;rw[aa (a:=false) (h':=h') (by unfold eP;rw[e])];rfl
theorem jf {I:Itp}{c:Cx}{t:Expr}{b:List Stmt}{l f:Loc}{d:List O}(e:I.tst c l t h=.ok true h')(g:db (I.ex c) b l h'=.ok (.next,f) d):ka (wf+1) I c t b l h=ka wf I c t b f d:=by
 show mq (eP (I.tst c l t)) _ h=_;rw[aa (a:=true) (h':=h') (by unfold eP;rw[e])];show mq (eP (db (I.ex c) b l)) _ h'=_;rw[aa (a:=(.next,f)) (h':=d) (by unfold eP;rw[g])];rfl
theorem Ib(C:Tb)(m:Nat)(c:Cx)(l:Loc)(t:Expr)(h:List O):(Ic C m).tst c l t h=(kK ai C.wf C.f m).tst c l t mr h:=by
 rw[(nP ai C.wf C.f m).tst,mB]
theorem GK(C:Tb)(m:Nat)(c:Cx)(b:List Stmt)(l:Loc)(h:List O):db ((Ic C m).ex c) b l h=bj ((kK ai C.wf C.f m).ex c) b l (λa l=>mr (a,l)) h:=by
 rw[jn (λl s k=>(nP ai C.wf C.f m).ex c l s k)];rw[show(λp:Fl×Loc=>(mr (p.1,p.2):M (Fl×Loc)))=mr from rfl,mB]
theorem GL(C:Tb)(b:Nat)(h:List O):∀(m:Nat) (wf:Nat) (x y:Nat),y<2^m->2*m<wf-> ∃z:V,ka wf (Ic C 23) (aw "gcd" (aq "gcd") b) (nU (aG "gcd" [0])) (kg (aG "gcd" [0])) [("a",.int x),("b",.int y)] h=.ok (.next,[("a",.int (Nat.gcd x y)),("b",z)]) h:=by
 have d:∀(x y:Int),(Ic C 23).tst (aw "gcd" (aq "gcd") b) [("a",.int x),("b",.int y)] (nU (aG "gcd" [0])) h=.ok (decide (y>0)) h:=λx y=>by
  rw[Ib,GF];rfl
 have n:∀(x y:Nat),0<y->db ((Ic C 23).ex (aw "gcd" (aq "gcd") b)) (kg (aG "gcd" [0])) [("a",.int x),("b",.int y)] h=.ok (.next,[("a",.int y),("b",.int (x%y:Nat))]) h:=λx y c=>by
  rw[GK,GH];refine aQ (aD (vw c)) ?_;rw[SN _ qE];rfl
 intro m;induction m with
 |zero=>
  intro wf x y c g;obtain rfl:y=0:=Pl c;obtain⟨wf,rfl⟩:=Nat.exists_eq_add_of_lt g;exact⟨.int 0,by rw[show 2*0+wf+1=wf+1 from Ps,eV (d _ _|>.trans (by rfl))];simp⟩
 |succ m ih=>
  intro wf x y c g;obtain⟨wf,rfl⟩:∃k,wf=k+1+1+1:=⟨wf-3,by exact LQ g⟩;by_cases l:y=0
  ·subst l
   exact⟨.int 0,by rw[eV (d _ _|>.trans (by rfl))];simp⟩
  have a:0<y:=Lq l;rw[jf ((d _ _).trans (by rw[show decide ((y:Int)>0)=true from UD (Pm a)])) (n x y a)];by_cases i:x%y=0
  ·rw[i]
   refine⟨.int 0, ?_⟩;rw[eV (d _ _|>.trans (by rfl))];rw[UW x y,U8 y x,i,Nat.gcd_zero_left];rfl
  have f:0<x%y:=Lx i;have o:x%y<y:=Vb _ a;rw[jf ((d _ _).trans (by rw[show decide (((x%y:Nat):Int)>0)=true from UD (Ph f)])) (n y (x%y) f)];have p:y%(x%y)<2^m:=by
   have w:=Vb y f;have q:=Nat.mod_add_div y (x%y);have r:1<=y/(x%y):=(Nat.one_le_div_iff f).mpr (Lp o);have t:x%y*1<=x%y*(y/(x%y)):=TH _ r;rw[Nat.pow_succ]at c;exact Py c w q t
  refine am (ih (wf+1) (x%y) (y%(x%y)) p (LM g)) λz e=>⟨z, ?_⟩;rw[e];rw[show Nat.gcd (x%y) (y%(x%y))=Nat.gcd x y from by rw[UW,<-U8,<-U8,UW]]
theorem OU {x y:Nat}{h:List O}(b:y<2^1000)(a:2000<wf):T ai wf 24 (j+1) "gcd" [.int x,.int y] h=.ok (.int (Nat.gcd x y)) h:=by
 rw[aK (by kernel_rfl) (by kernel_rfl),OJ];refine am (GL (Tj wf j) h.length h 1000 wf x y b a) λz e=>?_;refine aN e ?_;show bj _ _ _ _ _=_;rw[GJ];rfl
end Mine
end
noncomputable section
open PySem PySem.W PySem.Calls PyProof.Rows
set_option maxRecDepth 100000
set_option exponentiation.threshold 3000
namespace Mine
variable {wf j k m:Nat} {n d:Int} {h:List O} {l:List V} {r:V}
noncomputable def s5(n d:Int):V:=.tup [.int (n/(Nat.gcd n.natAbs d.natAbs:Int)),.int (d/(Nat.gcd n.natAbs d.natAbs:Int))]
def cR(n d:Int):V:=if d=0 then(if n=0 then .tup [.int 0,.int 0]else if n>0 then .tup [.int 1,.int 0]else .tup [.int (-1),.int 0])else if d<0 then s5 (-n) (-d)else s5 n d
theorem vT {n d:Int}(hd:0<d)(a:d.natAbs<2^1000):(Nat.gcd n.natAbs d.natAbs:Int)≠0/\(Nat.gcd n.natAbs d.natAbs:Int).natAbs<2^2000:=by
 have c:0<Nat.gcd n.natAbs d.natAbs:=S4 _ (Dx hd);have b:Nat.gcd n.natAbs d.natAbs<=d.natAbs:=Nat.gcd_le_right _ (Dx hd);refine⟨by exact vw c, ?_⟩;have e:(2:Nat)^1000<=2^2000:=Tx (by decide) (by decide);exact TT b (U0 a (Nat.pow_lt_pow_right (by decide) (by decide)))
theorem yG(hd:0<d)(b:d.natAbs<2^1000)(p:2000<wf):
  (mq (builtin "abs" [.int n]) λq=>mq (T ai wf 24 (j+1) "gcd" [q,.int d]) λg=>mq (ah .FloorDiv (.int n) g) λc=>mq (ah .FloorDiv (.int d) g) λf=>mr (.tup [c,f])) h=.ok (s5 n d) h:=by
 refine af (vT (n:=n) hd b) λo i=>aQ (show builtin "abs" [.int n]=mr (.int n.natAbs) from rfl) ?_;rw[aa (a:=.int (Nat.gcd n.natAbs d.natAbs)) (h':=h) (by
  have e:=OU (j:=j) (x:=n.natAbs) (y:=d.natAbs) (h:=h) b p;rw[show((d.natAbs:Nat):Int)=d from HT hd]at e;exact e)]
 refine aQ (bu o i)<|aQ (bu o i) ?_;rw[SL _ qE,SL _ qE];rfl
theorem s9(b:d.natAbs<2^1000)(f:2000<wf):T ai wf 24 (j+2) "make" [.int n,.int d] h=.ok (cR n d) h:=by
 rw[aK (by kernel_rfl) (by kernel_rfl),M5];unfold Ep cR;simp only[bA,jF,cJ,ae,ch];by_cases c:d=0
 ·subst c
  simp only[decide_true,Vj,if_true];by_cases a:n=0
  ·subst a;rfl
  ·refine mM (Uv a) ?_;rw[Vn a]
   by_cases e:n>0
   ·refine oA (UD e) ?_;rw[Vo e];rfl
   ·refine mM (Uv e) ?_;rw[Vn e];rfl
 ·refine mM (Uv c) ?_;rw[Vn c]
  by_cases a:d<0
  ·refine oA (UD a) ?_;rw[Vo a]
   rw[show(0:Int)-n= -n from Dq,show(0:Int)-d= -d from Dq];exact yG (Ln a) (QQ b) f
  ·refine mM (Uv a) ?_;rw[Vn a]
   exact yG (HU c a) b f
noncomputable abbrev Q:=Option (Int×Int)
noncomputable def vq:Q->V
 |none=>.none
 |some (a,b)=>.tup [.int a,.int b]
noncomputable def cB:Q:=some (0,0)
noncomputable def bx:Q->Bool
 |none=>true
 |some (a,b)=>decide (a=0)&&decide (b=0)
noncomputable def dB(x y:Q):Q:=if x=none\/y=none then none else cB
def Sm(k:Nat):Q->Prop
 |none=>True
 |some (a,b)=>a.natAbs<2^k/\b.natAbs<2^k
@[simp] theorem bz (a:V) (r:List V):ak (.tup (a::r)) (.int 0)=mr a:=by kernel_rfl
@[simp] theorem bL (a b:V) (r:List V):ak (.tup (a::b::r)) (.int 1)=mr b:=by kernel_rfl
@[simp] theorem cu:cmp .Is .none .none=mr true:=rfl
@[simp] theorem jg (l:List V):cmp .Is (.tup l) .none=mr false:=rfl
@[simp] theorem qR (i:Int):cmp .Is (.int i) .none=mr false:=rfl
@[simp] theorem dU:cmp .IsNot .none .none=mr false:=rfl
@[simp] theorem JL (l:List V):cmp .IsNot (.tup l) .none=mr true:=rfl
@[simp] theorem JM (i:Int):cmp .IsNot (.int i) .none=mr true:=rfl
section
variable {β:Type} {x y:M β} {f:V->M β} {h:List O} {r:R β} {a b n:Int} {u v X Y I J:V} {l:List V}
theorem uZ(e:a=n)(q:x h=r):iq .Eq (.int a) (.int n) x y h=r:=sX e q
theorem rD(e:¬a=n)(q:y h=r):iq .Eq (.int a) (.int n) x y h=r:=sY e q
theorem xg(e:a=n)(q:x h=r):mq (ak (.tup (.int a::l)) (.int 0)) (λv=>iq .Eq v (.int n) x y) h=r:=aQ (bz ..) (sX e q)
theorem xh(e:¬a=n)(q:y h=r):mq (ak (.tup (.int a::l)) (.int 0)) (λv=>iq .Eq v (.int n) x y) h=r:=aQ (bz ..) (sY e q)
theorem cG(e:a=n)(q:x h=r):mq (ak (.tup (u:: .int a::l)) (.int 1)) (λv=>iq .Eq v (.int n) x y) h=r:=aQ (bL ..) (sX e q)
theorem cA(e:¬a=n)(q:y h=r):mq (ak (.tup (u:: .int a::l)) (.int 1)) (λv=>iq .Eq v (.int n) x y) h=r:=aQ (bL ..) (sY e q)
theorem CF(e:a<n)(q:x h=r):iq .Lt (.int a) (.int n) x y h=r:=sX e q
theorem CG(e:¬a<n)(q:y h=r):iq .Lt (.int a) (.int n) x y h=r:=sY e q
theorem qd(e:a<n)(q:x h=r):mq (ak (.tup (.int a::l)) (.int 0)) (λv=>iq .Lt v (.int n) x y) h=r:=aQ (bz ..) (sX e q)
theorem qe(e:¬a<n)(q:y h=r):mq (ak (.tup (.int a::l)) (.int 0)) (λv=>iq .Lt v (.int n) x y) h=r:=aQ (bz ..) (sY e q)
theorem Si(e:a>n)(q:x h=r):iq .Gt (.int a) (.int n) x y h=r:=sX e q
theorem Nb(e:¬a>n)(q:y h=r):iq .Gt (.int a) (.int n) x y h=r:=sY e q
theorem xi(e:a>n)(q:x h=r):mq (ak (.tup (.int a::l)) (.int 0)) (λv=>iq .Gt v (.int n) x y) h=r:=aQ (bz ..) (sX e q)
theorem xj(e:¬a>n)(q:y h=r):mq (ak (.tup (.int a::l)) (.int 0)) (λv=>iq .Gt v (.int n) x y) h=r:=aQ (bz ..) (sY e q)
theorem Id(e:ak Y J=mr (.int b))(c:a.natAbs<2^2000)(g:b.natAbs<2^2000)(q:f (.int (a*b)) h=r):mq (ak Y J) (λv=>mq (ah .Mult (.int a) v) f) h=r:=aQ e (aQ (bn c g) q)
theorem GM(q:y h=r):iq .Is (.tup l) .none x y h=r:=q
theorem fO(e:ak X I=mr (.int a))(i:ak Y J=mr (.int b))(g:a.natAbs<2^2000)(c:b.natAbs<2^2000)(q:f (.int (a*b)) h=r):mq (ak X I) (λu=>mq (ak Y J) λv=>mq (ah .Mult u v) f) h=r:=aQ e (aQ i (aQ (bn g c) q))
end
theorem qf(x:Q):T ai wf 24 (j+1) "is_na" [vq x] h=.ok (.bool (bx x)) h:=by
 rw[aK (by kernel_rfl) (by kernel_rfl),JF];unfold A5
 match x with
 |none=>rfl
 |some (a,b)=>
  simp only[vq,jg,bz,bL,ae,bA,aW,Ve];show _=R.ok (V.bool (decide (a=0)&&decide (b=0))) h;cases decide (a=0)<;>rfl
theorem yH(x y:Q):T ai wf 24 (j+1) "marked" [vq x,vq y] h=.ok (vq (dB x y)) h:=by
 rw[aK (by kernel_rfl) (by kernel_rfl),GA];unfold yh
 match x,y with
 |none,none=>rfl
 |none,some _=>rfl
 |some _,none=>rfl
 |some _,some _=>rfl
theorem CH(x:Q):T ai wf 24 (j+1) "neg" [vq x] h=.ok (vq (x.map λp=>(-p.1,p.2))) h:=by
 rw[aK (by kernel_rfl) (by kernel_rfl),OK];unfold Ia
 match x with
 |none=>rfl
 |some (a,b)=>
  simp only[vq,jg,bz,bL,ae,ch,Ve,Option.map_some];rw[show(0:Int)-a= -a from Dq];rfl
theorem qS(x:Q):T ai wf 24 (j+1) "is_finite" [vq x] h=.ok (.bool (match x with|none=>false|some p=>decide (p.2>0))) h:=by
 rw[aK (by kernel_rfl) (by kernel_rfl),zQ];unfold qL
 match x with
 |none=>rfl
 |some (a,b)=>rfl
theorem ta(x:Option Int):T ai wf 24 (j+1) "from_int" [match x with|none=>.none|some n=>.int n] h=.ok (vq (x.map λn=>(n,1))) h:=by
 rw[aK (by kernel_rfl) (by kernel_rfl),Cr];unfold sC
 match x with
 |none=>rfl
 |some n=>rfl
def lX(x y:Q):V:=match x,y with
 |some (a,b),some (c,d)=>if(a=0/\b=0)\/(c=0/\d=0)then vq cB else if b=0 then(if d=0 then(if a=c then vq x else vq cB)else vq x)else if d=0 then vq y else cR (a*d+c*b) (b*d)
 |_,_=>.none
def nV(x y:Q):V:=match x,y with
 |some (a,b),some (c,d)=>if(a=0/\b=0)\/(c=0/\d=0)then vq cB else cR (a*c) (b*d)
 |_,_=>.none
theorem bo {a b:Int}{l:Nat}(c:a.natAbs<2^k)(e:b.natAbs<2^l)(h:k+l<=m):(a*b).natAbs<2^m:=by
 rw[UB];refine TU (Nat.mul_lt_mul_of_lt_of_le (TU c (U9 _)) (UY e) (Nat.pow_pos (by decide))) ?_;rw[<-Nat.pow_add];exact Tx (by decide) h
theorem aS {a:Nat}(h:a<2^k)(b:k<=2000):a<2^2000:=TU h (Tx (by decide) b)
theorem bD(x:Q):(bx x=true/\(x=none\/x=some (0,0)))\/(bx x=false/\ ∃a b,x=some (a,b)/\ ¬(a=0/\b=0)):=by
 rcases x with _|⟨a,b⟩
 ·exact .inl ⟨rfl,.inl rfl⟩
 ·by_cases h:a=0/\b=0
  ·refine af (h) λe c=>?_;subst e;subst c;exact .inl ⟨rfl,.inr rfl⟩
  ·refine .inr ⟨?_,a,b,rfl,h⟩
   show(decide (a=0)&&decide (b=0))=false
   simpa using h
theorem Bf {x y:Q}(h:bx x=true\/bx y=true):nV x y=vq (dB x y):=by
 rcases bD x with⟨e,rfl|rfl⟩|⟨e,a,b,rfl,i⟩
 ·rcases y with _|⟨c,d⟩<;>rfl
 ·rcases y with _|⟨c,d⟩
  ·rfl
  ·simp[nV,dB]
 ·rcases bD y with⟨f,rfl|rfl⟩|⟨f,c,d,rfl,g⟩
  ·rfl
  ·simp[nV,dB]
  ·rw[e,f]at h;exact h.elim (λq=>by cases q) (λq=>by cases q)
theorem nW {x y:Q}{m:M V}(b:bx x=true\/bx y=true->r=vq (dB x y))(k:bx x=false->bx y=false->m h=.ok r h):
  (mq (T ai wf 24 (j+2) "is_na" [vq x]) λc=>mq (truth c) λe=>bif e then(mq (T ai wf 24 (j+2) "marked" [vq x,vq y]) λr=>mr r)else
   (mq (T ai wf 24 (j+2) "is_na" [vq y]) λf=>mq (truth f) λg=>bif g then(mq (T ai wf 24 (j+2) "marked" [vq x,vq y]) λr=>mr r)else m)) h=.ok r h:=by
 have a:mq (T ai wf 24 (j+2) "marked" [vq x,vq y]) (λr=>mr r) h=.ok (vq (dB x y)) h:=by
  rw[aa (yH (j:=j+1) x y)];rfl
 rw[aa (qf (j:=j+1) x),aW,ae];induction hnx:bx x using Vs with
 |true=>rw[Vj,a,b (.inl hnx)]
 |false=>
  rw[Ve,aa (qf (j:=j+1) y),aW,ae];induction hny:bx y using Vs with
  |true=>rw[Vj,a,b (.inr hny)]
  |false=>refine lh ?_;exact k hnx hny
theorem Ie {x y:Q}(p:Sm 400 x)(i:Sm 400 y)(z:2000<wf):T ai wf 24 (j+3) "mul" [vq x,vq y] h=.ok (nV x y) h:=by
 rw[aK (by kernel_rfl) (by kernel_rfl),OQ];refine nW Bf λg f=>aB λA o=>?_;rcases bD x with⟨t,_⟩|⟨t,a,b,rfl,w⟩
 ·refine o ?_
  rw[t]at g;cases g
 rcases bD y with⟨u,_⟩|⟨u,c,d,rfl,v⟩
 ·refine o ?_
  rw[u]at f;cases f
 have e:nV (some (a,b)) (some (c,d))=cR (a*c) (b*d):=Vn (λq=>q.elim w v);refine o ?_;rw[e];simp only[vq,bz,bL,ae];refine aQ (bn (aS p.1 (by decide)) (aS i.1 (by decide)))<|aQ (bn (aS p.2 (by decide)) (aS i.2 (by decide)))<|aN ((s9 (j:=j) (bo p.2 i.2 (by decide)) z)) ?_;rfl
theorem Bg {x y:Q}(h:bx x=true\/bx y=true):lX x y=vq (dB x y):=by
 rcases bD x with⟨e,rfl|rfl⟩|⟨e,a,b,rfl,i⟩
 ·rcases y with _|⟨c,d⟩<;>rfl
 ·rcases y with _|⟨c,d⟩
  ·rfl
  ·simp[lX,dB]
 ·rcases bD y with⟨f,rfl|rfl⟩|⟨f,c,d,rfl,g⟩
  ·rfl
  ·simp[lX,dB]
  ·rw[e,f]at h;exact h.elim (λq=>by cases q) (λq=>by cases q)
theorem Ig {x y:Q}(t:Sm 400 x)(p:Sm 400 y)(B:2000<wf):T ai wf 24 (j+3) "add" [vq x,vq y] h=.ok (lX x y) h:=by
 rw[aK (by kernel_rfl) (by kernel_rfl),OM];refine nW Bg λi o=>aB λC u=>?_;rcases bD x with⟨w,_⟩|⟨w,a,b,rfl,A⟩
 ·refine u ?_
  rw[w]at i;cases i
 rcases bD y with⟨v,_⟩|⟨v,c,d,rfl,z⟩
 ·refine u ?_
  rw[v]at o;cases o
 have e:lX (some (a,b)) (some (c,d))=if b=0 then(if d=0 then(if a=c then vq (some (a,b))else vq cB)else vq (some (a,b)))else if d=0 then vq (some (c,d))else cR (a*d+c*b) (b*d):=Vn (λq=>q.elim A z);refine u ?_;rw[e];by_cases g:b=0
 ·rw[Vo g];refine cG g ?_
  by_cases hd:d=0
  ·rw[Vo hd];refine cG hd<|aQ (bz ..) ?_
   by_cases f:a=c
   ·rw[Vo f];exact uZ f rfl
   ·rw[Vn f];exact rD f rfl
  ·rw[Vn hd];refine cA hd<|cG g rfl
 ·rw[Vn g];refine cA g<|cA g ?_
  by_cases hd:d=0
  ·rw[Vo hd];exact cG hd rfl
  ·rw[Vn hd];refine cA hd<|fO (bz ..) (bL ..) (aS t.1 (by decide)) (aS p.2 (by decide))<|fO (bz ..) (bL ..) (aS p.1 (by decide)) (aS t.2 (by decide))<|aQ (cZ ..)<|fO (bL ..) (bL ..) (aS t.2 (by decide)) (aS p.2 (by decide))<|aN ((s9 (j:=j) (bo t.2 p.2 (by decide)) B)) ?_;rfl
noncomputable def fP(x:Q):Q:=x.map λp=>(-p.1,p.2)
theorem yI {x:Q}(h:Sm k x):Sm k (fP x):=by
 rcases x with _|⟨a,b⟩
 ·trivial
 ·exact⟨by show(-a).natAbs<_;rw[UC];exact h.1,h.2⟩
theorem Ih {x y:Q}(b:Sm 400 x)(c:Sm 400 y)(a:2000<wf):T ai wf 24 (j+4) "sub" [vq x,vq y] h=.ok (lX x (fP y)) h:=by
 rw[aK (by kernel_rfl) (by kernel_rfl),OO];refine aN ((CH (j:=j+2) y))<|(aa (Ig (j:=j) b (yI c) a)).trans rfl
def nX(x y:Q):V:=match x,y with
 |some (a,b),some (c,d)=>if(a=0/\b=0)\/(c=0/\d=0)then vq cB else if b=0 then(if d=0 then vq cB else if c<0 then vq (fP x)else vq x)else cR (a*d) (b*c)
 |_,_=>.none
theorem Bh {x y:Q}(h:bx x=true\/bx y=true):nX x y=vq (dB x y):=by
 rcases bD x with⟨e,rfl|rfl⟩|⟨e,a,b,rfl,i⟩
 ·rcases y with _|⟨c,d⟩<;>rfl
 ·rcases y with _|⟨c,d⟩
  ·rfl
  ·simp[nX,dB]
 ·rcases bD y with⟨f,rfl|rfl⟩|⟨f,c,d,rfl,g⟩
  ·rfl
  ·simp[nX,dB]
  ·rw[e,f]at h;exact h.elim (λq=>by cases q) (λq=>by cases q)
theorem CI {x y:Q}(u:Sm 400 x)(t:Sm 400 y)(B:2000<wf):T ai wf 24 (j+3) "div" [vq x,vq y] h=.ok (nX x y) h:=by
 rw[aK (by kernel_rfl) (by kernel_rfl),OS];refine nW Bh λg i=>aB λD p=>?_;rcases bD x with⟨w,_⟩|⟨w,a,b,rfl,A⟩
 ·refine p ?_
  rw[w]at g;cases g
 rcases bD y with⟨v,_⟩|⟨v,c,d,rfl,z⟩
 ·refine p ?_
  rw[v]at i;cases i
 have e:nX (some (a,b)) (some (c,d))=if b=0 then(if d=0 then vq cB else if c<0 then vq (fP (some (a,b)))else vq (some (a,b)))else cR (a*d) (b*c):=Vn (λq=>q.elim A z);have C:=CH (wf:=wf) (j:=j+1) (some (a,b)) (h:=h);refine p ?_;rw[e];by_cases f:b=0
 ·rw[Vo f];refine cG f ?_
  by_cases hd:d=0
  ·rw[Vo hd];exact cG hd rfl
  ·rw[Vn hd];refine cA hd<|cG f ?_
   by_cases o:c<0
   ·rw[Vo o];refine qd o<|aN C rfl
   ·rw[Vn o];exact qe o rfl
 ·rw[Vn f];refine cA f<|cA f<|fO (bz ..) (bL ..) (aS u.1 (by decide)) (aS t.2 (by decide))<|fO (bL ..) (bz ..) (aS u.2 (by decide)) (aS t.1 (by decide))<|aN ((s9 (j:=j) (bo u.2 t.1 (by decide)) B)) rfl
theorem GN(C:Tb)(b:Nat)(n d:V)(h:List O):∀(m:Nat) (wf:Nat) (x y:Nat),y<2^m->2*m<wf-> ∃z:V,ka wf (Ic C 23) (aw "_law_reduced" (aq "_law_reduced") b) (nU (aG "_law_reduced" [2])) (kg (aG "_law_reduced" [2])) [("n",n),("d",d),("a",.int x),("b",.int y)] h=.ok (.next,[("n",n),("d",d),("a",.int (Nat.gcd x y)),("b",z)]) h:=by
 have f:∀(x y:Int),(Ic C 23).tst (aw "_law_reduced" (aq "_law_reduced") b) [("n",n),("d",d),("a",.int x),("b",.int y)] (nU (aG "_law_reduced" [2])) h=.ok (decide (y>0)) h:=λx y=>by
  rw[Ib,rq];rfl
 have q:∀(x y:Nat),0<y->db ((Ic C 23).ex (aw "_law_reduced" (aq "_law_reduced") b)) (kg (aG "_law_reduced" [2])) [("n",n),("d",d),("a",.int x),("b",.int y)] h=.ok (.next,[("n",n),("d",d),("a",.int y),("b",.int (x%y:Nat))]) h:=λx y c=>by
  rw[GK,ru];refine aQ (aD (vw c)) ?_;rw[SN _ qE];rfl
 intro m;induction m with
 |zero=>
  intro wf x y c i;obtain rfl:y=0:=Pl c;obtain⟨wf,rfl⟩:=Nat.exists_eq_add_of_lt i;exact⟨.int 0,by rw[show 2*0+wf+1=wf+1 from Ps,eV (f _ _|>.trans (by rfl))];simp⟩
 |succ m ih=>
  intro wf x y c i;obtain⟨wf,rfl⟩:∃k,wf=k+1+1+1:=⟨wf-3,by exact LQ i⟩;by_cases p:y=0
  ·subst p
   exact⟨.int 0,by rw[eV (f _ _|>.trans (by rfl))];simp⟩
  have a:0<y:=Lq p;rw[jf ((f _ _).trans (by rw[show decide ((y:Int)>0)=true from UD (Pm a)])) (q x y a)];by_cases o:x%y=0
  ·rw[o]
   refine⟨.int 0, ?_⟩;rw[eV (f _ _|>.trans (by rfl))];rw[UW x y,U8 y x,o,Nat.gcd_zero_left];rfl
  have g:0<x%y:=Lx o;have t:x%y<y:=Vb _ a;rw[jf ((f _ _).trans (by rw[show decide (((x%y:Nat):Int)>0)=true from UD (Ph g)])) (q y (x%y) g)];have u:y%(x%y)<2^m:=by
   have B:=Vb y g;have v:=Nat.mod_add_div y (x%y);have w:1<=y/(x%y):=(Nat.one_le_div_iff g).mpr (Lp t);have A:x%y*1<=x%y*(y/(x%y)):=TH _ w;rw[Nat.pow_succ]at c;exact Py c B v A
  refine am (ih (wf+1) (x%y) (y%(x%y)) u (LM i)) λz e=>⟨z, ?_⟩;rw[e];rw[show Nat.gcd (x%y) (y%(x%y))=Nat.gcd x y from by rw[UW,<-U8,<-U8,UW]]
theorem dJ(hd:0<d)(a:d.natAbs<2^1000)(f:2000<wf):T ai wf 24 (j+1) "_law_reduced" [.int n,.int d] h=.ok (s5 n d) h:=by
 rw[aK (by kernel_rfl) (by kernel_rfl),wD];refine aQ (show builtin "abs" [.int n]=mr (.int n.natAbs) from rfl) ?_;obtain⟨z,e⟩:=GN (Tj wf j) h.length (.int n) (.int d) h 1000 wf n.natAbs d.natAbs a f;rw[show((d.natAbs:Nat):Int)=d from HT hd]at e;obtain⟨c,b⟩:=vT (n:=n) hd a;refine(aa e).trans ?_;show bj _ _ _ _ _=_;rw[rx];refine aQ (bu c b)<|aQ (bu c b) ?_;rw[SL _ qE,SL _ qE];rfl
theorem gz(a b c d:Int):cmp .Eq (.tup [.int a,.int b]) (.tup [.int c,.int d])=mr (decide (a=c)&&decide (b=d)):=by
 have e:eO [] (.tup [.int a,.int b]) (.tup [.int c,.int d])=some (decide (a=c)&&(decide (b=d)&&true)&&decide (2=2)):=by kernel_rfl
 funext h
 have f:cmp .Eq (.tup [.int a,.int b]) (.tup [.int c,.int d]) h=.ok (decide (a=c)&&(decide (b=d)&&true)&&decide (2=2)) h:=by kernel_rfl
 rw[f];simp[mr]
section
variable {β:Type} {x y:M β} {h:List O} {r:R β} {a b c d:Int}
theorem qT(e:a=c/\b=d)(q:x h=r):iq .Eq (.tup [.int a,.int b]) (.tup [.int c,.int d]) x y h=r:=aQ (gz ..) (oA (by rw[UD e.1,UD e.2];rfl) q)
theorem oB(e:¬(a=c/\b=d))(q:y h=r):iq .Eq (.tup [.int a,.int b]) (.tup [.int c,.int d]) x y h=r:=aQ (gz ..) (mM (by rw[<-Bool.decide_and];exact Uv e) q)
end
theorem iH(c d:Int):cmp .Eq .none (.tup [.int c,.int d])=mr false:=by kernel_rfl
theorem tc(x y:Q):T ai wf 24 (j+1) "_law_mark" [vq x,vq y] h=.ok (if bx x=true\/bx y=true then .tup [vq (dB x y),.bool true]else .tup [.none,.bool false]) h:=by
 rw[aK (by kernel_rfl) (by kernel_rfl),Cv];unfold sJ;rcases x with _|⟨a,b⟩
 ·rfl
 rcases y with _|⟨c,d⟩
 ·simp only[bx,or_true,if_true];rfl
 simp only[vq,iq,jg,ae,Ve,gz];have f:bx (some (a,b))=(decide (a=0)&&decide (b=0)):=rfl;have e:bx (some (c,d))=(decide (c=0)&&decide (d=0)):=rfl;rw[f,e];cases (decide (a=0)&&decide (b=0))<;>cases (decide (c=0)&&decide (d=0))<;>rfl
theorem jG(a b:Int):T ai wf 24 (j+1) "_law_side" [vq (some (a,b))] h=.ok (.int a.sign) h:=by
 rw[aK (by kernel_rfl) (by kernel_rfl),Cw];unfold sK;simp only[vq,bz,ae,cJ,jF];by_cases e:a>0
 ·refine oA (UD e) ?_;rw[Te e];rfl
 ·refine mM (Uv e) ?_
  by_cases c:a<0
  ·refine oA (UD c) ?_;rw[SO c];rfl
  ·refine mM (Uv c) ?_;rw[show a=0 from LE e c];rfl
def Up:Q->Prop
 |none=>True
 |some (_,b)=>0<=b
theorem td {x y:Q}{m:M V}(f:bx x=true\/bx y=true->r=vq (dB x y))(k:bx x=false->bx y=false->m h=.ok r h):
  (mq (T ai wf 24 (j+1) "_law_mark" [vq x,vq y]) λe=>mq (dS e) λc=>mq (truth c.2) λb=>bif b then(mr c.1)else m) h=.ok r h:=by
 refine aN ((tc (j:=j) x y)) ?_;by_cases a:bx x=true\/bx y=true
 ·rw[Vo a,f a];rfl
 ·rw[Vn a]
  rw[not_or]at a;exact k (by simpa using a.1) (by simpa using a.2)
theorem tf(n:Int):cR n 0=.tup [.int n.sign,.int 0]:=by
 unfold cR;rw[Vo rfl];by_cases b:n=0
 ·subst b;rfl
 ·rw[Vn b]
  by_cases a:n>0
  ·rw[Vo a,Te a]
  ·rw[Vn a,SO (Mg b a)]
theorem nY(a:Int):a.sign.natAbs<2^2000:=by
 have h:a.sign.natAbs<=1:=by
  rcases Int.lt_trichotomy a 0 with h|h|h
  ·rw[SO h];decide
  ·subst h;decide
  ·rw[Te h];decide
 have b:1<2^2000:=TV (by decide);exact PT h
theorem oE {x y:Q}(v:Sm 400 x)(u:Sm 400 y)(H:Up x)(A:Up y)(E:2000<wf):T ai wf 24 (j+2) "_law_product" [vq x,vq y] h=.ok (nV x y) h:=by
 rw[aK (by kernel_rfl) (by kernel_rfl),wH];refine td Bf λg i=>aB λJ t=>?_;rcases bD x with⟨z,_⟩|⟨z,a,b,rfl,D⟩
 ·refine t ?_
  rw[z]at g;cases g
 rcases bD y with⟨w,_⟩|⟨w,c,d,rfl,C⟩
 ·refine t ?_
  rw[w]at i;cases i
 have e:nV (some (a,b)) (some (c,d))=cR (a*c) (b*d):=Vn (λq=>q.elim D C);refine t ?_;rw[e];have F:=jG (wf:=wf) (j:=j) a b (h:=h);have I:=jG (wf:=wf) (j:=j) c d (h:=h);have B:0<=b:=H;have G:0<=d:=A;have o:b=0\/d=0->iF (Tj wf (j+1)) (vq (some (a,b))) (vq (some (c,d))) h=.ok (cR (a*c) (b*d)) h:=λq=>by
  refine aN F<|aN I<|aQ (bn (nY a) (nY c)) ?_;rw[show b*d=0 by rcases q with q|q<;>simp[q],tf,Int.sign_mul];rfl
 by_cases p:b=0
 ·exact cG p (o (.inl p))
 ·refine cA p ?_
  by_cases hd:d=0
  ·exact cG hd (o (.inr hd))
  ·refine cA hd ?_
   have f:0<b*d:=U6 (o6 B p) (o6 G hd);refine fO (bz ..) (bz ..) (aS v.1 (by decide)) (aS u.1 (by decide))<|fO (bL ..) (bL ..) (aS v.2 (by decide)) (aS u.2 (by decide))<|(aa (dJ (j:=j) f (bo v.2 u.2 (by decide)) E)).trans ?_;unfold cR;rw[Vn (LD f),Vn (Lm f)];rfl
def PH:Q->Prop
 |none=>True
 |some (a,b)=>b=0->a=1\/a=0\/a= -1
theorem yJ {m:Int}(a:0<m):s5 0 m=.tup [.int 0,.int 1]:=by
 unfold s5;rw[show Nat.gcd (0:Int).natAbs m.natAbs=m.natAbs from Nat.gcd_zero_left _,show((m.natAbs:Nat):Int)=m from HT a,Int.zero_ediv,Int.ediv_self (PO a)]
theorem lj {m:Int}(a:m≠0):cR 0 m=.tup [.int 0,.int 1]:=by
 unfold cR;rw[Vn a];by_cases h:m<0
 ·rw[Vo h,Int.neg_zero];exact yJ (Ln h)
 ·rw[Vn h];exact yJ (Pn a h)
theorem mN {x y:Q}(w:Sm 400 x)(v:Sm 400 y)(L:Up x)(F:Up y)(E:PH x)(H:2000<wf):T ai wf 24 (j+2) "_law_quotient" [vq x,vq y] h=.ok (nX x y) h:=by
 rw[aK (by kernel_rfl) (by kernel_rfl),uH];refine td Bh λp u=>?_;rcases bD x with⟨C,_⟩|⟨C,a,b,rfl,G⟩
 ·rw[C]at p;cases p
 rcases bD y with⟨A,_⟩|⟨A,c,d,rfl,B⟩
 ·rw[A]at u;cases u
 have e:nX (some (a,b)) (some (c,d))=if b=0 then(if d=0 then vq cB else if c<0 then vq (fP (some (a,b)))else vq (some (a,b)))else cR (a*d) (b*c):=Vn (λq=>q.elim G B);rw[e];have D:=jG (wf:=wf) (j:=j) a b (h:=h);have N:=jG (wf:=wf) (j:=j) c d (h:=h);have z:0<=b:=L;have J:0<=d:=F;have I:b=0->a=1\/a=0\/a= -1:=E;by_cases hd:d=0
 ·refine cG hd ?_
  by_cases f:b=0
  ·rw[Vo f,Vo hd];exact cG f rfl
  ·rw[Vn f,hd,Int.mul_zero,lj (Int.mul_ne_zero f (λq=>B ⟨q,hd⟩))];exact cA f rfl
 ·refine cA hd ?_
  by_cases f:b=0
  ·refine cG f ?_;rw[Vo f,Vn hd];refine aN D ?_
   have o:=I f;by_cases i:c<0
   ·rw[Vo i];refine qd i ?_
    rcases o with rfl|rfl|rfl<;>subst f<;>rfl
   ·rw[Vn i];refine qe i ?_
    rcases o with rfl|rfl|rfl<;>subst f<;>rfl
  ·refine cA f ?_;rw[Vn f]
   by_cases i:c=0
   ·refine xg i ?_;rw[i,Int.mul_zero,tf];refine aN D ?_
    have:(a*d).sign=a.sign:=by rw[Int.sign_mul,Te (o6 J hd:0<d),Int.mul_one]
    rw[this];rfl
   ·refine xh i<|fO (bz ..) (bL ..) (aS w.1 (by decide)) (aS v.2 (by decide))<|aN N<|aQ (bn (aS (bo w.1 v.2 (U9 _)) (by decide)) (nY c))<|aQ (bL ..)<|aQ (bz ..)<|aQ (show builtin "abs" [.int c]=mr (.int c.natAbs) from rfl)<|aQ (bn (aS w.2 (by decide)) (aS (by rw[Int.natAbs_natCast];exact v.1) (by decide))) ?_
    have t:0<b*(c.natAbs:Int):=U6 (o6 z f) (Rw i);refine(aa (dJ (j:=j) t (bo w.2 (by rw[Int.natAbs_natCast];exact v.1) (by decide)) H)).trans ?_;unfold cR;rw[Vn (Int.mul_ne_zero f i)];by_cases g:c<0
    ·rw[Vo (Int.mul_neg_of_pos_of_neg (o6 z f) g),SO g]
     rw[show(c.natAbs:Int)= -c from(Vk Int.ofNat (UC _).symm).trans (Tq (Int.neg_nonneg_of_nonpos (UO g))),Int.mul_neg,Int.mul_neg,Int.mul_one];rfl
    ·rw[Vn (by have:=U6 (o6 z f:0<b) (HU i g:0<c);exact Lm this),Te (HU i g)]
     rw[show(c.natAbs:Int)=c from PV g,Int.mul_one];rfl
def GO(e:Expr):Bool:=by
 induction e using Expr.casesOn with
 |ListComp elt gs=>exact(dc gs).isSome
 |DictComp kx v gs=>exact(dc gs).any λg=>g.2.2.isEmpty
 |_=>exact false
def GP(e:Expr):Expr:=by
 have d:=e;induction e using Expr.casesOn with
 |ListComp elt gs=>exact((dc gs).map (·.1)).getD d
 |DictComp kx v gs=>exact((dc gs).map (·.1)).getD d
 |_=>exact d
theorem JN(C:Tb)(m:Nat)(c:Cx)(a:Expr)(g:oV)(sc:Scope)(v:V):gF (Ic C m) (cr c sc) g.1 a g.2.2 v=Eo C m c a g sc v mr:=by
 have o:=nP (β:=Option V) ai C.wf C.f m;unfold Eo gF;rw[jE]
 congr 1;funext l'
 rw[rj (o.tst (cr c sc) l')]
 congr 1;funext b
 induction b using Vs with
 |false=>rfl
 |true=>rw[o.ev]
theorem GQ(C:Tb)(m:Nat)(c:Cx)(b a:Expr)(g:oV)(sc:Scope)(v:V):eS (Ic C m) (cr c sc) g.1 b a v=A3 C m c b a g sc v mr:=by
 have o:=nP (β:=Option V) ai C.wf C.f m;unfold A3 eS;rw[jE]
 congr 1;funext l'
 rw[o.ev]
 congr 1;funext kv
 rw[o.ev]
 try congr 1
theorem fQ {C:Tb}{m:Nat}{c:Cx}{e:Expr}{it:It}(h:GO e=true)(a:b6 it (GP e)=true):cF C.wf (Ic C m) c e it=cz (λv=>bS C m c e v mr) it C.wf 0 []:=by
 induction e using Vq with
 |ListComp elt gs sc pos=>
  show(dc gs).elim _ _=cz (λv=>(dc gs).elim bad λg=>Eo C m c elt g sc v mr) it C.wf 0 []
  replace a:b6 it (((dc gs).map (·.1)).getD (.ListComp elt gs sc pos))=true:=a
  replace h:(dc gs).isSome=true:=h
  generalize dc gs=g at h a;induction g using Vp with
  |none=>exact ff h
  |some g=>
   show w9 C.wf (Ic C m) c elt g.1 g.2.2 sc it=_;unfold w9;rw[Vn (by rw[show b6 it g.1=true from a];decide),show gF (Ic C m) (cr c sc) g.1 elt g.2.2=λv=>Eo C m c elt g sc v mr from funext λv=>JN C m c elt g sc v];rfl
 |DictComp kx vx gs sc pos=>
  show(dc gs).elim _ _=cz (λv=>(dc gs).elim bad λg=>bif g.2.2.isEmpty then A3 C m c kx vx g sc v mr else bad) it C.wf 0 []
  replace a:b6 it (((dc gs).map (·.1)).getD (.DictComp kx vx gs sc pos))=true:=a
  replace h:((dc gs).any λg=>g.2.2.isEmpty)=true:=h
  generalize dc gs=g at h a;induction g using Vp with
  |none=>exact ff h
  |some g=>
   replace h:g.2.2.isEmpty=true:=h
   show(bif g.2.2.isEmpty then mA C.wf (Ic C m) c kx vx g.1 sc it else bad)=cz (λv=>bif g.2.2.isEmpty then A3 C m c kx vx g sc v mr else bad) it C.wf 0 []
   rw[h];show mA C.wf (Ic C m) c kx vx g.1 sc it=_;unfold mA;rw[Vn (by rw[show b6 it g.1=true from a];decide),show eS (Ic C m) (cr c sc) g.1 kx vx=λv=>A3 C m c kx vx g sc v mr from funext λv=>GQ C m c kx vx g sc v];rfl
 |_=>exact ff h
theorem jH {turn:V->M (Option V)}{f:V->Option V}{l:List V}{n:Nat}{h:List O}(c:h[n]?=some (.list l))(b:∀v∈l,turn v h=.ok (f v) h):
  ∀(k i:Nat) (acc:List V),l.length-i<k->cz turn (.list n) k i acc h=.ok (acc++(l.drop i).filterMap f) h
 |0,i,acc,hk=>by omega
 |k+1,i,acc,hk=>by
  have g:ci (.list n) i h=.ok l[i]? h:=by show((dM h[n]?).map λl=>l[i]?).elim _ _=_;rw[c];rfl
  show mq (ci (.list n) i) _ h=_;refine aN g ?_;by_cases a:i<l.length
  ·rw[S1 a]
   show mq (eP (turn l[i])) _ h=_;have e:eP (turn l[i]) h=.ok (f l[i]) h:=by unfold eP;rw[b _ (T7 a)]
   refine aN e ?_;rw[SS a,TC];induction f l[i]using Vp with
   |none=>exact jH c b k (i+1) acc (HR hk a)
   |some x=>
    show cz turn (.list n) k (i+1) (acc++ [x]) h=_;rw[jH c b k (i+1) (acc++ [x]) (HR hk a)]
    simp
  ·rw[Th (Dw a),List.drop_eq_nil_of_le (Dw a)]
   show R.ok acc h=_
   simp
theorem z7 {x y:Q}{m:M V}(f:bx x=true\/bx y=true->r=vq (dB x y))(k:bx x=false->bx y=false-> ∃t,m h=.ok r (h++t)):
  ∃t,(mq (T ai wf 24 (j+1) "_law_mark" [vq x,vq y]) λe=>mq (dS e) λc=>mq (truth c.2) λb=>bif b then(mr c.1)else m) h=.ok r (h++t):=by
 rw[aa (tc (j:=j) x y)];by_cases a:bx x=true\/bx y=true
 ·rw[Vo a,f a];exact⟨[],by rw[Um];rfl⟩
 ·rw[Vn a]
  rw[not_or]at a;exact k (by simpa using a.1) (by simpa using a.2)
theorem aH(o:O)(h:List O):aC o h=.ok (.ref h.length) (h++ [o]):=rfl
theorem dg {n:Nat}(a:h[n]?=some (.list l)):bY (.ref n) h=.ok (.list n) h:=gq a
theorem pu {n i:Nat}{v:V}(a:h[n]?=some (.list l))(b:l[i]?=some v)(c:i<2^62):ak (.ref n) (.int i) h=.ok v h:=by
 exact(gq (f:=λl=>kL l i h) a).trans (by unfold kL;rw[Vo ⟨by exact qE,by exact UU.mpr c⟩,Int.toNat_natCast];exact fA b)
theorem vU {n:Nat}{v:V}(a:h[n]?=some (.list l))(b:l.getLast?=some v)(c:l.length<2^62):ak (.ref n) (.int (-1)) h=.ok v h:=by
 exact(gq (f:=λl=>kL l (-1) h) a).trans (by unfold kL;rw[Vn (by decide),Vo ⟨rfl,c⟩];exact fA b)
theorem ay(h:List O)(o:O):(h++ [o])[h.length]?=some o:=by simp
noncomputable def cU:V->Option V
 |.tup [.int a,.int b]=>if b=0 then some (.tup [.int a,.int b])else none
 |_=>none
theorem pv {b:Nat}(x:Int×Int)(h:List O):bS (Tj wf j) 22 (aw "_law_sum" (aq "_law_sum") b) (aX (bG (aG "_law_sum" [2,0,0])) []) (vq (some x)) mr h=.ok (cU (vq (some x))) h:=by
 rw[z6];unfold qO;obtain⟨a,c⟩:=x;simp only[vq,bL,ae,bA];show _=R.ok (if c=0 then some (V.tup [V.int a,V.int c])else none) h;by_cases e:c=0
 ·refine M9 rfl e ?_;rw[Vo e];rfl
 ·refine Na rfl e ?_;rw[Vn e];rfl
theorem u4 {n:Nat}{vs:List V}{a b c d:Int}(p:h[n]?=some (.list vs))(t:vs[0]?=some (vq (some (a,b))))(v:vs.getLast?=some (vq (some (c,d))))(w:vs.length<2^62):
  (mq (ak (.ref n) (.int 0)) λe=>mq (ak (.ref n) (.int (-1))) λf=>mq (cmp .Eq e f) λg=>bif g then(mq (ak (.ref n) (.int 0)) λu=>mr u)else(mr (.tup [(.int 0),(.int 0)]))) h=.ok (if a=c/\b=d then vq (some (a,b))else vq cB) h:=by
 have o:ak (.ref n) (.int 0) h=.ok (vq (some (a,b))) h:=pu (i:=0) p t (by decide);rw[aa o,aa (vU p v w)];simp only[vq];rw[gz,ae];by_cases q:a=c/\b=d
 ·rw[UD q.1,UD q.2,Vo q]
  show mq (ak (.ref n) (.int 0)) _ h=_;refine aN o ?_;rfl
 ·rw[Vn q,show(decide (a=c)&&decide (b=d))=false by simpa using q];rfl
theorem vV {x y:Q}{h:List O}(D:Sm 400 x)(B:Sm 400 y)(Z:Up x)(P:Up y)(L:2000<wf):∃t,T ai wf 24 (j+2) "_law_sum" [vq x,vq y] h=.ok (lX x y) (h++t):=by
 rw[aK (by kernel_rfl) (by kernel_rfl),EE];refine z7 Bg λw z=>?_;rcases bD x with⟨N,_⟩|⟨N,a,b,rfl,W⟩
 ·rw[N]at w;cases w
 rcases bD y with⟨J,_⟩|⟨J,c,d,rfl,U⟩
 ·rw[J]at z;cases z
 have e:lX (some (a,b)) (some (c,d))=if b=0 then(if d=0 then(if a=c then vq (some (a,b))else vq cB)else vq (some (a,b)))else if d=0 then vq (some (c,d))else cR (a*d+c*b) (b*d):=Vn (λq=>q.elim W U);rw[e];have S:0<=b:=Z;have Y:0<=d:=P;have A:b=0\/d=0-> ∃t,lW (Tj wf (j+1)) h.length (vq (some (a,b))) (vq (some (c,d))) h
   =.ok (if b=0 then(if d=0 then(if a=c then vq (some (a,b))else vq cB)else vq (some (a,b)))else if d=0 then vq (some (c,d))else cR (a*d+c*b) (b*d)) (h++t):=λq=>by
  let l:= [vq (some (a,b)),vq (some (c,d))]
  have X:=fQ (C:=Tj wf (j+1)) (m:=22) (c:=aw "_law_sum" (aq "_law_sum") h.length) (e:=aX (bG (aG "_law_sum" [2,0,0])) []) (it:=.list h.length) (by kernel_rfl) (by kernel_rfl);have el:=jH (turn:=λv=>bS (Tj wf (j+1)) 22 (aw "_law_sum" (aq "_law_sum") h.length) (aX (bG (aG "_law_sum" [2,0,0])) []) v mr) (f:=cU) (ay h (.list l)) (λv u=>by
   rcases UJ.mp u with rfl|u
   ·exact pv (a,b) _
   rcases UJ.mp u with rfl|u
   ·exact pv (c,d) _
   ·cases u) wf 0 [] (by show 2-0<wf;exact tt (by decide) L)
  have H:cF wf (Ic (Tj wf (j+1)) 22) (aw "_law_sum" (aq "_law_sum") h.length) (aX (bG (aG "_law_sum" [2,0,0])) []) (.list h.length) (h++ [.list l])=.ok (l.filterMap cU) (h++ [.list l]):=by
   have:=congrFun X (h++ [.list l]);exact this.trans el
  have E:=ay (h++ [.list l]) (.list (l.filterMap cU));have I:cU (vq (some (a,b)))=if b=0 then some (vq (some (a,b)))else none:=rfl;have F:cU (vq (some (c,d)))=if d=0 then some (vq (some (c,d)))else none:=rfl;refine⟨[.list l,.list (l.filterMap cU)],aN (aH _ h) (aN (dg (ay h (.list l))) (aN H (aN (aH _ _) ?_)))⟩;have G:h++ [O.list l]++ [O.list (l.filterMap cU)]=h++ [.list l,.list (l.filterMap cU)]:=by simp
  by_cases g:b=0
  ·rw[Vo g]
   by_cases hd:d=0
   ·have i:l.filterMap cU= [vq (some (a,b)),vq (some (c,d))]:=by
     show List.filterMap cU [_,_]=_;rw[TC,I,Vo g,TC,F,Vo hd];rfl
    refine(u4 (a:=a) (b:=b) (c:=c) (d:=d) E (by rw[i];rfl) (by rw[i];rfl) (by rw[i];show _+1<2^62;simp)).trans ?_;rw[Vo hd,G];by_cases p:a=c
    ·rw[Vo p,Vo ⟨p,by exact Rc g hd⟩]
    ·rw[Vn p,Vn (λq=>p q.1)]
   ·have i:l.filterMap cU= [vq (some (a,b))]:=by
     show List.filterMap cU [_,_]=_;rw[TC,I,Vo g,TC,F,Vn hd];rfl
    refine(u4 (a:=a) (b:=b) (c:=a) (d:=b) E (by rw[i];rfl) (by rw[i];rfl) (by rw[i];show _+1<2^62;simp)).trans ?_;rw[Vn hd,G,Vo ⟨rfl,rfl⟩]
  ·have hd:d=0:=q.resolve_left g
   have i:l.filterMap cU= [vq (some (c,d))]:=by
    show List.filterMap cU [_,_]=_;rw[TC,I,Vn g,TC,F,Vo hd];rfl
   refine(u4 (a:=c) (b:=d) (c:=c) (d:=d) E (by rw[i];rfl) (by rw[i];rfl) (by rw[i];show _+1<2^62;simp)).trans ?_;rw[Vn g,Vo hd,G,Vo ⟨rfl,rfl⟩]
 by_cases g:b=0
 ·exact am (A (.inl g)) λt e=>⟨t,cG g e⟩
 ·by_cases hd:d=0
  ·exact am (A (.inr hd)) λt e=>⟨t,cA g (cG hd e)⟩
  ·
   have o:0<b*d:=U6 (o6 S g) (o6 Y hd);refine⟨[], ?_⟩;rw[Um,Vn g,Vn hd];refine cA g<|cA hd<|fO (bz ..) (bL ..) (aS D.1 (by decide)) (aS B.2 (by decide))<|fO (bz ..) (bL ..) (aS B.1 (by decide)) (aS D.2 (by decide))<|aQ (cZ ..)<|fO (bL ..) (bL ..) (aS D.2 (by decide)) (aS B.2 (by decide))<|(aa (dJ (j:=j) o (bo D.2 B.2 (by decide)) L)).trans ?_;unfold cR;rw[Vn (LD o),Vn (Lm o)];rfl
noncomputable def dW:Q->Q
 |none=>none
 |some (a,b)=>if b>0 then some (a/b,1)else some (a,b)
theorem Bi {x:Q}(f:Sm 2000 x):T ai wf 24 (j+2) "floor" [vq x] h=.ok (vq (dW x)) h:=by
 rw[aK (by kernel_rfl) (by kernel_rfl),JK];unfold A9;rw[aa (qS (j:=j) x),aW,ae];rcases x with _|⟨a,b⟩
 ·rfl
 have e:dW (some (a,b))=if b>0 then some (a/b,1)else some (a,b):=rfl;rw[e];simp only[vq,bz,bL,ae];by_cases c:b>0
 ·rw[UD c,Vo c]
  show mq (ah .FloorDiv (.int a) (.int b)) _ h=_;refine aQ (bu (US c) f.2) ?_;rw[SL _ (Le c)];rfl
 ·rw[Uv c,Vn c];rfl
noncomputable def eW(n d:Int):Q:=some (n/(Nat.gcd n.natAbs d.natAbs:Int),d/(Nat.gcd n.natAbs d.natAbs:Int))
noncomputable def b8(n d:Int):Q:=if d=0 then(if n=0 then some (0,0)else if n>0 then some (1,0)else some (-1,0))else if d<0 then eW (-n) (-d)else eW n d
theorem mO(n d:Int):cR n d=vq (b8 n d):=by
 unfold cR b8
 split
 ·split
  ·rfl
  ·split<;>rfl
 ·split<;>rfl
noncomputable def lY(x y:Q):Q:=match x,y with
 |some (a,b),some (c,d)=>if(a=0/\b=0)\/(c=0/\d=0)then cB else if b=0 then(if d=0 then(if a=c then x else cB)else x)else if d=0 then y else b8 (a*d+c*b) (b*d)
 |_,_=>none
noncomputable def iX(x y:Q):Q:=match x,y with
 |some (a,b),some (c,d)=>if(a=0/\b=0)\/(c=0/\d=0)then cB else b8 (a*c) (b*d)
 |_,_=>none
noncomputable def de(x y:Q):Q:=match x,y with
 |some (a,b),some (c,d)=>if(a=0/\b=0)\/(c=0/\d=0)then cB else if b=0 then(if d=0 then cB else if c<0 then fP x else x)else b8 (a*d) (b*c)
 |_,_=>none
theorem pz(x y:Q):lX x y=vq (lY x y):=by
 rcases x with _|⟨a,b⟩
 ·rcases y with _|⟨c,d⟩<;>rfl
 rcases y with _|⟨c,d⟩
 ·rfl
 simp only[lX,lY,mO]
 repeat' split
 all_goals rfl
theorem th(x y:Q):nV x y=vq (iX x y):=by
 rcases x with _|⟨a,b⟩
 ·rcases y with _|⟨c,d⟩<;>rfl
 rcases y with _|⟨c,d⟩
 ·rfl
 simp only[nV,iX,mO]
 repeat' split
 all_goals rfl
theorem pA(x y:Q):nX x y=vq (de x y):=by
 rcases x with _|⟨a,b⟩
 ·rcases y with _|⟨c,d⟩<;>rfl
 rcases y with _|⟨c,d⟩
 ·rfl
 simp only[nX,de,mO]
 repeat' split
 all_goals rfl
theorem ti(a:n.natAbs<2^k)(hd:d.natAbs<2^k):Sm k (eW n d):=
 ⟨TT (SR _ _) a,TT (SR _ _) hd⟩
theorem Bj(c:1<=k)(b:n.natAbs<2^k)(hd:d.natAbs<2^k):Sm k (b8 n d):=by
 have a:1<2^k:=TV (Po c);unfold b8
 split
 ·split
  ·exact⟨by show 0<_;exact HM a,by show 0<_;exact HM a⟩
  ·split
   ·exact⟨a,by show 0<_;exact HM a⟩
   ·exact⟨a,by show 0<_;exact HM a⟩
 ·split
  ·exact ti (by rw[UC];exact b) (by rw[UC];exact hd)
  ·exact ti b hd
noncomputable def rE:Q->Bool
 |none=>false
 |some p=>decide (p.2>0)
theorem eX {x:Q}(h:Sm k x)(c:k<=m):Sm m x:=by
 rcases x with _|⟨a,b⟩
 ·trivial
 ·exact⟨TU h.1 (Tx (by decide) c),TU h.2 (Tx (by decide) c)⟩
theorem yK:Sm k cB:=⟨Nat.pow_pos (by decide),Nat.pow_pos (by decide)⟩
theorem EG {x y:Q}(g:1<=k)(e:Sm k x)(f:Sm k y):Sm (2*k) (de x y):=by
 rcases x with _|⟨a,b⟩
 ·rcases y with _|⟨c,d⟩<;>trivial
 rcases y with _|⟨c,d⟩
 ·trivial
 unfold de;dsimp only
 split
 ·exact yK
 ·split
  ·split
   ·exact yK
   ·split
    ·exact eX (yI e) Mi
    ·exact eX e Mi
  ·exact Bj (tt g (Nat.le_mul_of_pos_left _ (by decide))) (bo e.1 f.2 L6) (bo e.2 f.1 L6)
noncomputable def cV(x y:Q):Q:=if rE (de x y)=false then de x y else match x,y with
 |some (a,_),some (c,d)=>if d=0 then(if a*c<0 then some (-1,1)else some (0,1))else dW (de x y)
 |_,_=>none
theorem EH {x y:Q}(u:Sm 400 x)(t:Sm 400 y)(D:2000<wf):T ai wf 24 (j+4) "int_div" [vq x,vq y] h=.ok (vq (cV x y)) h:=by
 rw[aK (by kernel_rfl) (by kernel_rfl),Eu];unfold vR;have w:=CI (j:=j) u t D (h:=h);rw[pA]at w;have A:=eX (EG (by decide) u t) (show 2*400<=2000 by decide);unfold cV;have o:∀z,de none z=none:=λz=>by rcases z with _|⟨c,d⟩<;>rfl
 have v:∀z,de z none=none:=λz=>by rcases z with _|⟨c,d⟩<;>rfl
 have key:rE (de x y)=true-> ∃a b c d,x=some (a,b)/\y=some (c,d):=λq=>by
  rcases x with _|⟨a,b⟩
  ·rw[o]at q;exact ff q
  rcases y with _|⟨c,d⟩
  ·rw[v]at q;exact ff q
  exact vt a b c d ⟨rfl,rfl⟩
 generalize E:de x y=q at w A key ⊢;refine aN w ?_;have C:=qS (wf:=wf) (j:=j+2) q (h:=h);have f:T ai wf 24 (j+3) "is_finite" [vq q] h=.ok (.bool (rE q)) h:=C.trans (by rcases q with _|p<;>rfl);refine aN f<|aQ (aW ..) ?_;induction hf:rE q using Vs with
 |false=>rw[Vo rfl];rfl
 |true=>
  refine On (key hf) λa b c d g i=>?_;subst g;subst i;rw[Vn (by decide)];have B:=Bi (wf:=wf) (j:=j+1) A (h:=h);refine mM Bool.not_true ?_;simp only[vq]at B ⊢;simp only[bz,bL,ae,bA];by_cases hd:d=0
  ·refine M9 rfl hd ?_;rw[Vo hd,bn (aS u.1 (by decide)) (aS t.1 (by decide)),ae]
   by_cases e:a*c<0
   ·refine M9 rfl e ?_;rw[Vo e];rfl
   ·refine Na rfl e ?_;rw[Vn e];rfl
  ·refine Na rfl hd ?_;rw[Vn hd,aa B];rfl
theorem GR {x:Q}(c:1<=k)(h:Sm k x):Sm k (dW x):=by
 rcases x with _|⟨a,b⟩
 ·trivial
 unfold dW;dsimp only
 split
 ·exact⟨TT (SR _ _) h.1,TV (Po c)⟩
 ·exact h
theorem Nc {l:Nat}{x y:Q}(f:k+l<=m)(i:1<=m)(g:Sm k x)(e:Sm l y):Sm m (iX x y):=by
 rcases x with _|⟨a,b⟩
 ·rcases y with _|⟨c,d⟩<;>trivial
 rcases y with _|⟨c,d⟩
 ·trivial
 unfold iX;dsimp only
 split
 ·exact yK
 ·exact Bj i (bo g.1 e.1 f) (bo g.2 e.2 f)
noncomputable def lZ(x y:Q):Q:=match x,y with
 |some (a,b),some (c,d)=>if(a=0/\b=0)\/(c=0/\d=0)then cB else if c=0\/b=0 then cB else if d=0 then(if a*c<0 then y else x)else lY x (fP (iX (dW (de x y)) y))
 |_,_=>none
theorem JO {x y:Q}(h:bx x=true\/bx y=true):vq (lZ x y)=vq (dB x y):=by
 rcases bD x with⟨e,rfl|rfl⟩|⟨e,a,b,rfl,i⟩
 ·rcases y with _|⟨c,d⟩<;>rfl
 ·rcases y with _|⟨c,d⟩
  ·rfl
  ·simp[lZ,dB]
 ·rcases bD y with⟨f,rfl|rfl⟩|⟨f,c,d,rfl,g⟩
  ·rfl
  ·simp[lZ,dB]
  ·rw[e,f]at h;exact h.elim (λq=>by cases q) (λq=>by cases q)
theorem z8 {x y:Q}(B:Sm 100 x)(u:Sm 100 y)(z:2000<wf):T ai wf 24 (j+5) "remainder" [vq x,vq y] h=.ok (vq (lZ x y)) h:=by
 rw[aK (by kernel_rfl) (by kernel_rfl),zR];unfold qM;have p:=eX B (show 100<=400 by decide);have o:=eX u (show 100<=400 by decide);have C:=CI (j:=j+1) p o z (h:=h);rw[pA]at C;have D:Sm 200 (de x y):=EG (by decide) B u;have G:=Bi (wf:=wf) (j:=j+2) (eX D (show 200<=2000 by decide)) (h:=h);have F:Sm 200 (dW (de x y)):=GR (by decide) D;have w:=Ie (j:=j+1) (eX F (show 200<=400 by decide)) o z (h:=h);rw[th]at w;have A:=Ih (j:=j) p (Nc (show 200+100<=400 by decide) (by decide) F u) z (h:=h);rw[pz]at A;refine nW (j:=j+2) JO λg i=>?_;rcases bD x with⟨H,_⟩|⟨H,a,b,rfl,J⟩
 ·rw[H]at g;cases g
 rcases bD y with⟨E,_⟩|⟨E,c,d,rfl,I⟩
 ·rw[E]at i;cases i
 have e:lZ (some (a,b)) (some (c,d))=if c=0\/b=0 then cB else if d=0 then(if a*c<0 then some (c,d)else some (a,b))else lY (some (a,b)) (fP (iX (dW (de (some (a,b)) (some (c,d)))) (some (c,d)))):=Vn (λq=>q.elim J I);rw[e];have last:d≠0->oq (Tj wf (j+4)) (vq (some (a,b))) (vq (some (c,d))) h=.ok (vq (lY (some (a,b)) (fP (iX (dW (de (some (a,b)) (some (c,d)))) (some (c,d)))))) h:=λhd=>by
  refine cA hd<|aN C<|aN G<|aN w<|aN A rfl
 clear C G w A
 generalize lY (some (a,b)) (fP (iX (dW (de (some (a,b)) (some (c,d)))) (some (c,d))))=r at last ⊢;by_cases v:c=0
 ·rw[Vo (.inl v)];exact xg v rfl
 refine xh v ?_;by_cases t:b=0
 ·rw[Vo (.inr t)];exact cG t rfl
 refine cA t ?_;rw[Vn (λq=>q.elim v t)];by_cases hd:d=0
 ·rw[Vo hd];refine cG hd<|fO (bz ..) (bz ..) (aS B.1 (by decide)) (aS u.1 (by decide)) ?_
  by_cases f:a*c<0
  ·rw[Vo f];exact CF f rfl
  ·rw[Vn f];exact CG f rfl
 ·rw[Vn hd];exact last hd
end Mine
end
noncomputable section
open PySem PySem.W PySem.Calls PyProof.Rows
set_option maxRecDepth 100000
namespace Mine
def fE {β:Type}(C:Tb)(b:Nat)(w d c a:V)(k:Fl->Loc->M β):M β:=mq (aZ b) λg=>mq (C.f "_law_next" [g]) λn=>mq (ah .Mod n (.int 16)) λj=>mq (bQ a "append") λZ=>let j4:V->M β:=λo=>mq (bN a "append" [o]) λp=>k .next [("kind",d),("many",c),("items",a),("lap",w),("pick_at",j)];iq .Lt j (.int 4) (mq (aC (.list [.none,(.int 2147483647),(.int (-2147483647)),(.int 0)])) λm=>mq (ak m j) λq=>j4 q) (mq (aZ b) λe=>mq (C.f "_law_next" [e]) λl=>mq (ah .Mod l (.int 30)) λh=>mq (ah .Sub h (.int 10)) λi=>j4 i)
theorem tj {β:Type}(C:Tb)(b:Nat)(w d c a:V)(k:Fl->Loc->M β)(h:List O):aJ C 22 "_law_vector" b [3,0,1] w [("kind",d),("many",c),("items",a)] k h=fE C b w d c a k h:=by kernel_rfl
theorem tm {β:Type}(C:Tb)(b:Nat)(w e d a f c:V)(k:Fl->Loc->M β)(h:List O):aJ C 22 "_law_vector" b [3,0,1] w [("kind",e),("many",d),("items",a),("lap",f),("pick_at",c)] k h=fE C b w e d a k h:=by kernel_rfl
def tq {β:Type}(C:Tb)(b:Nat)(d c a:V)(k:Fl->Loc->M β):M β:=mq (aZ b) λe=>mq (C.f "Vector" [(.str "integer"),a]) λg=>mq (C.f "_law_dressed" [e,g]) λh=>k (.ret h) [("kind",d),("many",c),("items",a)]
theorem tr {β:Type}(C:Tb)(b:Nat)(d c a:V)(k:Fl->Loc->M β)(h:List O):bj ((kK ai C.wf C.f 23).ex (aw "_law_vector" (aq "_law_vector") b)) (aG "_law_vector" [3,0,2]) [("kind",d),("many",c),("items",a)] k h=tq C b d c a k h:=by kernel_rfl
def tu {β:Type}(C:Tb)(b:Nat)(e d a g c:V)(k:Fl->Loc->M β):M β:=mq (aZ b) λh=>mq (C.f "Vector" [(.str "integer"),a]) λi=>mq (C.f "_law_dressed" [h,i]) λj=>k (.ret j) [("kind",e),("many",d),("items",a),("lap",g),("pick_at",c)]
theorem tv {β:Type}(C:Tb)(b:Nat)(e d c g a:V)(k:Fl->Loc->M β)(h:List O):bj ((kK ai C.wf C.f 23).ex (aw "_law_vector" (aq "_law_vector") b)) (aG "_law_vector" [3,0,2]) [("kind",e),("many",d),("items",c),("lap",g),("pick_at",a)] k h=tu C b e d c g a k h:=by kernel_rfl
def mQ {β:Type}(C:Tb)(b:Nat)(w:V)(k:Option V->M β):M β:=mq (aC (.list [(.int 1),(.int 0),.none])) λc=>mq (aZ b) λa=>mq (C.f "_law_next" [a]) λd=>mq (ah .Mod d (.int 3)) λe=>mq (ak c e) λg=>k (some g)
theorem u5 {β:Type}(C:Tb)(b:Nat)(w:V)(k:Option V->M β)(h:List O):bS C 19 (aw "_law_vector" (aq "_law_vector") b) (aX (bG (aG "_law_vector" [2,0,0])) [1,1]) w k h=mQ C b w k h:=by kernel_rfl
def mR {β:Type}(C:Tb)(b:Nat)(w:V)(k:Option V->M β):M β:=mq (aZ b) λa=>mq (C.f "_law_double" [a]) λc=>k (some c)
theorem u6 {β:Type}(C:Tb)(b:Nat)(w:V)(k:Option V->M β)(h:List O):bS C 19 (aw "_law_vector" (aq "_law_vector") b) (aX (bG (aG "_law_vector" [4,0,0])) [1,1]) w k h=mR C b w k h:=by kernel_rfl
def fR {β:Type}(C:Tb)(b:Nat)(w h e m n d c o g l j a i:V)(k:Fl->Loc->M β):M β:=mq (builtin "len" [d]) λP=>mq (ah .Mod w P) λS=>mq (ak d S) λy=>mq (builtin "len" [c]) λU=>mq (ah .Mod w U) λW=>mq (ak c W) λx=>mq (bQ a "append") λZ=>let j7:V->M β:=λX=>mq (bN a "append" [X]) λY=>let j14:V->M β:=λL=>k .next [("script",h),("kind",e),("held",m),("told",n),("left",d),("right",c),("due",o),("refused",g),("shape",l),("total",j),("items",a),("over",L),("spot",w),("a",y),("b",x)];mq (truth i) λD=>bif D then(j14 i)else(let j17:V->M β:=λN=>j14 N;mq (cmp .Eq e (.str "integer")) λt=>mq (truth (.bool t)) λI=>bif I then(mq (aZ (b+3)) λq=>mq (cmp .In q (.tup [(.str "+"),(.str "-"),(.str "*")])) λu=>mq (truth (.bool u)) λG=>bif G then(mq (ak a (.int (-1))) λF=>mq (cmp .Is F .none) λv=>mq (truth (.bool v)) λB=>bif B then(mq (cmp .IsNot y .none) λr=>mq (truth (.bool r)) λz=>bif z then(mq (cmp .IsNot x .none) λA=>j17 (.bool A))else(j17 (.bool r)))else(j17 (.bool v)))else(j17 (.bool u)))else(j17 (.bool t)));iq .Eq e (.str "integer") (mq (aZ (b+3)) λJ=>mq (C.f "_law_integer" [J,y,x]) λH=>j7 H) (mq (aZ (b+3)) λp=>mq (C.f "_law_doubled" [p,y,x]) λE=>j7 E)
theorem GS {β:Type}(C:Tb)(b:Nat)(w c l i m j e o a g d f n:V)(k:Fl->Loc->M β)(h:List O):aJ C 23 "law" b [19] w [("script",c),("kind",l),("held",i),("told",m),("left",j),("right",e),("due",o),("refused",a),("shape",g),("total",d),("items",f),("over",n)] k h=fR C b w c l i m j e o a g d f n k h:=by kernel_rfl
theorem GT {β:Type}(C:Tb)(b:Nat)(w c l i m j e o a g d f n p r q:V)(k:Fl->Loc->M β)(h:List O):aJ C 23 "law" b [19] w [("script",c),("kind",l),("held",i),("told",m),("left",j),("right",e),("due",o),("refused",a),("shape",g),("total",d),("items",f),("over",n),("spot",p),("a",r),("b",q)] k h=fR C b w c l i m j e o a g d f n k h:=by kernel_rfl
def Bk {β:Type}(C:Tb)(b:Nat)(w:V)(k:Option V->M β):M β:=mq (aZ b) λa=>mq (C.f "_law_next" [a]) λe=>mq (ah .Mod e (.int 9)) λc=>mq (ah .Sub c (.int 4)) λd=>k (some (.tup [d,(.int 1)]))
theorem JP {β:Type}(C:Tb)(b:Nat)(w:V)(k:Option V->M β)(h:List O):bS C 19 (aw "law" (aq "law") b) (aX (bG (aG "law" [4,0,0])) [1,1]) w k h=Bk C b w k h:=by kernel_rfl
def Bl {β:Type}(C:Tb)(b:Nat)(w:V)(k:Option V->M β):M β:=let j1:V->M β:=λg=>k (some g);iq .Is w .none (j1 .none) (let j3:V->M β:=λe=>j1 e;mq (aZ (b+1)) λa=>iq .Eq a (.str "double") (mq (ak w (.int 0)) λf=>mq (nz f) λd=>mq (ak w (.int 1)) λh=>j3 (.tup [d,h])) (mq (nz w) λc=>j3 c))
theorem JQ {β:Type}(C:Tb)(b:Nat)(w:V)(k:Option V->M β)(h:List O):bS C 22 (aw "law" (aq "law") b) (aX (bG (aG "law" [23,0,4])) []) w k h=Bl C b w k h:=by kernel_rfl
end Mine
end
noncomputable section
open PySem PySem.W PySem.Calls PyProof.Rows
set_option maxRecDepth 100000
set_option exponentiation.threshold 3000
namespace Mine
variable {P:Nat->Prop} {h h' h0:List O} {n m b i r wf j e N fd many I t B H:Nat} {C:Tb} {f:V->V->Option Bool} {p:Bool} {l vs xs ys acc:List V} {k:Str} {v u over w:V} {a d:Int} {D E:List (Str×V)} {ds:List Int} {lc:Loc}
structure Keep (P:Nat->Prop) (h h':List O):Prop where
 get:∀n o,P n->h[n]?=some o->h'[n]?=some o
 len:h.length<=h'.length
noncomputable abbrev Gr (h h':List O):Prop:=Keep (λZ=>True) h h'
theorem Keep.refl:Keep P h h:=⟨λZ Z Z e=>e,U9 _⟩
theorem Keep.trans {c:List O}(a:Keep P h h')(b:Keep P h' c):Keep P h c:=⟨λn o p e=>b.get n o p (a.get n o p e),UZ a.len b.len⟩
theorem Keep.mono {P Q:Nat->Prop}(a:Keep P h h')(q:∀n,n<h.length->Q n->P n):Keep Q h h':=⟨λn o p e=>a.get n o (q n (SV.mp e).1 p) e,a.len⟩
theorem Gr.keep {P:Nat->Prop}(a:Gr h h'):Keep P h h':=a.mono λZ Z Z=>trivial
theorem Keep.app {P:Nat->Prop}{h:List O}(t:List O):Keep P h (h++t):=⟨λn o Z e=>by
 rw[ST (SV.mp e).1];exact e,by simp⟩
theorem Keep.set {P:Nat->Prop}{h:List O}{n:Nat}{o:O}(c:¬P n):Keep P h (h.set n o):=⟨λm g p e=>by
 rw[Tr (λq=>c (by subst q;exact p))];exact e,by simp⟩
theorem bg {o c:O}(e:h[n]?=some c):(h.set n o)[n]?=some o:=by
 rw[List.getElem?_set_self (SV.mp e).1]
theorem aA {o:O}(e:h[n]?=some o):n<h.length:=(SV.mp e).1
theorem cC {f:Str}{p:List Nat}{it:It}{l:Loc}(o:b6 it (yf (aG f p))=true):
  bF C m f b p it l h=io (λv l=>aJ C m f b p v l λg l=>mr (g,l)) it C.wf 0 l h:=by
 show Cn C.wf (Ic C m) (cx f b) (yf (aG f p)) (kg (aG f p)) it l h=_;unfold Cn;rw[Vn (by rw[o];decide)]
 congr 1
 funext v l
 show _=fY (cx f b) (yf (aG f p)) v l λc=>bj ((kK ai C.wf C.f m).ex (cx f b)) (kg (aG f p)) c λg l=>mr (g,l);rw[jE]
 congr 1
 funext c h
 exact GK C m _ _ c h
theorem bX {body:V->Loc->M (Fl×Loc)}{it:It}(c:List V)(g:Nat->Loc->List O->Prop)(q:∀i l h,g i l h->ci it i h=.ok c[i]? h)
  (x:∀i v l h,c[i]?=some v->g i l h-> ∃z y h',body v l h=.ok (z,y) h'/\(z=.next\/z=.cont)/\g (i+1) y h'):
  ∀k i l h,i<=c.length->c.length-i<k->g i l h-> ∃y h',io body it k i l h=.ok (.next,y) h'/\g c.length y h'
 |0,i,l,h,_,hk,_=>by omega
 |k+1,i,l,h,hi,hk,hI=>by
  have L:io body it (k+1) i l h=mq (ci it i) (λr=>match r with
   |Option.none=>mr (.next,l)
   |some v=>mq (eP (body v l)) λp=>match p.1 with
    |.ret v=>mr (.ret v,p.2)
    |_=>io body it k (i+1) p.2) h:=rfl
  rw[L,aa (q i l h hI)];by_cases o:i<c.length
  ·rw[S1 o]
   refine bw (x i _ l h (S1 o) hI) λz y h' e W G=>?_;have S:eP (body c[i] l) h=.ok (z,y) h':=by unfold eP;rw[e]
   dsimp only;rw[aa S];refine cY (bX c g q x k (i+1) y h' (Md o) (HR hk o) G) λJ F U A=>aU J F ⟨?_,A⟩;rcases W with rfl|rfl<;>exact U
  ·rw[Th (Dw o)]
   exact aU l h ⟨rfl,by rw[show c.length=i from LB hi o];exact hI⟩
theorem fS {turn:V->M (Option V)}{it:It}(c:List V)(g:Nat->List V->List O->Prop)(y:∀i acc h,g i acc h->ci it i h=.ok c[i]? h)
  (z:∀i v acc h,c[i]?=some v->g i acc h-> ∃q h',turn v h=.ok q h'/\g (i+1) (match q with|some x=>acc++ [x]|Option.none=>acc) h'):
  ∀k i acc h,i<=c.length->c.length-i<k->g i acc h-> ∃acc' h',cz turn it k i acc h=.ok acc' h'/\g c.length acc' h'
 |0,i,l,h,_,hk,_=>by omega
 |k+1,i,acc,h,hi,hk,hI=>by
  have F:cz turn it (k+1) i acc h=mq (ci it i) (λr=>match r with
   |Option.none=>mr acc
   |some v=>mq (eP (turn v)) λq=>cz turn it k (i+1) (match q with|some x=>acc++ [x]|Option.none=>acc)) h:=rfl
  rw[F,aa (y i acc h hI)];by_cases o:i<c.length
  ·rw[S1 o]
   refine cY (z i _ acc h (S1 o) hI) λq h' e A=>?_;have G:eP (turn c[i]) h=.ok q h':=by unfold eP;rw[e]
   dsimp only;rw[aa G];exact fS c g y z k (i+1) _ h' (Md o) (HR hk o) A
  ·rw[Th (Dw o)]
   exact aU acc h ⟨rfl,by rw[show c.length=i from LB hi o];exact hI⟩
noncomputable def rng(k:Nat):List V:=(List.range k).map λ(i:Nat)=>V.int i
@[simp] theorem iY (k:Nat):(rng k).length=k:=by simp[rng]
theorem Bm {k:Nat}(c:i<(rng k).length):(rng k)[i]=.int i:=by simp[rng]
theorem gW {k:Nat}(h:(rng k)[i]?=some v):i<k/\v=.int i:=by
 refine am (SV.mp h) λg c=>?_;subst c;exact⟨by simpa using g,Bm g⟩
theorem cK(k i:Nat)(h:List O):ci (.range k) i h=.ok (rng k)[i]? h:=by
 show R.ok (if i<k then some (V.int i)else Option.none) h=_
 congr 1
 by_cases c:i<k
 ·rw[Vo c,S1 (by simpa using c),Bm]
 ·rw[Vn c,Th (by simpa using c)]
theorem lm(c:h[n]?=some (.list l)):ci (.list n) i h=.ok l[i]? h:=by
 show((dM h[n]?).map λl=>l[i]?).elim _ _=_;rw[c];rfl
theorem tw {k:Int}(c:k<2^62/\ -(2^62)<=k):bt (.int k) h=.ok (.range k.toNat) h:=by
 unfold bt eG;rw[Option.elim_some,Vo c]
theorem cW {k:Nat}(c:k<2^62):bt (.int k)=mr (.range k):=by
 funext h;rw[tw (⟨UU.mpr c,UP (by decide) (Int.natCast_nonneg _)⟩),Int.toNat_natCast];rfl
theorem z9 {k:Int}(h0:0<=k)(c:k<2^62):bt (.int k)=mr (.range k.toNat):=by
 funext h;rw[tw (⟨c,UP (by decide) h0⟩)];rfl
theorem cP {m:Str}(g:h[n]?=some (.list l))(c:qZ m=true):bQ (.ref n) m h=.ok () h:=by
 show(bif qZ m then(dM h[n]?).elim _ _ else _)=_
 rw[c];exact gq g
theorem dh(c:h[n]?=some (.list l))(g:l.length<line*line):bN (.ref n) "append" [v] h=.ok .none (h.set n (.list (l++ [v]))):=(gq (f:=λl=>if("append":Str)= "append" then md n l [v] h else if("append":Str)= "pop" then xw n l [v] h else if("append":Str)= "reverse" then xx n l [v] h else R.bad) c).trans ((Vo rfl).trans (Vo g))
theorem Nd {v:V}(c:h[n]?=some (.list l))(o:l.length<=line*line)(g:l.getLast?=some v):bN (.ref n) "pop" [] h=.ok v (h.set n (.list l.dropLast)):=by
 refine(gq (f:=λl=>if("pop":Str)= "append" then md n l [] h else if("pop":Str)= "pop" then xw n l [] h else if("pop":Str)= "reverse" then xx n l [] h else R.bad) c).trans<|(Vn (by decide)).trans ((Vo rfl).trans ((Vo o).trans (fA g)))
theorem CJ(c:h[n]?=some (.list l))(g:l.length<=line*line):bN (.ref n) "reverse" [] h=.ok .none (h.set n (.list l.reverse)):=by
 refine(gq (f:=λl=>if("reverse":Str)= "append" then md n l [] h else if("reverse":Str)= "pop" then xw n l [] h else if("reverse":Str)= "reverse" then xx n l [] h else R.bad) c).trans<|(Vn (by decide)).trans ((Vn (by decide)).trans ((Vo rfl).trans (Vo g)))
theorem GU {k:Int}(g:h[n]?=some (.list l))(h0:0<=k)(c:k<=line)(o:l.length<=line*line):kM (.ref n) k h=.ok (.ref h.length) (h++ [.list (l.take k.toNat)]):=by
 show(rS h[n]?).elim _ _=_
 rw[g];exact Vo ⟨h0,c,o⟩
theorem JR {k:Int}(g:h[n]?=some (.flist l))(h0:0<=k)(c:k<=line)(o:l.length<=line*line):kM (.ref n) k h=.ok (.ref h.length) (h++ [.list (l.take k.toNat)]):=by
 show(rS h[n]?).elim _ _=_
 rw[g];exact Vo ⟨h0,c,o⟩
theorem dx(c:h[n]?=some (.list l))(g:l.length<2^40):builtin "len" [.ref n] h=.ok (.int l.length) h:=(gq (f:=λl=>if l.length<2^40 then R.ok (V.int l.length) h else R.bad) c).trans (Vo g)
theorem hW(c:h[n]?=some (.list l))(g:l.length<=line*line):builtin "list" [.ref n] h=.ok (.ref h.length) (h++ [.list l]):=by
 exact(gq (f:=λl=>if l.length<=line*line then R.ok (V.ref h.length) (h++ [.list l])else R.bad) c).trans (Vo g)
theorem aE(c:h[n]?=some (.cell (some v))):aZ n h=.ok v h:=by
 show(qF h[n]?).elim _ _=_;rw[c];rfl
theorem fT {c:Option V}(g:h[n]?=some (.cell c)):fL n v h=.ok () (h.set n (.cell (some v))):=by
 show(bif jB h[n]? then _ else _)=_;rw[g];rfl
noncomputable def tx(l:List V):Prop:=∀v∈l,∃i:Int,v=.int i/\0<=i/\i<1024
def c8(r:Nat)(h:List O):Prop:=∃l,h[r]?=some (.list l)/\tx l/\l.length<=4096
theorem c8.keep {P:Nat->Prop}(a:c8 r h)(k:Keep P h h')(p:P r):c8 r h':=by
 refine ac (a) λl e b=>⟨l,k.get r _ p e,b⟩
theorem EI(g:h[n]?=some (.list l))(c:h[m]?=some (.list [])):cmp .NotEq (.ref n) (.ref m) h=.ok (!decide (l.length=0)) h:=by
 have e:jR h (.ref n) (.ref m)=some (decide (l.length=0)):=by
  refine(fA (tW (x:=l) (y:= []) (by rw[g];rfl) (by rw[c];rfl))).trans ?_;induction l using Vr with
  |nil=>rfl
  |cons=>rfl
 exact fA e
theorem bh(J:c8 r h):∃k:Int,∃h',T ai wf 24 (j+1) "_law_next" [.ref r] h=.ok (.int k) h'/\0<=k/\k<1024/\c8 r h'/\Keep (λn=>n≠r) h h':=by
 refine aP (J) λl e b g=>?_;have c:(h++ [O.list []])[r]?=some (.list l):=(Keep.app (P:=λZ=>True) (h:=h) [O.list []]).get r _ trivial e;have G:=EI c (ay h (.list []));have key:∀m,T ai wf 24 (j+1) "_law_next" [.ref r] h=m->T ai wf 24 (j+1) "_law_next" [.ref r] h=m:=λZ q=>q;rw[aK (by kernel_rfl) (by kernel_rfl),Cu];unfold sH;unfold iq;rw[aa (aH _ _),aa G];refine aB λL z=>?_;rcases List.eq_nil_or_concat l with rfl|⟨o,x,rfl⟩
 ·refine z<|aU 0 (h++ [O.list []]) ⟨rfl,by decide,by decide,⟨[],c,b,g⟩,Keep.app _⟩
 ·refine aP (b x (by simp)) λi y h0 A=>?_;subst y
  rw[List.concat_eq_append]at c g b;have el:((o++ [V.int i]).length=0)=False:=by simp
  refine z ?_;rw[List.concat_eq_append,show decide ((o++ [V.int i]).length=0)=false by simp];show ∃k h',mq (bQ (.ref r) "pop") _ _=_/\_;rw[aa (cP c (by decide)),aa (Nd (v:=.int i) c (UZ g (by decide)) (by simp))];refine aU i _ ⟨rfl,h0,A,⟨o, ?_,λv F=>b v (by simp[F]),by simp at g;exact Rb g⟩, ?_⟩
  ·rw[bg c];simp
  ·exact(Keep.app _).trans (Keep.set (by simp))
theorem cM(x:Int){k:Int}(c:0<k):0<=x.fmod k/\x.fmod k<k:=⟨Int.fmod_nonneg_of_pos _ c,Int.fmod_lt_of_pos _ c⟩
theorem tx.snoc {x:Int}(b:tx l):tx (l++ [.int (x.fmod 1024)]):=λv c=>by
 rcases Ur.mp c with q|q
 ·exact b v q
 ·rw[TO]at q
  have:=cM x (k:=1024) (by decide);exact⟨_,q,this.1,this.2⟩
def km(k r:Nat)(h:List O):Prop:=∃l,h[r]?=some (.list l)/\tx l/\l.length<=k
noncomputable def qg(l:List V):Prop:=∀v∈l,∃i:Int,v=.int i
theorem EJ {C:Tb}{b r m:Nat}{f:Int}{w sc cell:V}(z:km m r h)(A:m<4096):
  ∃f' h',fN C b w sc (.ref r) cell (.int f) (λc l=>mr (c,l)) h=.ok (.next,[("script",sc),("row",.ref r),("cell",cell),("figure",.int f'),("lap",w)]) h'/\km (m+1) r h'/\Keep (λn=>n≠r) h h':=by
 refine bO (fN C b w sc (.ref r) cell (.int f) (λc l=>mr (c,l)) h) λF q=>?_;unfold fN;simp only[cJ,ae];refine aB λG x=>aP (z) λl e y g=>?_;by_cases o:f>0
 ·refine x ?_
  refine SB rfl o ?_;rw[aa (cP e (by decide)),aD (by decide),ae,aa (dh e (TT g (U0 A (by decide)))),bu (by decide) (by
   show 1024<2^2000;exact TU (show 1024<2^11 by decide) (Tx (by decide) (by decide))),ae]
  refine q _<|aU _ _ ⟨rfl,⟨_,bg e,y.snoc,by simp;exact o9 g⟩,Keep.set (by simp)⟩
 ·refine x<|Be (Uv o)<|q _<|aU f h ⟨rfl,⟨l,e,y,by exact Nat.le_succ_of_le g⟩,Keep.refl⟩
theorem JS:(1024:Int).natAbs<2^2000:=by
 show 1024<2^2000;exact TU (show 1024<2^11 by decide) (Tx (by decide) (by decide))
def tz(sc cell f:V)(r:Nat)(l:Loc):Prop:=l=([("script",sc),("row",.ref r),("cell",cell),("figure",f)]:Loc)\/ ∃lap,l=([("script",sc),("row",.ref r),("cell",cell),("figure",f),("lap",lap)]:Loc)
theorem GV {C:Tb}{b r m:Nat}{f:Int}{sc cell:V}{l:Loc}(hr:km m r h)(hm:m+30<=4096)(hw:30<C.wf)(hl:tz sc cell (.int f) r l):
  ∃g c h',bF C 22 "_law_row" b [1,0,3] (.range 30) l h=.ok (.next,[("script",sc),("row",.ref r),("cell",cell),("figure",.int g),("lap",c)]) h'/\km (m+30) r h'/\Keep (λn=>n≠r) h h':=by
 rw[cC (by kernel_rfl)];refine aB λgP gH=>?_;obtain⟨l',h',e,A,F,i3⟩:=bX (body:=λv l=>aJ C 22 "_law_row" b [1,0,3] v l λL l=>mr (L,l)) (it:=.range 30) (rng 30)
  (λi l h'=>(∃g:Int,tz sc cell (.int g) r l/\(i≠0-> ∃c,l=([("script",sc),("row",.ref r),("cell",cell),("figure",.int g),("lap",c)]:Loc)))/\km (m+i) r h'/\Keep (λn=>n≠r) h h')
  (λi l h' Z=>cK 30 i h')
  (λi v l h' Y hI=>by
   refine af (gW Y) λJ Z=>cQ (hI) λo U W=>?_;obtain⟨f1,q,_⟩:=o;refine aV (EJ (C:=C) (b:=b) (f:=f1) (w:=v) (sc:=sc) (cell:=cell) U (TU (TG J _) hm)) λX S G x z=>bJ .next _ S ⟨?_,.inl rfl,⟨X,.inr ⟨v,rfl⟩,λZ=>⟨v,rfl⟩⟩,x,W.trans z⟩;rcases q with rfl|⟨c,rfl⟩
   ·rw[yA];exact G
   ·rw[yB];exact G)
  C.wf 0 l h o1 (by rw[iY];exact Qx hw) ⟨⟨f,hl,λq=>absurd rfl q⟩,hr,Keep.refl⟩
 rw[iY]at A F;refine ac (A) λg Z q=>am (q (by decide)) λc y=>?_;subst y;refine gH<|bJ g c h' ⟨e,F,i3⟩
theorem JT {β:Type}(C:Tb)(b:Nat)(k:Fl->Loc->M β)(l:Loc):cm C 23 (aw "_law_row" (aq "_law_row") b) (aG "_law_row" [1,0,4]) k .next l=k .next l:=by kernel_rfl
def CK(C:Tb)(b r:Nat)(lc:V->Loc)(o:V):M (Fl×Loc):=mq (bQ (.ref r) "append") λZ=>mq (ah .Mod o (.int 1024)) λy=>mq (bN (.ref r) "append" [y]) λz=>mq (ah .FloorDiv o (.int 1024)) λx=>mq (bt (.int 30)) λc=>mq (bF C 22 "_law_row" b [1,0,3] c (lc x)) λg=>cm C 23 (aw "_law_row" (aq "_law_row") b) (aG "_law_row" [1,0,4]) (λq l=>mr (q,l)) g.1 g.2
theorem EK {C:Tb}{b r m:Nat}{w:Int}{sc:V}{l:Loc}(hr:km m r h)(S:m+31<=4096)(Z:30<C.wf)
  (hl:l=([("script",sc),("row",.ref r)]:Loc)\/ ∃c f g,l=([("script",sc),("row",.ref r),("cell",c),("figure",f),("lap",g)]:Loc)):
  ∃c f g h',aJ C 23 "_law_row" b [1] (.int w) l (λF l=>mr (F,l)) h=.ok (.next,[("script",sc),("row",.ref r),("cell",c),("figure",f),("lap",g)]) h'/\km (m+31) r h'/\Keep (λn=>n≠r) h h':=by
 refine bO (aJ C 23 "_law_row" b [1] (.int w) l (λF l=>mr (F,l)) h) λgQ U=>aB λL z=>aP (hr) λl0 e bd A=>?_;have y:∀(x:Int) (lc:V->Loc),(∀f,tz sc (.int w) f r (lc f))-> ∃c f g h',CK C b r lc (.int x) h
    =.ok (.next,[("script",sc),("row",.ref r),("cell",c),("figure",f),("lap",g)]) h'/\km (m+31) r h'/\Keep (λn=>n≠r) h h':=λx lc q=>by
  unfold CK;rw[aa (cP e (by decide)),aD (by decide),ae,aa (dh e (TT A (TU (show m<4096 from tt (TE (by decide:1<=31) _) S) (by decide)))),bu (by decide) JS,ae];rw[show bt (.int 30)=mr (.range 30) from cW (k:=30) (by decide),ae];have hR:km (m+1) r (h.set r (.list (l0++ [V.int (x.fmod 1024)]))):=⟨_,bg e,bd.snoc,by simp;exact o9 A⟩;refine aB λL z=>bw (GV (C:=C) (b:=b) hR (Qo S) Z (q (.int (x.fdiv 1024)))) λf' g h' Y G J=>z ?_;rw[aa Y,JT];exact vt _ _ _ h' ⟨rfl,G,(Keep.set (by simp)).trans J⟩
 have o:∀(lc:V->Loc),(∀f,tz sc (.int w) f r (lc f))->
   ∃c f g h',(mq (cmp .GtE (.int w) (.int 0)) λX=>bif X then(CK C b r lc (.int w))else(mq (ah .Sub (.int 7) (.int w)) λr3=>CK C b r lc r3)) h=.ok (.next,[("script",sc),("row",.ref r),("cell",c),("figure",f),("lap",g)]) h'/\km (m+31) r h'/\Keep (λn=>n≠r) h h':=λlc q=>by
  rw[sW,ae];refine aB λL z=>?_;by_cases W:w>=0
  ·refine z ?_
   rw[UD W,Vj];exact y w lc q
  ·refine z ?_
   rw[Uv W,Ve,ch,ae];exact y _ lc q
 rcases hl with rfl|⟨c,f,g,rfl⟩
 ·refine z ?_
  rw[yx];refine U _<|o (λf=> [("script",sc),("row",.ref r),("cell",.int w),("figure",f)]) (λf=>.inl rfl)
 ·refine z ?_
  rw[yz];refine U _<|o (λf=> [("script",sc),("row",.ref r),("cell",.int w),("figure",f),("lap",g)]) (λf=>.inr ⟨_,rfl⟩)
def Nf(sc:V)(r:Nat)(l:Loc):Prop:=l=([("script",sc),("row",.ref r)]:Loc)\/ ∃c f lap,l=([("script",sc),("row",.ref r),("cell",c),("figure",f),("lap",lap)]:Loc)
theorem EL(hn:h[n]?=some (.flist l))(hs:qg l)(S:l.length<=line*line)(hw:40<wf):
  ∃r h',T ai wf 24 (j+1) "_law_row" [.ref n] h=.ok (.ref r) h'/\c8 r h'/\h.length<=r/\Gr h h':=by
 refine bO (T ai wf 24 (j+1) "_law_row" [.ref n] h) λgQ gR=>?_;rw[aK (by kernel_rfl) (by kernel_rfl),EC];refine az ((aH _ _)) ?_;have e1:=(Keep.app (P:=λZ=>True) (h:=h) [O.list []]).get n _ trivial hn;refine az ((JR e1 (by decide) (by decide) S)) ?_;rw[show(40:Int).toNat=40 from rfl];generalize x:h++ [O.list []]=o;have g1:=ay o (O.list (l.take 40));refine az ((dg g1)) ?_;have gr:(o++ [O.list (l.take 40)])[h.length]?=some (.list []):=(Keep.app (P:=λZ=>True) _).get _ _ trivial (by rw[<-x];exact ay _ _);have L:h.length<o.length:=by rw[<-x];simp
 have lp:=bX (body:=λv l=>aJ (Tj wf j) 23 "_law_row" h.length [1] v l λfl l=>mr (fl,l)) (it:=.list o.length) (l.take 40)
  (λi lc h'=>Nf (.ref n) h.length lc/\km (i*31) h.length h'/\Keep (λm=>m≠h.length) (o++ [O.list (l.take 40)]) h')
  (λi lc h' hI=>lm (hI.2.2.get _ _ (rP L) g1))
  (λi v lc h' z hI=>by
   refine am (SV.mp z) λhi G=>?_;obtain⟨w,rfl⟩:∃w:Int,v=.int w:=hs v (Tv (G▸T7 hi));have y:i<40:=by have:=hi;simp at this;exact TU this (Nat.min_le_left 40 _)
   refine cQ (hI) λS hR hK=>HH (EK (C:=Tj wf j) (b:=h.length) (w:=w) hR (tt (Tw (Nat.mul_le_mul_right 31 (tl y)) 31) (by decide)) (by show 30<wf;exact tt (by decide) hw) S) λc f A h2 e2 F U=>?_;exact bJ .next _ h2 ⟨e2,.inl rfl,.inr ⟨c,f,A,rfl⟩,by rw[show(i+1)*31=i*31+31 from Rd];exact F,hK.trans U⟩)
  wf 0 [("script",.ref n),("row",.ref h.length)] _ o1 (by simp;exact RJ hw) ⟨.inl rfl,⟨[],gr,(λv z=>by cases z),by simp⟩,Keep.refl⟩
 refine bM (lp) λl' h' e i1 W i5=>?_;obtain⟨l2,i2,i3,i4⟩:=W;refine az ((show bF (Tj wf j) 23 "_law_row" h.length [1] (.list o.length) [("script",.ref n),("row",.ref h.length)] (o++ [O.list (l.take 40)])=_ from(cC (by kernel_rfl)).trans e)) ?_;have X:l2.length<=1240:=by
  have:(l.take 40).length<=40:=by simp;exact Nat.min_le_left 40 _
  exact tt i4 (Nat.mul_le_mul_right 31 this)
 have g:∀m:Nat,m<=4096->m<=line*line:=λm hm=>UZ hm (by decide);have last:∃r h'',(mq (kM (.ref h.length) 160) λJ=>mq (bQ J "reverse") λZ=>mq (bN J "reverse" []) λr2=>mr J) h'=.ok (.ref r) h''/\c8 r h''/\h.length<=r/\Gr h h'':=by
  rw[aa (GU i2 (by decide) (by decide) (g _ (QP X))),show(160:Int).toNat=160 from rfl];have Y:=ay h' (O.list (l2.take 160));rw[aa (cP Y (by decide)),aa (CJ Y (g _ (by simp;exact L7)))];have k1:Keep (λm=>m<h.length) h (o++ [O.list (l.take 40)]):=by rw[<-x];exact(Keep.app _).trans (Keep.app _)
  have k2:Keep (λm=>m<h.length) h h':=k1.trans (i5.mono λm Z q=>by exact o8 q);have l0:=k2.len;refine aU _ _ ⟨rfl,⟨_,bg Y,λv z=>i3 v (Tv (List.mem_reverse.mp z)),by simp;exact L7⟩,l0, ?_⟩;exact(k2.trans ((Keep.app _).trans (Keep.set (by show ¬h'.length<h.length;exact Rq l0)))).mono λm q Z=>q
 refine aB λgP gH=>?_;rcases i1 with rfl|⟨c,f,A,rfl⟩
 ·refine gH<|gR _ ?_
  show ∃r h'',bj _ _ _ _ _=_/\_;rw[yC];exact last
 ·refine gH<|gR _ ?_
  show ∃r h'',bj _ _ _ _ _=_/\_;rw[yD];exact last
noncomputable def yL(x:Str):Fn:=(ai.init x).getD ⟨⟨[],[],none,[],[],none,[]⟩,[],default⟩
theorem Ii {x:Str}(g:ai.fn x=none)(c:ai.init x=some (yL x))(q:cellN (yL x).scope.names=0):
  T ai wf 24 (j+1) x vs h=(mq (kU ai wf (T ai wf 24 j) 24 "__init__" (yL x) (.ref h.length::vs) (h++ [O.inst x []]).length) λr=>match r with|.none=>mr (.ref h.length)|_=>bad) (h++ [O.inst x []]):=by
 show(match ai.fn x with|some fn=>fj (jY ai wf (T ai wf 24 j) 24) x fn vs|none=>match ai.init x with
   |some fn=>mq (aC (.inst x [])) λo=>mq (fj (jY ai wf (T ai wf 24 j) 24) "__init__" fn (o::vs)) λr=>match r with|.none=>mr o|_=>bad
   |none=>bad) h=_
 rw[g,c];dsimp only;refine aN ((aH _ _)) ?_;unfold mq;rw[yc,q,List.replicate_zero,Um]
theorem gX {c:Str}{l:List (Str×V)}{a:Str}(g:jM a=true)(o:l.length<=64):dF (.ref h.length) a v (h++ [.inst c l])=.ok () (h++ [.inst c (put a v l)]):=by
 unfold dF;rw[g];refine(jQ (f:=λq=>if q.2.length<=64 then R.ok () ((h++ [O.inst c l]).set h.length (O.inst q.1 (put a v q.2)))else R.bad) (ay h _)).trans ?_;rw[Vo o];simp
noncomputable def bp(k i a:V):O:=.inst "Vector" [("kind",k),("items",i),("attrs",a),("shared",.bool false),("loose",.bool false)]
noncomputable def qh:O:=.inst "Null" [("kind",.str "NULL"),("attrs",.none)]
theorem GW(wf:Nat)(C:Str->List V->M V)(o k i:V)(b:Nat)(h:List O):kU ai wf C 24 "__init__" (yL "Vector") [o,k,i] b h=
  (mq (dF o "kind" k) λZ=>mq (dF o "items" i) λZ=>mq (dF o "attrs" .none) λZ=>mq (dF o "shared" (.bool false)) λZ=>mq (dF o "loose" (.bool false)) λZ=>mr .none) h:=by kernel_rfl
theorem EM(wf:Nat)(C:Str->List V->M V)(o:V)(b:Nat)(h:List O):kU ai wf C 24 "__init__" (yL "Null") [o] b h=
  (mq (dF o "kind" (.str "NULL")) λZ=>mq (dF o "attrs" .none) λZ=>mr .none) h:=by kernel_rfl
theorem gY {k i:V}:T ai wf 24 (j+1) "Vector" [k,i] h=.ok (.ref h.length) (h++ [bp k i .none]):=by
 rw[Ii (by kernel_rfl) (by kernel_rfl) (by kernel_rfl)];have e:kU ai wf (T ai wf 24 j) 24 "__init__" (yL "Vector") [.ref h.length,k,i] (h++ [O.inst "Vector" []]).length (h++ [O.inst "Vector" []])=.ok .none (h++ [bp k i .none]):=by
  rw[GW];refine aN ((gX rfl (by decide)))<|aN ((gX rfl ((show 1<=64 by decide)))) ?_;refine aN ((gX rfl ((show 2<=64 by decide)))) ?_;refine aN ((gX rfl ((show 3<=64 by decide)))) ?_;refine aN ((gX rfl ((show 4<=64 by decide)))) ?_;rfl
 refine aN e ?_;rfl
theorem Ng:T ai wf 24 (j+1) "Null" [] h=.ok (.ref h.length) (h++ [qh]):=by
 rw[Ii (by kernel_rfl) (by kernel_rfl) (by kernel_rfl)];have e:kU ai wf (T ai wf 24 j) 24 "__init__" (yL "Null") [.ref h.length] (h++ [O.inst "Null" []]).length (h++ [O.inst "Null" []])=.ok .none (h++ [qh]):=by
  rw[EM];refine aN ((gX rfl (by decide)))<|aN ((gX rfl ((show 1<=64 by decide)))) ?_;rfl
 refine aN e ?_;rfl
theorem Bn {k i a:V}(c:h[n]?=some (bp k i a)):nC h (.ref n)=some ("Vector":Str):=by
 show(oP h[n]?).map (·.1)=_
 rw[c];rfl
theorem Bo {k i a:V}(c:h[n]?=some (bp k i a)):isV "Vector" (.ref n) h=.ok (.bool true) h:=by
 unfold isV;rw[Vo rfl,Bn c,Option.elim_some,Vo rfl]
theorem rF {k i a:V}(c:h[n]?=some (bp k i a)):aM (.ref n) "kind" h=.ok k h:=jQ (f:=λq=>(look "kind" q.2).elim R.bad λv=>R.ok v h) c
theorem hZ {k i a:V}(c:h[n]?=some (bp k i a)):aM (.ref n) "items" h=.ok i h:=jQ (f:=λq=>(look "items" q.2).elim R.bad λv=>R.ok v h) c
theorem dj {k i a:V}(c:h[n]?=some (bp k i a)):aM (.ref n) "attrs" h=.ok a h:=jQ (f:=λq=>(look "attrs" q.2).elim R.bad λv=>R.ok v h) c
theorem EN(c:h[n]?=some qh):aM (.ref n) "kind" h=.ok (.str "NULL") h:=jQ (f:=λq=>(look "kind" q.2).elim R.bad λv=>R.ok v h) c
theorem nZ(c:h[n]?=some qh):aM (.ref n) "attrs" h=.ok .none h:=jQ (f:=λq=>(look "attrs" q.2).elim R.bad λv=>R.ok v h) c
theorem ln {k i a:V}(c:h[n]?=some (bp k i a)):dF (.ref n) "attrs" v h=.ok () (h.set n (bp k i v)):=jQ (f:=λq=>if q.2.length<=64 then R.ok () (h.set n (O.inst q.1 (put "attrs" v q.2)))else R.bad) c
theorem pB {l:List (Str×V)}{s:Str}(c:h[n]?=some (.dict l))(g:l.length<=line):cH (.ref n) (.str s) v h=.ok () (h.set n (.dict (put s v l))):=(ij (f:=λl=>if l.length<=line then R.ok () (h.set n (O.dict (put s v l)))else R.bad) c).trans (Vo g)
theorem lw {l:List (Str×V)}{s:Str}(g:h[n]?=some (.dict l))(c:look s l=some v):ak (.ref n) (.str s) h=.ok v h:=(ij (f:=λl=>(look s l).elim R.bad λv=>R.ok v h) g).trans (fA c)
theorem JU {l:List (Str×V)}{s:Str}(c:h[n]?=some (.dict l)):cmp .In (.str s) (.ref n) h=.ok (look s l).isSome h:=ij (f:=λl=>R.ok (look s l).isSome h) c
theorem CL {l:List (Str×V)}{s:Str}(c:h[n]?=some (.dict l)):cmp .NotIn (.str s) (.ref n) h=.ok (!(look s l).isSome) h:=by
 have e:cmp.memb (.str s) (.ref n) h=.ok (look s l).isSome h:=JU c
 show(match cmp.memb (.str s) (.ref n) h with|.ok r h'=>R.ok (!r) h'|.exc e h'=>.exc e h'|.bad=>.bad)=_
 rw[e]
theorem GX {l:List (Str×V)}{s:Str}(c:h[n]?=some (.dict l)):bN (.ref n) "get" [.str s] h=.ok ((look s l).getD .none) h:=ij (f:=λl=>BK l [.str s] h) c
theorem EO {l:List (Str×V)}{s:Str}{d:V}(c:h[n]?=some (.dict l)):bN (.ref n) "get" [.str s,d] h=.ok ((look s l).getD d) h:=ij (f:=λl=>BK l [.str s,d] h) c
theorem vW {l:List (Str×V)}(c:h[n]?=some (.dict l)):bQ (.ref n) "get" h=.ok () h:=ij (f:=λZ=>R.ok () h) c
theorem vX {l:List (Str×V)}(c:h[n]?=some (.dict l)):bY (.ref n) h=.ok (.keys n (l.map (·.1))) h:=by
 show(dM h[n]?).elim _ _=_
 rw[c];rfl
theorem yM {l:List (Str×V)}(c:h[n]?=some (.dict l)):dI (.ref n) h=.ok (.items n (l.map (·.1))) h:=by
 exact ij (f:=λd=>R.ok (It.items n (d.map (·.1))) h) c
theorem vY {l:List (Str×V)}(c:h[n]?=some (.dict l)):ci (.keys n (l.map (·.1))) i h=.ok (l.map λp=>V.str p.1)[i]? h:=by
 show((dct h[n]?).bind λd=>if d.map (·.1)=l.map (·.1)then some ((l.map (·.1))[i]?.map V.str)else none).elim _ _=_
 rw[c]
 show(if l.map (·.1)=l.map (·.1)then some ((l.map (·.1))[i]?.map V.str)else none).elim _ _=_
 rw[Vo rfl,<-TY,List.map_map];rfl
theorem CM {l:List (Str×V)}(c:h[n]?=some (.dict l)):ci (.items n (l.map (·.1))) i h=.ok (l.map λp=>V.tup [.str p.1,p.2])[i]? h:=by
 show((dct h[n]?).bind λd=>if d.map (·.1)=l.map (·.1)then some (d[i]?.map λp=>V.tup [.str p.1,p.2])else none).elim _ _=_
 rw[c]
 show(if l.map (·.1)=l.map (·.1)then some (l[i]?.map λp=>V.tup [.str p.1,p.2])else none).elim _ _=_
 rw[Vo rfl,<-TY];rfl
theorem CN {l:List (Str×V)}(c:h[n]?=some (.dict l))(g:l.length<=4096):truth (.ref n) h=.ok (!l.isEmpty) h:=(ij (f:=λl=>if l.length<=4096 then R.ok (!l.isEmpty) h else R.bad) c).trans (Vo g)
theorem JV {l:List (Str×V)}(c:h[n]?=some (.dict l))(g:l.length<=line):builtin "dict" [.ref n] h=.ok (.ref h.length) (h++ [.dict l]):=(ij (f:=λl=>if l.length<=line then R.ok (V.ref h.length) (h++ [O.dict l])else R.bad) c).trans (Vo g)
theorem pC {A:Type}(x y:Str)(v:A):∀l:List (Str×A),look x (put y v l)=if x=y then some v else look x l
 | []=>by
  show(if x=y then some v else none)=_
  rfl
 |(z,w)::r=>by
  show look x (if y=z then(z,v)::r else(z,w)::put y v r)=if x=y then some v else(if x=z then some w else look x r);by_cases o:y=z
  ·subst o
   rw[Vo rfl]
   show(if x=y then some v else look x r)=_
   by_cases c:x=y
   ·rw[Vo c,Vo c]
   ·rw[Vn c,Vn c,Vn c]
  ·rw[Vn o]
   show(if x=z then some w else look x (put y v r))=_
   rw[pC x y v r];by_cases g:x=z
   ·rw[Vo g,Vo g,Vn (λq=>o (q.symm.trans g))]
   ·rw[Vn g,Vn g]
noncomputable abbrev aO:=Str->Option (Str×List V)
structure Vc where
 kind:Str
 items:List V
 att:aO
noncomputable def Ks:List Str:= ["dim", "names", "unit", "of"]
structure Dk (D:List (Str×V)):Prop where
 nd:(D.map (·.1)).Nodup
 sub:∀k∈D.map (·.1),k∈Ks
theorem ib {c:Type}{k:Str}{D:List (Str×c)}:look k D=none↔k∉D.map (·.1):=by
 induction D using List.rec with
 |nil=>exact⟨λZ=>Uc,λZ=>rfl⟩
 |cons p r ih=>
  rw[jj,UI,UJ,not_or];by_cases h:k=p.1
  ·rw[Vo h];exact⟨λq=>ns q.symm,λq=>absurd h q.1⟩
  ·rw[Vn h,ih];exact⟨λq=>⟨h,q⟩,λq=>q.2⟩
theorem ko {c:Type}{v:c}{D:List (Str×c)}(h:look k D=some v):(k,v)∈D:=qG h
theorem iI {c:Type}{v:c}{D:List (Str×c)}(h:(D.map (·.1)).Nodup)(m:(k,v)∈D):look k D=some v:=vC h m
theorem u7 {c:Type}{v:c}{D:List (Str×c)}:k∉D.map (·.1)->put k v D=D++ [(k,v)]:=by
 induction D using List.rec with
 |nil=>exact λZ=>rfl
 |cons p r ih=>
  intro h;rw[UI,UJ,not_or]at h;rw[w5,Vn h.1,ih h.2];rfl
theorem yN {g:Type}{v:g}{D:List (Str×g)}:k∈D.map (·.1)->(put k v D).map (·.1)=D.map (·.1):=by
 induction D using List.rec with
 |nil=>exact λh=>absurd h Uc
 |cons p r ih=>
  intro h;rw[w5];by_cases c:k=p.1
  ·rw[Vo c];rfl
  ·rw[Vn c,UI,ih ((UJ.mp h).resolve_left c)];rfl
theorem Dk.put {D:List (Str×V)}{k:Str}{v:V}(d:Dk D)(o:k∈Ks):Dk (put k v D):=by
 by_cases h:k∈D.map (·.1)
 ·exact⟨by rw[yN h];exact d.nd,by rw[yN h];exact d.sub⟩
 ·rw[u7 h]
  refine⟨?_,λx g=>?_⟩
  ·rw[Uq,TZ]
   refine⟨d.nd,by simp,λa z b y=>?_⟩;have c:b=k:=by simpa using y
   subst c;exact λq=>h (by subst q;exact z)
  ·rw[Uq]at g
   rcases Ur.mp g with q|q
   ·exact d.sub x q
   ·simp at q;subst q;exact o
theorem Dk.nil:Dk []:=⟨by simp,λk c=>by cases c⟩
theorem oa {c:Type}[DecidableEq c]:∀ {l m:List c},l.Nodup->(∀x∈l,x∈m)->l.length<=m.length
 | [],m,_,_=>Nat.zero_le _
 |x::r,m,hn,hs=>by
  have o:=hs x (by simp);rw[Us]at hn;have:=oa (l:=r) (m:=m.erase x) hn.2 (λy g=>(List.mem_erase_of_ne (λ(e:y=x)=>hn.1 (e▸g))).mpr (hs y (by simp[g])));rw[List.length_erase_of_mem o]at this;have:=List.length_pos_of_mem o
  simp;omega
theorem Dk.len(d:Dk D):D.length<=4:=by
 have:=oa d.nd d.sub;simpa [Ks]using this
theorem Dk.count(d:Dk D)(e:Dk E)(h:∀k,(look k D).isSome=(look k E).isSome):D.length=E.length:=by
 have c:∀k,k∈D.map (·.1)↔k∈E.map (·.1):=λk=>by
  have:=h k;have a:=@ib V k D;have b:=@ib V k E;cases o:look k D<;>cases g:look k E<;>rw[o,g]at this<;>simp_all
 have o:=oa d.nd (λk q=>(c k).mp q);have g:=oa e.nd (λk q=>(c k).mpr q);simp at o g;exact Nat.le_antisymm o g
def fu(P:Nat->Prop)(h:List O)(m:Nat)(kd:Str)(its:List V):Prop:=∃i,P m/\P i/\its.length<=4096/\h[m]?=some (bp (.str kd) (.ref i) .none)/\h[i]?=some (.list its)
def fU(P:Nat->Prop)(h:List O)(D:List (Str×V))(F:aO):Prop:=∀k,match F k with
 |none=>look k D=none
 |some q=>∃m,look k D=some (.ref m)/\fu P h m q.1 q.2
structure IsD (P:Nat->Prop) (h:List O) (d:Nat) (F:aO) (D:List (Str×V)):Prop where
 p:P d
 get:h[d]?=some (.dict D)
 dk:Dk D
 at_:fU P h D F
inductive IsA (P:Nat->Prop) (h:List O) (F:aO):V->Prop
 |none:(∀k,F k=none)->IsA P h F .none
 |dict {d:Nat} {D:List (Str×V)}:IsD P h d F D->IsA P h F (.ref d)
inductive IsV (P:Nat->Prop) (h:List O):V->Vc->Prop
 |null {n:Nat} {F:aO}:P n->h[n]?=some qh->(∀k,F k=none)->IsV P h (.ref n) ⟨"NULL",[],F⟩
 |vec {n i:Nat} {k:Str} {l:List V} {a:V} {F:aO}:k≠ "NULL"->l.length<=4096->P n->P i->h[n]?=some (bp (.str k) (.ref i) a)->h[i]?=some (.list l)->IsA P h F a->IsV P h (.ref n) ⟨k,l,F⟩
theorem fU.keep {P Q:Nat->Prop}{F:aO}(a:fU P h D F)(k:Keep P h h'):fU P h' D F:=λx=>by
 have:=a x;induction hF:F x using Vp with
 |none=>rw[hF]at this;exact this
 |some q=>
  rw[hF]at this;refine aB λG y=>?_;obtain⟨m,e,i,g,c,A,z,o⟩:=this;refine y<|⟨m,e,i,g,c,A,k.get _ _ g z,k.get _ _ c o⟩
theorem fU.mono {P Q:Nat->Prop}{F:aO}(a:fU P h D F)(q:∀n,n<h.length->P n->Q n):fU Q h D F:=λx=>by
 have:=a x;induction hF:F x using Vp with
 |none=>rw[hF]at this;exact this
 |some r=>
  rw[hF]at this;refine aB λG z=>?_;obtain⟨m,e,i,y,o,A,g,c⟩:=this;refine z<|⟨m,e,i,q _ (aA g) y,q _ (aA c) o,A,g,c⟩
theorem IsA.keep {P:Nat->Prop}{h h':List O}{F:aO}{a:V}(x:IsA P h F a)(k:Keep P h h'):IsA P h' F a:=by
 cases x with
 |none e=>exact .none e
 |dict d=>exact .dict ⟨d.p,k.get _ _ d.p d.get,d.dk,d.at_.keep (Q:=P) k⟩
theorem IsA.mono {P Q:Nat->Prop}{h:List O}{F:aO}{a:V}(x:IsA P h F a)(q:∀n,n<h.length->P n->Q n):IsA Q h F a:=by
 cases x with
 |none e=>exact .none e
 |dict d=>exact .dict ⟨q _ (aA d.get) d.p,d.get,d.dk,d.at_.mono q⟩
theorem IsV.keep {P:Nat->Prop}{h h':List O}{x:Vc}{v:V}(a:IsV P h v x)(k:Keep P h h'):IsV P h' v x:=by
 cases a with
 |null p e f=>exact .null p (k.get _ _ p e) f
 |vec hk hl p1 p2 e1 e2 ha=>exact .vec hk hl p1 p2 (k.get _ _ p1 e1) (k.get _ _ p2 e2) (ha.keep k)
theorem IsV.mono {P Q:Nat->Prop}{h:List O}{x:Vc}{v:V}(a:IsV P h v x)(q:∀n,n<h.length->P n->Q n):IsV Q h v x:=by
 cases a with
 |null p e f=>exact .null (q _ (aA e) p) e f
 |vec hk hl p1 p2 e1 e2 ha=>exact .vec hk hl (q _ (aA e1) p1) (q _ (aA e2) p2) e1 e2 (ha.mono q)
def xk(P:Nat->Prop)(h:List O)(D:List (Str×V))(F:aO):Prop:=∀k,match F k with
 |none=>look k D=none
 |some q=>∃i,look k D=some (.tup [.str q.1,.ref i])/\P i/\h[i]?=some (.list q.2)
structure IsS (P:Nat->Prop) (h:List O) (d:Nat) (F:aO) (D:List (Str×V)):Prop where
 p:P d
 get:h[d]?=some (.dict D)
 dk:Dk D
 at_:xk P h D F
theorem xk.keep {P:Nat->Prop}{F:aO}(a:xk P h D F)(k:Keep P h h'):xk P h' D F:=λx=>by
 have:=a x;induction hF:F x using Vp with
 |none=>rw[hF]at this;exact this
 |some q=>
  rw[hF]at this;refine aP (this) λi e c g=>⟨i,e,c,k.get _ _ c g⟩
theorem IsS.keep {P:Nat->Prop}{h h':List O}{d:Nat}{D:List (Str×V)}{F:aO}(a:IsS P h d F D)(k:Keep P h h'):IsS P h' d F D:=
 ⟨a.p,k.get _ _ a.p a.get,a.dk,a.at_.keep k⟩
theorem IsS.mono {P Q:Nat->Prop}{d:Nat}{F:aO}(a:IsS P h d F D)(q:∀n,n<h.length->P n->Q n):IsS Q h d F D:=
 ⟨q _ (aA a.get) a.p,a.get,a.dk,λx=>by
  have:=a.at_ x;induction hF:F x using Vp with
  |none=>rw[hF]at this;exact this
  |some r=>
   rw[hF]at this;refine aP (this) λi e g c=>?_;exact⟨i,e,q _ (aA c) g,c⟩⟩
theorem yO {x:Str}(g:ai.fn x=some (aq x))(c:cellN (aq x).scope.names=1):T ai wf 24 (j+1) x vs h=Bd (Tj wf j) x vs h.length (h++ [.cell none]):=by
 rw[xf g,c];rfl
theorem u9 {c:Option V}:fL h.length v (h++ [.cell c])=.ok () (h++ [.cell (some v)]):=by
 rw[fT (ay h (.cell c))];simp
theorem lz(h:n<=4096):n<=line*line:=UZ h (by decide)
theorem vc(h:n<=4096):n<2^40:=TT h (by decide)
theorem fV(n:Nat):cmp .IsNot (.ref n) .none=mr true:=rfl
theorem mS(n:Nat):cmp .Is (.ref n) .none=mr false:=rfl
theorem vZ(acc:List V)(k:Str)(v:V):bR (acc++ [.tup [.str k,v]])=put k v (bR acc):=by
 unfold bR;rw[List.foldl_append];rfl
theorem wT {C:Tb}{d:Nat}{c y:V}{F:aO}{q:Str×List V}(g:h[b]?=some (.cell (some (.ref n))))(x:h[n]?=some (bp c y (.ref d)))
  (hd:IsD P h d F D)(z:F k=some q):bS C 22 (aw "_law_seen" (aq "_law_seen") b) (aX (bG (aG "_law_seen" [1])) []) (.str k) mr h=.ok (some (.tup [.str k,.tup [.str q.1,.ref h.length]])) (h++ [.list q.2]):=by
 rw[yE];unfold pt;have:=hd.at_ k;rw[z]at this;refine aB λU G=>?_;obtain⟨m,e,i,S,L,J,o,A⟩:=this;refine G<|aN ((aE g))<|aN ((dj x))<|aN ((lw hd.get e))<|aN ((rF o))<|aN ((aE g))<|aN ((dj x))<|aN ((lw hd.get e))<|aN ((hZ o))<|aN ((hW A (lz J))) ?_;rfl
theorem dX {x:Vc}(hv:IsV P h v x)(hw:40<wf):
  ∃d D h',T ai wf 24 (j+1) "_law_seen" [v] h=.ok (.ref d) h'/\IsS (λn=>h.length<=n) h' d x.att D/\Gr h h':=by
 refine bO (T ai wf 24 (j+1) "_law_seen" [v] h) λgQ gR=>?_;rw[yO (by kernel_rfl) (by kernel_rfl),CB];refine az u9 ?_;have hb:=ay h (O.cell (some v));have g1:Gr h (h++ [O.cell (some v)]):=Keep.app _;have hv1:IsV P (h++ [O.cell (some v)]) v x:=hv.keep g1.keep;generalize hh1:h++ [O.cell (some v)]=W at*;have y:h.length<W.length:=by rw[<-hh1];simp
 refine az ((aE hb)) ?_;have A:(∀k,x.att k=none)-> ∃d D h',(mq (aC (.dict [])) λr1=>mr r1) W=.ok (.ref d) h'/\IsS (λn=>h.length<=n) h' d x.att D/\Gr h h':=λL=>by
  rw[aa (aH _ _)];refine bJ _ [] _ ⟨rfl,⟨by exact QT y,ay _ _,Dk.nil,λk=>?_⟩,g1.trans (Keep.app _)⟩;rw[L k];rfl
 cases hv1 with
 |@null n F p e f=>refine gR _ ?_;unfold iq;rw[aa (nZ e),cu,ae,Vj];exact A f
 |@vec n i k l a F hk hl p1 p2 e1 e2 ha=>
  refine az ((dj e1)) ?_;cases ha with
  |none f=>refine gR _ ?_;unfold iq;rw[cu,ae,Vj];exact A f
  |@dict d D hd=>
   refine bC (mS ..)<|qQ<|az ((aE hb))<|az ((dj e1))<|az ((vX hd.get)) ?_;have ec:=fQ (C:=Tj wf j) (m:=22) (c:=aw "_law_seen" (aq "_law_seen") h.length) (e:=aX (bG (aG "_law_seen" [1])) []) (it:=.keys d (D.map (·.1))) (by kernel_rfl) (by kernel_rfl);have lp:=fS (turn:=λv=>bS (Tj wf j) 22 (aw "_law_seen" (aq "_law_seen") h.length) (aX (bG (aG "_law_seen" [1])) []) v mr) (it:=.keys d (D.map (·.1))) (D.map λp=>V.str p.1)
    (λi acc h'=>Gr W h'/\(bR acc).map (·.1)=(D.take i).map (·.1)/\ ∀p∈bR acc,∃q U,F p.1=some q/\p.2=.tup [.str q.1,.ref U]/\h.length<=U/\h'[U]?=some (.list q.2))
    (λi acc h' hI=>vY (hI.1.get _ _ trivial hd.get))
    (λi w acc h' hw hI=>by
     refine am (SV.mp hw) λhi hvv=>?_;simp only[List.getElem_map]at hvv;simp only[Uo]at hi;refine cQ (hI) λX hK hA=>?_;subst hvv;have hlk:look D[i].1 D=some D[i].2:=iI hd.dk.nd (T7 hi);obtain⟨q,hq⟩:∃q,F D[i].1=some q:=by
      have:=hd.at_ D[i].1;induction L:F D[i].1 using Vp with
      |none=>rw[L]at this;rw[hlk]at this;cases this
      |some q=>exact⟨q,rfl⟩
     have hd':IsD P h' d F D:=⟨hd.p,X.get _ _ trivial hd.get,hd.dk,hd.at_.keep (Q:=P) X.keep⟩;have et:=wT (C:=Tj wf j) (X.get _ _ trivial hb) (X.get _ _ trivial e1) hd' hq;have J:D[i].1∉(bR acc).map (·.1):=by
      rw[hK];intro G;have hnd:=hd.dk.nd;rw[show D.map (·.1)=(D.take i).map (·.1)++(D.drop i).map (·.1) by rw[<-Uq,List.take_append_drop],TZ]at hnd;exact hnd.2.2 _ G _ (UV.mpr ⟨D[i],by rw[SS hi];exact TM,rfl⟩) rfl
     refine aU _ _ ⟨et,X.trans (Keep.app _), ?_, ?_⟩
     ·show(bR (acc++ [_])).map (·.1)=_
      rw[vZ,u7 J,Uq,hK,bv hi,Uq];rfl
     ·show ∀p∈bR (acc++ [_]),_
      rw[vZ,u7 J];intro p z;rcases Ur.mp z with z|z
      ·refine bM (hA p z) λq' U a1 a2 a3 a4=>aU q' U ⟨a1,a2,a3,(Keep.app (P:=λZ=>True) _).get _ _ trivial a4⟩
      ·rw[TO]at z
       subst z;refine aU q h'.length ⟨hq,rfl, ?_,ay _ _⟩;have:=X.len;exact L4 y this)
    wf 0 [] W o1 (by have:=hd.dk.len;simp;exact Lj hw this) ⟨Keep.refl,rfl,λp z=>by cases z⟩
   refine aB λgP gH=>bM (lp) λo h' e3 i1 i2 i3=>?_;have e4:cF (Tj wf j).wf (Ic (Tj wf j) 22) (aw "_law_seen" (aq "_law_seen") h.length) (aX (bG (aG "_law_seen" [1])) []) (.keys d (D.map (·.1))) W=.ok o h':=(congrFun ec W).trans e3;refine gH<|az e4<|az ((aH _ _)) ?_;have g:(bR o).map (·.1)=D.map (·.1):=by rw[i2];simp
   have S:=i1.len;refine gR _<|bJ h'.length (bR o) _ ⟨rfl,⟨by exact L4 y S,ay _ _,⟨by rw[g];exact hd.dk.nd,by rw[g];exact hd.dk.sub⟩,λk=>?_⟩,g1.trans (i1.trans (Keep.app _))⟩;show match F k with|none=>look k (bR o)=none|some q=>∃i,look k (bR o)=some (V.tup [V.str q.fst,V.ref i])/\h.length<=i/\(h'++ [O.dict (bR o)])[i]?=some (O.list q.snd)
   have hk:=hd.at_ k;induction L:F k using Vp with
   |none=>
    rw[L]at hk;dsimp only;rw[ib,g];exact ib.mp hk
   |some q=>
    rw[L]at hk;refine aB λgP gH=>ac (hk) λm em Z=>?_;have G:k∈(bR o).map (·.1):=by rw[g];exact UV.mpr ⟨_,ko em,rfl⟩
    refine ac (UV.mp G) λp z gz2=>?_;subst gz2;refine bM (i3 p z) λq' U a1 a2 a3 a4=>?_;have Y:F p.1=some q':=a1;rw[L]at Y;cases Y;refine gH<|⟨U, ?_,a3,(Keep.app (P:=λZ=>True) _).get _ _ trivial a4⟩;rw[iI (v:=p.2) (by rw[g];exact hd.dk.nd) z,a2]
inductive Dv:V->Prop
 |none:Dv .none
 |int (i:Int):Dv (.int i)
 |str (s:Str):Dv (.str s)
 |pair (a b:Int):Dv (.tup [.int a,.int b])
theorem jo {q:Bool}{o c:Option Bool}(x:o=some p)(g:c=some q):Fw o c=some (p&&q):=by rw[x,g];rfl
theorem tA:(∀v∈l,f v v=some true)->gE f l l=some true:=by
 induction l using List.rec with
 |nil=>exact λZ=>rfl
 |cons x r ih=>exact λh=>jo (h x (TM ..)) (ih λv c=>h v (Tt _ c))
theorem lA {a b c d:V}{q:Bool}(o:f a c=some p)(g:f b d=some q):gE f [a,b] [c,d]=some (p&&q):=by
 refine(jo o (jo g rfl)).trans ?_;rw[Bool.and_true]
theorem yP {k:Nat}:cT h (k+1) (.tup xs) (.tup ys)=(gE (cT h k) xs ys).map λr=>r&&decide (xs.length=ys.length):=rfl
theorem pD {h:List O}{k:Nat}(d:Dv v):cT h (k+2) v v=some true:=by
 cases d with
 |none=>rfl
 |int i=>show some (decide (i=i))=_;simp
 |str s=>show some (decide (s=s))=_;simp
 |pair a b=>
  have g:cT h (k+1) (.int a) (.int a)=some true:=by show some (decide (a=a))=_;simp
  have c:cT h (k+1) (.int b) (.int b)=some true:=by show some (decide (b=b))=_;simp
  rw[yP,lA g c];rfl
theorem v6 {k:Nat}(g:h[m]?=some (.list l))(o:h[n]?=some (.list l))(hd:∀v∈l,Dv v):cT h (k+3) (.ref m) (.ref n)=some true:=by
 show((dM h[m]?).bind λxs=>(dM h[n]?).bind λys=>lq (cT h (k+2)) xs ys)=_
 rw[g,o]
 show(gE (cT h (k+2)) l l).map _=_
 rw[tA λv c=>pD (hd v c),Option.map_some,UD (Eq.refl _)];rfl
theorem lC(c:h[m]?=some (.list l))(g:h[n]?=some (.list l))(hd:∀v∈l,Dv v):eO h (.ref m) (.ref n)=some true:=by
 unfold eO;rw[vz (show dct h[m]?=none by rw[c];rfl)];exact v6 c g hd
def iR(F:aO):Prop:=∀k q,F k=some q-> ∀v∈q.2,Dv v
theorem Aa {ys:List (Str×V)}{xs:List (Str×V)}:(∀p∈xs,∃w,look p.1 ys=some w/\f p.2 w=some true)->eM f ys xs=some true:=by
 induction xs using List.rec with
 |nil=>exact λZ=>rfl
 |cons p r ih=>
  intro h;refine ac (h p (TM ..)) λw g c=>?_
  show(eM f ys r).bind _=_
  rw[ih λp o=>h p (Tt _ o),Ui,fA g,c];rfl
theorem IsS.some {P:Nat->Prop}{h:List O}{d:Nat}{F:aO}{D:List (Str×V)}(a:IsS P h d F D)(k:Str):(look k D).isSome=(F k).isSome:=by
 have:=a.at_ k;induction hF:F k using Vp with
 |none=>rw[hF]at this;dsimp only at this;rw[this];rfl
 |some q=>rw[hF]at this;obtain⟨i,e,_⟩:=this;rw[e];rfl
theorem tB(c:h[m]?=some (.dict D))(g:h[n]?=some (.dict E)):eO h (.ref m) (.ref n)=(eM (cT h 8) E D).map λr=>r&&decide (D.length=E.length):=
 fA (tW (x:=D) (y:=E) (by rw[c];rfl) (by rw[g];rfl))
theorem pE {Q:Nat->Prop}{d:Nat}{F:aO}(a:IsS P h d F D)(b:IsS Q h e F E)(L:iR F):eO h (.ref d) (.ref e)=some true:=by
 rw[tB a.get b.get];have g:D.length=E.length:=a.dk.count b.dk λk=>by rw[a.some,b.some]
 rw[Aa,g]
 ·simp
 intro p J;have o:=iI (v:=p.2) a.dk.nd J;have c:=a.at_ p.1;have x:=b.at_ p.1;refine aB λW y=>?_;induction hq:F p.1 using Vp with
 |none=>refine y ?_;rw[hq]at c;rw[o]at c;cases c
 |some q=>
  rw[hq]at c x;refine aP (c) λi z Z S=>aP (x) λU G Z A=>?_;rw[o]at z;refine y<|⟨_,G, ?_⟩;rw[Uu z];have c:cT h 7 (.str q.1) (.str q.1)=Option.some true:=pD (.str q.1);rw[yP,lA c (v6 S A (L _ _ hq))];rfl
theorem gc {a b:V}{r:Bool}(e:jR h a b=some r):cmp .NotEq a b h=.ok (!r) h:=fA e
theorem pF(c:h[m]?=some (.dict D))(g:h[n]?=some (.dict E)):jR h (.ref m) (.ref n)=eO h (.ref m) (.ref n):=by
 unfold jR;rw[vz (show dM h[m]?=none by rw[c];rfl)];rfl
theorem jI(c:h[m]?=some (.list xs))(g:h[n]?=some (.list ys)):jR h (.ref m) (.ref n)=(gE (eO h) xs ys).map λr=>r&&decide (xs.length=ys.length):=by
 exact fA (tW (x:=xs) (y:=ys) (by rw[c];rfl) (by rw[g];rfl))
theorem v8(d:Dv v):eO h v v=some true:=by
 cases d with
 |none=>rfl
 |int i=>show some (decide (i=i))=_;simp
 |str s=>show some (decide (s=s))=_;simp
 |pair a b=>exact pD (h:=h) (k:=6) (.pair a b)
theorem EP(c:h[m]?=some (.list l))(g:h[n]?=some (.list l))(hd:∀v∈l,Dv v):cmp .NotEq (.ref m) (.ref n) h=.ok false h:=by
 refine gc (r:=true) ?_;rw[jI c g,tA λv o=>v8 (hd v o)];simp
theorem vd {Q:Nat->Prop}{d:Nat}{F:aO}(a:IsS P h d F D)(b:IsS Q h e F E)(c:iR F):cmp .NotEq (.ref d) (.ref e) h=.ok false h:=by
 refine gc (r:=true) ?_;rw[pF a.get b.get,pE a b c]
theorem aY(a b:Str):cmp .Eq (.str a) (.str b)=mr (decide (a=b)):=rfl
theorem iJ(a b:Str):cmp .NotEq (.str a) (.str b)=mr (!decide (a=b)):=rfl
theorem dY(a b:Int):cmp .NotEq (.int a) (.int b)=mr (!decide (a=b)):=rfl
theorem IsV.kind {P:Nat->Prop}{h:List O}{v:V}{x:Vc}(c:IsV P h v x):aM v "kind" h=.ok (.str x.kind) h:=by
 cases c with
 |null p e f=>exact EN e
 |vec hk hl p1 p2 e1 e2 ha=>exact rF e1
theorem IsV.attrs {P:Nat->Prop}{h:List O}{v:V}{x:Vc}(c:IsV P h v x):∃a,aM v "attrs" h=.ok a h/\IsA P h x.att a:=by
 cases c with
 |null p e f=>exact⟨_,nZ e,.none f⟩
 |vec hk hl p1 p2 e1 e2 ha=>exact⟨_,dj e1,ha⟩
theorem IsV.len {x:Vc}(c:IsV P h v x):x.items.length<=4096:=by
 cases c with
 |null p e f=>exact Nat.zero_le _
 |vec hk hl p1 p2 e1 e2 ha=>exact hl
theorem IsV.items {P:Nat->Prop}{h:List O}{v:V}{x:Vc}(g:IsV P h v x)(c:x.kind≠ "NULL"):∃i,P i/\aM v "items" h=.ok (.ref i) h/\h[i]?=some (.list x.items):=by
 cases g with
 |null p e f=>exact absurd rfl c
 |vec c hl p1 p2 e1 e2 ha=>exact⟨_,p2,hZ e1,e2⟩
theorem IsV.null_items {x:Vc}(g:IsV P h v x)(c:x.kind= "NULL"):x.items= []:=by
 cases g with
 |null p e f=>rfl
 |vec hk' hl p1 p2 e1 e2 ha=>exact absurd c hk'
theorem IsV.isV {P:Nat->Prop}{h:List O}{v:V}{x:Vc}(g:IsV P h v x)(c:x.kind≠ "NULL"):Mine.isV "Vector" v h=.ok (.bool true) h:=by
 cases g with
 |null p e f=>exact absurd rfl c
 |vec c hl p1 p2 e1 e2 ha=>
  exact Bo e1
theorem dy {x:Vc}(g:IsV P h v x):T ai wf 24 (j+1) "length" [v] h=.ok (.int x.items.length) h:=by
 rw[aK (by kernel_rfl) (by kernel_rfl),yi];unfold rl;unfold iq;rw[aa g.kind,aY,ae];by_cases c:x.kind= "NULL"
 ·refine oA (UD c) ?_;rw[g.null_items c];rfl
 ·refine mM (Uv c)<|aP (g.items c) λi Z q o=>?_
  rw[aa (g.isV c),aW,ae,Vj,aa q,aa (dx o (vc g.len))];rfl
theorem oF {x:Vc}(F:IsV P h v x)(name:Str):∃r,(mq (aM v "attrs") λA=>mq (cmp .Is A .none) λG=>bif G then(mr .none)else(mq (aM v "attrs") λc=>mq (bQ c "get") λZ=>mq (bN c "get" [.str name]) λz=>mr z)) h=.ok r h/\
  match x.att name with|none=>r=.none|some q=>∃m,r=.ref m/\fu P h m q.1 q.2:=by
 refine ac (F.attrs) λa g y=>?_;rw[aa g];cases y with
 |none f=>
  rw[cu,ae,Vj,f];exact⟨_,rfl,rfl⟩
 |@dict d D hd=>
  rw[mS,ae,Ve,aa g,aa (vW hd.get),aa (GX hd.get)];refine⟨_,rfl, ?_⟩;have:=hd.at_ name;induction hF:x.att name using Vp with
  |none=>rw[hF]at this;dsimp only at this ⊢;rw[this];rfl
  |some q=>
   rw[hF]at this;refine ac (this) λm e o=>⟨m,by rw[e];rfl,o⟩
theorem CP {x:Vc}(c:IsV P h v x)(name:Str):∃r,T ai wf 24 (j+1) "get_attr" [v,.str name] h=.ok r h/\
  match x.att name with|none=>r=.none|some q=>∃m,r=.ref m/\fu P h m q.1 q.2:=by
 rw[aK (by kernel_rfl) (by kernel_rfl),Cq];exact oF c name
theorem qU {x:Vc}(c:IsV P h v x)(name:Str):∃r,T ai wf 24 (j+1) "attribute" [v,.str name] h=.ok r h/\
  match x.att name with|none=>r=.none|some q=>∃m,r=.ref m/\fu P h m q.1 q.2:=by
 rw[aK (by kernel_rfl) (by kernel_rfl),zT];exact oF c name
def kq(h h':List O)(F:aO)(r:V):Prop:=match F "dim" with|none=>r=.none|some q=>∃n,r=.ref n/\h.length<=n/\h'[n]?=some (.list q.2)
theorem kr {x:Vc}(o:IsV P h v x):∃r h',T ai wf 24 (j+2) "dim_of" [v] h=.ok r h'/\Gr h h'/\kq h h' x.att r:=by
 rw[aK (by kernel_rfl) (by kernel_rfl),Gz];unfold yg;refine aB λy g=>ac (CP (wf:=wf) (j:=j) o "dim") λr e c=>g ?_;rw[aa e];unfold kq;induction hF:x.att "dim" using Vp with
 |none=>
  rw[hF]at c;dsimp only at c;subst c;unfold iq;rw[cu,ae,Vj];exact aU _ _ ⟨rfl,Keep.refl,rfl⟩
 |some q=>
  rw[hF]at c;refine aB λy g=>?_;obtain⟨m,rfl,i,J,G,F,A,z⟩:=c;refine g ?_;unfold iq;rw[mS,ae,Ve,aa (hZ A),aa (hW z (lz F))];exact aU _ _ ⟨rfl,Keep.app _,_,rfl,U9 _,ay _ _⟩
theorem tC {x:Vc}(y:IsV P h v x):∃r h',T ai wf 24 (j+1) "_law_dims" [v] h=.ok r h'/\Gr h h'/\kq h h' x.att r:=by
 rw[aK (by kernel_rfl) (by kernel_rfl),Cz];unfold sS;refine aB λz c=>ac (y.attrs) λa g o=>c ?_;unfold kq;dsimp only;rw[aa g];cases o with
 |none f=>
  unfold iq;rw[cu,ae,Vj,f];exact aU _ _ ⟨rfl,Keep.refl,rfl⟩
 |@dict d D hd=>
  unfold iq;rw[mS,ae,Ve,aa g,aa (CL hd.get)];have:=hd.at_ "dim";induction hF:x.att "dim" using Vp with
  |none=>
   rw[hF]at this;dsimp only at this;rw[this];exact aU _ _ ⟨rfl,Keep.refl,rfl⟩
  |some q=>
   rw[hF]at this;refine aB λz c=>?_;obtain⟨m,e,i,L,J,G,A,F⟩:=this;refine c ?_;rw[e];show ∃r h',mq (aM v "attrs") _ h=_/\_;rw[aa g,aa (lw hd.get e),aa (hZ A),aa (hW F (lz G))];exact aU _ _ ⟨rfl,Keep.app _,_,rfl,U9 _,ay _ _⟩
noncomputable def aL(n m:Nat):Nat:=if n=0\/m=0 then 0 else max n m
theorem vf(n m:Nat):builtin "max" [.int n,.int m]=mr (.int (max n m:Nat)):=by
 have e:builtin "max" [.int n,.int m]=mr (.int (if(m:Int)>n then m else n)):=by kernel_rfl
 rw[e]
 congr 2
 by_cases h:(m:Int)>n
 ·rw[Vo h];exact Vk _ (Nat.max_eq_right (UT.mp (UO h))).symm
 ·rw[Vn h];exact Vk _ (Nat.max_eq_left (UT.mp (Va.mp h))).symm
theorem Bp(n m:Nat):builtin "min" [.int n,.int m]=mr (.int (min n m:Nat)):=by
 have e:builtin "min" [.int n,.int m]=mr (.int (if(m:Int)<n then m else n)):=by kernel_rfl
 rw[e]
 congr 2
 by_cases h:(m:Int)<n
 ·rw[Vo h];exact Vk _ (Nat.min_eq_right (UT.mp (UO h))).symm
 ·rw[Vn h];exact Rm h
theorem wa {n m:Nat}{h:List O}:T ai wf 24 (j+1) "recycle_length" [.int n,.int m] h=.ok (.int (aL n m)) h:=by
 rw[aK (by kernel_rfl) (by kernel_rfl),rm];unfold ki aL;simp only[iq,bA,ae,vf];by_cases g:n=0
 ·rw[Vo (.inl g),show decide ((n:Int)=0)=true from UD (Au g)];rfl
 ·refine mM (show decide ((n:Int)=0)=false from Uv (Aw g)) ?_
  by_cases c:m=0
  ·rw[Vo (.inr c),show decide ((m:Int)=0)=true from UD (Au c)];rfl
  ·rw[show decide ((m:Int)=0)=false from Uv (Aw c),Vn (LW g c)];rfl
noncomputable def vg:V->V
 |.none=>.none
 |v=>.tup [v,.int 1]
theorem kt {c:Cx}{e:Expr}{f:V->V}(q:GO e=true)(g:b6 (.list n) (GP e)=true)(x:h[n]?=some (.list l))(y:l.length<C.wf)
  (o:∀v∈l,bS C m c e v mr h=.ok (some (f v)) h):cF C.wf (Ic C m) c e (.list n) h=.ok (l.map f) h:=by
 rw[fQ q g];have:=jH (turn:=λv=>bS C m c e v mr) (f:=λv=>some (f v)) x o C.wf 0 [] (QI y);rw[this]
 simp
theorem vh(v:V):bS C 21 (aw "_law_items" (aq "_law_items") b) (aX (bG (aG "_law_items" [1,0,0])) []) v mr h=.ok (some (vg v)) h:=by
 rw[wS];unfold oz;cases v<;>rfl
def b7(k:Str)(x:Vc):List V:=if k= "double"/\x.kind≠ "double" then x.items.map vg else x.items
theorem eu(k:Str)(x:Vc):(b7 k x).length=x.items.length:=by
 unfold b7;split<;>simp
theorem jh {x:Vc}(c:IsV P h v x)(k:Str)(U:4200<wf):
  ∃r h',T ai wf 24 (j+1) "_law_items" [v,.str k] h=.ok (.ref r) h'/\Gr h h'/\h.length<=r/\h'[r]?=some (.list (b7 k x)):=by
 refine bO (T ai wf 24 (j+1) "_law_items" [v,.str k] h) λY G=>?_;rw[aK (by kernel_rfl) (by kernel_rfl),z5];refine az c.kind<|bC (aY ..) ?_;by_cases o:x.kind= "NULL"
 ·refine EF (UD o)<|az ((aH _ _))<|G _<|aU _ _ ⟨rfl,Keep.app _,U9 _, ?_⟩
  unfold b7;rw[c.null_items o]
  split<;>exact ay _ _
 refine Be (Uv o)<|aP (c.items o) λi Z J A=>?_;have plain:b7 k x=x.items-> ∃r h',(mq (aM v "items") λL=>mq (builtin "list" [L]) λX=>mr X) h=.ok (.ref r) h'/\Gr h h'/\h.length<=r/\h'[r]?=some (.list (b7 k x)):=λq=>by
  rw[aa J,aa (hW A (lz c.len)),q];exact aU _ _ ⟨rfl,Keep.app _,U9 _,ay _ _⟩
 have g:b7 k x=x.items.map vg-> ∃r h',(mq (aM v "items") λS=>mq (bY S) λF=>mq (cF (Tj wf j).wf (Ic (Tj wf j) 21) (aw "_law_items" (aq "_law_items") h.length) (aX (bG (aG "_law_items" [1,0,0])) []) F) λz=>mq (aC (.list z)) λW=>mr W) h=.ok (.ref r) h'/\Gr h h'/\h.length<=r/\h'[r]?=some (.list (b7 k x)):=λq=>by
  rw[aa J,aa (dg A),aa (kt (f:=vg) (by kernel_rfl) (by kernel_rfl) A (by have:=c.len;show _<wf;exact Px U this) λv Z=>vh v),aa (aH _ _),q];exact aU _ _ ⟨rfl,Keep.app _,U9 _,ay _ _⟩
 refine G _ ?_;dsimp only;by_cases hd:k= "double"
 ·unfold iq;rw[aY,ae,UD hd,Vj,aa c.kind,iJ,ae]
  by_cases y:x.kind= "double"
  ·rw[UD y];exact plain (Vn λq=>q.2 y)
  ·rw[Uv y];exact g (Vo ⟨hd,y⟩)
 ·unfold iq;rw[aY,ae,Uv hd,Ve];exact plain (Vn λq=>hd q.1)
noncomputable def dE(k:Str):Prop:=k= "NULL"\/k= "logical"\/k= "integer"\/k= "double"
theorem pG(s a b c:Str):cmp .NotIn (.str s) (.tup [.str a,.str b,.str c])=mr (!(decide (s=a\/s=b\/s=c))):=by
 have e:cmp .NotIn (.str s) (.tup [.str a,.str b,.str c])=mr (!(decide (a=s)||(decide (b=s)||(decide (c=s)||false)))):=by kernel_rfl
 rw[e]
 congr 2
 simp[eq_comm]
theorem SE(s a b:Str):cmp .In (.str s) (.tup [.str a,.str b])=mr (decide (s=a\/s=b)):=by
 have e:cmp .In (.str s) (.tup [.str a,.str b])=mr ((decide (a=s)||(decide (b=s)||false))):=by kernel_rfl
 rw[e]
 congr 1
 simp[eq_comm]
theorem Nh(s a b:Str):cmp .NotIn (.str s) (.tup [.str a,.str b])=mr (!decide (s=a\/s=b)):=by
 have e:cmp .NotIn (.str s) (.tup [.str a,.str b])=mr (!(decide (a=s)||(decide (b=s)||false))):=by kernel_rfl
 rw[e]
 congr 2
 simp[eq_comm]
theorem gf {x:Vc}(g:IsV P h v x)(o:dE x.kind):
  ∃r h',T ai wf 24 (j+1) "number_items" [v] h=.ok (.ref r) h'/\Gr h h'/\h'[r]?=some (.list x.items)/\(P r\/h.length<=r):=by
 rw[aK (by kernel_rfl) (by kernel_rfl),mD];unfold iV;unfold iq;rw[aa g.kind,aY,ae];by_cases c:x.kind= "NULL"
 ·rw[UD c,Vj,aa (aH _ _),g.null_items c]
  exact aU _ _ ⟨rfl,Keep.app _,ay _ _,.inr (U9 _)⟩
 ·rw[Uv c,Ve,aa g.kind,pG,ae,UD (o.resolve_left c)]
  refine aP (g.items c) λi q z y=>?_;show ∃r h',mq (aM v "items") _ h=_/\_;rw[aa z];exact aU _ _ ⟨rfl,Keep.refl,y,.inl q⟩
theorem mT {x:Vc}(g:IsV P h v x)(c:¬dE x.kind):
  T ai wf 24 (j+1) "number_items" [v] h=.exc (.str "non-numeric argument to binary operator") h:=by
 rw[aK (by kernel_rfl) (by kernel_rfl),mD];unfold iV;unfold iq;rw[aa g.kind,aY,ae];have o:x.kind≠ "NULL":=λq=>c (.inl q);rw[Uv o,Ve,aa g.kind,pG,ae,Uv λq=>c (.inr q)];rfl
theorem mU {x:Vc}(o:IsV P h v x)(z:dE x.kind)(A:x.kind≠ "double"-> ∀v∈x.items,v=.none\/ ∃i:Int,v=.int i)(F:4200<wf):
  ∃r h',T ai wf 24 (j+2) "double_items" [v] h=.ok (.ref r) h'/\Gr h h'/\h'[r]?=some (.list (b7 "double" x)):=by
 rw[aK (by kernel_rfl) (by kernel_rfl),uE];unfold mE;refine bM (gf (wf:=wf) (j:=j) o z) λr h' e g y Z=>?_;unfold iq;rw[aa e,aa (o.keep g.keep).kind,aY,ae];unfold b7;by_cases hd:x.kind= "double"
 ·rw[UD hd,Vn λq=>q.2 hd]
  exact aU r h' ⟨rfl,g,y⟩
 ·rw[Uv hd,Vo ⟨rfl,hd⟩,Ve,aa (dg y)]
  rw[aa (kt (f:=vg) (by kernel_rfl) (by kernel_rfl) y (by have:=o.len;show _<wf;exact Px F this) λv c=>by
   rw[rC];unfold kl;rcases A hd v c with rfl|⟨i,rfl⟩
   ·exact(aa (ta (wf:=wf) (j:=j) none)).trans rfl
   ·exact(aa (ta (wf:=wf) (j:=j) (some i))).trans rfl),aa (aH _ _)]
  exact aU _ _ ⟨rfl,g.trans (Keep.app _),ay _ _⟩
theorem gZ {c β:Type}{m:M c}{f:c->M β}{e:V}(q:m h=.exc e h'):mq m f h=.exc e h':=by
 unfold mq;rw[q]
noncomputable def bH(l:List Int):List V:=l.map .int
noncomputable def dD(l:List Int):Int:=l.foldl (· * ·) 1
def dZ(x:Vc):Option (List Int)->Prop
 |none=>x.att "dim"=none
 |some ds=>x.att "dim"=some (("integer":Str),bH ds)/\dD ds=x.items.length/\(∀d∈ds,0<d/\d<=9)/\ds.length<=2
theorem CQ {f:V->V->Option Bool}(c:∀a b:Int,f (.int a) (.int b)=some (decide (a=b)))(a:List Int):∀b:List Int,∃r,gE f (bH a) (bH b)=some r/\(r&&decide (a.length=b.length))=decide (a=b):=by
 induction a using List.rec with
 |nil=>
  intro b;induction b using Vr with
  |nil=>exact⟨true,rfl,rfl⟩
  |cons=>exact⟨true,rfl,rfl⟩
 |cons x xs ih=>
  intro b;induction b using Vr with
  |nil=>exact⟨true,rfl,rfl⟩
  |cons y ys=>
   refine ac (ih ys) λr q o=>⟨decide (x=y)&&r,jo (c x y) q, ?_⟩;rw[Bool.and_assoc,show decide ((x::xs).length=(y::ys).length)=decide (xs.length=ys.length) by simp,o];by_cases g:x=y<;>simp[g]
theorem Bq {a b:List Int}(o:h[m]?=some (.list (bH a)))(q:h[n]?=some (.list (bH b))):cmp .NotEq (.ref m) (.ref n) h=.ok (!decide (a=b)) h:=by
 refine gc ?_;rw[jI o q];refine ac (CQ (f:=eO h) (λa b=>rfl) a b) λr g c=>?_;rw[g,<-c];simp[bH]
theorem CS(l:List Int)(x:Int):dD (l++ [x])=dD l*x:=by simp[dD]
theorem CT:∀l:List Int,(∀d∈l,0<d/\d<=9)->0<=dD l/\dD l<=9^l.length:=by
 intro l;have key:∀(l:List Int) (a:Int),0<=a->(∀d∈l,0<d/\d<=9)->0<=l.foldl (· * ·) a/\l.foldl (· * ·) a<=a*9^l.length:=by
  intro l;induction l with
  |nil=>intro a c _;simpa using c
  |cons x r ih=>
   intro a c hd;have o:=hd x (by simp);have:=ih (a*x) (Int.mul_nonneg c (Mb o)) λd g=>hd d (by simp[g]);refine⟨this.1,UP this.2 ?_⟩;rw[T9,Int.pow_succ,UR _ (9:Int),<-UE];exact Int.mul_le_mul_of_nonneg_right (Int.mul_le_mul_of_nonneg_left o.2 c) (UO (U7 (by decide)))
 intro hd;have:=key l 1 (by decide) hd;simpa [dD]using this
theorem Br(k:Nat)(c:k<=2000):2^k<=2^2000:=Tx (by decide) c
theorem wb {k:Nat}(h0:0<=a)(h:a<2^60):a.natAbs<2^2000:=TU (RK h0 h:a.natAbs<2^60) (Br 60 (by decide))
theorem EQ(S:h[r]?=some (.list (bH ds)))(hd:∀d∈ds,0<d/\d<=9)(J:ds.length<=2)(hw:40<wf):
  T ai wf 24 (j+1) "product" [.ref r] h=.ok (.int (dD ds)) h:=by
 rw[aK (by kernel_rfl) (by kernel_rfl),Ew];refine aN ((dg S)) ?_;have U:=bX (body:=λv l=>aJ (Tj wf j) 23 "product" h.length [1] v l λY l=>mr (Y,l)) (it:=.list r) (bH ds)
  (λi lc h'=>h'=h/\(lc=([("numbers",.ref r),("found",.int (dD (ds.take i)))]:Loc)\/ ∃v,lc=([("numbers",.ref r),("found",.int (dD (ds.take i))),("value",v)]:Loc)))
  (λi lc h' o=>by rw[o.1];exact lm S)
  (λi v lc h' Z o=>by
   refine am (SV.mp Z) λW y=>?_;have x:i<ds.length:=by simpa [bH]using W
   have X:v=.int ds[i]:=by rw[<-y];simp[bH]
   subst X;obtain⟨rfl,o⟩:=o;have c:=CT (ds.take i) λd A=>hd d (Tv A);have g:=hd _ (T7 x);have e9:dD (ds.take i)<=81:=by
    have:(ds.take i).length<=2:=by simp;exact tt (Nat.min_le_right _ _) J
    rcases Nat.lt_or_ge (ds.take i).length 1 with q|q
    ·rw[show(ds.take i).length=0 from R6 q]at c;exact UP c.2 (by decide)
    rcases Nat.lt_or_ge (ds.take i).length 2 with z|z
    ·rw[show(ds.take i).length=1 from Nat.le_antisymm (Nat.le_of_lt_succ z) q]at c;exact UP c.2 (by decide)
    ·rw[show(ds.take i).length=2 from Qi this z]at c;exact RI c
   have L:=bn (a:=dD (ds.take i)) (b:=ds[i]) (wb (k:=0) c.1 (TK e9 (by decide))) (wb (k:=0) (Mb g) (TK g.2 (by decide)));have et:dD (ds.take (i+1))=dD (ds.take i)*ds[i]:=by rw[bv x,CS]
   rw[et];refine bJ .next [("numbers",.ref r),("found",.int (dD (ds.take i)*ds[i])),("value",.int ds[i])] h' ⟨?_,.inl rfl,rfl,.inr ⟨_,rfl⟩⟩;rcases o with rfl|⟨v,rfl⟩
   ·rw[yr]
    unfold iG;rw[L];rfl
   ·rw[yt]
    unfold iG;rw[L];rfl)
  wf 0 [("numbers",.ref r),("found",.int 1)] h o1 (by simp[bH];exact RY J hw) ⟨rfl,.inl rfl⟩
 refine aV (U) λl' h' e F G=>?_;subst F;refine aN ((show bF (Tj wf j) 23 "product" h'.length [1] (.list r) [("numbers",.ref r),("found",(.int 1))] h'=_ from(cC (by kernel_rfl)).trans e)) ?_;rw[show ds.take (bH ds).length=ds by simp[bH]]at G;rcases G with rfl|⟨v,rfl⟩
 ·show bj _ _ _ _ _=_
  rw[yu];rfl
 ·show bj _ _ _ _ _=_
  rw[yv];rfl
theorem bB(a b:Str):(a++b).length=a.length+b.length:=by
 show(a.cps++b.cps).size=a.cps.size+b.cps.size
 exact Array.size_append
noncomputable def S_(a:Nat):Str:=Str.ofString (toString (a:Int))
theorem iK {a:Nat}(h:a<=9):(S_ a).length=1:=by
 have:∀a:Fin 10,(S_ a.val).length=1:=by decide
 exact this ⟨a,by exact RD h⟩
theorem Bs {acc:Str}{a:Nat}(c:a<=9)(q:acc.length<=4000):part acc (.int a)=mr (acc++S_ a):=by
 have g:=iK c;unfold S_ at g
 show(if(a:Int).natAbs<2^1000/\acc.length+(Str.ofString (toString (a:Int))).length<=line then mr (acc++Str.ofString (toString (a:Int)))else bad)=_
 have o:(a:Int).natAbs<2^1000:=TU (Mj c:(a:Int).natAbs<2^4) (Tx (by decide) (by decide));rw[Vo ⟨o,by rw[g];unfold line;exact Ru q⟩];rfl
def CU(a t:Nat):Str:=(((Str.ofString "dims [product "++S_ a)++Str.ofString "] do not match the length of object [")++S_ t)++Str.ofString "]"
def tD(C:Tb)(x z c:V):M V:=let t16:M V:=mr .none;let f17:M V:=mq (C.f "recycle_length" [x,z]) λo=>mq (C.f "product" [c]) λF=>mq (cmp .NotEq F o) λL=>bif L then(if(Str.empty).length+(Str.ofString "dims [product ").length<=line then(mq (C.f "product" [c]) λG=>mq (part (Str.empty++Str.ofString "dims [product ") G) λq=>if(q).length+(Str.ofString "] do not match the length of object [").length<=line then(mq (part (q++Str.ofString "] do not match the length of object [") o) λg=>if(g).length+(Str.ofString "]").length<=line then((λh=>.exc (.str (g++Str.ofString "]")) h))else bad)else bad)else bad)else(mr c);let t22:M V:=t16;let f23:M V:=let t18:M V:=t16;let f19:M V:=f17;mq (cmp .Eq z (.int 0)) λS=>bif S then(mq (cmp .Gt x (.int 0)) λA=>bif A then(t18)else(f19))else(f19);mq (cmp .Eq x (.int 1)) λJ=>bif J then(mq (cmp .Gt z (.int 1)) λy=>bif y then(t22)else(f23))else(f23)
def yQ(C:Tb)(g o q x:V):M V:=mq (cmp .Is q .none) λc=>bif c then(tD C o g x)else(tD C g o q)
def tE(C:Tb)(x y o q:V):M V:=mq (cmp .Is o .none) λc=>bif c then(mq (cmp .Is q .none) λg=>bif g then(mr .none)else(yQ C x y o q))else(yQ C x y o q)
def pH(C:Tb)(b:Nat)(y z:V):M V:=mq (C.f "length" [y]) λx=>mq (C.f "length" [z]) λA=>mq (C.f "dim_of" [y]) λc=>mq (C.f "dim_of" [z]) λg=>
  mq (cmp .IsNot c .none) λo=>bif o then(mq (cmp .IsNot g .none) λq=>bif q then(mq (cmp .NotEq c g) λF=>bif F then((λh=>.exc (.str "non-conformable arrays") h))else(mr c))else(tE C x A c g))else(tE C x A c g)
theorem yR(C:Tb)(b:Nat)(c g:V)(h:List O):Bd C "result_dim" [c,g] b h=pH C b c g h:=by kernel_rfl
inductive DR where
 |no
 |bad (msg:Str)
 |dim (ds:List Int)
def ce(a:List Int)(n m:Nat):DR:=if(n=1/\m>1)\/(m=0/\n>0)then .no else if n=aL n m then .dim a else .bad (CU n (aL n m))
def cf:Option (List Int)->Option (List Int)->Nat->Nat->DR
 |some a,some b,_,_=>if a=b then .dim a else .bad "non-conformable arrays"
 |none,none,_,_=>.no
 |some a,none,n,m=>ce a n m
 |none,some b,n,m=>ce b m n
theorem mV(g:n<=9)(c:m<=9):aL n m<=9:=by unfold aL;split<;>omega
def l6(m:M V)(h:List O)(q:DR):Prop:=match q with
 |.no=>∃h',m h=.ok .none h'/\Gr h h'
 |.bad e=>∃h',m h=.exc (.str e) h'/\Gr h h'
 |.dim ds=>∃r h',m h=.ok (.ref r) h'/\Gr h h'/\h'[r]?=some (.list (bH ds))
theorem wc(Z:h[r]?=some (.list (bH ds)))(hd:∀d∈ds,0<d/\d<=9)(hl:ds.length<=2)(hp:dD ds=n)(L:n<=9)(hm:m<=9)(hw:40<wf):
  l6 (tD (Tj wf (j+1)) (.int n) (.int m) (.ref r)) h (ce ds n m):=by
 have A:¬((n=1/\m>1)\/(m=0/\n>0))->l6 (mq (T ai wf 24 (j+1) "recycle_length" [.int n,.int m]) λJ=>mq (T ai wf 24 (j+1) "product" [.ref r]) λX=>mq (cmp .NotEq X J) λW=>bif W then(if(Str.empty).length+(Str.ofString "dims [product ").length<=line then(mq (T ai wf 24 (j+1) "product" [.ref r]) λU=>mq (part (Str.empty++Str.ofString "dims [product ") U) λF=>if(F).length+(Str.ofString "] do not match the length of object [").length<=line then(mq (part (F++Str.ofString "] do not match the length of object [") J) λG=>if(G).length+(Str.ofString "]").length<=line then((λh=>.exc (.str (G++Str.ofString "]")) h))else bad)else bad)else bad)else(mr (.ref r))) h (ce ds n m):=λq=>by
  unfold ce;rw[Vn q];have e1:=wa (wf:=wf) (j:=j) (n:=n) (m:=m) (h:=h);have S:=EQ (j:=j) Z hd hl hw;rw[hp]at S;by_cases o:n=aL n m
  ·rw[Vo o]
   refine⟨r,h, ?_,Keep.refl,Z⟩;refine aN e1<|aN S<|aQ (dY ..) ?_;rw[show decide ((n:Int)=(aL n m:Nat))=true from UD (Pr o)];rfl
  ·rw[Vn o]
   refine⟨h, ?_,Keep.refl⟩;have Y:=mV L hm;have k1:(Str.ofString "dims [product ").length=14:=by decide
   have k2:(Str.ofString "] do not match the length of object [").length=37:=by decide
   have k3:(Str.ofString "]").length=1:=by decide
   refine aN e1<|aN S<|aQ (dY ..) ?_;rw[show decide ((n:Int)=(aL n m:Nat))=false from Uv (LC o)];refine oA Uz ?_;rw[Vo (by decide)];refine aN S ?_;rw[show Str.empty++Str.ofString "dims [product "=Str.ofString "dims [product " by decide];refine aQ (Bs L (by rw[k1];decide) ..) ?_;rw[Vo (by rw[bB,iK L,k1,k2];decide)];refine aQ (Bs Y (by rw[bB,bB,iK L,k1,k2];decide) ..) ?_;rw[Vo (by rw[bB,bB,bB,iK L,iK Y,k1,k2,k3];decide)];rfl
 unfold tD;dsimp only;simp only[bA,cJ,ae];have no:(n=1/\m>1)\/(m=0/\n>0)->l6 (mr V.none) h (ce ds n m):=λq=>by
  unfold ce;rw[Vo q];exact⟨h,rfl,Keep.refl⟩
 have c:¬(n=1/\m>1)->l6 (bif decide ((m:Int)=0)then(bif decide ((n:Int)>0)then mr V.none else _)else _) h (ce ds n m):=λq=>by
  by_cases z:m=0
  ·rw[show decide ((m:Int)=0)=true from UD (Au z),Vj]
   by_cases g:n>0
   ·rw[show decide ((n:Int)>0)=true from UD (Ar g),Vj];exact no (.inr ⟨z,g⟩)
   ·rw[show decide ((n:Int)>0)=false from Uv (Av g),Ve];exact A (λh=>h.elim (λh=>g (Nat.lt_of_lt_of_eq Nat.one_pos h.1.symm)) λh=>g h.2)
  ·rw[show decide ((m:Int)=0)=false from Uv (Aw z),Ve];exact A (λh=>h.elim q λh=>z h.1)
 by_cases x:n=1
 ·rw[show decide ((n:Int)=1)=true from UD (Li x),Vj]
  by_cases y:m>1
  ·rw[show decide ((m:Int)>1)=true from UD (UU.mpr y),Vj];exact no (.inl ⟨x,y⟩)
  ·rw[show decide ((m:Int)>1)=false from Uv (λh=>y (UU.mp h)),Ve];exact c (λh=>y h.2)
 ·rw[show decide ((n:Int)=1)=false from Uv (Lg x),Ve];exact c (QX x)
noncomputable abbrev Vu:=@Mine.DR.casesOn.{0}
theorem l6.pre {m m':M V}{q:DR}(d:l6 m' h' q)(g:Gr h h')(e:m h=m' h'):l6 m h q:=by
 induction q using Vu with
 |no=>refine ac (d) λc x o=>?_;exact⟨c,e.trans x,g.trans o⟩
 |bad msg=>refine ac (d) λc x o=>?_;exact⟨c,e.trans x,g.trans o⟩
 |dim ds=>refine aV (d) λr c x o l=>?_;exact⟨r,c,e.trans x,g.trans o,l⟩
def CV(h:List O):Option (List Int)->V->Prop
 |none,r=>r=.none
 |some ds,r=>∃n,r=.ref n/\h[n]?=some (.list (bH ds))
theorem CV.keep {d:Option (List Int)}{r:V}(a:CV h d r)(g:Gr h h'):CV h' d r:=by
 induction d using Vp with
 |none=>exact a
 |some ds=>refine ac (a) λn e l=>?_;exact⟨n,e,g.get _ _ trivial l⟩
theorem kq.to {x:Vc}{d:Option (List Int)}{r:V}(a:kq h h' x.att r)(hd:dZ x d):CV h' d r:=by
 induction d using Vp with
 |none=>
  have e:x.att "dim"=none:=hd;unfold kq at a;rw[e]at a;exact a
 |some ds=>
  have e:=hd.1;unfold kq at a;rw[e]at a;refine aP (a) λn e Z l=>⟨n,e,l⟩
theorem pI {Q:Nat->Prop}{x y:Vc}{L z:Option (List Int)}(hu:IsV P h u x)(hv:IsV Q h v y)(J:dZ x L)(A:dZ y z)
  (hx:x.items.length<=9)(hy:y.items.length<=9)(hw:40<wf):l6 (T ai wf 24 (j+3) "result_dim" [u,v]) h (cf L z x.items.length y.items.length):=by
 refine aV (kr (wf:=wf) (j:=j) hu) λq h3 e3 Z X=>aV (kr (wf:=wf) (j:=j) (hv.keep Z.keep)) λF o e4 g4 Y=>?_;have l3:=(X.to J).keep g4;have G:=Y.to A;have ec:T ai wf 24 (j+3) "result_dim" [u,v] h=pH (Tj wf (j+2)) h.length u v h:=by
  rw[aK (by kernel_rfl) (by kernel_rfl),yR]
 have e:T ai wf 24 (j+3) "result_dim" [u,v] h=(mq (cmp .IsNot q .none) λW=>bif W then(mq (cmp .IsNot F .none) λU=>bif U then(mq (cmp .NotEq q F) λS=>bif S then((λh=>.exc (.str "non-conformable arrays") h))else(mr q))else(tE (Tj wf (j+2)) (.int x.items.length) (.int y.items.length) q F))else(tE (Tj wf (j+2)) (.int x.items.length) (.int y.items.length) q F)) o:=by
  rw[ec];refine aN ((dy (j:=j+1) hu))<|aN ((dy (j:=j+1) hv))<|aN e3<|aN e4 ?_;with_reducible rfl
 refine l6.pre ?_ (Z.trans g4) e
 clear e ec e3 e4 X Y
 induction L using Vp with
 |none=>
  obtain rfl:=l3;induction z using Vp with
  |none=>
   obtain rfl:=G;exact⟨o,rfl,Keep.refl⟩
  |some b=>
   refine ac (G) λn c l=>?_;subst c;exact wc l A.2.2.1 A.2.2.2 A.2.1 hy hx hw
 |some a=>
  refine ac (l3) λm c l=>?_;subst c;induction z using Vp with
  |none=>
   obtain rfl:=G;exact wc l J.2.2.1 J.2.2.2 J.2.1 hx hy hw
  |some b=>
   refine ac (G) λn c l'=>?_;subst c;have en:=Bq l l';show l6 (mq (cmp .NotEq (.ref m) (.ref n)) λS=>bif S then((λh=>.exc (.str "non-conformable arrays") h))else(mr (.ref m))) o (if a=b then .dim a else .bad "non-conformable arrays");by_cases g:a=b
   ·rw[Vo g]
    refine⟨m,o, ?_,Keep.refl,l⟩;refine aN en ?_;rw[UD g];rfl
   ·rw[Vn g]
    refine⟨o, ?_,Keep.refl⟩;refine aN en ?_;rw[Uv g];rfl
noncomputable def eY:V:=.str "longer object length is not a multiple of shorter object length"
noncomputable def eZ:V:=.str "Recycling array of length 1 in array-vector arithmetic is deprecated\n  Use c() or as.vector() instead."
def co(m:M V)(N:Nat)(h:List O)(l:List V)(r:V):Prop:=∃h',m h=.ok r h'/\Keep (λn=>n≠N) h h'/\h'[N]?=some (.list l)
noncomputable def gA(n m:Nat):Bool:=decide (n>0)&&decide (m>0)&& !decide (max n m%min n m=0)
noncomputable def ca(c:Bool)(l:List V)(v:V):List V:=if c then l++ [v]else l
theorem pJ(c:h[N]?=some (.list l))(g:l.length<=4096)(t r:V):co (mq (bQ (.ref N) "append") λZ=>mq (bN (.ref N) "append" [t]) λo=>mr r) N h (l++ [t]) r:=by
 unfold co;rw[aa (cP c (by decide)),aa (dh c (TT g (by decide)))];exact⟨_,rfl,Keep.set (by simp),bg c⟩
theorem rG {wf j n m N:Nat}(o:h[N]?=some (.list l))(x:l.length<=4096):
  co (T ai wf 24 (j+1) "note_recycling" [.int n,.int m,.ref N]) N h (ca (gA n m) l eY) .none:=by
 have e:T ai wf 24 (j+1) "note_recycling" [.int n,.int m,.ref N] h=gU (Tj wf j) h.length (.int n) (.int m) (.ref N) h:=by
  rw[aK (by kernel_rfl) (by kernel_rfl),rn]
 unfold co;rw[e];unfold gU;simp only[iq,cJ,ae,vf,Bp];have t:=pJ o x eY .none;have f:co (mr V.none) N h l .none:=⟨h,rfl,Keep.refl,o⟩;unfold gA ca;by_cases g:n>0
 ·rw[show decide ((n:Int)>0)=true from UD (Ar g),Vj,UD g]
  by_cases c:m>0
  ·rw[show decide ((m:Int)>0)=true from UD (Ar c),Vj,UD c]
   rw[aD (L8 g c),ae,SN _ Pg,dY,ae];have q:decide (((max n m:Nat):Int)%((min n m:Nat):Int)=0)=decide (max n m%min n m=0):=by
    apply Uj.mpr;rw[<-Int.natCast_emod];exact Pu
   rw[q];cases decide (max n m%min n m=0)
   ·exact t
   ·exact f
  ·rw[show decide ((m:Int)>0)=false from Uv (Av c),Ve,Uv c];exact f
 ·rw[show decide ((n:Int)>0)=false from Uv (Av g),Ve,Uv g];exact f
def tF(C:Tb)(u v:V)(j:V->M V):M V:=mq (C.f "dim_of" [u]) λy=>mq (cmp .IsNot y .none) λg=>mq (truth (.bool g)) λx=>bif x then(mq (C.f "dim_of" [v]) λG=>mq (cmp .Is G .none) λo=>mq (truth (.bool o)) λF=>bif F then(mq (C.f "length" [u]) λq=>mq (cmp .Eq q (.int 1)) λc=>mq (truth (.bool c)) λz=>bif z then(mq (C.f "length" [v]) λA=>mq (cmp .Gt A (.int 1)) λJ=>j (.bool J))else(j (.bool c)))else(j (.bool o)))else(j (.bool g))
noncomputable def gB(g c:Option (List Int))(n m:Nat):Bool:=g.isSome&&c.isNone&&decide (n=1)&&decide (m>1)
theorem yS {Q:Nat->Prop}{x y:Vc}{A z:Option (List Int)}(G:IsV P h u x)(S:IsV Q h v y)(h1:dZ x A)(h2:dZ y z)(k:V->M V):
  ∃h',tF (Tj wf (j+2)) u v k h=k (.bool (gB A z x.items.length y.items.length)) h'/\Gr h h':=by
 refine bO (tF (Tj wf (j+2)) u v k h) λgQ F=>?_;refine aV (kr (wf:=wf) (j:=j) G) λr3 h3 e3 g W=>aV (kr (wf:=wf) (j:=j) (S.keep g.keep)) λr4 J e4 o X=>?_;have L:=W.to h1;have U:=X.to h2;have lu:=dy (wf:=wf) (j:=j+1) ((G.keep g.keep).keep o.keep);have Y:=dy (wf:=wf) (j:=j+1) ((S.keep g.keep).keep o.keep);refine az e3 ?_;induction A using Vp with
 |none=>
  obtain rfl:=L;refine F _<|⟨h3,rfl,g⟩
 |some a=>
  refine ac (L) λm c Z=>?_;subst c;refine bC (fV ..)<|bC (aW ..)<|yF<|az e4 ?_;induction z using Vp with
  |some b=>
   refine ac (U) λn c Z=>?_;subst c;refine F _<|⟨J,rfl,g.trans o⟩
  |none=>
   obtain rfl:=U;refine bC (cu ..)<|bC (aW ..)<|yF<|az lu<|bC (bA ..)<|bC (aW ..)<|F _<|⟨J, ?_,g.trans o⟩;unfold gB;by_cases q:x.items.length=1
   ·refine oA (show decide ((x.items.length:Int)=1)=true from UD (Li q))<|aN Y<|aQ (cJ ..) ?_;rw[UD q]
    have:decide ((y.items.length:Int)>1)=decide (y.items.length>1):=Uj.mpr Ql;rw[this];rfl
   ·rw[show decide ((x.items.length:Int)=1)=false from Uv (Lg q),Ve,Uv q];rfl
def fB(C:Tb)(b:Nat)(q x c:V):M V:=tF C q x λF=>tF C x q λz=>mq (truth F) λg=>bif g then(mq (bQ c "append") λZ=>mq (ah .Add (.str "Recycling array of length 1 in array-vector arithmetic is deprecated\n") (.str "  Use c() or as.vector() instead.")) λo=>mq (bN c "append" [o]) λA=>mr .none)else(mq (truth z) λy=>bif y then(mq (bQ c "append") λZ=>mq (ah .Add (.str "Recycling array of length 1 in array-vector arithmetic is deprecated\n") (.str "  Use c() or as.vector() instead.")) λo=>mq (bN c "append" [o]) λA=>mr .none)else(mr .none))
theorem oO(C:Tb)(b:Nat)(g o c:V)(h:List O):Bd C "note_array_of_one" [g,o,c] b h=fB C b g o c h:=by kernel_rfl
noncomputable def ji(g c:Option (List Int))(n m:Nat):Bool:=gB g c n m||gB c g m n
theorem GY:ah .Add (.str "Recycling array of length 1 in array-vector arithmetic is deprecated\n") (.str "  Use c() or as.vector() instead.")=mr eZ:=by
 funext h
 have e:ah .Add (.str "Recycling array of length 1 in array-vector arithmetic is deprecated\n") (.str "  Use c() or as.vector() instead.") h=if(Str.ofString "Recycling array of length 1 in array-vector arithmetic is deprecated\n").length+(Str.ofString "  Use c() or as.vector() instead.").length<=line then .ok (.str (Str.ofString "Recycling array of length 1 in array-vector arithmetic is deprecated\n"++Str.ofString "  Use c() or as.vector() instead.")) h else .bad:=rfl;rw[e,Vo (by decide)];have c:(Str.ofString "Recycling array of length 1 in array-vector arithmetic is deprecated\n"++Str.ofString "  Use c() or as.vector() instead.")=Str.ofString "Recycling array of length 1 in array-vector arithmetic is deprecated\n  Use c() or as.vector() instead.":=by decide
 rw[c];rfl
theorem CW {Q:Nat->Prop}{x y:Vc}{q o:Option (List Int)}(L:IsV P h u x)(X:IsV Q h v y)(h1:dZ x q)(W:dZ y o)
  (hN:h[N]?=some (.list l))(hl:l.length<=4096):co (T ai wf 24 (j+3) "note_array_of_one" [u,v,.ref N]) N h (ca (ji q o x.items.length y.items.length) l eZ) .none:=by
 have e:T ai wf 24 (j+3) "note_array_of_one" [u,v,.ref N] h=fB (Tj wf (j+2)) h.length u v (.ref N) h:=by
  rw[aK (by kernel_rfl) (by kernel_rfl),oO]
 unfold fB at e;rw[GY]at e;simp only[ae]at e;refine aB λgP gH=>ac (yS (wf:=wf) (j:=j) L X h1 W (λx2=>tF (Tj wf (j+2)) v u λJ=>mq (truth x2) λc=>bif c then(mq (bQ (.ref N) "append") λZ=>mq (bN (.ref N) "append" [eZ]) λF=>mr .none)else(mq (truth J) λG=>bif G then(mq (bQ (.ref N) "append") λZ=>mq (bN (.ref N) "append" [eZ]) λF=>mr .none)else(mr .none)))) λh3 e3 A=>ac (yS (wf:=wf) (j:=j) (X.keep A.keep) (L.keep A.keep) W h1 (λJ=>mq (truth (.bool (gB q o x.items.length y.items.length))) λc=>bif c then(mq (bQ (.ref N) "append") λZ=>mq (bN (.ref N) "append" [eZ]) λF=>mr .none)else(mq (truth J) λG=>bif G then(mq (bQ (.ref N) "append") λZ=>mq (bN (.ref N) "append" [eZ]) λF=>mr .none)else(mr .none)))) λU e4 g4=>?_;have g:Gr h U:=A.trans g4;have z:=g.get _ _ trivial hN;refine aP (pJ z hl eZ .none) λY S k5 n5=>gH ?_;unfold co;rw[e,e3,e4];unfold ji ca;rw[aW,ae,aW,ae];induction gB q o x.items.length y.items.length using Vs with
 |true=>exact⟨Y,S,(g.keep).trans k5,n5⟩
 |false=>
  induction gB o q y.items.length x.items.length using Vs with
  |true=>exact⟨Y,S,(g.keep).trans k5,n5⟩
  |false=>exact⟨U,rfl,g.keep,z⟩
theorem pK {c:Bool}{l:List V}{v:V}:(ca c l v).length<=l.length+1:=by
 unfold ca;split<;>simp
def bE(g c:Option (List Int))(n m:Nat)(l:List V):List V:=ca (gA n m) (ca (ji g c n m) l eZ) eY
theorem GZ {Q:Nat->Prop}{x y:Vc}{z q:Option (List Int)}(W:IsV P h u x)(hv:IsV Q h v y)(h1:dZ x z)(Y:dZ y q)
  (X:∀n,P n->n≠N)(hQ:∀n,Q n->n≠N)(hN:h[N]?=some (.list l))(hl:l.length<=4000)(hx:x.items.length<=9)(hy:y.items.length<=9)(hw:40<wf):
  match cf z q x.items.length y.items.length with
  |.bad e=>∃h',T ai wf 24 (j+4) "common_length" [u,v,.ref N] h=.exc (.str e) h'/\Gr h h'
  |_=>co (T ai wf 24 (j+4) "common_length" [u,v,.ref N]) N h (bE z q x.items.length y.items.length l) (.int (aL x.items.length y.items.length)):=by
 have e:T ai wf 24 (j+4) "common_length" [u,v,.ref N] h=iE (Tj wf (j+3)) h.length u v (.ref N) h:=by
  rw[aK (by kernel_rfl) (by kernel_rfl),sF]
 have rd:=pI (j:=j) W hv h1 Y hx hy hw;have go:∀(r:V) (h':List O),T ai wf 24 (j+3) "result_dim" [u,v] h=.ok r h'->Gr h h'->co (T ai wf 24 (j+4) "common_length" [u,v,.ref N]) N h (bE z q x.items.length y.items.length l) (.int (aL x.items.length y.items.length)):=λr h' o g=>by
  unfold co;rw[e];unfold iE;rw[aa o];have J:=W.keep (g.keep (P:=P));have F:=hv.keep (g.keep (P:=Q));refine aP (CW (wf:=wf) (j:=j) J F h1 Y (g.get _ _ trivial hN) (Dr hl)) λh2' S k2 n2=>?_;rw[aa S];have G:=J.keep (k2.mono λn Z p=>X n p);have A:=F.keep (k2.mono λn Z p=>hQ n p);rw[aa (dy (j:=j+2) G),aa (dy (j:=j+2) A)];refine aP (rG (wf:=wf) (j:=j+2) (n:=x.items.length) (m:=y.items.length) n2 (by have:=pK (c:=ji z q x.items.length y.items.length) (l:=l) (v:=eZ);exact tt this (tt (Uh hl) (by decide)))) λh3 e3 k3 n3=>?_;rw[aa e3];have U:=G.keep (k3.mono λn Z p=>X n p);have L:=A.keep (k3.mono λn Z p=>hQ n p);rw[aa (dy (j:=j+2) U),aa (dy (j:=j+2) L),aa (wa (j:=j+2))];exact⟨h3,rfl,(g.keep.trans k2).trans k3,n3⟩
 induction hd:cf z q x.items.length y.items.length using Vu with
 |bad msg=>
  rw[hd]at rd;refine ac (rd) λh' o g=>⟨h', ?_,g⟩;rw[e];exact gZ o
 |no=>rw[hd]at rd;obtain⟨h',o,g⟩:=rd;exact go _ _ o g
 |dim ds=>rw[hd]at rd;obtain⟨r,h',o,g,_⟩:=rd;exact go _ _ o g
def iL(x y c g shape:V):M V:=iq .Gt x (.int 0) (iq .Gt y (.int 0) (mq (builtin "min" [x,y]) λo=>mq (ah .Mod g o) λq=>iq .NotEq q (.int 0) (mq (bQ c "append") λZ=>mq (bN c "append" [eY]) λz=>mr (.tup [.str "",shape,g])) (mr (.tup [.str "",shape,g]))) (mr (.tup [.str "",shape,g]))) (mr (.tup [.str "",shape,g]))
def ku(G J c g F a:V):M V:=iq .NotEq a g (mq (builtin "str" [a]) λo=>mq (ah .Add (.str "dims [product ") o) λy=>mq (ah .Add y (.str "] do not match the length of object [")) λq=>mq (builtin "str" [g]) λx=>mq (ah .Add q x) λz=>mq (ah .Add z (.str "]")) λA=>mr (.tup [A,.none,g])) (iL G J c g F)
def tG(g o c q x a b:V):M V:=iq .Eq b (.int 0) (iq .Gt a (.int 0) (iL g o c q .none) (ku g o c q x a)) (ku g o c q x a)
def lE(q x c z F y:V):M V:=mq (dS y) λg=>
 mq (cmp .Eq g.1 (.int 1)) λA=>bif A then(mq (cmp .Gt g.2 (.int 1)) λo=>bif o then(mq (bQ c "append") λZ=>mq (bN c "append" [eZ]) λG=>iL q x c z .none)else(tG q x c z F g.1 g.2))else(tG q x c z F g.1 g.2)
def lF(g o c x G L q:V):M V:=
 let f62:M V:=mq (cmp .IsNot q .none) λF=>bif F then(mq (cmp .IsNot G .none) λJ=>bif J then(lE g o c x q (.tup [g,o]))else(lE g o c x q (.tup [o,g])))else(iL g o c x q)
 mq (cmp .IsNot G .none) λz=>bif z then(mq (cmp .IsNot L .none) λy=>bif y then(mq (cmp .NotEq G L) λA=>bif A then(mr (.tup [(.str "non-conformable arrays"),.none,x]))else iL g o c x q)else f62)else f62
def lG(C:Tb)(z A q x c y:V):M V:=mq (C.f "_law_dims" [z]) λg=>mq (C.f "_law_dims" [A]) λo=>iq .IsNot g .none (lF q x c y g o g) (lF q x c y g o o)
def l7(C:Tb)(b:Nat)(q x g o c:V):M V:=iq .Eq g (.int 0) (lG C q x g o c (.int 0)) (iq .Eq o (.int 0) (lG C q x g o c (.int 0)) (mq (builtin "max" [g,o]) λy=>lG C q x g o c y))
theorem Ab(C:Tb)(b:Nat)(g o q x c:V)(h:List O):Bd C "_law_shape" [g,o,q,x,c] b h=l7 C b g o q x c h:=by kernel_rfl
theorem jp {n m N:Nat}(shape:V)(o:h[N]?=some (.list l))(y:l.length<=4096):co (iL (.int n) (.int m) (.ref N) (.int (aL n m)) shape) N h (ca (gA n m) l eY) (.tup [.str "",shape,.int (aL n m)]):=by
 have t:=pJ o y eY (.tup [.str "",shape,.int (aL n m)]);have f:co (mr (V.tup [.str "",shape,.int (aL n m)])) N h l (.tup [.str "",shape,.int (aL n m)]):=⟨h,rfl,Keep.refl,o⟩;unfold iL;simp only[iq,cJ,ae,Bp];unfold gA ca;by_cases g:n>0
 ·rw[show decide ((n:Int)>0)=true from UD (Ar g),Vj,UD g]
  by_cases c:m>0
  ·rw[show decide ((m:Int)>0)=true from UD (Ar c),Vj,UD c]
   rw[aD (L8 g c),ae,SN _ Pg,dY,ae];have x:aL n m=max n m:=by unfold aL;rw[Vn (λh=>h.elim (U1 g) (U1 c))]
   have q:decide (((aL n m:Nat):Int)%((min n m:Nat):Int)=0)=decide (max n m%min n m=0):=by
    rw[x];apply Uj.mpr;rw[<-Int.natCast_emod];exact Pu
   rw[q];cases decide (max n m%min n m=0)
   ·exact t
   ·exact f
  ·rw[show decide ((m:Int)>0)=false from Uv (Av c),Ve,Uv c];exact f
 ·rw[show decide ((n:Int)>0)=false from Uv (Av g),Ve,Uv g];exact f
theorem co.pre {m m':M V}{r:V}(a:co m' N h' l r)(k:Keep (λi=>i≠N) h h')(e:m h=m' h'):co m N h l r:=by
 refine aP (a) λg o k2 c=>⟨g,e.trans o,k.trans k2,c⟩
theorem Ni {a:Nat}:builtin "str" [.int a] h=if(a:Int).natAbs<2^1000 then .ok (.str (S_ a)) h else .bad:=by kernel_rfl
theorem we {a:Nat}(c:a<=9):builtin "str" [.int a]=mr (.str (S_ a)):=by
 funext h
 rw[Ni,Vo (TU (Mj c:(a:Int).natAbs<2^4) (Tx (by decide) (by decide)))];rfl
theorem add_str {a b:Str}(h:a.length+b.length<=line):ah .Add (.str a) (.str b)=mr (.str (a++b)):=by
 funext q;exact qc (UD h)
def yT(f:M V)(N:Nat)(h:List O)(n m:Nat)(l:List V)(r:V)(q:DR):Prop:=match q with
 |.bad e=>∃h',f h=.ok (.tup [.str e,.none,.int (aL n m)]) h'/\Keep (λi=>i≠N) h h'
 |.no=>co f N h l (.tup [.str "",.none,.int (aL n m)])
 |.dim _=>co f N h l (.tup [.str "",r,.int (aL n m)])
theorem ER {a:Nat}{r:V}(q:h[N]?=some (.list l))(x:l.length<=4000)(c:a<=9)(o:aL n m<=9):
  yT (ku (.int n) (.int m) (.ref N) (.int (aL n m)) r (.int a)) N h n m (ca (gA n m) l eY) r (if a=aL n m then .dim ds else .bad (CU a (aL n m))):=by
 by_cases g:a=aL n m
 ·rw[Vo g]
  have e:ku (.int n) (.int m) (.ref N) (.int (aL n m)) r (.int a)=iL (.int n) (.int m) (.ref N) (.int (aL n m)) r:=by
   unfold ku;unfold iq;rw[dY,ae,show decide ((a:Int)=(aL n m:Nat))=true from UD (Pr g)];rfl
  show co _ N h _ _;rw[e];exact jp r q (Dr x)
 ·rw[Vn g]
  refine⟨h, ?_,Keep.refl⟩;unfold ku;have k1:(Str.ofString "dims [product ").length=14:=by decide
  have k2:(Str.ofString "] do not match the length of object [").length=37:=by decide
  have k3:(Str.ofString "]").length=1:=by decide
  refine aQ (dY ..) ?_;rw[show decide ((a:Int)=(aL n m:Nat))=false from Uv (LC g)];refine oA Uz ?_;rw[we c,ae,add_str (by rw[k1,iK c];decide),ae,add_str (by rw[bB,k1,k2,iK c];decide),ae,we o,ae,
   add_str (by rw[bB,bB,k1,k2,iK c,iK o];decide),ae,add_str (by rw[bB,bB,bB,k1,k2,k3,iK c,iK o];decide),ae]
  rfl
theorem pM {n m N a b:Nat}{r:V}{ds:List Int}(A:h[N]?=some (.list l))(L:l.length<=4000)(W:a<=9)(Y:aL n m<=9)(U S:Option (List Int))
  (z:ji U S n m=(decide (a=1)&&decide (b>1)))(F:aL a b=aL n m):
  yT (lE (.int n) (.int m) (.ref N) (.int (aL n m)) r (.tup [.int a,.int b])) N h n m (bE U S n m l) r (ce ds a b):=by
 unfold lE;rw[show dS (.tup [.int a,.int b])=mr (V.int a,V.int b) from rfl,ae];dsimp only;simp only[bA,cJ,dY,ae];unfold bE;rw[z];by_cases g:a=1/\b>1
 ·have e:ce ds a b=.no:=Vo (.inl g)
  rw[e];rw[show decide ((a:Int)=1)=true from UD (QM g),Vj,show decide ((b:Int)>1)=true from UD (UU.mpr g.2),Vj];rw[UD g.1,UD g.2];have nn:=jp (n:=n) (m:=m) .none (bg (o:=.list (l++ [eZ])) A) (by simp;exact Qv L);refine co.pre nn (Keep.set (by simp))<|aN ((cP A (by decide)))<|aN ((dh A (TT L (by decide)))) ?_;with_reducible rfl
 have nn:(decide (a=1)&&decide (b>1))=false:=by
  by_cases q:a=1
  ·rw[Uv (λX=>g ⟨q,X⟩)];simp
  ·rw[Uv q];rfl
 rw[nn];have G:¬(b=0/\a>0)->yT (ku (.int n) (.int m) (.ref N) (.int (aL n m)) r (.int a)) N h n m (ca (gA n m) l eY) r (ce ds a b):=λq=>by
  unfold ce;rw[Vn (λh=>h.elim g q),F];exact ER A L W Y
 have y:yT (tG (.int n) (.int m) (.ref N) (.int (aL n m)) r (.int a) (.int b)) N h n m (ca (gA n m) l eY) r (ce ds a b):=by
  unfold tG;simp only[iq,bA,cJ,ae];by_cases J:b=0
  ·rw[show decide ((b:Int)=0)=true from UD (Au J),Vj]
   by_cases c:a>0
   ·rw[show decide ((a:Int)>0)=true from UD (Ar c),Vj]
    rw[show ce ds a b=.no from Vo (.inr ⟨J,c⟩)];exact jp .none A (Dr L)
   ·rw[show decide ((a:Int)>0)=false from Uv (Av c),Ve];exact G (λh=>c h.2)
  ·rw[show decide ((b:Int)=0)=false from Uv (Aw J),Ve];exact G (Ry J)
 show yT _ N h n m (ca (gA n m) l eY) r (ce ds a b);by_cases x:a=1
 ·rw[show decide ((a:Int)=1)=true from UD (Li x),Vj]
  rw[show decide ((b:Int)>1)=false from Uv (λh=>g ⟨x,UU.mp h⟩),Ve];exact y
 ·rw[show decide ((a:Int)=1)=false from Uv (Lg x),Ve];exact y
theorem ES(n m:Nat):aL n m=aL m n:=by
 unfold aL;by_cases h:n=0\/m=0
 ·rw[Vo h,Vo (RC h)]
 ·rw[Vn h,Vn (PZ h)];exact Nat.max_comm _ _
theorem Ac {Q:Nat->Prop}{x y:Vc}{d1 d2:Option (List Int)}(hu:IsV P h u x)(hv:IsV Q h v y)(h1:dZ x d1)(h2:dZ y d2)
  (hN:h[N]?=some (.list l))(hl:l.length<=4000)(hx:x.items.length<=9)(hy:y.items.length<=9):
  match cf d1 d2 x.items.length y.items.length with
  |.bad e=>∃h',T ai wf 24 (j+2) "_law_shape" [u,v,.int x.items.length,.int y.items.length,.ref N] h=.ok (.tup [.str e,.none,.int (aL x.items.length y.items.length)]) h'/\Keep (λi=>i≠N) h h'
  |.no=>co (T ai wf 24 (j+2) "_law_shape" [u,v,.int x.items.length,.int y.items.length,.ref N]) N h (bE d1 d2 x.items.length y.items.length l) (.tup [.str "",.none,.int (aL x.items.length y.items.length)])
  |.dim ds=>∃r h',T ai wf 24 (j+2) "_law_shape" [u,v,.int x.items.length,.int y.items.length,.ref N] h=.ok (.tup [.str "",.ref r,.int (aL x.items.length y.items.length)]) h'/\Keep (λi=>i≠N) h h'/\
    h'[N]?=some (.list (bE d1 d2 x.items.length y.items.length l))/\r≠N/\h'[r]?=some (.list (bH ds)):=by
 have e:T ai wf 24 (j+2) "_law_shape" [u,v,.int x.items.length,.int y.items.length,.ref N] h=l7 (Tj wf (j+1)) h.length u v (.int x.items.length) (.int y.items.length) (.ref N) h:=by
  rw[aK (by kernel_rfl) (by kernel_rfl),Ab]
 have e2:T ai wf 24 (j+2) "_law_shape" [u,v,.int x.items.length,.int y.items.length,.ref N] h=lG (Tj wf (j+1)) u v (.int x.items.length) (.int y.items.length) (.ref N) (.int (aL x.items.length y.items.length)) h:=by
  rw[e];unfold l7;simp only[iq,bA,ae,vf];unfold aL;by_cases o:x.items.length=0
  ·rw[Vo (.inl o),show decide ((x.items.length:Int)=0)=true from UD (Au o)];rfl
  ·rw[show decide ((x.items.length:Int)=0)=false from Uv (Aw o)];refine lh ?_
   by_cases hm:y.items.length=0
   ·rw[Vo (.inr hm),show decide ((y.items.length:Int)=0)=true from UD (Au hm)];rfl
   ·rw[show decide ((y.items.length:Int)=0)=false from Uv (Aw hm),Vn (LW o hm)];rfl
 refine aV (tC (wf:=wf) (j:=j) hu) λr3 h3 e3 g3 q3=>aV (tC (wf:=wf) (j:=j) (hv.keep g3.keep)) λr4 h4 e4 g4 q4=>?_;have l3:=(q3.to h1).keep g4;have l4:=q4.to h2;have g:Gr h h4:=g3.trans g4;have U:=g.get _ _ trivial hN;have J:T ai wf 24 (j+2) "_law_shape" [u,v,.int x.items.length,.int y.items.length,.ref N] h=(mq (cmp .IsNot r3 .none) λr65=>bif r65 then(lF (.int x.items.length) (.int y.items.length) (.ref N) (.int (aL x.items.length y.items.length)) r3 r4 r3)else(lF (.int x.items.length) (.int y.items.length) (.ref N) (.int (aL x.items.length y.items.length)) r3 r4 r4)) h4:=by
  rw[e2];refine aN e3<|aN e4 ?_;with_reducible rfl
 have hr:=mV hx hy;have W:Keep (λi=>i≠N) h h4:=g.keep;induction d1 using Vp with
 |none=>
  obtain rfl:=l3;induction d2 using Vp with
  |none=>
   obtain rfl:=l4;have fc:=jp (n:=x.items.length) (m:=y.items.length) .none U (Dr hl);exact co.pre fc W J
  |some b=>
   have q:=q4;unfold kq at q;rw[h2.1]at q;refine aP (q) λn A o l4'=>?_;subst A;have hle:=g3.len;have c:=aA hN;have fc:=pM (n:=x.items.length) (m:=y.items.length) (r:=.ref n) (ds:=b) (a:=y.items.length) (b:=x.items.length) U hl hy hr none (some b) (by unfold ji gB;simp) (ES _ _);show match ce b y.items.length x.items.length with|.bad e=>_|.no=>_|.dim ds=>_
   induction hq:ce b y.items.length x.items.length using Vu with
   |bad msg=>rw[hq]at fc;obtain⟨h',G,L⟩:=fc;exact⟨h',J.trans G,W.trans L⟩
   |no=>rw[hq]at fc;exact co.pre fc W J
   |dim ds=>
    rw[hq]at fc;refine aP (co.pre fc W J) λh' G L n'=>aP (fc) λz X k'' Z=>?_;have hh:z=h':=by have:=(J.trans X).symm.trans G;cases this;rfl
    subst hh;refine aU n z ⟨G,L,n',by exact Lv o hle c, ?_⟩;have Y:ds=b:=by
     unfold ce at hq
     split at hq
     ·cases hq
     ·split at hq
      ·cases hq;rfl
      ·cases hq
    rw[Y];exact k''.get _ _ (Lv o hle c) l4'
 |some a=>
  have q:=q3;unfold kq at q;rw[h1.1]at q;refine aP (q) λn A o l3'=>?_;subst A;have c:=aA hN;have F:=g4.get _ _ trivial l3';induction d2 using Vp with
  |none=>
   obtain rfl:=l4;have fc:=pM (n:=x.items.length) (m:=y.items.length) (r:=.ref n) (ds:=a) (a:=x.items.length) (b:=y.items.length) U hl hx hr (some a) none (by unfold ji gB;simp) rfl;show match ce a x.items.length y.items.length with|.bad e=>_|.no=>_|.dim ds=>_
   induction hq:ce a x.items.length y.items.length using Vu with
   |bad msg=>rw[hq]at fc;obtain⟨h',G,L⟩:=fc;exact⟨h',J.trans G,W.trans L⟩
   |no=>rw[hq]at fc;exact co.pre fc W J
   |dim ds=>
    rw[hq]at fc;refine aP (co.pre fc W J) λh' G L n'=>aP (fc) λz X k'' Z=>?_;have hh:z=h':=by have:=(J.trans X).symm.trans G;cases this;rfl
    subst hh;refine aU n z ⟨G,L,n',by exact qC o c, ?_⟩;have Y:ds=a:=by
     unfold ce at hq
     split at hq
     ·cases hq
     ·split at hq
      ·cases hq;rfl
      ·cases hq
    rw[Y];exact k''.get _ _ (qC o c) F
  |some b=>
   refine ac (l4) λn4 A l4'=>?_;subst A;have en:=Bq F l4';have e6:T ai wf 24 (j+2) "_law_shape" [u,v,.int x.items.length,.int y.items.length,.ref N] h=(mq (cmp .NotEq (.ref n) (.ref n4)) λr17=>bif r17 then(mr (.tup [(.str "non-conformable arrays"),.none,.int (aL x.items.length y.items.length)]))else iL (.int x.items.length) (.int y.items.length) (.ref N) (.int (aL x.items.length y.items.length)) (.ref n)) h4:=J;rw[aa en]at e6;show match (if a=b then DR.dim a else .bad "non-conformable arrays")with|.bad e=>_|.no=>_|.dim ds=>_
   by_cases S:a=b
   ·rw[Vo S]
    rw[UD S]at e6;have fc:=jp (n:=x.items.length) (m:=y.items.length) (.ref n) U (Dr hl);refine aP (fc) λh' G L n'=>aU n h' ⟨e6.trans G,W.trans L, ?_,by exact qC o c,L.get _ _ (qC o c) F⟩;unfold bE ji gB;exact n'
   ·rw[Vn S]
    rw[Uv S]at e6;exact⟨h4,e6,W⟩
def Lo:Q->Prop
 |none=>True
 |some (a,b)=>0<=b/\((a=0/\b=0)\/Nat.gcd a.natAbs b.natAbs=1)
theorem Lo.up {q:Q}(h:Lo q):Up q:=by rcases q with _|⟨a,b⟩<;>first|trivial|exact h.1
theorem Lo.end_ {q:Q}(h:Lo q):PH q:=by
 rcases q with _|⟨a,b⟩
 ·trivial
 ·intro c
  rcases h.2 with q|q
  ·exact QL q
  ·subst c;simp at q;exact Qb q
theorem ET {n:Int}(hd:0<d):Lo (eW n d):=by
 unfold eW;have o:0<Nat.gcd n.natAbs d.natAbs:=S4 _ (Dx hd);refine am (Nat.gcd_dvd_left n.natAbs d.natAbs) λa c=>am (Nat.gcd_dvd_right n.natAbs d.natAbs) λb x=>?_;generalize G:Nat.gcd n.natAbs d.natAbs=g at*;have A:(n/(g:Int)).natAbs=a:=by
  have:n=(g:Int)*(n.sign*a):=by
   rw[<-UE,UR (g:Int) n.sign,UE];have:=Int.sign_mul_natAbs n;rw[c]at this;rw[Int.natCast_mul]at this;exact this.symm
  rw[this,SZ _ (vw o),UB];by_cases z:n=0
  ·subst z
   have:a=0:=by
    have:g*a=0:=by simpa using c.symm
    rcases Nat.mul_eq_zero.mp this with q|q<;>omega
   rw[this];simp
  ·rw[Int.natAbs_sign_of_ne_zero z];simp
 have y:d/(g:Int)=b:=by
  have:d=(g:Int)*b:=by rw[<-Int.natCast_mul,<-x];exact RE hd
  rw[this,SZ _ (vw o)]
 refine⟨by rw[y];exact qE,.inr ?_⟩;rw[A,y];have:Nat.gcd (g*a) (g*b)=g:=by rw[<-c,<-x];exact G
 rw[Nat.gcd_mul_left]at this;have F:g*Nat.gcd a b=g*1:=by rw[this];simp
 have:=Nat.eq_of_mul_eq_mul_left o F;simpa using this
def c7(q:Q):Prop:=Lo q/\Sm 40 q
theorem Nj(n d:Int):s5 n d=vq (eW n d):=rfl
theorem iZ {i:Int}(c:h[n]?=some (.list l))(h0:0<=i)(o:l[i.toNat]?=some v)(g:i<2^62):ak (.ref n) (.int i) h=.ok v h:=by
 have:=pu (i:=i.toNat) c o (Qj g);rw[TB h0]at this;exact this
theorem c8.gr(a:c8 r h)(g:Gr h h'):c8 r h':=c8.keep a g trivial
theorem yU(h0:0<a)(h:a<100):a.natAbs<2^1000:=TU (QN h0 h:a.natAbs<2^7) (Tx (by decide) (by decide))
theorem gC(h:a.natAbs<2^60):a.natAbs<2^2000:=TU h (Br 60 (by decide))
theorem yV(hr:c8 r h)(hw:2000<wf):∃q h',T ai wf 24 (j+2) "_law_double" [.ref r] h=.ok (vq q) h'/\c7 q/\c8 r h'/\Keep (λn=>n≠r) h h':=by
 refine bO (T ai wf 24 (j+2) "_law_double" [.ref r] h) λgQ gR=>?_;rw[aK (by kernel_rfl) (by kernel_rfl),yn];refine bW (bh (j:=j) hr) λk1 h1 e1 Z Z r1 p1=>az e1<|bC (aD (by decide) ..)<|af (cM k1 (k:=9) (by decide)) λm0 m9=>?_;generalize k1.fmod 9=kind at m0 m9 ⊢;by_cases y:kind<4
 ·refine EF (UD y)<|az ((aH _ _)) ?_
  have ga:Gr h1 (h1++ [O.list [.tup [.int 1,.int 0],.tup [.int (-1),.int 0]]]):=Keep.app _;refine bW (bh (j:=j) (r1.gr ga)) λk2 J e2 Z Z X U=>az e2<|bC (aD (by decide) ..)<|af (cM k2 (k:=2) (by decide)) λz n2=>?_;generalize k2.fmod 2=c at z n2 ⊢;have hlt:r<h1.length:=by obtain⟨l,e,_⟩:=r1;exact aA e
  have g2:=U.get _ _ (rP hlt) (ay h1 (O.list [.tup [.int 1,.int 0],.tup [.int (-1),.int 0]]));obtain⟨x,G,hg⟩:∃q:Q,[V.tup [.int 1,.int 0],V.tup [.int (-1),.int 0]][c.toNat]?=some (vq q)/\c7 q:=by
   rcases(show c=0\/c=1 from RX z n2)with rfl|rfl
   ·exact⟨some (1,0),rfl,⟨by decide,.inr (by decide)⟩,by decide,by decide⟩
   ·exact⟨some (-1,0),rfl,⟨by decide,.inr (by decide)⟩,by decide,by decide⟩
  refine az ((iZ g2 z G (Rn n2)))<|az ((aH _ _)) ?_;have g3:=ay J (O.list [.tup [.int 0,.int 1],.none,.tup [.int 0,.int 0],vq x]);obtain⟨q,hq,hgq⟩:∃q:Q,[V.tup [.int 0,.int 1],.none,V.tup [.int 0,.int 0],vq x][kind.toNat]?=some (vq q)/\c7 q:=by
   rcases(show kind=0\/kind=1\/kind=2\/kind=3 from Mk m0 y)with rfl|rfl|rfl|rfl
   ·exact⟨some (0,1),rfl,⟨by decide,.inr (by decide)⟩,by decide,by decide⟩
   ·exact⟨none,rfl,trivial,trivial⟩
   ·exact⟨some (0,0),rfl,⟨by decide,.inl ⟨rfl,rfl⟩⟩,by decide,by decide⟩
   ·exact⟨x,rfl,hg⟩
  refine az ((iZ g3 m0 hq (Pv y))) ?_;have S:Gr J (J++ [O.list [.tup [.int 0,.int 1],.none,.tup [.int 0,.int 0],vq x]]):=Keep.app _;refine gR _<|aU q _ ⟨rfl,hgq,X.gr S,((p1.trans ga.keep).trans U).trans S.keep⟩
 refine Be (Uv y)<|bW (bh (j:=j) r1) λk2 J e2 Z Z X U=>az e2<|bC (aD (by decide) ..)<|bC (ch ..)<|af (cM k2 (k:=40) (by decide)) λz o=>?_;generalize g:k2.fmod 40-15=nn;have last:∀(n:Int) (F:List O),n.natAbs<2^40->c8 r F->Keep (λn=>n≠r) h F-> ∃q h',(mq (cmp .Lt (.int kind) (.int 6)) λr20=>bif r20 then(mq (T ai wf 24 (j+1) "_law_reduced" [.int n,.int 1]) λA=>mr A)else(mq (T ai wf 24 (j+1) "_law_next" [.ref r]) λr16=>mq (ah .Mod r16 (.int 12)) λr17=>mq (ah .Add (.int 1) r17) λr18=>mq (T ai wf 24 (j+1) "_law_reduced" [.int n,r18]) λA=>mr A)) F=.ok (vq q) h'/\c7 q/\c8 r h'/\Keep (λn=>n≠r) h h':=λn F hn r3 Y=>by
  rw[jF,ae];by_cases h6:kind<6
  ·rw[UD h6,Vj,aa (dJ (j:=j) (by decide) (yU (by decide) (by decide)) hw)]
   exact aU (eW n 1) F ⟨rfl,⟨ET (by decide),ti hn (by decide)⟩,r3,Y⟩
  ·rw[Uv h6,Ve]
   refine bW (bh (wf:=wf) (j:=j) r3) λk4 y e4 Z Z r4 p4=>?_;rw[aa e4,aD (by decide),ae,cZ,ae];refine af (cM k4 (k:=12) (by decide)) λW L=>?_;rw[aa (dJ (j:=j) (Lk W) (yU (Lk W) (QH L)) hw)];exact aU (eW n _) y ⟨rfl,⟨ET (Lk W),ti hn (Qu W L)⟩,r4,Y.trans p4⟩
 refine bC (bA ..) ?_;by_cases h8:kind=8
 ·refine EF (UD h8)<|bC (bn (gC (QZ z o g)) (gC (by decide)))<|bC (bn (gC (PU z o g)) (gC (by decide)))<|bW (bh (j:=j) X) λk3 F e3 a3 b3 r3 Y=>az e3<|bC (bn (gC (RR a3 b3)) (gC (by decide)) ..)<|bC (cZ ..)<|bW (bh (j:=j) r3) λk4 y e4 a4 b4 r4 p4=>az e4<|gR _<|last _ y (PW z o g a3 b3 a4 b4) r4 (((p1.trans U).trans Y).trans p4)
 ·refine Be (Uv h8)<|gR _<|last _ J (Rg z o g) X (p1.trans U)
def rH(ds:List Int)(n:Nat):Prop:=dD ds=n/\(∀d∈ds,0<d/\d<=9)/\ds.length<=2
section
variable {β:Type} {h:List O} {P:R β->Prop} {x y:M β} {a n:Int}
theorem EU(e:a=n)(q:P (x h)):P (iq .Eq (.int a) (.int n) x y h):=qP e q
theorem EV(e:¬a=n)(q:P (y h)):P (iq .Eq (.int a) (.int n) x y h):=sZ e q
theorem Nk(e:a>n)(q:P (x h)):P (iq .Gt (.int a) (.int n) x y h):=qP e q
theorem Nl(e:¬a>n)(q:P (y h)):P (iq .Gt (.int a) (.int n) x y h):=sZ e q
end
theorem OV(c:n<=9)(q:(n:Int)>0):rH [(n:Int)] n:=⟨by simp[dD],λd hd=>by rw[TO]at hd;exact R3 c q hd,by simp⟩
theorem OW(c:n<=9)(a:(n:Int).fmod 2=0)(q:(n:Int)>0):rH [2,(n:Int).fdiv 2] n:=by
 rw[SN _ (by decide)]at a;rw[SL _ (by decide)];refine⟨?_,λd hd=>?_,by simp⟩
 ·show(1*2)*((n:Int)/2)=n;exact QV a
 ·simp at hd;exact P0 c a q hd
theorem OX(c:n<=9)(a:(n:Int).fmod 3=0)(q:(n:Int)>0):rH [(n:Int).fdiv 3,3] n:=by
 rw[SN _ (by decide)]at a;rw[SL _ (by decide)];refine⟨?_,λd hd=>?_,by simp⟩
 ·show(1*((n:Int)/3))*3=n;exact PX a
 ·simp at hd;exact PQ c a q hd
theorem yW(X:c8 r h)(A:n<=9):∃v h',T ai wf 24 (j+2) "_law_shaped" [.ref r,.int n] h=.ok v h'/\c8 r h'/\Keep (λm=>m≠r) h h'/\
  (v=.none\/ ∃m ds,v=.ref m/\h.length<=m/\h'[m]?=some (.list (bH ds))/\rH ds n):=by
 rw[aK (by kernel_rfl) (by kernel_rfl),yp];refine bW (bh (j:=j) X) λk1 x e1 Z Z L z=>bO (pk (Tj wf (j+1)) h.length (.ref r) (.int n) h) λJ S=>az e1<|bC (aD (by decide))<|af (cM k1 (k:=7) (by decide)) λm0 W=>?_;generalize k1.fmod 7=kind at m0 W ⊢;have c:∀ds,rH ds n->J (mq (aC (.list (bH ds))) (λr=>mr r) x):=λds Y=>az (aH _ _) (S _ (by
  have G:Gr x (x++ [O.list (bH ds)]):=Keep.app _;exact aU _ _ ⟨rfl,L.gr G,z.trans G.keep,.inr ⟨_,ds,rfl,z.len,ay _ _,Y⟩⟩))
 have no:J (mr V.none x):=S _ (aU _ _ ⟨rfl,L,z,.inl rfl⟩);have o:J (fZ (.int n) (.int kind) x):=by
  by_cases F:kind=6
  ·refine EU F<|bC (aD (by decide)) ?_
   by_cases g:(n:Int).fmod 3=0
   ·refine EU g ?_
    by_cases q:(n:Int)>0
    ·refine Nk q<|bC (bu (by decide) (gC (by decide)))<|c _ (OX A g q)
    ·exact Nl q no
   ·exact EV g no
  ·exact EV F no
 have y:J (iW (.int n) (.int kind) x):=by
  by_cases k5:kind=5
  ·refine EU k5<|bC (aD (by decide)) ?_
   by_cases g:(n:Int).fmod 2=0
   ·refine EU g ?_
    by_cases q:(n:Int)>0
    ·refine Nk q<|bC (bu (by decide) (gC (by decide)))<|c _ (OW A g q)
    ·exact Nl q o
   ·exact EV g o
  ·exact EV k5 o
 by_cases U:kind=4
 ·refine EU U ?_
  by_cases q:(n:Int)>0
  ·exact Nk q (c _ (OV A q))
  ·exact Nl q y
 ·exact EV U y
theorem Nm {i:Int}(h0:0<=i)(c:i<128):builtin "chr" [.int i]=mr (.str ⟨#[i.toNat]⟩):=by
 funext h
 have e:builtin "chr" [.int i] h=if 0<=i/\i<128 then .ok (.str ⟨#[i.toNat]⟩) h else .bad:=by kernel_rfl
 rw[e,Vo ⟨h0,c⟩];rfl
noncomputable def aO.upd(F:aO)(k:Str)(q:Str×List V):aO:=λx=>if x=k then some q else F x
def dG(F:aO)(n:Nat):Option (List Int)->Prop
 |none=>F "dim"=none
 |some ds=>F "dim"=some (("integer":Str),bH ds)/\rH ds n/\F "names"=none
structure AOk (F:aO) (n:Nat):Prop where
 dim:∃d,dG F n d
 data:iR F
theorem dG.dims {F:aO}{d:Option (List Int)}(h:dG F l.length d):dZ ⟨k,l,F⟩ d:=by
 induction d using Vp with
 |none=>exact h
 |some ds=>exact⟨h.1,h.2.1.1,h.2.1.2.1,h.2.1.2.2⟩
theorem AOk.upd {F:aO}{n:Nat}{k:Str}{q:Str×List V}(a:AOk F n)(z:k≠ "dim")(y:k≠ "names")(A:∀v∈q.2,Dv v):AOk (F.upd k q) n:=by
 refine⟨?_,λx p c v g=>?_⟩
 ·obtain⟨d,hd⟩:=a.dim
  have o:F.upd k q "dim"=F "dim":=Vn (λe=>z e.symm);have G:F.upd k q "names"=F "names":=Vn (λe=>y e.symm);refine⟨d, ?_⟩;induction d using Vp with
  |none=>show F.upd k q "dim"=none;rw[o];exact hd
  |some ds=>exact⟨by rw[o];exact hd.1,hd.2.1,by rw[G];exact hd.2.2⟩
 ·unfold aO.upd at c
  split at c
  ·cases c;exact A v g
  ·exact a.data x p c v g
theorem AOk.names {n:Nat}{q:Str×List V}(o:∀v∈q.2,Dv v):AOk (aO.upd (λZ=>none) "names" q) n:=by
 refine⟨⟨none, ?_⟩,λx p c v g=>?_⟩
 ·show(if("dim":Str)= "names" then some q else none)=none
  rw[Vn (by decide)]
 ·unfold aO.upd at c
  split at c
  ·cases c;exact o v g
  ·cases c
theorem AOk.dims(o:rH ds n):AOk (aO.upd (λZ=>none) "dim" ("integer",bH ds)) n:=by
 refine⟨⟨some ds, ?_,o, ?_⟩,λx p c v q=>?_⟩
 ·show(if("dim":Str)= "dim" then some _ else none)=_
  rw[Vo rfl]
 ·show(if("names":Str)= "dim" then some _ else none)=none
  rw[Vn (by decide)]
 ·unfold aO.upd at c
  split at c
  ·cases c
   refine ac (UV.mp q) λi Z g=>?_;subst g;exact .int i
  ·cases c
theorem AOk.nil:AOk (λZ=>none) n:=⟨⟨none,rfl⟩,λx p c=>by cases c⟩
structure DS (r b n i fd:Nat) (k:Str) (items:List V) (h0 h:List O) (F:aO):Prop where
 cell:h[b]?=some (.cell (some (.ref r)))
 row:c8 r h
 vec:h[n]?=some (bp (.str k) (.ref i) .none)
 its:h[i]?=some (.list items)
 isd:∃D,IsD (λm=>h0.length<=m) h fd F D
 keep:Keep (λm=>m≠r) h0 h
 old:h0.length<=fd
 lt:r<h0.length
 ne:i≠r
 nlt:n<h0.length
theorem DS.gr {r b n i fd:Nat}{k:Str}{items:List V}{h0 h h':List O}{F:aO}(d:DS r b n i fd k items h0 h F)(g:Gr h h'):DS r b n i fd k items h0 h' F:=by
 refine am (d.isd) λD c=>⟨g.get _ _ trivial d.cell,d.row.gr g,g.get _ _ trivial d.vec,g.get _ _ trivial d.its,⟨D,c.p,g.get _ _ trivial c.get,c.dk,c.at_.keep (Q:=λm=>h0.length<=m) g.keep⟩,d.keep.trans g.keep,d.old,d.lt,d.ne,d.nlt⟩
theorem DS.row' {items:List V}{F:aO}(d:DS r b n i fd k items h0 h F)(o:c8 r h')(g:Keep (λm=>m≠r) h h'):DS r b n i fd k items h0 h' F:=by
 refine am (d.isd) λD c=>ac (d.row) λl el Z=>?_;have x:b≠r:=λe=>by have:=d.cell;rw[e,el]at this;cases this
 have nn:n≠r:=λe=>by have:=d.vec;rw[e,el]at this;cases this
 have y:=c.p;exact⟨g.get _ _ x d.cell,o,g.get _ _ nn d.vec,g.get _ _ d.ne d.its,⟨D,c.p,g.get _ _ (by have:=d.lt;exact qC y this) c.get,c.dk,c.at_.keep (Q:=λm=>h0.length<=m) (g.mono λm Z q=>by have:=d.lt;exact qC q this)⟩,d.keep.trans g,d.old,d.lt,d.ne,d.nlt⟩
theorem fU.set {P:Nat->Prop}{h:List O}{D E:List (Str×V)}{F:aO}{fd:Nat}(a:fU P h D F)(hd:h[fd]?=some (.dict D)):fU P (h.set fd (.dict E)) D F:=λx=>by
 have:=a x;induction hF:F x using Vp with
 |none=>rw[hF]at this;exact this
 |some q=>
  rw[hF]at this;refine aB λL G=>?_;obtain⟨m,e,i,z,y,J,g,c⟩:=this;have A:fd≠m:=λe=>by subst e;rw[hd]at g;cases g
  have o:fd≠i:=λe=>by subst e;rw[hd]at c;cases c
  refine G<|⟨m,e,i,z,y,J,by rw[Tr A];exact g,by rw[Tr o];exact c⟩
theorem fU.put {P:Nat->Prop}{h:List O}{D:List (Str×V)}{F:aO}{m:Nat}{key kd:Str}{its:List V}(a:fU P h D F)(v:fu P h m kd its):fU P h (put key (.ref m) D) (F.upd key (kd,its)):=λx=>by
 unfold aO.upd;rw[pC];by_cases c:x=key
 ·rw[Vo c,Vo c]
  exact⟨m,rfl,v⟩
 ·rw[Vn c,Vn c]
  exact a x
theorem DS.add {wf j r b n i fd l:Nat}{k key kd:Str}{items its:List V}{F:aO}(d:DS r b n i fd k items h0 h F)(hl:h[l]?=some (.list its))(L:h0.length<=l)(G:its.length<=4096)(A:key∈Ks)(K:M V):
  ∃h',(mq (T ai wf 24 (j+1) "Vector" [.str kd,.ref l]) λv=>mq (cH (.ref fd) (.str key) v) λZ=>K) h=K h'/\DS r b n i fd k items h0 h' (F.upd key (kd,its)):=by
 refine bO ((mq (T ai wf 24 (j+1) "Vector" [.str kd,.ref l]) λv=>mq (cH (.ref fd) (.str key) v) λZ=>K) h) λgQ gR=>az gY ?_;have g:Gr h (h++ [bp (.str kd) (.ref l) .none]):=Keep.app _;have x:=d.gr g;have y:=g.get _ _ trivial hl;have z:=ay h (bp (.str kd) (.ref l) .none);have hrl:r<h.length:=by obtain⟨_,e,_⟩:=d.row;exact aA e
 have J:=d.keep.len;generalize W:h++ [bp (.str kd) (.ref l) .none]=h1 at*;refine am (x.isd) λD c=>az ((pB c.get (UZ c.dk.len (by decide))))<|gR _<|⟨_,rfl, ?_⟩;have U:fd≠b:=λe=>by have:=x.cell;rw[<-e,c.get]at this;cases this
 have nn:fd≠n:=λe=>by have:=x.vec;rw[<-e,c.get]at this;cases this
 have ni:fd≠i:=λe=>by have:=x.its;rw[<-e,c.get]at this;cases this
 have nr:fd≠r:=by have:=d.old;have:=d.lt;omega
 have nv:fd≠h.length:=λe=>by rw[<-e,c.get]at z;cases z
 have nl:fd≠l:=λe=>by rw[<-e,c.get]at y;cases y
 refine ac (x.row) λY X S=>?_;refine⟨by rw[Tr U];exact x.cell,⟨Y,by rw[Tr nr];exact X,S⟩,by rw[Tr nn];exact x.vec,by rw[Tr ni];exact x.its,
  ⟨_,c.p,bg c.get,c.dk.put A, ?_⟩,⟨λm o q e=>by rw[Tr (by have:=aA e;have:=d.old;omega)];exact x.keep.get _ _ q e,by simpa using x.keep.len⟩,d.old,d.lt,d.ne,d.nlt⟩
 ·refine(c.at_.set (E:=put key (.ref h.length) D) c.get).put ⟨l,by exact o9 J,L,G, ?_, ?_⟩
  ·rw[Tr nv];exact z
  ·rw[Tr nl];exact y
theorem EW {β:Type}(G:c8 r h)(K:V->M β):∃c h',(mq (T ai wf 24 (j+1) "_law_next" [.ref r]) λg=>mq (ah .Mod g (.int 26)) λo=>mq (ah .Add (.int 97) o) λq=>mq (builtin "chr" [q]) K) h=K (.str c) h'/\c8 r h'/\Keep (λm=>m≠r) h h':=by
 refine bO ((mq (T ai wf 24 (j+1) "_law_next" [.ref r]) λg=>mq (ah .Mod g (.int 26)) λo=>mq (ah .Add (.int 97) o) λq=>mq (builtin "chr" [q]) K) h) λU F=>aB λW y=>bW (bh (wf:=wf) (j:=j) G) λk1 z L Z Z x A=>af (cM k1 (k:=26) (by decide)) λJ S=>y ?_;rw[aa L,aD (by decide),ae,cZ,ae,Nm (Int.add_nonneg (by decide) J) (UQ (Int.add_lt_add_left S 97) (by decide)),ae];refine F _<|aU _ z ⟨rfl,x,A⟩
theorem G0 {items:List V}{F:aO}(d:DS r b n i fd k items h0 h F)(Y:many<=9)(S:40<wf):
  ∃acc h',cF wf (Ic (Tj wf (j+1)) 19) (aw "_law_dressed" (aq "_law_dressed") b) (aX (bG (aG "_law_dressed" [3,1,0,0,0])) [1]) (.range many) h=.ok acc h'/\DS r b n i fd k items h0 h' F/\(∀v∈acc,Dv v)/\acc.length=many:=by
 have L:=fQ (C:=Tj wf (j+1)) (m:=19) (c:=aw "_law_dressed" (aq "_law_dressed") b) (e:=aX (bG (aG "_law_dressed" [3,1,0,0,0])) [1]) (it:=.range many) (by kernel_rfl) (by kernel_rfl);refine aB λgP U=>?_;obtain⟨acc,h',e,x,y,W⟩:=fS (turn:=λv=>bS (Tj wf (j+1)) 19 (aw "_law_dressed" (aq "_law_dressed") b) (aX (bG (aG "_law_dressed" [3,1,0,0,0])) [1]) v mr) (it:=.range many) (rng many)
  (λt acc h'=>DS r b n i fd k items h0 h' F/\(∀v∈acc,Dv v)/\acc.length=t)
  (λt acc h' Z=>cK many t h')
  (λt v acc h' g hI=>by
   refine cQ (hI) λo G a2=>?_;show ∃q h'',bS (Tj wf (j+1)) 19 (aw "_law_dressed" (aq "_law_dressed") b) (aX (bG (aG "_law_dressed" [3,1,0,0,0])) [1]) v mr h'=_/\_;rw[sV];unfold lg;rw[aa (aE o.cell)];refine aV (EW (j:=j) o.row (λX=>(mr (some X):M (Option V)))) λc z J A p2=>aU (some (.str c)) z ⟨J,o.row' A p2, ?_,by simp[a2]⟩;intro v g;rcases Ur.mp g with q|q
   ·exact G v q
   ·rw[TO]at q;subst q;exact .str c)
  wf 0 [] h o1 (by simp;exact HN Y S) ⟨d,(λv g=>by cases g),rfl⟩
 refine U<|aU acc h' ⟨(congrFun L h).trans e,x,y,by simpa using W⟩
theorem CX {f:V->V->Option Bool}(D:List (Str×V)):∃r,eM f [] D=some r:=by
 induction D using List.rec with
 |nil=>exact⟨_,rfl⟩
 |cons p t ih=>exact am ih λr e=>⟨false,by show(eM f [] t).bind _=_;rw[e];rfl⟩
theorem G1 {d:Nat}(hd:h[d]?=some (.dict D))(c:h[e]?=some (.dict [])):cmp .NotEq (.ref d) (.ref e) h=.ok (!D.isEmpty) h:=by
 refine gc ?_;rw[pF hd c,tB hd c];refine am (CX (f:=cT h 8) D) λr e=>?_;rw[e,Option.map_some];induction D using Vr with
 |nil=>rw[<-Uu e];rfl
 |cons=>rw[show decide ((_::_:List (Str×V)).length=([]:List (Str×V)).length)=false from rfl,Bool.and_false];rfl
def wg(g o:V):M V:=mq (aC (.dict [])) λc=>iq .NotEq o c (mq (dF g "attrs" o) λZ=>mr g) (mr g)
def tH(C:Tb)(b:Nat)(F y:V):M V:=mq (aZ b) λg=>mq (C.f "_law_next" [g]) λo=>mq (ah .Mod o (.int 6)) λA=>iq .Eq A (.int 1) (mq (aZ b) λc=>mq (C.f "_law_next" [c]) λz=>mq (aC (.list [z])) λq=>mq (C.f "Vector" [(.str "integer"),q]) λx=>mq (cH y (.str "of") x) λZ=>wg F y) (wg F y)
def mW(C:Tb)(b:Nat)(L G:V):M V:=mq (aZ b) λc=>mq (C.f "_law_next" [c]) λo=>mq (ah .Mod o (.int 4)) λx=>iq .Eq x (.int 1) (mq (aZ b) λg=>mq (C.f "_law_next" [g]) λJ=>mq (ah .Mod J (.int 26)) λy=>mq (ah .Add (.int 97) y) λz=>mq (builtin "chr" [z]) λq=>mq (aC (.list [q])) λA=>mq (C.f "Vector" [(.str "character"),A]) λF=>mq (cH G (.str "unit") F) λZ=>tH C b L G) (tH C b L G)
def jw(C:Tb)(b:Nat)(q z:V):M V:=mq (fL b q) λZ=>mq (aM z "items") λY=>mq (builtin "len" [Y]) λW=>mq (aZ b) λy=>mq (C.f "_law_shaped" [y,W]) λX=>mq (aC (.dict [])) λx=>
  mq (cmp .IsNot X .none) λU=>bif U then(mq (C.f "Vector" [(.str "integer"),X]) λG=>mq (cH x (.str "dim") G) λZ=>mW C b z x)else(mq (aZ b) λc=>mq (C.f "_law_next" [c]) λF=>mq (ah .Mod F (.int 3)) λL=>mq (cmp .Eq L (.int 1)) λS=>bif S then(mq (bt W) λo=>mq (cF C.wf (Ic C 19) (aw "_law_dressed" (aq "_law_dressed") b) (aX (bG (aG "_law_dressed" [3,1,0,0,0])) [1]) o) λg=>mq (aC (.list g)) λA=>mq (C.f "Vector" [(.str "character"),A]) λJ=>mq (cH x (.str "names") J) λZ=>mW C b z x)else(mW C b z x))
theorem wU(C:Tb)(b:Nat)(c g:V)(h:List O):Bd C "_law_dressed" [c,g] b h=jw C b c g h:=by kernel_rfl
def fC(m:M V)(r n:Nat)(k:Str)(items:List V)(h0 h:List O):Prop:=∃h' F,m h=.ok (.ref n) h'/\IsV (λm=>r<m) h' (.ref n) ⟨k,items,F⟩/\AOk F items.length/\c8 r h'/\Keep (λm=>m≠r/\m≠n) h0 h'
theorem fC.pre {m m':M V}{items:List V}(e:m h=m' h')(d:fC m' r n k items h0 h'):fC m r n k items h0 h:=by
 unfold fC;rw[e];exact d
theorem EX {items:List V}{F:aO}(d:DS r b n i fd k items h0 h F)(W:AOk F items.length)(X:k≠ "NULL")(z:items.length<=9)(g:r<n)(y:r<i):fC (wg (.ref n) (.ref fd)) r n k items h0 h:=by
 have c:=d.gr (Keep.app [O.dict []]);refine am (c.isd) λD o=>?_;have J:=G1 o.get (ay h (O.dict []));generalize G:h++ [O.dict []]=h1 at*;have nn:n≠fd:=λe=>by have:=c.vec;rw[e,o.get]at this;cases this
 have ni:n≠i:=λe=>by have Y:=c.its;rw[<-e,c.vec]at Y;cases Y
 unfold fC wg;unfold iq;rw[aa (aH _ _),G,aa J];rcases D with _|⟨p,t⟩
 ·refine aU h1 F ⟨rfl,.vec X (o2 z) g y c.vec c.its (.none λx=>?_),W,c.row,c.keep.mono λm Z q=>q.1⟩
  have:=o.at_ x;induction hF:F x using Vp with
  |none=>rfl
  |some q=>rw[hF]at this;obtain⟨m,e,_⟩:=this;exact ns e
 ·show ∃h' F,mq (dF (.ref n) "attrs" (.ref fd)) _ h1=_/\_
  rw[aa (ln c.vec)];refine ac (c.row) λlr er br=>aU _ F ⟨rfl,.vec (i:=i) X (o2 z) g y (bg c.vec) (by rw[Tr ni];exact c.its) (.dict (D:=p::t) ⟨by have:=d.old;have:=d.lt;show r<fd;omega,by rw[Tr nn];exact o.get,o.dk, ?_⟩),W,⟨lr,by rw[Tr (rP g)];exact er,br⟩, ?_⟩
  ·intro x
   have:=o.at_ x;induction hF:F x using Vp with
   |none=>rw[hF]at this;exact this
   |some q=>
    rw[hF]at this;obtain⟨m,e,S,L,U,z,e1,e2⟩:=this;have A:=d.nlt;have q1:h0.length<=m:=L;have q2:h0.length<=S:=U;refine⟨m,e,S,by show r<m;have:=d.lt;exact Pt g L A,by show r<S;have:=d.lt;exact Pt g U A,z,by rw[Tr (Aq L A)];exact e1,by rw[Tr (Aq U A)];exact e2⟩
  ·exact(c.keep.mono λm Z q=>q.1).trans (Keep.set (by simp))
theorem EY {items:List V}{F:aO}(d:DS r b n i fd k items h0 h F)(J:AOk F items.length)(S:k≠ "NULL")(X:items.length<=9)(g:r<n)(o:r<i):fC (tH (Tj wf (j+1)) b (.ref n) (.ref fd)) r n k items h0 h:=by
 unfold tH;refine bW (bh (wf:=wf) (j:=j) d.row) λk1 h1 e1 Z Z r1 p1=>?_;have x:=d.row' r1 p1;refine fC.pre (m':=mq (cmp .Eq (.int (k1.fmod 6)) (.int 1)) λA=>bif A then(mq (aZ b) λc=>mq (T ai wf 24 (j+1) "_law_next" [c]) λG=>mq (aC (.list [G])) λz=>mq (T ai wf 24 (j+1) "Vector" [(.str "integer"),z]) λy=>mq (cH (.ref fd) (.str "of") y) λZ=>wg (.ref n) (.ref fd))else(wg (.ref n) (.ref fd))) (h':=h1) (by rw[aa (aE d.cell),aa e1,aD (by decide),ae]) ?_;rw[bA,ae];refine aB λgP W=>?_;by_cases Y:k1.fmod 6=1
 ·refine W ?_
  rw[UD Y,Vj];refine bW (bh (wf:=wf) (j:=j) x.row) λk2 h2 e2 Z Z r2 p2=>?_;have L:=x.row' r2 p2;have d3:=L.gr (Keep.app [O.list [.int k2]]);have q:=L.keep.len;refine ac (d3.add (j:=j) (key:= "of") (kd:= "integer") (ay h2 (O.list [.int k2])) q (by simp) (by decide) (wg (.ref n) (.ref fd))) λh4 e4 d4=>fC.pre (h':=h4) (m':=wg (.ref n) (.ref fd)) (by rw[aa (aE x.cell),aa e2,aa (aH _ _)];exact e4) ?_;exact EX d4 (J.upd (by decide) (by decide) λv U=>by rw[TO]at U;subst U;exact .int k2) S X g o
 ·refine W ?_
  rw[Uv Y,Ve];exact EX x J S X g o
theorem yX {items:List V}{F:aO}(d:DS r b n i fd k items h0 h F)(W:AOk F items.length)(Y:k≠ "NULL")(hl:items.length<=9)(y:r<n)(z:r<i):fC (mW (Tj wf (j+1)) b (.ref n) (.ref fd)) r n k items h0 h:=by
 unfold mW;refine bW (bh (wf:=wf) (j:=j) d.row) λk1 h1 e1 Z Z r1 p1=>?_;have G:=d.row' r1 p1;refine fC.pre (m':=mq (cmp .Eq (.int (k1.fmod 4)) (.int 1)) λS=>bif S then(mq (aZ b) λq=>mq (T ai wf 24 (j+1) "_law_next" [q]) λJ=>mq (ah .Mod J (.int 26)) λU=>mq (ah .Add (.int 97) U) λL=>mq (builtin "chr" [L]) λo=>mq (aC (.list [o])) λx=>mq (T ai wf 24 (j+1) "Vector" [(.str "character"),x]) λg=>mq (cH (.ref fd) (.str "unit") g) λZ=>tH (Tj wf (j+1)) b (.ref n) (.ref fd))else(tH (Tj wf (j+1)) b (.ref n) (.ref fd))) (h':=h1) (by rw[aa (aE d.cell),aa e1,aD (by decide),ae]) ?_;rw[bA,ae];refine aB λgP gH=>?_;by_cases hc:k1.fmod 4=1
 ·refine gH ?_
  rw[UD hc,Vj];refine aV (EW (wf:=wf) (j:=j) G.row (λo=>mq (aC (.list [o])) λx=>mq (T ai wf 24 (j+1) "Vector" [(.str "character"),x]) λg=>mq (cH (.ref fd) (.str "unit") g) λZ=>tH (Tj wf (j+1)) b (.ref n) (.ref fd))) λc h2 e2 r2 p2=>?_;have X:=G.row' r2 p2;have d3:=X.gr (Keep.app [O.list [.str c]]);have A:=X.keep.len;refine ac (d3.add (j:=j) (key:= "unit") (kd:= "character") (ay h2 (O.list [.str c])) A (by simp) (by decide) (tH (Tj wf (j+1)) b (.ref n) (.ref fd))) λh4 e4 d4=>fC.pre (h':=h4) (m':=tH (Tj wf (j+1)) b (.ref n) (.ref fd)) (by rw[aa (aE G.cell)];refine e2.trans ?_;rw[aa (aH _ _)];exact e4) ?_;exact EY d4 (W.upd (by decide) (by decide) λv hv=>by rw[TO]at hv;subst hv;exact .str c) Y hl y z
 ·refine gH ?_
  rw[Uv hc,Ve];exact EY G W Y hl y z
theorem oG {items:List V}(hr:c8 r h)(hv:h[n]?=some (bp (.str k) (.ref i) .none))(hi:h[i]?=some (.list items))(hk:k≠ "NULL")(z:items.length<=9)(y:r<n)(g:r<i)(hw:40<wf):
  fC (T ai wf 24 (j+3) "_law_dressed" [.ref r,.ref n]) r n k items h h:=by
 refine fC.pre (h':=h++ [.cell none]) (m':=jw (Tj wf (j+2)) h.length (.ref r) (.ref n)) (by rw[yO (by kernel_rfl) (by kernel_rfl),wU]) ?_;unfold jw;have W:r<h.length:=by obtain⟨_,e,_⟩:=hr;exact aA e
 have hb:=ay h (O.cell (some (.ref r)));have g1:Gr h (h++ [O.cell (some (.ref r))]):=Keep.app _;have r1:=hr.gr g1;have v1:=g1.get _ _ trivial hv;have i1:=g1.get _ _ trivial hi;have l1:=g1.len;generalize hh1:h++ [O.cell (some (.ref r))]=h1 at*;refine bM (yW (wf:=wf) (j:=j) r1 z) λv4 c e2 r2 X q2=>?_;have mk:∃fdh,fdh=c++ [O.dict []]:=⟨_,rfl⟩;refine am (mk) λh3 F=>?_;have nb:h.length≠r:=rP W;have Y:=X.len;have U:Gr c h3:=by rw[F];exact Keep.app _
 have d3:DS r h.length n i c.length k items h h3 (λZ=>none):=
  ⟨U.get _ _ trivial (X.get _ _ nb hb),r2.gr U,U.get _ _ trivial (X.get _ _ (rP y) v1),U.get _ _ trivial (X.get _ _ (rP g) i1),⟨[],by show h.length<=c.length;exact o5 l1 Y,by rw[F];exact ay _ _,Dk.nil,λx=>rfl⟩,
   (g1.keep.trans X).trans U.keep,by exact o5 l1 Y,W,by exact rP g,aA hv⟩
 refine fC.pre (h':=h3) (m':=mq (cmp .IsNot v4 .none) λr41=>bif r41 then(mq (T ai wf 24 (j+2) "Vector" [(.str "integer"),v4]) λr31=>mq (cH (.ref c.length) (.str "dim") r31) λZ=>mW (Tj wf (j+2)) h.length (.ref n) (.ref c.length))else(mq (aZ h.length) λL=>mq (T ai wf 24 (j+2) "_law_next" [L]) λr38=>mq (ah .Mod r38 (.int 3)) λr39=>mq (cmp .Eq r39 (.int 1)) λJ=>bif J then(mq (bt (.int items.length)) λo=>mq (cF wf (Ic (Tj wf (j+2)) 19) (aw "_law_dressed" (aq "_law_dressed") h.length) (aX (bG (aG "_law_dressed" [3,1,0,0,0])) [1]) o) λq=>mq (aC (.list q)) λA=>mq (T ai wf 24 (j+2) "Vector" [(.str "character"),A]) λS=>mq (cH (.ref c.length) (.str "names") S) λZ=>mW (Tj wf (j+2)) h.length (.ref n) (.ref c.length))else(mW (Tj wf (j+2)) h.length (.ref n) (.ref c.length)))) (by
  rw[aa u9,hh1,aa (hZ v1),aa (dx i1 (vc (o2 z))),aa (aE hb),aa e2,aa (aH _ _),<-F]) ?_
 refine aB λgP G=>?_;rcases q2 with rfl|⟨m,ds,rfl,hm,em,hf⟩
 ·refine G ?_
  rw[dU,ae,Ve];refine bW (bh (wf:=wf) (j:=j+1) d3.row) λk4 h4 e4 Z Z r4 p4=>?_;have d4:=d3.row' r4 p4;refine fC.pre (h':=h4) (m':=mq (cmp .Eq (.int (k4.fmod 3)) (.int 1)) λJ=>bif J then(mq (bt (.int items.length)) λo=>mq (cF wf (Ic (Tj wf (j+2)) 19) (aw "_law_dressed" (aq "_law_dressed") h.length) (aX (bG (aG "_law_dressed" [3,1,0,0,0])) [1]) o) λq=>mq (aC (.list q)) λA=>mq (T ai wf 24 (j+2) "Vector" [(.str "character"),A]) λS=>mq (cH (.ref c.length) (.str "names") S) λZ=>mW (Tj wf (j+2)) h.length (.ref n) (.ref c.length))else(mW (Tj wf (j+2)) h.length (.ref n) (.ref c.length))) (by
   rw[aa (aE d3.cell),aa e4,aD (by decide),ae]) ?_
  rw[bA,ae];refine aB λgP G=>?_;by_cases hc:k4.fmod 3=1
  ·refine G ?_
   rw[UD hc,Vj,cW (xr z),ae];refine bM (G0 (j:=j+1) d4 z hw) λacc h5 e5 d5 a5 l5=>?_;have d6:=d5.gr (Keep.app [O.list acc]);refine ac (d6.add (j:=j+1) (key:= "names") (kd:= "character") (ay h5 (O.list acc)) d5.keep.len (P2 z l5) (by decide) (mW (Tj wf (j+2)) h.length (.ref n) (.ref c.length))) λh7 e7 d7=>fC.pre (h':=h7) (m':=mW (Tj wf (j+2)) h.length (.ref n) (.ref c.length)) (by rw[aa e5,aa (aH _ _)];exact e7) ?_;exact yX d7 (AOk.names a5) hk z y g
  ·refine G ?_
   rw[Uv hc,Ve];exact yX d4 AOk.nil hk z y g
 ·refine G ?_
  rw[fV,ae,Vj];refine aB λgP G=>ac (d3.add (j:=j+1) (key:= "dim") (kd:= "integer") (its:=bH ds) (l:=m) (U.get _ _ trivial em) (o5 l1 hm) (by have:=hf.2.2;simp[bH];exact LK this) (by decide) (mW (Tj wf (j+2)) h.length (.ref n) (.ref c.length))) λh7 e7 d7=>G<|fC.pre e7<|yX d7 (AOk.dims hf) hk z y g
noncomputable def vi:Option Int->V
 |none=>.none
 |some i=>.int i
noncomputable def fF:Option Int->Prop
 |none=>True
 |some i=>i.natAbs<=2147483647
inductive Kd:Str->List V->Prop
 |null:Kd "NULL" []
 |logical (l:List (Option Int)):(∀o∈l,fF o)->Kd "logical" (l.map vi)
 |integer (l:List (Option Int)):(∀o∈l,fF o)->Kd "integer" (l.map vi)
 |double (l:List Q):(∀q∈l,c7 q)->Kd "double" (l.map vq)
 |character (l:List Str):Kd "character" (l.map .str)
structure Wf (x:Vc):Prop where
 a:AOk x.att x.items.length
 len:x.items.length<=9
 kd:Kd x.kind x.items
def bU(m:M V)(r:Nat)(h0 h:List O):Prop:=∃v x h',m h=.ok v h'/\IsV (λm=>r<m) h' v x/\Wf x/\c8 r h'/\Keep (λm=>m≠r) h0 h'
theorem bU.pre {m m':M V}(e:m h=m' h')(d:bU m' r h0 h'):bU m r h0 h:=by
 unfold bU;rw[e];exact d
theorem mX(Y:c8 r h)(A:h[i]?=some (.list l))(X:h0.length<=i)(J:k≠ "NULL")(kd:Kd k l)(y:l.length<=9)(K:Keep (λm=>m≠r) h0 h)(x:r<h0.length)(U:40<wf):
  bU (mq (T ai wf 24 (j+3) "Vector" [.str k,.ref i]) λv=>mq (T ai wf 24 (j+3) "_law_dressed" [.ref r,v]) λr=>mr r) r h0 h:=by
 have g:Gr h (h++ [bp (.str k) (.ref i) .none]):=Keep.app _;have L:=ay h (bp (.str k) (.ref i) .none);have c:=K.len;refine aB λZ W=>bW (oG (j:=j) (Y.gr g) L (g.get _ _ trivial A) J y (Pf x c) (Rv X x) U) λh' F e S a G z=>W<|⟨_,⟨k,l,F⟩,h', ?_,S,⟨a,y,kd⟩,G, ?_⟩
 ·refine aN gY<|aN e ?_;rfl
 ·exact⟨λm o q e=>z.get m o ⟨q,by have:=aA e;exact Aq c this⟩ (g.get _ _ trivial (K.get m o q e)),by have:=z.len;have:=g.len;omega⟩
structure VS (r b:Nat) (h0 h:List O):Prop where
 cell:h[b]?=some (.cell (some (.ref r)))
 row:c8 r h
 keep:Keep (λm=>m≠r) h0 h
 lt:r<h0.length
 le:h0.length<=b
theorem VS.ne(d:VS r b h0 h):b≠r:=by have:=d.lt;have:=d.le;omega
theorem VS.gr {r b:Nat}{h0 h h':List O}(d:VS r b h0 h)(g:Gr h h'):VS r b h0 h':=⟨g.get _ _ trivial d.cell,d.row.gr g,d.keep.trans g.keep,d.lt,d.le⟩
theorem VS.row'(d:VS r b h0 h)(c:c8 r h')(g:Keep (λm=>m≠r) h h'):VS r b h0 h':=⟨g.get _ _ d.ne d.cell,c,d.keep.trans g,d.lt,d.le⟩
theorem EZ(d:VS r b h0 h)(hm:many<=9)(hw:40<wf):
  ∃(l:List (Option Int)) (h':List O),cF wf (Ic (Tj wf (j+1)) 19) (aw "_law_vector" (aq "_law_vector") b) (aX (bG (aG "_law_vector" [2,0,0])) [1,1]) (.range many) h=.ok (l.map vi) h'/\VS r b h0 h'/\(∀o∈l,fF o)/\l.length=many:=by
 have ec:=fQ (C:=Tj wf (j+1)) (m:=19) (c:=aw "_law_vector" (aq "_law_vector") b) (e:=aX (bG (aG "_law_vector" [2,0,0])) [1,1]) (it:=.range many) (by kernel_rfl) (by kernel_rfl);refine aB λgP gH=>?_;obtain⟨acc,h',e,U,l,W,i3,i4⟩:=fS (turn:=λv=>bS (Tj wf (j+1)) 19 (aw "_law_vector" (aq "_law_vector") b) (aX (bG (aG "_law_vector" [2,0,0])) [1,1]) v mr) (it:=.range many) (rng many)
  (λt acc h'=>VS r b h0 h'/\ ∃l:List (Option Int),acc=l.map vi/\(∀o∈l,fF o)/\l.length=t)
  (λt acc h' Z=>cK many t h')
  (λt v acc h' L hI=>by
   obtain⟨A,l,rfl,a1,a2⟩:=hI;show ∃q h'',bS (Tj wf (j+1)) 19 (aw "_law_vector" (aq "_law_vector") b) (aX (bG (aG "_law_vector" [2,0,0])) [1,1]) v mr h'=_/\_;rw[u5];unfold mQ;rw[aa (aH _ _)];have y:=A.gr (Keep.app [O.list [.int 1,.int 0,.none]]);rw[aa (aE y.cell)];refine bW (bh (wf:=wf) (j:=j) y.row) λk2 Y e2 Z Z r2 S=>af (cM k2 (k:=3) (by decide)) λG J=>?_;rw[aa e2,aD (by decide),ae];generalize k2.fmod 3=g at G J ⊢;have z:=A.lt;have F:=A.keep.len;have gl:=S.get _ _ (rQ z F) (ay h' (O.list [.int 1,.int 0,.none]));obtain⟨o,ho,X⟩:∃o:Option Int,[V.int 1,V.int 0,V.none][g.toNat]?=some (vi o)/\fF o:=by
    rcases(show g=0\/g=1\/g=2 from nB _ 3 (by decide+kernel) G J)with rfl|rfl|rfl
    ·exact⟨some 1,rfl,by show 1<=2147483647;decide⟩
    ·exact⟨some 0,rfl,by show 0<=2147483647;decide⟩
    ·exact⟨none,rfl,trivial⟩
   rw[aa (iZ gl G ho (Q2 J))];refine aU _ Y ⟨rfl,y.row' r2 S,l++ [o],by simp,λx hx=>?_,by simp[a2]⟩;rcases Ur.mp hx with q|q
   ·exact a1 x q
   ·rw[TO]at q;subst q;exact X)
  wf 0 [] h o1 (by simp;exact HN hm hw) ⟨d,[],rfl,(λv L=>by cases L),rfl⟩
 subst W;refine gH<|aU l h' ⟨(congrFun ec h).trans e,U,i3,by simpa using i4⟩
theorem CY(d:VS r b h0 h)(hm:many<=9)(z:2000<wf):
  ∃(l:List Q) (h':List O),cF wf (Ic (Tj wf (j+2)) 19) (aw "_law_vector" (aq "_law_vector") b) (aX (bG (aG "_law_vector" [4,0,0])) [1,1]) (.range many) h=.ok (l.map vq) h'/\VS r b h0 h'/\(∀o∈l,c7 o)/\l.length=many:=by
 have X:=fQ (C:=Tj wf (j+2)) (m:=19) (c:=aw "_law_vector" (aq "_law_vector") b) (e:=aX (bG (aG "_law_vector" [4,0,0])) [1,1]) (it:=.range many) (by kernel_rfl) (by kernel_rfl);refine aB λgP Y=>?_;obtain⟨acc,h',e,A,l,F,i3,U⟩:=fS (turn:=λv=>bS (Tj wf (j+2)) 19 (aw "_law_vector" (aq "_law_vector") b) (aX (bG (aG "_law_vector" [4,0,0])) [1,1]) v mr) (it:=.range many) (rng many)
  (λt acc h'=>VS r b h0 h'/\ ∃l:List Q,acc=l.map vq/\(∀o∈l,c7 o)/\l.length=t)
  (λt acc h' Z=>cK many t h')
  (λt v acc h' y hI=>by
   obtain⟨g,l,rfl,S,a2⟩:=hI;show ∃q h'',bS (Tj wf (j+2)) 19 (aw "_law_vector" (aq "_law_vector") b) (aX (bG (aG "_law_vector" [4,0,0])) [1,1]) v mr h'=_/\_;rw[u6];unfold mR;rw[aa (aE g.cell)];refine bM (yV (j:=j) g.row z) λq J W G L p2=>?_;rw[aa W];refine aU _ J ⟨rfl,g.row' L p2,l++ [q],by simp,λx hx=>?_,by simp[a2]⟩;rcases Ur.mp hx with q|q
   ·exact S x q
   ·rw[TO]at q;subst q;exact G)
  wf 0 [] h o1 (by simp;exact La hm z) ⟨d,[],rfl,(λv y=>by cases y),rfl⟩
 subst F;refine Y<|aU l h' ⟨(congrFun X h).trans e,A,i3,by simpa using U⟩
noncomputable def pN(k m i:V):Loc:= [("kind",k),("many",m),("items",i)]
noncomputable def jJ(k m i a b:V):Loc:= [("kind",k),("many",m),("items",i),("lap",a),("pick_at",b)]
theorem CZ {l:List (Option Int)}{w k m:V}(d:VS r b h0 h)(hI:h[I]?=some (.list (l.map vi)))(x:h0.length<=I)(hl:l.length<=9)(Y:∀o∈l,fF o):
  ∃(o:Option Int) (p:V) (h':List O),fE (Tj wf (j+1)) b w k m (.ref I) (λL l=>mr (L,l)) h=.ok (.next,jJ k m (.ref I) w p) h'/\VS r b h0 h'/\h'[I]?=some (.list ((l++ [o]).map vi))/\fF o:=by
 refine bO (fE (Tj wf (j+1)) b w k m (.ref I) (λL l=>mr (L,l)) h) λgQ gR=>?_;refine az ((aE d.cell))<|bW (bh (j:=j) d.row) λk2 S e2 Z Z r2 p2=>af (cM k2 (k:=16) (by decide)) λU X=>az e2<|bC (aD (by decide) ..) ?_;generalize k2.fmod 16=c at U X ⊢;have A:=d.row' r2 p2;have y:=d.lt;have F:=p2.get _ _ (qC x y) hI;refine az ((cP F (by decide)))<|bC (jF ..) ?_;have nb:b≠I:=λe=>by have:=A.cell;rw[e,F]at this;cases this
 have app:∀(o:Option Int) (z:List O),VS r b h0 z->z[I]?=some (.list (l.map vi))->fF o-> ∃(p:V) (h':List O),(mq (bN (.ref I) "append" [vi o]) λr12=>(mr (Fl.next,jJ k m (.ref I) w (.int c)):M (Fl×Loc))) z=.ok (.next,jJ k m (.ref I) w p) h'/\VS r b h0 h'/\h'[I]?=some (.list ((l++ [o]).map vi))/\fF o:=λo z d3 I3 W=>by
  rw[aa (dh I3 (TT (by simp;exact Lb hl:(l.map vi).length<=9) (by decide)))];refine ac (d3.row) λlr er br=>aU _ _ ⟨rfl,⟨by rw[Tr (Vm nb)];exact d3.cell,⟨lr,by rw[Tr (qC x y)];exact er,br⟩,⟨λm o q e=>by rw[Tr (by have:=aA e;exact qC x this)];exact d3.keep.get _ _ q e,by simpa using d3.keep.len⟩,d3.lt,d3.le⟩,by rw[bg I3];simp,W⟩
 by_cases G:c<4
 ·refine EF (UD G)<|az ((aH _ _)) ?_
  have g:Gr S (S++ [O.list [.none,.int 2147483647,.int (-2147483647),.int 0]]):=Keep.app _;obtain⟨o,W,Y⟩:∃o:Option Int,[V.none,.int 2147483647,.int (-2147483647),.int 0][c.toNat]?=some (vi o)/\fF o:=by
   rcases(show c=0\/c=1\/c=2\/c=3 from Mk U G)with rfl|rfl|rfl|rfl
   ·exact⟨none,rfl,trivial⟩
   ·exact⟨some 2147483647,rfl,by show 2147483647<=2147483647;decide⟩
   ·exact⟨some (-2147483647),rfl,by show 2147483647<=2147483647;decide⟩
   ·exact⟨some 0,rfl,by show 0<=2147483647;decide⟩
  refine az ((iZ (ay S _) U W (Pv G)))<|gR _<|⟨o,app o _ (A.gr g) (g.get _ _ trivial F) Y⟩
 ·refine Be (Uv G)<|az ((aE A.cell))<|bW (bh (j:=j) A.row) λk3 z e3 Z Z r3 p3=>af (cM k3 (k:=30) (by decide)) λq0 J=>az e3<|bC (aD (by decide) ..)<|gR _<|⟨_,app (some (k3.fmod 30-10)) z (A.row' r3 p3) (p3.get _ _ (qC x y) F) (by show(k3.fmod 30-10).natAbs<=2147483647;exact RG q0 J)⟩
theorem G2 {k m:V}(d:VS r b h0 h)(hI:h[I]?=some (.list []))(c:h0.length<=I)(J:many<=9)(hw:40<wf):
  ∃(l:List (Option Int)) (lc:Loc) (h':List O),bF (Tj wf (j+1)) 22 "_law_vector" b [3,0,1] (.range many) (pN k m (.ref I)) h=.ok (.next,lc) h'/\(lc=pN k m (.ref I)\/ ∃x y,lc=jJ k m (.ref I) x y)/\VS r b h0 h'/\h'[I]?=some (.list (l.map vi))/\(∀o∈l,fF o)/\l.length=many:=by
 refine aB λgP gH=>?_;obtain⟨lc,h',e,S,U,l,i3,i4,W⟩:=bX (body:=λv l=>aJ (Tj wf (j+1)) 22 "_law_vector" b [3,0,1] v l λfl l=>mr (fl,l)) (it:=.range many) (rng many)
  (λt lc h'=>(lc=pN k m (.ref I)\/ ∃x y,lc=jJ k m (.ref I) x y)/\VS r b h0 h'/\ ∃l:List (Option Int),h'[I]?=some (.list (l.map vi))/\(∀o∈l,fF o)/\l.length=t)
  (λt lc h' Z=>cK many t h')
  (λt v lc h' A g=>by
   obtain⟨z,d',l,a1,L,F⟩:=g;have X:=(gW A).1;refine kG (CZ (wf:=wf) (j:=j) (w:=v) (k:=k) (m:=m) d' a1 c (Qf J F X) L) λo p h2 G Y a4 a5=>bJ .next _ h2 ⟨?_,.inl rfl,.inr ⟨v,p,rfl⟩,Y,l++ [o],a4,λx hx=>?_,by simp[F]⟩
   ·rcases z with rfl|⟨x,y,rfl⟩
    ·show aJ (Tj wf (j+1)) 22 "_law_vector" b [3,0,1] v (pN k m (.ref I)) _ h'=_
     unfold pN;rw[tj];exact G
    ·show aJ (Tj wf (j+1)) 22 "_law_vector" b [3,0,1] v (jJ k m (.ref I) x y) _ h'=_
     unfold jJ;rw[tm];exact G
   ·rcases Ur.mp hx with q|q
    ·exact L x q
    ·rw[TO]at q;subst q;exact a5)
  wf 0 (pN k m (.ref I)) h o1 (by simp;exact HN J hw) ⟨.inl rfl,d,[],hI,(λv A=>by cases A),rfl⟩
 refine gH<|bJ l lc h' ⟨(cC (by kernel_rfl)).trans e,S,U,i3,i4,by simpa using W⟩
theorem yY {y:Nat}(g:h[n]?=some (.list [v]))(c:y<=9):ah .Mult (.ref n) (.int y) h=.ok (.ref h.length) (h++ [.list (List.replicate y v)]):=by
 refine(gq (f:=λl=>bif decide (0<=(y:Int))&&(decide ((y:Int)<=line)&&decide (l.length*(y:Int).toNat<=line))then R.ok (V.ref h.length) (h++ [O.list (List.replicate (y:Int).toNat l).flatten])else R.bad) g).trans ?_;rw[qc (Tm.mpr ⟨UD qE,Tm.mpr ⟨UD (by unfold line;exact R2 c),UD (by unfold line;simp;exact o2 c)⟩⟩),Int.toNat_natCast];rw[List.flatten_replicate_singleton]
theorem fv {β:Type}(C:Tb)(m:Nat)(c:Cx)(s:List Stmt)(k:Fl->Loc->M β)(l:Loc):cm C m c s k .next l=bj ((kK ai C.wf C.f m).ex c) s l k:=rfl
theorem Ad {β:Type}(C:Tb)(b:Nat)(K:Fl->Loc->M β){k m i:V}(h:List O)(g:lc=pN k m i\/ ∃x y,lc=jJ k m i x y):
  cm C 23 (aw "_law_vector" (aq "_law_vector") b) (aG "_law_vector" [3,0,2]) K .next lc h=(mq (aZ b) λc=>mq (C.f "Vector" [(.str "integer"),i]) λo=>mq (C.f "_law_dressed" [c,o]) λq=>K (.ret q) lc) h:=by
 rw[fv];rcases g with rfl|⟨x,y,rfl⟩
 ·unfold pN;rw[tr];rfl
 ·unfold jJ;rw[tv];rfl
theorem yZ {kind:V}(d:VS r b h0 h)(g:many<=9)(x:2000<wf):
  bU (oy (Tj wf (j+3)) b kind (.int many)) r h0 h:=by
 refine bU.pre (aa (aH _ _)) ?_;have A:=d.gr (Keep.app [O.list []]);have c:=d.keep.len;refine aB λS G=>kH (G2 (j:=j+2) (k:=kind) (m:=.int many) A (ay h (O.list [])) (o9 c) g (qD x)) λl lc F L o q z y J=>G<|bU.pre (aQ (cW (xr g)) (aa L))<|bU.pre (Ad _ _ _ F o)<|bU.pre (aa (aE q.cell))<|mX (j:=j) q.row z (o9 c) (by decide) (.integer l y) (by simp;exact K8 g J) q.keep d.lt (qD x)
theorem y3(hr:c8 r h)(G:2000<wf):bU (T ai wf 24 (j+4) "_law_vector" [.ref r]) r h h:=by
 refine bU.pre (h':=h++ [.cell none]) (m':=pn (Tj wf (j+3)) h.length (.ref r)) (by rw[yO (by kernel_rfl) (by kernel_rfl),yq]) ?_;have q:r<h.length:=by obtain⟨_,e,_⟩:=hr;exact aA e
 have Y:VS r h.length h (h++ [O.cell (some (.ref r))]):=⟨ay _ _,hr.gr (Keep.app _),Keep.app _,q,U9 _⟩;refine bU.pre (aa u9) ?_;generalize h++ [O.cell (some (.ref r))]=h1 at Y;refine bU.pre (aa (aE Y.cell))<|bW (bh (wf:=wf) (j:=j+2) Y.row) λk2 h2 e2 Z Z r2 p2=>?_;have d2:=Y.row' r2 p2;refine bU.pre (aN e2 (aQ (aD (by decide)) rfl))<|af (cM k2 (k:=8) (by decide)) λn0 n8=>?_;generalize k2.fmod 8=kind at n0 n8 ⊢;refine bU.pre (aa (aH _ _)) ?_;have d3:=d2.gr (Keep.app [O.list [.int 1,.int 2,.int 3,.int 4,.int 6,.int 9,.int 0,.int 1]]);refine bU.pre (aa (aE d3.cell))<|bW (bh (wf:=wf) (j:=j+2) d3.row) λk4 h4 e4 Z Z r4 p4=>?_;have z:=d3.row' r4 p4;refine bU.pre (aN e4 (aQ (aD (by decide)) rfl))<|af (cM k4 (k:=8) (by decide)) λm0 m8=>?_;generalize k4.fmod 8=c at m0 m8 ⊢;have hle:=d2.keep.len;have gl:=p4.get _ _ (rQ q hle) (ay h2 (O.list [.int 1,.int 2,.int 3,.int 4,.int 6,.int 9,.int 0,.int 1]));obtain⟨many,ho,g⟩:∃many:Nat,[V.int 1,.int 2,.int 3,.int 4,.int 6,.int 9,.int 0,.int 1][c.toNat]?=some (.int many)/\many<=9:=by
  rcases(show c=0\/c=1\/c=2\/c=3\/c=4\/c=5\/c=6\/c=7 from Re m0 m8)with rfl|rfl|rfl|rfl|rfl|rfl|rfl|rfl
  ·exact⟨1,rfl,by decide⟩
  ·exact⟨2,rfl,by decide⟩
  ·exact⟨3,rfl,by decide⟩
  ·exact⟨4,rfl,by decide⟩
  ·exact⟨6,rfl,by decide⟩
  ·exact⟨9,rfl,by decide⟩
  ·exact⟨0,rfl,by decide⟩
  ·exact⟨1,rfl,by decide⟩
 refine bU.pre (aa (iZ gl m0 ho (R0 m8))) ?_;by_cases k0:kind=0
 ·refine bU.pre (uZ k0 (aN (aE z.cell) (aQ (cW (xr g)) rfl)))<|bM (EZ (j:=j+2) z g (qD G)) λl J U y a5 l5=>bU.pre (aa U)<|bU.pre (aa (aH _ _)) ?_
  have F:=y.gr (Keep.app [O.list (l.map vi)]);have x:=y.keep.len;exact mX (j:=j) F.row (ay J (O.list (l.map vi))) (o9 x) (by decide) (.logical l a5) (by simp;exact K8 g l5) F.keep q (qD G)
 refine bU.pre (rD k0 rfl) ?_;by_cases W:kind<4
 ·refine bU.pre (CF W rfl)<|yZ (j:=j) z g G
 refine bU.pre (CG W rfl) ?_;by_cases k6:kind<6
 ·refine bU.pre (CF k6 (aN (aE z.cell) (aQ (cW (xr g)) rfl)))<|bM (CY (j:=j+1) z g G) λl J U y a5 l5=>bU.pre (aa U)<|bU.pre (aa (aH _ _)) ?_
  have F:=y.gr (Keep.app [O.list (l.map vq)]);have x:=y.keep.len;exact mX (j:=j) F.row (ay J (O.list (l.map vq))) (o9 x) (by decide) (.double l a5) (by simp;exact K8 g l5) F.keep q (qD G)
 refine bU.pre (CG k6 rfl) ?_;by_cases L:kind=6
 ·refine bU.pre (uZ L (aa Ng)) ?_
  have y:=z.gr (Keep.app [qh]);have X:=z.keep.len;exact⟨_,⟨"NULL",[],λZ=>none⟩,_,rfl,.null (by show r<h4.length;exact Pf q X) (ay _ _) (λZ=>rfl),⟨AOk.nil,by simp,.null⟩,y.row,y.keep⟩
 refine bU.pre (rD L rfl)<|bU.pre (aa (aE z.cell))<|bU.pre (aa (aE z.cell))<|bW (bh (wf:=wf) (j:=j+2) z.row) λk5 J U Z Z r5 p5=>?_;have y:=z.row' r5 p5;refine bU.pre (aN U (aQ (aD (by decide)) rfl)) ?_;have x:=y.keep.len;by_cases k3:k5.fmod 3=2
 ·refine bU.pre (uZ k3 (aa (aH _ _))) ?_
  have F:=y.gr (Keep.app [O.list [.str "1"]]);have A:=F.keep.len;refine bU.pre (aa (yY (ay J _) g)) ?_;have S:=F.gr (Keep.app [O.list (List.replicate many (.str "1"))]);refine mX (j:=j) S.row (ay _ (O.list (List.replicate many (.str "1")))) (o9 A) (by decide) ?_ (by simp;exact Lb g) S.keep q (qD G);have:=Kd.character (List.replicate many "1");rwa [List.map_replicate]at this
 ·refine bU.pre (rD k3 (aa (aH _ _))) ?_
  have F:=y.gr (Keep.app [O.list [.int 1]]);have A:=F.keep.len;refine bU.pre (aa (yY (ay J _) g)) ?_;have S:=F.gr (Keep.app [O.list (List.replicate many (.int 1))]);refine mX (j:=j) S.row (ay _ (O.list (List.replicate many (.int 1)))) (o9 A) (by decide) ?_ (by simp;exact Lb g) S.keep q (qD G);have:=Kd.integer (List.replicate many (some 1)) (λo ho=>by rw[List.eq_of_mem_replicate ho];show 1<=2147483647;decide);rwa [List.map_replicate]at this
inductive Op where
 |add|sub|mul|div|pow|mod|idiv
noncomputable def Op.s:Op->Str
 |.add=> "+"
 |.sub=> "-"
 |.mul=> "*"
 |.div=> "/"
 |.pow=> "^"
 |.mod=> "%%"
 |.idiv=> "%/%"
noncomputable def Op.whole:Op->Bool
 |.div=>false
 |.pow=>false
 |_=>true
noncomputable def iM(x:Int):Option Int:=if(x.natAbs:Int)>2147483647 then none else some x
def gJ(o:Op):Option Int->Option Int->Option Int
 |some a,some b=>match o with
  |.add=>iM (a+b)
  |.sub=>iM (a-b)
  |.mul=>iM (a*b)
  |.idiv=>if b=0 then none else iM (a.fdiv b)
  |.mod=>if b=0 then none else iM (a.fmod b)
  |_=>none
 |_,_=>none
def fw(f:V):M V:=mq (builtin "abs" [f]) λc=>mq (cmp .Gt c (.int 2147483647)) λg=>bif g then(mr .none)else(mr f)
theorem ey(x:Int):fw (.int x)=mr (vi (iM x)):=by
 unfold fw iM;rw[show builtin "abs" [.int x]=mr (.int x.natAbs) from rfl,ae,cJ,ae];by_cases h:(x.natAbs:Int)>2147483647
 ·rw[UD h,Vo h];rfl
 ·rw[Uv h,Vn h];rfl
theorem Nn(C:Tb)(b:Nat)(x y:Int)(h:List O):cX C b (.str "+") (.int x) (.int y) h=fw (.int (x+y)) h:=by kernel_rfl
theorem No(C:Tb)(b:Nat)(x y:Int)(h:List O):cX C b (.str "-") (.int x) (.int y) h=fw (.int (x-y)) h:=by kernel_rfl
theorem Np(C:Tb)(b:Nat)(x y:Int)(h:List O):cX C b (.str "*") (.int x) (.int y) h=mq (ah .Mult (.int x) (.int y)) fw h:=by kernel_rfl
theorem JW(C:Tb)(b:Nat)(x y:Int)(h:List O):cX C b (.str "%/%") (.int x) (.int y) h=(bif decide (y=0)then mr .none else mq (ah .FloorDiv (.int x) (.int y)) fw) h:=by kernel_rfl
theorem Nq(C:Tb)(b:Nat)(x y:Int)(h:List O):cX C b (.str "%%") (.int x) (.int y) h=(bif decide (y=0)then mr .none else mq (ah .Mod (.int x) (.int y)) fw) h:=by kernel_rfl
theorem G3(C:Tb)(b:Nat)(o y:V)(h:List O):cX C b o .none y h=.ok .none h:=by kernel_rfl
theorem G4(C:Tb)(b:Nat)(o:V)(x:Int)(h:List O):cX C b o (.int x) .none h=.ok .none h:=by kernel_rfl
theorem Ij(h:a.natAbs<=2147483647):a.natAbs<2^2000:=gC (P9 h)
theorem y4 {o:Op}{a b:Option Int}(c:o.whole=true)(z:fF a)(q:fF b):T ai wf 24 (j+1) "integer_op" [.str o.s,vi a,vi b] h=.ok (vi (gJ o a b)) h:=by
 rw[aK (by kernel_rfl) (by kernel_rfl),yj];rcases a with _|x
 ·exact G3 _ _ _ _ _
 rcases b with _|y
 ·exact G4 _ _ _ _ _
 have A:=Ij z;have g:=Ij q;induction o using Mine.Op.casesOn with
 |add=>exact(Nn _ _ _ _ _).trans (by rw[ey];rfl)
 |sub=>exact(No _ _ _ _ _).trans (by rw[ey];rfl)
 |mul=>exact(Np _ _ _ _ _).trans (by rw[bn A g,ae,ey];rfl)
 |div=>cases c
 |pow=>cases c
 |mod=>
  refine(Nq _ _ _ _ _).trans ?_;show _=R.ok (vi (if y=0 then none else iM (x.fmod y))) h;by_cases h0:y=0
  ·rw[UD h0,Vo h0];rfl
  ·rw[Uv h0,Vn h0,Ve,aD h0,ae,ey];rfl
 |idiv=>
  refine(JW _ _ _ _ _).trans ?_;show _=R.ok (vi (if y=0 then none else iM (x.fdiv y))) h;by_cases h0:y=0
  ·rw[UD h0,Vo h0];rfl
  ·rw[Uv h0,Vn h0,Ve,bu h0 g,ae,ey];rfl
def lJ(x y:V)(op:V)(g:V->M V):M V:=mq (ah .Add x y) λo=>mq (ah .Sub x y) λq=>mq (ah .Mult x y) λz=>mq (aC (.dict (put "*" z (put "-" q (put "+" o []))))) λc=>mq (bQ c "get") λZ=>mq (bN c "get" [op,.none]) g
theorem Nr(C:Tb)(b:Nat)(x y:Int)(h:List O):cg C b (.str "+") (.int x) (.int y) h=lJ (.int x) (.int y) (.str "+") fw h:=by kernel_rfl
theorem Nt(C:Tb)(b:Nat)(x y:Int)(h:List O):cg C b (.str "-") (.int x) (.int y) h=lJ (.int x) (.int y) (.str "-") fw h:=by kernel_rfl
theorem Nu(C:Tb)(b:Nat)(x y:Int)(h:List O):cg C b (.str "*") (.int x) (.int y) h=lJ (.int x) (.int y) (.str "*") fw h:=by kernel_rfl
theorem JX(C:Tb)(b:Nat)(x y:Int)(h:List O):cg C b (.str "%/%") (.int x) (.int y) h=(bif decide (y=0)then mr .none else lJ (.int x) (.int y) (.str "%/%") λZ=>mq (ah .FloorDiv (.int x) (.int y)) fw) h:=by kernel_rfl
theorem Nv(C:Tb)(b:Nat)(x y:Int)(h:List O):cg C b (.str "%%") (.int x) (.int y) h=(bif decide (y=0)then mr .none else lJ (.int x) (.int y) (.str "%%") λZ=>mq (ah .FloorDiv (.int x) (.int y)) λg=>mq (ah .Mult g (.int y)) λc=>mq (ah .Sub (.int x) c) fw) h:=by kernel_rfl
theorem G5(C:Tb)(b:Nat)(o y:V)(h:List O):cg C b o .none y h=.ok .none h:=by kernel_rfl
theorem G6(C:Tb)(b:Nat)(o:V)(x:Int)(h:List O):cg C b o (.int x) .none h=.ok .none h:=by kernel_rfl
theorem kw {x y:Int}{op:Str}{K:V->M V}{h:List O}{r:V}(z:x.natAbs<2^2000)(c:y.natAbs<2^2000)
  (o:K ((look op (put "*" (V.int (x*y)) (put "-" (V.int (x-y)) (put "+" (V.int (x+y)) [])))).getD .none)=mr r):∃t,lJ (.int x) (.int y) (.str op) K h=.ok r (h++t):=by
 refine bO (lJ (.int x) (.int y) (.str op) K h) λA q=>?_;unfold lJ;rw[cZ,ae,ch,ae,bn z c,ae,aa (aH _ _)];have g:=ay h (O.dict (put "*" (V.int (x*y)) (put "-" (V.int (x-y)) (put "+" (V.int (x+y)) []))));refine az ((vW g))<|az ((EO g)) ?_;rw[o];refine q _<|⟨_,rfl⟩
theorem C0 {x y:Int}(h:x.natAbs<=2147483647):(x.fdiv y).natAbs<2^60:=by
 have c:(x.fdiv y).natAbs<=x.natAbs:=Int.natAbs_fdiv_le_natAbs x y;exact TT (tt c h) (by decide)
theorem wV {o:Op}{a b:Option Int}{h:List O}(z:o.whole=true)(q:fF a)(A:fF b):∃t,T ai wf 24 (j+1) "_law_integer" [.str o.s,vi a,vi b] h=.ok (vi (gJ o a b)) (h++t):=by
 rw[aK (by kernel_rfl) (by kernel_rfl),wQ];rcases a with _|x
 ·exact⟨[],(G5 _ _ _ _ _).trans (by rw[Um];rfl)⟩
 rcases b with _|y
 ·exact⟨[],(G6 _ _ _ _ _).trans (by rw[Um];rfl)⟩
 have g:=Ij q;have c:=Ij A;induction o using Mine.Op.casesOn with
 |add=>
  have:=(kw (op:= "+") (K:=fw) (h:=h) (r:=vi (iM (x+y))) g c (ey _));obtain⟨t,e⟩:=this;exact⟨t,(Nr _ _ _ _ _).trans e⟩
 |sub=>
  have:=(kw (op:= "-") (K:=fw) (h:=h) (r:=vi (iM (x-y))) g c (ey _));obtain⟨t,e⟩:=this;exact⟨t,(Nt _ _ _ _ _).trans e⟩
 |mul=>
  have:=(kw (op:= "*") (K:=fw) (h:=h) (r:=vi (iM (x*y))) g c (ey _));obtain⟨t,e⟩:=this;exact⟨t,(Nu _ _ _ _ _).trans e⟩
 |div=>exact ff z
 |pow=>exact ff z
 |mod=>
  rw[Nv (Tj wf j) h.length x y h|>λe=>show cg (Tj wf j) h.length (.str Op.mod.s) (vi (some x)) (vi (some y)) h=_ from e];show ∃t,_=R.ok (vi (if y=0 then none else iM (x.fmod y))) (h++t);by_cases h0:y=0
  ·rw[UD h0,Vo h0];exact⟨[],by rw[Um];rfl⟩
  ·rw[Uv h0,Vn h0,Ve]
   refine kw g c ?_;rw[bu h0 c,ae,bn (gC (C0 q)) c,ae,ch,ae,ey];rw[Int.fmod_def,UR]
 |idiv=>
  rw[JX (Tj wf j) h.length x y h|>λe=>show cg (Tj wf j) h.length (.str Op.idiv.s) (vi (some x)) (vi (some y)) h=_ from e];show ∃t,_=R.ok (vi (if y=0 then none else iM (x.fdiv y))) (h++t);by_cases h0:y=0
  ·rw[UD h0,Vo h0];exact⟨[],by rw[Um];rfl⟩
  ·rw[Uv h0,Vn h0,Ve]
   refine kw g c ?_;rw[bu h0 c,ae,ey]
noncomputable def dH(x:Q)(k:Int):Q:=match x with
 |none=>if k=0 then some (1,1)else none
 |some (a,b)=>if(a=1/\b=1)\/k=0 then some (1,1)else if a=0/\b=0 then some (0,0)else if a=0/\b=1 then(if k>0 then some (0,1)else some (1,0))
  else if b=0 then(if k<0 then some (0,1)else if a<0/\k.fmod 2=0 then some (1,0)else some (a,b))else if k>0 then some (a^k.toNat,b^k.toNat)else b8 (b^(-k).toNat) (a^(-k).toNat)
theorem y5 {k l:Nat}(g:a.natAbs<2^k)(q:0<k)(o:l<=4)(c:4*k<m):(a^l).natAbs<2^m:=by
 rw[Int.natAbs_pow];refine TT (Nat.pow_le_pow_left (UY g) l) ?_;rw[<-Nat.pow_mul];refine Nat.pow_lt_pow_right (by decide) ?_;have:k*l<=k*4:=TH _ o;exact TT this (Nat.mul_comm 4 _▸c)
theorem gK {k:Int}(h0:0<=k)(g:k<=4096)(c:a.natAbs<2^2000):ah .Pow (.int a) (.int k)=mr (.int (a^k.toNat)):=by
 funext h;exact qc (Tm.mpr ⟨UD h0,Tm.mpr ⟨UD g,UD c⟩⟩)
theorem wW {a b k:Int}{h:List O}(z:a.natAbs<2^40)(F:b.natAbs<2^40)(G:¬(a=1/\b=1))(h0:k≠0)(o:k.natAbs<=4)(A:b≠0)(y:a≠0)(L:2000<wf):
  T ai wf 24 (j+3) "whole_power" [vq (some (a,b)),.int k] h=.ok (vq (dH (some (a,b)) k)) h:=by
 rw[aK (by kernel_rfl) (by kernel_rfl),ww];unfold oo;have ep:dH (some (a,b)) k=if k>0 then some (a^k.toNat,b^k.toNat)else b8 (b^(-k).toNat) (a^(-k).toNat):=by
  show(if(a=1/\b=1)\/k=0 then some (1,1)else if a=0/\b=0 then some (0,0)else if a=0/\b=1 then(if k>0 then some (0,1)else some (1,0))else if b=0 then _ else _)=_
  rw[Vn (λh=>h.elim G h0),Vn (P8 y),Vn (RF y),Vn A]
 have c:iD (Tj wf (j+2)) (vq (some (a,b))) (.int k) h=R.ok (vq (dH (some (a,b)) k)) h:=by
  rw[ep];refine aQ (show builtin "abs" [.int k]=mr (.int k.natAbs) from rfl ..)<|Nb (Va.mpr (UT.mpr (tt o (by decide))))<|aQ (sW ..) ?_;by_cases g:k>0
  ·refine sX (RN g) ?_;rw[Vo g]
   refine aQ (bz ..)<|aQ (gK (Le g) (Pq o) (aS z (by decide)))<|aQ (bL ..)<|aQ (gK (Le g) (Pq o) (aS F (by decide))) rfl
  ·refine sY (λh=>g (To.mpr ⟨h,Vm h0⟩)) ?_;rw[Vn g]
   have J:ah .Sub (.int 0) (.int k)=mr (.int (-k)):=(ch ..).trans (by rw[show(0:Int)-k= -k from Dq]);refine aQ (bL ..)<|aQ J<|aQ (gK (Pj g) (LF o) (aS F (by decide)))<|aQ (bz ..)<|aQ J<|aQ (gK (Pj g) (LF o) (aS z (by decide)))<|aN ((s9 (j:=j) (y5 z (by decide) (LX o) (by decide)) L)) ?_;rw[mO];rfl
 refine oB G ?_;by_cases x:a= -1
 ·refine xg x ?_
  by_cases q:b=1
  ·refine cG q<|aQ (aD (by decide)) ?_
   subst x;subst q
   rcases(show k= -4\/k= -3\/k= -2\/k= -1\/k=1\/k=2\/k=3\/k=4 from QU h0 o)with rfl|rfl|rfl|rfl|rfl|rfl|rfl|rfl<;>rfl
  ·refine cA q<|c
 ·refine xh x<|c
theorem JY {x:Q}{k:Int}(hx:c7 x)(Z:k.natAbs<=4)(hw:2000<wf):T ai wf 24 (j+4) "power" [vq x,vq (some (k,1))] h=.ok (vq (dH x k)) h:=by
 rw[aK (by kernel_rfl) (by kernel_rfl),JJ];unfold A8;have L:=qf (wf:=wf) (j:=j+2) x (h:=h);have A:=qf (wf:=wf) (j:=j+2) (some (k,1)) (h:=h);have U:=yH (wf:=wf) (j:=j+2) x (some (k,1)) (h:=h);have W:bx (some (k,1))=false:=by show(decide (k=0)&&decide ((1:Int)=0))=false;simp
 rw[W]at A;by_cases k0:k=0
 ·subst k0
  have:dH x 0=some (1,1):=by
   rcases x with _|⟨a,b⟩
   ·rfl
   ·exact Vo (.inr rfl)
  rw[this];rcases x with _|⟨a,b⟩
  ·rfl
  ·by_cases q:a=1/\b=1
   ·exact qT q rfl
   ·exact oB q (qT ⟨rfl,rfl⟩ rfl)
 have z:¬(k=0/\(1:Int)=1):=λq=>k0 q.1;rcases x with _|⟨a,b⟩
 ·have S:dH none k=none:=Vn k0
  rw[S];refine aQ (iH ..)<|lh<|oB z ?_;simp only[vq,iH,gz,ae,Ve,Uv k0,Uy]at L U ⊢;refine aN L<|aQ (aW ..)<|oA (show bx none=true from rfl)<|aN U ?_;rfl
 by_cases G:a=1/\b=1
 ·rw[show dH (some (a,b)) k=some (1,1) from Vo (.inl G)];exact qT G rfl
 refine oB G<|oB z<|aN L<|aQ (aW ..) ?_;by_cases y:a=0/\b=0
 ·refine oA (show bx (some (a,b))=true by show(decide (a=0)&&decide (b=0))=true;simpa using y) ?_;refine aN U ?_
  rw[show dH (some (a,b)) k=some (0,0) from(Vn (Lr k0 y)).trans (Vo y)];rfl
 refine mM (show bx (some (a,b))=false by show(decide (a=0)&&decide (b=0))=false;simpa using y) ?_;refine aN A<|aQ (aW ..)<|lh ?_;by_cases hz:a=0/\b=1
 ·refine qT hz ?_;rw[show dH (some (a,b)) k=if k>0 then some (0,1)else some (1,0) from(Vn (Ly k0 hz)).trans ((Vn y).trans (Vo hz))]
  by_cases F:k>0
  ·rw[Vo F];exact xi F rfl
  ·rw[Vn F];exact xj F rfl
 refine oB hz<|cA (by decide) ?_;obtain⟨⟨up,X⟩,Y,sb⟩:=hx;by_cases o:b=0
 ·refine cG o ?_
  have ha1:a.natAbs=1:=by
   rcases X with q|q
   ·exact absurd q y
   ·subst o;simpa using q
  have ei:T ai wf 24 (j+3) "infinite_power" [vq (some (a,b)),vq (some (k,1))] h=.ok (vq (dH (some (a,b)) k)) h:=by
   rw[aK (by kernel_rfl) (by kernel_rfl),rk];unfold kh;have S:dH (some (a,b)) k=if k<0 then some (0,1)else if a<0/\k.fmod 2=0 then some (1,0)else some (a,b):=(Vn (Mc k0 o)).trans ((Vn y).trans ((Vn hz).trans (Vo o)));rw[S];have f:fM (vq (some (a,b))) (vq (some (k,1))) h=.ok (vq (if k<0 then some (0,1)else if a<0/\k.fmod 2=0 then some (1,0)else some (a,b))) h:=by
    by_cases g:k<0
    ·rw[Vo g];exact qd g rfl
    ·rw[Vn g];refine qe g ?_
     by_cases c:a<0
     ·refine qd c<|aQ (bz ..)<|aQ (aD (by decide)) ?_
      by_cases J:k.fmod 2=0
      ·rw[Vo ⟨c,J⟩];exact uZ J rfl
      ·rw[Vn λq=>J q.2];exact rD J rfl
     ·rw[Vn λq=>c q.1];exact qe c rfl
   by_cases c:a<0
   ·exact qd c (aQ (bL ..) (aQ (dY ..) (lh f)))
   ·exact qe c f
  refine aN ei ?_;rfl
 ·refine cA o ?_
  have ew:=wW (j:=j) (a:=a) (b:=b) (k:=k) (h:=h) Y sb G k0 Z o (by
   intro q;subst q;rcases X with q|q
   ·exact o q.2
   ·simp at q;omega) hw
  refine cG rfl<|aQ (bz ..)<|aN ew rfl
theorem G7 {n:Int}(h:Nat.gcd n.natAbs d.natAbs=1):eW n d=some (n,d):=by
 unfold eW;rw[h];simp
theorem E0 {n:Int}(hd:0<d)(h:Nat.gcd n.natAbs d.natAbs=1):b8 n d=some (n,d):=by
 unfold b8;rw[Vn (HQ hd),Vn (LT hd),G7 h]
theorem JZ {b:Int}(h:Nat.gcd a.natAbs b.natAbs=1)(i:Nat):Nat.gcd (a^i).natAbs (b^i).natAbs=1:=by
 rw[Int.natAbs_pow,Int.natAbs_pow];exact Nat.Coprime.pow i i h
theorem G8 {b:Int}(g:0<b)(h:Nat.gcd a.natAbs b.natAbs=1)(i:Nat):iX (some (a^i,b^i)) (some (a,b))=some (a^(i+1),b^(i+1)):=by
 have o:0<b^(i+1):=U7 g;have c:0<b^i:=U7 g
 show(if(a^i=0/\b^i=0)\/(a=0/\b=0)then cB else b8 (a^i*a) (b^i*b))=_
 rw[Vn (Qh g c),<-Int.pow_succ,<-Int.pow_succ];exact E0 o (JZ h _)
theorem E3 {b:Int}(g:a.natAbs<2^40)(o:b.natAbs<2^40)(c:i<=4):Sm 400 (some (a^i,b^i)):=⟨y5 g (by decide) c (by decide),y5 o (by decide) c (by decide)⟩
theorem Af {x:Q}{k:Int}(hx:c7 x)(L:k.natAbs<=4)(X:2000<wf):T ai wf 24 (j+3) "_law_power" [vq x,.int k] h=.ok (vq (dH x k)) h:=by
 rw[aK (by kernel_rfl) (by kernel_rfl),zW];by_cases k0:k=0
 ·subst k0
  have:dH x 0=some (1,1):=by
   rcases x with _|⟨a,b⟩
   ·rfl
   ·exact Vo (.inr rfl)
  rw[this];rcases x with _|⟨a,b⟩
  ·rfl
  ·by_cases q:a=1/\b=1
   ·exact qT q rfl
   ·exact oB q rfl
 rcases x with _|⟨a,b⟩
 ·have e2:dH none k=none:=Vn k0
  rw[e2];unfold qN;unfold iq;refine aQ (iH ..)<|lh ?_;rw[bA,Uv k0];rfl
 obtain⟨⟨up,hg⟩,U,sb⟩:=hx;have J:¬(a=1/\b=1)-> ¬(a=0/\b=0)-> ¬(a=0/\b=1)->b≠0->pj (Tj wf (j+2)) h.length (vq (some (a,b))) (.int k) h=R.ok (vq (dH (some (a,b)) k)) h:=λG z hz A=>by
  have o:0<b:=Rs up A;have hg':Nat.gcd a.natAbs b.natAbs=1:=hg.resolve_left z;refine aQ (show builtin "abs" [.int k]=mr (.int k.natAbs) from rfl ..)<|aQ (cW (Qg L) ..) ?_;obtain⟨lc,h',e,rfl,i2⟩:=bX (body:=λv l=>aJ (Tj wf (j+2)) 23 "_law_power" h.length [5] v l λfl l=>mr (fl,l)) (it:=.range k.natAbs) (rng k.natAbs)
   (λi lc h'=>h'=h/\(lc=([("x",vq (some (a,b))),("n",.int k),("found",vq (some (a^i,b^i)))]:Loc)\/ ∃p,lc=([("x",vq (some (a,b))),("n",.int k),("found",vq (some (a^i,b^i))),("lap",p)]:Loc)))
   (λi lc h' Z=>cK _ i h')
   (λi v lc h' hv hI=>by
    obtain⟨hi,_⟩:=gW hv;obtain⟨rfl,hI⟩:=hI;have Y:=oE (j:=j) (x:=some (a^i,b^i)) (y:=some (a,b)) (h:=h') (E3 U sb (Qp L hi)) (eX ⟨U,sb⟩ (by decide)) (show 0<=b^i from UO (U7 o)) up X;rw[th,G8 o hg']at Y;refine bJ .next [("x",vq (some (a,b))),("n",.int k),("found",vq (some (a^(i+1),b^(i+1)))),("lap",v)] h' ⟨?_,.inl rfl,rfl,.inr ⟨v,rfl⟩⟩;rcases hI with rfl|⟨p,rfl⟩
    ·rw[uN]
     refine aN Y ?_;rfl
    ·rw[uO]
     refine aN Y ?_;rfl)
   wf 0 [("x",vq (some (a,b))),("n",.int k),("found",(.tup [(.int 1),(.int 1)]))] h o1 (by simp;exact Ro L X) ⟨rfl,.inl (by simp[vq])⟩
  refine aN (((cC (by kernel_rfl)).trans e)) ?_;rw[iY]at i2;have ep:dH (some (a,b)) k=if k>0 then some (a^k.toNat,b^k.toNat)else b8 (b^(-k).toNat) (a^(-k).toNat):=by
   show(if(a=1/\b=1)\/k=0 then some (1,1)else if a=0/\b=0 then some (0,0)else if a=0/\b=1 then(if k>0 then some (0,1)else some (1,0))else if b=0 then _ else _)=_
   rw[Vn (Rp k0 G),Vn (Qy o),Vn (QF hz),Vn A]
  have last:(mq (cmp .Gt (.int k) (.int 0)) λr4=>bif r4 then(mr (vq (some (a^k.natAbs,b^k.natAbs))))else(mq (T ai wf 24 (j+2) "_law_quotient" [(.tup [(.int 1),(.int 1)]),vq (some (a^k.natAbs,b^k.natAbs))]) λr3=>mr r3)) h'=.ok (vq (dH (some (a,b)) k)) h':=by
   refine aQ (cJ ..) ?_;rw[ep];by_cases g:k>0
   ·rw[UD g,Vo g,show k.natAbs=k.toNat from RM g];rfl
   ·rw[Uv g,Vn g,show k.natAbs=(-k).toNat from RQ g,Ve]
    have W:=mN (j:=j) (x:=some (1,1)) (y:=some (a^(-k).toNat,b^(-k).toNat)) (h:=h') ⟨TV (by decide),TV (by decide)⟩ (E3 U sb (LX L)) (show(0:Int)<=1 by decide) (show 0<=b^(-k).toNat from UO (U7 o)) (show(1:Int)=0->_ from λq=>by decide) X;rw[pA]at W;have hbp:0<b^(-k).toNat:=U7 o;have ed:de (some (1,1)) (some (a^(-k).toNat,b^(-k).toNat))=b8 (b^(-k).toNat) (a^(-k).toNat):=by
     show(if((1:Int)=0/\(1:Int)=0)\/(a^(-k).toNat=0/\b^(-k).toNat=0)then cB else if(1:Int)=0 then _ else b8 (1*b^(-k).toNat) (1*a^(-k).toNat))=_
     rw[Vn (by omega),Vn (by decide),Int.one_mul,Int.one_mul]
    rw[ed]at W;show mq (T ai wf 24 (j+2) "_law_quotient" [vq (some (1,1)),vq (some (a^(-k).toNat,b^(-k).toNat))]) _ h'=_;refine aN W ?_;rfl
  rcases i2 with rfl|⟨p,rfl⟩
  ·rw[fv,uP];exact last
  ·rw[fv,uQ];exact last
 by_cases G:a=1/\b=1
 ·rw[show dH (some (a,b)) k=some (1,1) from Vo (.inl G)];exact qT G rfl
 refine oB G<|rD k0<|GM (l:= [.int a,.int b]) (x:=mr (vq (some (a,b)))) ?_;by_cases z:a=0/\b=0
 ·rw[show dH (some (a,b)) k=some (0,0) from(Vn (Lr k0 z)).trans (Vo z)];refine qT z ?_
  obtain⟨rfl,rfl⟩:=z;rfl
 refine oB z ?_;by_cases hz:a=0/\b=1
 ·rw[show dH (some (a,b)) k=if k>0 then some (0,1)else some (1,0) from(Vn (Ly k0 hz)).trans ((Vn z).trans (Vo hz))];refine qT hz ?_
  by_cases g:k>0
  ·rw[Vo g];exact Si g rfl
  ·rw[Vn g];exact Nb g rfl
 refine oB hz ?_;by_cases A:b=0
 ·rw[show dH (some (a,b)) k=if k<0 then some (0,1)else if a<0/\k.fmod 2=0 then some (1,0)else some (a,b) from(Vn (Mc k0 A)).trans ((Vn z).trans ((Vn hz).trans (Vo A)))]
  refine cG A ?_;by_cases F:k<0
  ·rw[Vo F];exact CF F rfl
  ·rw[Vn F];refine CG F ?_
   by_cases c:a>0
   ·rw[Vn (R4 c)];exact xi c rfl
   ·refine xj c<|aQ (aD (by decide)) ?_
    by_cases S:k.fmod 2=1
    ·rw[Vn (QB S)];exact uZ S rfl
    ·rw[Vo (Rr z A (cM k (k:=2) (by decide)) c S)];exact rD S rfl
 ·refine cA A<|J G z hz A
theorem G9 {g n:Int}(c:0<g)(hd:0<d):eW (g*n) (g*d)=eW n d:=by
 have o:(0:Int)<(Nat.gcd n.natAbs d.natAbs:Int):=by have:=S4 n.natAbs (show 0<d.natAbs from Dx hd);exact Pi this
 have e:(Nat.gcd (g*n).natAbs (g*d).natAbs:Int)=g*(Nat.gcd n.natAbs d.natAbs:Int):=by
  rw[UB,UB,Nat.gcd_mul_left,Int.natCast_mul];rw[show((g.natAbs:Nat):Int)=g from HT c]
 unfold eW;rw[e,S6 _ _ c,S6 _ _ c]
theorem tI {n d:Int}(hd:0<d):∃g p q:Int,0<g/\0<q/\n=g*p/\d=g*q/\eW n d=some (p,q):=by
 have x:0<Nat.gcd n.natAbs d.natAbs:=S4 n.natAbs (show 0<d.natAbs from Dx hd);obtain⟨p,y⟩:(Nat.gcd n.natAbs d.natAbs:Int)∣n:=Int.ofNat_dvd_left.mpr (Nat.gcd_dvd_left _ _);obtain⟨q,o⟩:(Nat.gcd n.natAbs d.natAbs:Int)∣d:=Int.ofNat_dvd_left.mpr (Nat.gcd_dvd_right _ _);have c:(0:Int)<(Nat.gcd n.natAbs d.natAbs:Int):=Pi x;refine bJ _ p q ⟨c, ?_,y,o, ?_⟩
 ·rw[o]at hd;exact Int.pos_of_mul_pos_right hd c|>λh=>h
 ·unfold eW
  have A:n/(Nat.gcd n.natAbs d.natAbs:Int)=p:=by
   conv=>lhs;lhs;rw[y]
   exact SZ _ (vw x)
  have z:d/(Nat.gcd n.natAbs d.natAbs:Int)=q:=by
   conv=>lhs;lhs;rw[o]
   exact SZ _ (vw x)
  rw[A,z]
theorem C1 {n d:Int}(hd:d≠0):dW (b8 n d)=some (n.fdiv d,1)/\rE (b8 n d)=true:=by
 have pos:∀n d:Int,0<d->dW (eW n d)=some (n.fdiv d,1)/\rE (eW n d)=true:=λn d hd=>by
  refine jd (tI (n:=n) hd) λg p q y x o c e=>?_;subst o;subst c;rw[e];refine⟨?_,UD x⟩
  show(if q>0 then some (p/q,1)else _)=_
  rw[Vo x,SL _ (UO hd),S6 _ _ y]
 unfold b8;rw[Vn hd];by_cases h:d<0
 ·rw[Vo h]
  have:=pos (-n) (-d) (Ln h);rwa [Int.neg_fdiv_neg]at this
 ·rw[Vn h];exact pos n d (Pn hd h)
theorem wi {n:Int}(h:0<d):b8 n d=eW n d:=by
 unfold b8;rw[Vn (HQ h),Vn (LT h)]
theorem J0 {b c f:Int}(o:0<b)(hd:0<d):lY (some (a,b)) (fP (iX (some (f,1)) (some (c,d))))=eW (a*d-f*c*b) (b*d):=by
 have F:iX (some (f,1)) (some (c,d))=eW (f*c) d:=by
  show(if(f=0/\(1:Int)=0)\/(c=0/\d=0)then cB else b8 (f*c) (1*d))=_
  rw[Vn (by omega),Int.one_mul,wi hd]
 rw[F];refine aB λJ A=>jd (tI (n:=f*c) hd) λg p q G x y z e=>A ?_;rw[e,y,z]
 show(if(a=0/\b=0)\/(-p=0/\q=0)then cB else if b=0 then _ else if q=0 then _ else b8 (a*q+ -p*b) (b*q))=_
 rw[Vn (λh=>h.elim (λh=>US o h.2) λh=>US x h.2),Vn (HQ o),Vn (HQ x),wi (U6 o x)];rw[show a*(g*q)-g*p*b=g*(a*q+ -p*b) by
  rw[Int.mul_add,Int.neg_mul,Int.mul_neg,<-Int.sub_eq_add_neg,<-UE,<-UE,<-UE,UR a g]]
 rw[show b*(g*q)=g*(b*q) by rw[<-UE,<-UE,UR b g]];rw[G9 G (U6 o x)]
theorem y6 {n:Int}:b8 n 0=some (n.sign,0):=by
 unfold b8;rw[Vo rfl];by_cases h0:n=0
 ·subst h0;rfl
 ·rw[Vn h0]
  by_cases c:n>0
  ·rw[Vo c,Te c]
  ·rw[Vn c,SO (Mg h0 c)]
theorem y7(hd:d≠0):b8 0 d=some (0,1):=by
 have h:=lj hd;rw[mO]at h;rcases hq:b8 0 d with _|⟨p,q⟩
 ·rw[hq]at h;cases h
 ·rw[hq]at h;cases h;rfl
noncomputable def qi(x y:Q):V:=.tup [vq (cV x y),vq (lZ x y)]
theorem rI {x y:Q}(h:de x y=cB):cV x y=cB:=by unfold cV;rw[h];rfl
theorem rJ {x y:Q}{n:Int}(h:de x y=some (n,0)):cV x y=some (n,0):=by unfold cV;rw[h];rfl
theorem Ha {b c:Int}(x:a.natAbs<2^2000)(g:b.natAbs<2^2000)(q:c.natAbs<2^2000)(o:d.natAbs<2^2000)(h0:b*c≠0)(z:(b*c).natAbs<2^2000)(A:((a*d).fdiv (b*c)).natAbs<2^2000)(y:((a*d).fdiv (b*c)*c).natAbs<2^2000):
  mG C (vq (some (a,b))) (vq (some (c,d))) h=mq (C.f "_law_reduced" [.int (a*d-(a*d).fdiv (b*c)*c*b),.int (b*d)]) (λr=>mr (.tup [.tup [.int ((a*d).fdiv (b*c)),.int 1],r])) h:=by
 refine fO (bz ..) (bL ..) x o<|fO (bL ..) (bz ..) g q<|aQ (bu h0 z)<|fO (bz ..) (bL ..) x o<|Id (bz ..) A q<|Id (bL ..) y g<|aQ (ch ..)<|fO (bL ..) (bL ..) g o rfl
theorem oH {x y:Q}(hx:c7 x)(hy:c7 y)(hw:2000<wf):T ai wf 24 (j+2) "_law_divided" [vq x,vq y] h=.ok (qi x y) h:=by
 rw[aK (by kernel_rfl) (by kernel_rfl),wK];unfold ow qi;rcases x with _|⟨a,b⟩
 ·have e1:cV none y=none:=by rcases y with _|⟨c,d⟩<;>rfl
  have e2:lZ none y=none:=by rcases y with _|⟨c,d⟩<;>rfl
  rw[e1,e2];rfl
 rcases y with _|⟨c,d⟩
 ·have e1:cV (some (a,b)) none=none:=rfl
  have e2:lZ (some (a,b)) none=none:=rfl;rw[e1,e2];rfl
 have o:lZ (some (a,b)) (some (c,d))=if(a=0/\b=0)\/(c=0/\d=0)then cB else if c=0\/b=0 then cB else if d=0 then(if a*c<0 then some (c,d)else some (a,b))else lY (some (a,b)) (fP (iX (dW (de (some (a,b)) (some (c,d)))) (some (c,d)))):=rfl;have g:de (some (a,b)) (some (c,d))=if(a=0/\b=0)\/(c=0/\d=0)then cB else if b=0 then(if d=0 then cB else if c<0 then fP (some (a,b))else some (a,b))else b8 (a*d) (b*c):=rfl;obtain⟨⟨ub,hg⟩,sa,sb⟩:=hx;obtain⟨⟨ud,hg2⟩,sc,sd⟩:=hy;have W:a.natAbs<2^40:=sa;have U:b.natAbs<2^40:=sb;have L:c.natAbs<2^40:=sc;have Y:d.natAbs<2^40:=sd;refine GM<|GM ?_;by_cases F:a=0/\b=0
 ·refine qT F ?_;rw[o,Vo (.inl F),rI (g.trans (Vo (.inl F)))];rfl
 refine oB F ?_;by_cases A:c=0/\d=0
 ·refine qT A ?_;rw[o,Vo (.inr A),rI (g.trans (Vo (.inr A)))];rfl
 refine oB A ?_;have nn:¬((a=0/\b=0)\/(c=0/\d=0)):=λq=>q.elim F A;rw[Vn nn]at o g;by_cases S:c=0
 ·have Z:d=1:=by
   rcases hg2 with q|q
   ·exact absurd q A
   ·subst S;simp at q;exact PL ud q
  have ei:cV (some (a,b)) (some (c,d))=some (a.sign,0):=by
   refine rJ ?_;rw[g];by_cases z:b=0
   ·rw[Vo z,Vn (P4 Z),Vn (Qa S)]
    have ha1:a.natAbs=1:=by
     rcases hg with q|q
     ·exact absurd q F
     ·subst z;simpa using q
    have:a.sign=a:=by rcases(show a=1\/a= -1 from Pc ha1)with rfl|rfl<;>rfl
    rw[this,z]
   ·rw[Vn z,S,Z,Int.mul_zero,Int.mul_one,y6]
  rw[ei,o,Vo (.inl S)];refine xg S ?_;by_cases h1:a>0
  ·rw[Te h1];exact xi h1 rfl
  ·refine xj h1 ?_
   by_cases h2:a<0
   ·rw[SO h2];exact qd h2 rfl
   ·refine qe h2 ?_;rw[show a=0 from LE h1 h2];rfl
 refine xh S ?_;by_cases z:b=0
 ·rw[o,Vo (.inr z)]
  rw[Vo z]at g;refine cG z ?_;by_cases hd:d=0
  ·rw[rI (g.trans (Vo hd))];exact cG hd rfl
  ·rw[Vn hd]at g
   refine cA hd<|cG z ?_;by_cases J:c<0
   ·rw[Vo J]at g
    rw[rJ (n:= -a) (by rw[g];show some (-a,b)=_;rw[z])];exact xj (RO J) rfl
   ·rw[Vn J]at g
    rw[rJ (n:=a) (by rw[g,z])];exact xi (HU S J) rfl
 rw[Vn z]at g;rw[Vn (λq=>q.elim S z)]at o;have X:b*c≠0:=Int.mul_ne_zero z S;refine cA z<|cA z ?_;by_cases hd:d=0
 ·rw[Vo hd]at o
  have ei:cV (some (a,b)) (some (c,d))=if a*c<0 then some (-1,1)else some (0,1):=by
   have e1:de (some (a,b)) (some (c,d))=some (0,1):=by rw[g,hd,Int.mul_zero,y7 X]
   unfold cV;rw[e1]
   show(if rE (some (0,1))=false then _ else if d=0 then _ else _)=_
   rw[Vn (by decide),Vo hd]
  rw[ei,o];refine cG hd<|fO (bz ..) (bz ..) (aS W (by decide)) (aS L (by decide))<|aQ (aW _) ?_;by_cases G:a*c<0
  ·rw[UD G,Vo G,Vo G];rfl
  ·rw[Uv G,Vn G,Vn G];rfl
 rw[Vn hd]at o;refine af (C1 (n:=a*d) X) λfl fi=>?_;have ei:cV (some (a,b)) (some (c,d))=some ((a*d).fdiv (b*c),1):=by
  unfold cV;rw[g,fi]
  show(if true=false then _ else if d=0 then _ else dW (b8 (a*d) (b*c)))=_
  rw[Vn (by decide),Vn hd,fl]
 rw[ei,o,g,fl,J0 (o6 ub z) (o6 ud hd)];have m1:(a*d).natAbs<2^80:=bo W Y (by decide);have m2:(b*c).natAbs<2^80:=bo U L (by decide);have m3:((a*d).fdiv (b*c)).natAbs<2^80:=TT (Int.natAbs_fdiv_le_natAbs _ _) m1;have m4:((a*d).fdiv (b*c)*c).natAbs<2^120:=bo m3 L (by decide);have m5:(b*d).natAbs<2^80:=bo U Y (by decide);have ba:a.natAbs<2^2000:=aS W (by decide);have bb:b.natAbs<2^2000:=aS U (by decide);have bc:c.natAbs<2^2000:=aS L (by decide);have bd:d.natAbs<2^2000:=aS Y (by decide);refine cA hd<|(Ha ba bb bc bd X (aS m2 (by decide)) (aS m3 (by decide)) (aS m4 (by decide))).trans<|aN ((dJ (j:=j) (U6 (o6 ub z) (o6 ud hd)) (TU m5 (Tx (by decide) (by decide))) hw)) ?_;rw[Nj];rfl
noncomputable def Sj:Q->Int
 |none=>0
 |some (k,_)=>k
noncomputable def C2(o:Op)(x y:Q):Q:=match o with
 |.add=>lY x y
 |.sub=>lY x (fP y)
 |.mul=>iX x y
 |.div=>de x y
 |.pow=>dH x (Sj y)
 |.idiv=>cV x y
 |.mod=>lZ x y
def Pw(o:Op)(y:Q):Prop:=match o with
 |.pow=>∃k:Int,y=some (k,1)/\k.natAbs<=4
 |_=>True
theorem Nw(C:Tb)(b:Nat)(x y:V)(h:List O):df C b (.str "+") x y h=mq (C.f "add" [x,y]) mr h:=by kernel_rfl
theorem Nx(C:Tb)(b:Nat)(x y:V)(h:List O):df C b (.str "-") x y h=mq (C.f "sub" [x,y]) mr h:=by kernel_rfl
theorem Ny(C:Tb)(b:Nat)(x y:V)(h:List O):df C b (.str "*") x y h=mq (C.f "mul" [x,y]) mr h:=by kernel_rfl
theorem Nz(C:Tb)(b:Nat)(x y:V)(h:List O):df C b (.str "/") x y h=mq (C.f "div" [x,y]) mr h:=by kernel_rfl
theorem NA(C:Tb)(b:Nat)(x y:V)(h:List O):df C b (.str "^") x y h=mq (C.f "power" [x,y]) mr h:=by kernel_rfl
theorem J1(C:Tb)(b:Nat)(x y:V)(h:List O):df C b (.str "%/%") x y h=mq (C.f "int_div" [x,y]) mr h:=by kernel_rfl
theorem NB(C:Tb)(b:Nat)(x y:V)(h:List O):df C b (.str "%%") x y h=mq (C.f "remainder" [x,y]) mr h:=by kernel_rfl
theorem c7.sm {x:Q}(h:c7 x):Sm 400 x:=eX h.2 (by decide)
theorem Ag {o:Op}{x y:Q}(g:c7 x)(q:c7 y)(F:Pw o y)(c:2000<wf):T ai wf 24 (j+6) "double_op" [.str o.s,vq x,vq y] h=.ok (vq (C2 o x y)) h:=by
 rw[aK (by kernel_rfl) (by kernel_rfl),zU];induction o using Mine.Op.casesOn with
 |add=>exact(Nw _ _ _ _ _).trans ((aa (Ig (j:=j+2) g.sm q.sm c)).trans (by rw[pz];rfl))
 |sub=>exact(Nx _ _ _ _ _).trans ((aa (Ih (j:=j+1) g.sm q.sm c)).trans (by rw[pz];rfl))
 |mul=>exact(Ny _ _ _ _ _).trans ((aa (Ie (j:=j+2) g.sm q.sm c)).trans (by rw[th];rfl))
 |div=>exact(Nz _ _ _ _ _).trans ((aa (CI (j:=j+2) g.sm q.sm c)).trans (by rw[pA];rfl))
 |pow=>
  refine ac (F) λk z A=>?_;subst z;exact(NA _ _ _ _ _).trans ((aa (JY (j:=j+1) g A c)).trans rfl)
 |idiv=>exact(J1 _ _ _ _ _).trans ((aa (EH (j:=j+1) g.sm q.sm c)).trans rfl)
 |mod=>exact(NB _ _ _ _ _).trans ((aa (z8 (j:=j) (eX g.2 (by decide)) (eX q.2 (by decide)) c)).trans rfl)
theorem NC(C:Tb)(b:Nat)(x y:V)(h:List O):cO C b (.str "+") x y h=mq (C.f "_law_sum" [x,y]) mr h:=by kernel_rfl
theorem ND(C:Tb)(b:Nat)(x y:V)(h:List O):cO C b (.str "-") x y h=(mq (cmp .Is y .none) λg=>bif g then(mq (C.f "_law_sum" [x,.none]) mr)else(mq (ak y (.int 0)) λo=>mq (nz o) λq=>mq (ak y (.int 1)) λc=>mq (C.f "_law_sum" [x,.tup [q,c]]) mr)) h:=by kernel_rfl
theorem NE(C:Tb)(b:Nat)(x y:V)(h:List O):cO C b (.str "*") x y h=mq (C.f "_law_product" [x,y]) mr h:=by kernel_rfl
theorem NF(C:Tb)(b:Nat)(x y:V)(h:List O):cO C b (.str "/") x y h=mq (C.f "_law_quotient" [x,y]) mr h:=by kernel_rfl
theorem NG(C:Tb)(b:Nat)(x y:V)(h:List O):cO C b (.str "^") x y h=(mq (ak y (.int 0)) λc=>mq (C.f "_law_power" [x,c]) mr) h:=by kernel_rfl
theorem J2(C:Tb)(b:Nat)(x y:V)(h:List O):cO C b (.str "%/%") x y h=(mq (C.f "_law_divided" [x,y]) λc=>mq (ak c (.int 0)) mr) h:=by kernel_rfl
theorem NI(C:Tb)(b:Nat)(x y:V)(h:List O):cO C b (.str "%%") x y h=(mq (C.f "_law_divided" [x,y]) λc=>mq (ak c (.int 1)) mr) h:=by kernel_rfl
theorem NJ {y:Q}(h:Up y):Up (fP y):=by rcases y with _|⟨a,b⟩<;>exact h
theorem wX {o:Op}{x y:Q}{h:List O}(q:c7 x)(z:c7 y)(J:Pw o y)(A:2000<wf):∃t,T ai wf 24 (j+4) "_law_doubled" [.str o.s,vq x,vq y] h=.ok (vq (C2 o x y)) (h++t):=by
 rw[aK (by kernel_rfl) (by kernel_rfl),wR];have g:∀ {m:M V} {r:V},m h=.ok r h-> ∃t,m h=.ok r (h++t):=λe=>⟨[],by rw[Um];exact e⟩;induction o using Mine.Op.casesOn with
 |add=>
  refine am (vV (j:=j+1) (h:=h) q.sm z.sm q.1.up z.1.up A) λt e=>?_;rw[pz]at e;exact⟨t,(NC _ _ _ _ _).trans (aa e)⟩
 |sub=>
  refine am (vV (j:=j+1) (h:=h) (y:=fP y) q.sm (yI z.sm) q.1.up (NJ z.1.up) A) λt e=>?_;rw[pz]at e;refine⟨t,(ND _ _ _ _ _).trans ?_⟩;rcases y with _|⟨c,d⟩
  ·exact aa e
  ·exact aa e
 |mul=>exact g ((NE _ _ _ _ _).trans ((aa (oE (j:=j+1) q.sm z.sm q.1.up z.1.up A)).trans (by rw[th];rfl)))
 |div=>exact g ((NF _ _ _ _ _).trans ((aa (mN (j:=j+1) q.sm z.sm q.1.up z.1.up q.1.end_ A)).trans (by rw[pA];rfl)))
 |pow=>
  refine ac (J) λk F G=>?_;subst F;exact g ((NG _ _ _ _ _).trans (by
   show mq (ak (.tup [.int k,.int 1]) (.int 0)) _ h=_;refine aQ (bz ..)<|aN ((Af (j:=j) q G A)) ?_;rfl))
 |idiv=>exact g ((J2 _ _ _ _ _).trans ((aa (oH (j:=j+1) q z A)).trans (by unfold qi;rw[bz];rfl)))
 |mod=>exact g ((NI _ _ _ _ _).trans ((aa (oH (j:=j+1) q z A)).trans (by unfold qi;rw[bL];rfl)))
theorem C3 {C:Tb}{k:Nat}{c:Cx}{e:Expr}{f:Nat->V}(z:GO e=true)(x:b6 (.range k) (GP e)=true)(G:k<C.wf)
  (y:∀i,i<k->bS C m c e (.int i) mr h=.ok (some (f i)) h):cF C.wf (Ic C m) c e (.range k) h=.ok ((List.range k).map f) h:=by
 rw[fQ z x];obtain⟨acc,h',e,o,g⟩:=fS (turn:=λv=>bS C m c e v mr) (it:=.range k) (rng k) (λi acc h'=>h'=h/\acc=(List.range i).map f) (λi acc h' Z=>cK k i h')
  (λi v acc h' A F=>by
   obtain⟨q,rfl⟩:=gW A;obtain⟨rfl,rfl⟩:=F;exact aU _ h' ⟨y i q,rfl,by simp[Ut]⟩) C.wf 0 [] h o1 (by simp;exact LG G) ⟨rfl,rfl⟩
 subst o;rw[iY]at g;rw[e,g]
theorem ic(c:0<n):ah .Mod (.int i) (.int n)=mr (.int (i%n:Nat)):=by
 rw[aD (vw c),SN _ qE];rfl
noncomputable def tJ(o:Op)(l r:List Q)(i:Nat):Q:=C2 o (l.getD (i%l.length) none) (r.getD (i%r.length) none)
theorem ie {c:Type}{f:c->V}{l:List c}{d:c}(q:h[n]?=some (.list (l.map f)))(x:0<l.length)(o:l.length<=4096):ak (.ref n) (.int (i%l.length:Nat)) h=.ok (f (l.getD (i%l.length) d)) h:=by
 have g:=Vb i x;refine pu q ?_ (tt g (tt o (by decide)));rw[TY,S1 g,List.getD_eq_getElem?_getD,S1 g];rfl
theorem NK {x:Str}(g:ai.fn x=some (aq x))(c:cellN (aq x).scope.names=3):T ai wf 24 (j+1) x vs h=Bd (Tj wf j) x vs h.length (h++ [.cell none,.cell none,.cell none]):=by
 rw[xf g,c];rfl
theorem eE {c:Type}{l:List c}{d:c}(h:i<l.length):l.getD i d∈l:=by
 rw[List.getD_eq_getElem?_getD,S1 h];exact T7 h
theorem tK {wf j L R n:Nat}{o:Op}{l r:List Q}(hL:h[L]?=some (.list (l.map vq)))(hR:h[R]?=some (.list (r.map vq)))(W:n<=9)(h0:0<n->0<l.length/\0<r.length)(F:l.length<=9)(J:r.length<=9)
  (gl:∀q∈l,c7 q)(gr:∀q∈r,c7 q)(Y:∀q∈r,Pw o q)(A:2000<wf):
  ∃D h',T ai wf 24 (j+7) "double_result" [.str o.s,.ref L,.ref R,.int n] h=.ok (.ref D) h'/\Gr h h'/\h.length<=D/\h'[D]?=some (.list ((List.range n).map λi=>vq (tJ o l r i))):=by
 refine bO (T ai wf 24 (j+7) "double_result" [.str o.s,.ref L,.ref R,.int n] h) λgQ gR=>?_;rw[NK (by kernel_rfl) (by kernel_rfl),sG];unfold kW;have s1:fL h.length (.str o.s) (h++ [.cell none,.cell none,.cell none])=.ok () (h++ [.cell (some (.str o.s)),.cell none,.cell none]):=by
  rw[fT (c:=none) (by simp)];simp
 have s2:fL (h.length+1) (.ref L) (h++ [.cell (some (.str o.s)),.cell none,.cell none])=.ok () (h++ [.cell (some (.str o.s)),.cell (some (.ref L)),.cell none]):=by
  rw[fT (c:=none) (by simp)];simp
 have Z:fL (h.length+2) (.ref R) (h++ [.cell (some (.str o.s)),.cell (some (.ref L)),.cell none])=.ok () (h++ [.cell (some (.str o.s)),.cell (some (.ref L)),.cell (some (.ref R))]):=by
  rw[fT (c:=none) (by simp)];simp
 refine az s1<|az s2<|az Z<|bC (cW (xr W)) ?_;have c1:(h++ [O.cell (some (.str o.s)),.cell (some (.ref L)),.cell (some (.ref R))])[h.length]?=some (.cell (some (.str o.s))):=by simp
 have z:(h++ [O.cell (some (.str o.s)),.cell (some (.ref L)),.cell (some (.ref R))])[h.length+1]?=some (.cell (some (.ref L))):=by simp
 have U:(h++ [O.cell (some (.str o.s)),.cell (some (.ref L)),.cell (some (.ref R))])[h.length+2]?=some (.cell (some (.ref R))):=by simp
 have g:Gr h (h++ [O.cell (some (.str o.s)),.cell (some (.ref L)),.cell (some (.ref R))]):=Keep.app _;have G:=g.get _ _ trivial hL;have S:=g.get _ _ trivial hR;have x:=g.len;generalize h++ [O.cell (some (.str o.s)),.cell (some (.ref L)),.cell (some (.ref R))]=h1 at*;have ec:=C3 (C:=Tj wf (j+6)) (m:=22) (k:=n) (c:=aw "double_result" (aq "double_result") h.length) (e:=aX (bG (aG "double_result" [0])) []) (f:=λi=>vq (tJ o l r i)) (h:=h1) (by kernel_rfl) (by kernel_rfl) (by show n<wf;exact La W A) (λi X=>by
  refine af (h0 (HL X)) λl0 y=>?_;rw[qB];unfold jz;rw[aa (aE c1),aa (aE z),aa (aE z),aa (dx G (by simp;exact vu F)),Uo,ic l0,ae,aa (ie (d:=none) G l0 (o2 F)),
   aa (aE U),aa (aE U),aa (dx S (by simp;exact vu J)),Uo,ic y,ae,aa (ie (d:=none) S y (o2 J))]
  refine aN ((Ag (j:=j) (gl _ (eE (Vb _ l0))) (gr _ (eE (Vb _ y))) (Y _ (eE (Vb _ y))) A)) ?_;rfl)
 refine az ec<|az ((aH _ _))<|gR _<|aU _ _ ⟨rfl,g.trans (Keep.app _),x,ay _ _⟩
def eb(o:Op)(l r:List (Option Int))(i:Nat):Option Int:=gJ o (l.getD (i%l.length) none) (r.getD (i%r.length) none)
noncomputable def Op.three:Op->Bool
 |.add=>true
 |.sub=>true
 |.mul=>true
 |_=>false
def SG(o:Op)(a b:Option Int):Bool:=(gJ o a b).isNone&&o.three&&a.isSome&&b.isSome
def vj(o:Op)(l r:List (Option Int))(i:Nat):Bool:=SG o (l.getD (i%l.length) none) (r.getD (i%r.length) none)
def lM(o:Op)(l r:List (Option Int))(n:Nat):Bool:=(List.range n).any (vj o l r)
theorem y8(o:Op)(l r:List (Option Int))(n:Nat):lM o l r (n+1)=(lM o l r n||vj o l r n):=by
 unfold lM;rw[Ut,List.any_append];simp
theorem y9(o:Op):cmp .In (.str o.s) (.tup [.str "+",.str "-",.str "*"])=mr o.three:=by
 cases o<;>kernel_rfl
theorem Ik(a:Option Int):cmp .Is (vi a) .none=mr a.isNone:=by cases a<;>rfl
theorem og(a:Option Int):cmp .IsNot (vi a) .none=mr a.isSome:=by cases a<;>rfl
noncomputable def iN:V:=.str "NAs produced by integer overflow"
theorem Hb {wf j L R D b:Nat}{o:Op}{l r:List (Option Int)}{ov:Bool}{i n:Nat}{notes nn:V}(x:h[L]?=some (.list (l.map vi)))(F:h[R]?=some (.list (r.map vi)))(z:h[D]?=some (.list acc))(G:acc.length<=9)
  (l0:0<l.length)(g:0<r.length)(y:l.length<=9)(A:r.length<=9)(J:∀q∈l,fF q)(gr:∀q∈r,fF q)(U:o.whole=true):
  ∃p q v,dA (Tj wf (j+1)) b (.int i) (.str o.s) (.ref L) (.ref R) nn notes (.ref D) (.bool ov) (λc l=>mr (c,l)) h=.ok (.next,[("op",.str o.s),("left",.ref L),("right",.ref R),("n",nn),("notes",notes),("found",.ref D),("overflow",.bool (ov||vj o l r i)),("i",.int i),("a",p),("b",q),("value",v)]) (h.set D (.list (acc++ [vi (eb o l r i)]))):=by
 refine bO (dA (Tj wf (j+1)) b (.int i) (.str o.s) (.ref L) (.ref R) nn notes (.ref D) (.bool ov) (λc l=>mr (c,l)) h) λY W=>?_;refine az ((dx x (by simp;exact vu y))) ?_;rw[Uo];refine bC (ic l0 ..)<|az ((ie (d:=none) x l0 (o2 y)))<|az ((dx F (by simp;exact vu A))) ?_;rw[Uo];refine bC (ic g ..)<|az ((ie (d:=none) F g (o2 A)))<|az ((y4 (j:=j) U (J _ (eE (Vb _ l0))) (gr _ (eE (Vb _ g)))))<|W _<|bJ (vi (l.getD (i%l.length) none)) (vi (r.getD (i%r.length) none)) (vi (eb o l r i)) ?_;have app:∀v:V,(mq (bQ (.ref D) "append") λZ=>mq (bN (.ref D) "append" [vi (eb o l r i)]) λS=>(mr (Fl.next,([("op",.str o.s),("left",.ref L),("right",.ref R),("n",nn),("notes",notes),("found",.ref D),("overflow",v),("i",.int i),("a",vi (l.getD (i%l.length) none)),("b",vi (r.getD (i%r.length) none)),("value",vi (eb o l r i))]:Loc)):M (Fl×Loc))) h
   =.ok (.next,[("op",.str o.s),("left",.ref L),("right",.ref R),("n",nn),("notes",notes),("found",.ref D),("overflow",v),("i",.int i),("a",vi (l.getD (i%l.length) none)),("b",vi (r.getD (i%r.length) none)),("value",vi (eb o l r i))]) (h.set D (.list (acc++ [vi (eb o l r i)]))):=λv=>by
  refine aN ((cP z (by decide)))<|aN ((dh z (TT G (by decide)))) ?_;rfl
 have X:vj o l r i=((eb o l r i).isNone&&o.three&&(l.getD (i%l.length) none).isSome&&(r.getD (i%r.length) none).isSome):=rfl;rw[X];dsimp only;unfold iq;rw[show gJ o (l.getD (i%l.length) none) (r.getD (i%r.length) none)=eb o l r i from rfl,Ik,ae,y9,ae,og,ae,og,ae];cases (eb o l r i).isNone
 ·refine lh ?_;rw[show(ov||(false&&o.three&&(l.getD (i%l.length) none).isSome&&(r.getD (i%r.length) none).isSome))=ov by simp];exact app _
 refine vS ?_;cases o.three
 ·refine lh ?_;rw[show(ov||(true&&false&&(l.getD (i%l.length) none).isSome&&(r.getD (i%r.length) none).isSome))=ov by simp];exact app _
 refine vS ?_;cases (l.getD (i%l.length) none).isSome
 ·refine lh ?_;rw[show(ov||(true&&true&&false&&(r.getD (i%r.length) none).isSome))=ov by simp];exact app _
 refine vS ?_;cases (r.getD (i%r.length) none).isSome
 ·refine lh ?_;rw[show(ov||(true&&true&&true&&false))=ov by simp];exact app _
 ·refine vS ?_;rw[show(ov||(true&&true&&true&&true))=true by simp];exact app _
theorem rK {wf j L R N n:Nat}{o:Op}{l r:List (Option Int)}{notes:List V}(hL:h[L]?=some (.list (l.map vi)))(hR:h[R]?=some (.list (r.map vi)))(hN:h[N]?=some (.list notes))(W:n<=9)(h0:0<n->0<l.length/\0<r.length)(hl:l.length<=9)(hr:r.length<=9)
  (gl:∀q∈l,fF q)(gr:∀q∈r,fF q)(ho:o.whole=true)(F:notes.length<=4000)(hw:2000<wf):
  ∃D h',T ai wf 24 (j+2) "integer_result" [.str o.s,.ref L,.ref R,.int n,.ref N] h=.ok (.ref D) h'/\Keep (λm=>m≠N) h h'/\h.length<=D/\h'[D]?=some (.list ((List.range n).map λi=>vi (eb o l r i)))/\h'[N]?=some (.list (ca (lM o l r n) notes iN)):=by
 rw[aK (by kernel_rfl) (by kernel_rfl),ro];unfold kj;rw[aa (aH _ _),cW (xr W),ae];have g:Gr h (h++ [O.list []]):=Keep.app _;have D1:=ay h (O.list []);have L1:=g.get _ _ trivial hL;have R1:=g.get _ _ trivial hR;have N1:=g.get _ _ trivial hN;have lL:=aA hL;have lR:=aA hR;have lN:=aA hN;generalize h++ [O.list []]=h1 at*;refine aB λgP y=>?_;obtain⟨lc,J,e,X,z,S⟩:=bX (body:=λv l=>aJ (Tj wf (j+1)) 23 "integer_result" h.length [2] v l λfl l=>mr (fl,l)) (it:=.range n) (rng n)
  (λi lc h'=>(lc=([("op",.str o.s),("left",.ref L),("right",.ref R),("n",.int n),("notes",.ref N),("found",.ref h.length),("overflow",.bool (lM o l r i))]:Loc)\/ ∃x p q v,lc=([("op",.str o.s),("left",.ref L),("right",.ref R),("n",.int n),("notes",.ref N),("found",.ref h.length),("overflow",.bool (lM o l r i)),("i",x),("a",p),("b",q),("value",v)]:Loc))
   /\Keep (λm=>m≠h.length) h1 h'/\h'[h.length]?=some (.list ((List.range i).map λi=>vi (eb o l r i))))
  (λi lc h' Z=>cK n i h')
  (λi v lc h' hv hI=>by
   refine af (gW hv) λY A=>?_;subst A;refine cQ (hI) λG K hD=>af (h0 (HL Y)) λl0 r0=>pP (Hb (wf:=wf) (j:=j) (b:=h.length) (i:=i) (n:=n) (ov:=lM o l r i) (notes:=.ref N) (nn:=.int n) (K.get _ _ (o8 lL) L1) (K.get _ _ (o8 lR) R1) hD (by simp;exact Lc W Y) l0 r0 hl hr gl gr ho) λp q v U=>?_;rw[<-y8]at U;refine bJ .next _ (h'.set h.length (.list ((List.range i).map (λi=>vi (eb o l r i))++ [vi (eb o l r i)]))) ⟨?_,.inl rfl,.inr ⟨.int i,p,q,v,rfl⟩,K.trans (Keep.set (by simp)), ?_⟩
   ·rcases G with rfl|⟨x,p',q',v',rfl⟩
    ·rw[oJ];exact U
    ·rw[oK];exact U
   ·rw[bg hD,Ut,Uq];rfl)
  wf 0 [("op",.str o.s),("left",.ref L),("right",.ref R),("n",.int n),("notes",.ref N),("found",.ref h.length),("overflow",.bool false)] h1 o1 (by simp;exact La W hw) ⟨.inl rfl,Keep.refl,D1⟩
 rw[iY]at X S;refine y ?_;rw[aa ((cC (by kernel_rfl)).trans e)];have c:=z.get _ _ (o8 lN) N1;have last:∃D h',(mq (truth (.bool (lM o l r n))) λr3=>bif r3 then(mq (bQ (.ref N) "append") λZ=>mq (bN (.ref N) "append" [(.str "NAs produced by integer overflow")]) λr2=>mr (V.ref h.length))else(mr (V.ref h.length))) J=.ok (.ref D) h'/\Keep (λm=>m≠N) h h'/\h.length<=D/\h'[D]?=some (.list ((List.range n).map λi=>vi (eb o l r i)))/\h'[N]?=some (.list (ca (lM o l r n) notes iN)):=by
  have gg:Gr h J:=⟨λm o Z e=>z.get m o (by have:=aA e;exact o8 this) (g.get m o trivial e),by have:=z.len;have:=g.len;omega⟩;rw[aW,ae];unfold ca;induction lM o l r n using Vs with
  |false=>exact aU _ J ⟨rfl,gg.keep,U9 _,S,c⟩
  |true=>
   rw[Vj,aa (cP c (by decide)),aa (dh c (TT F (by decide)))];exact aU _ _ ⟨rfl,gg.keep.trans (Keep.set (by simp)),U9 _,by rw[Tr (o8 lN)];exact S,bg c⟩
 refine aB λgP y=>?_;rcases X with rfl|⟨x,p,q,v,rfl⟩
 ·refine y ?_
  rw[fv,oM];exact last
 ·refine y ?_
  rw[fv,oN];exact last
theorem IsV.ks {x:Vc}(o:IsV P h v x){q:Str×List V}(e:x.att k=some q):k∈Ks:=by
 refine ac (o.attrs) λa Z g=>?_;cases g with
 |none f=>rw[f]at e;cases e
 |@dict d D hd=>
  have:=hd.at_ k;rw[e]at this;refine ac (this) λm c Z=>hd.dk.sub k (UV.mpr ⟨_,ko c,rfl⟩)
theorem IsV.no {x:Vc}(c:IsV P h v x){k:Str}(e:k∉Ks):x.att k=none:=by
 induction hq:x.att k using Vp with
 |none=>rfl
 |some q=>exact absurd (c.ks hq) e
theorem fu.mono {P Q:Nat->Prop}{kd:Str}{its:List V}(a:fu P h m kd its)(q:∀n,P n->Q n):fu Q h m kd its:=by
 refine aP (a) λi g c r=>⟨i,q _ g,q _ c,r⟩
theorem fu.keep {P:Nat->Prop}{kd:Str}{its:List V}(a:fu P h m kd its)(k:Keep P h h'):fu P h' m kd its:=by
 refine w3 (a) λi g c x q o=>⟨i,g,c,x,k.get _ _ g q,k.get _ _ c o⟩
theorem fu.set {P:Nat->Prop}{h:List O}{m fd:Nat}{kd:Str}{its:List V}{D E:List (Str×V)}(a:fu P h m kd its)(hd:h[fd]?=some (.dict D)):fu P (h.set fd (.dict E)) m kd its:=by
 refine w3 (a) λi x q z g c=>?_;have y:fd≠m:=λe=>by subst e;rw[hd]at g;cases g
 have o:fd≠i:=λe=>by subst e;rw[hd]at c;cases c
 exact⟨i,x,q,z,by rw[Tr y];exact g,by rw[Tr o];exact c⟩
structure FS (lo R fd:Nat) (h0 h:List O) (F:aO):Prop where
 K:Keep (λm=>m<h0.length) h0 h
 isd:∃D,IsD (λm=>lo<=m/\m≠R) h fd F D
 old:h0.length<=fd
theorem FS.gr {lo R:Nat}{F:aO}(a:FS lo R fd h0 h F)(g:Gr h h'):FS lo R fd h0 h' F:=by
 obtain⟨D,c⟩:=a.isd;exact⟨a.K.trans g.keep,⟨D,c.p,g.get _ _ trivial c.get,c.dk,c.at_.keep (Q:=λm=>lo<=m/\m≠R) g.keep⟩,a.old⟩
theorem FS.put {lo R fd m:Nat}{h0 h:List O}{F:aO}{key:Str}{q:Str×List V}(a:FS lo R fd h0 h F)(g:key∈Ks)(v:fu (λm=>lo<=m/\m≠R) h m q.1 q.2):
  ∃h',cH (.ref fd) (.str key) (.ref m) h=.ok () h'/\FS lo R fd h0 h' (F.upd key q):=by
 refine am (a.isd) λD c=>⟨_,pB c.get (UZ c.dk.len (by decide)), ?_,⟨_,c.p,bg c.get,c.dk.put g,(c.at_.set (E:=Mine.put key (.ref m) D) c.get).put (v.set c.get)⟩,a.old⟩;exact⟨λm o p e=>by rw[Tr (by have:=a.old;exact rQ p this)];exact a.K.get _ _ p e,by simpa using a.K.len⟩
inductive RA (lo R:Nat) (h0 h:List O) (F:aO):V->Prop
 |none:(∀k,F k=none)->RA lo R h0 h F .none
 |dict {fd:Nat} {D:List (Str×V)}:IsD (λm=>lo<=m/\m≠R) h fd F D->h0.length<=fd->RA lo R h0 h F (.ref fd)
structure RS (lo R I:Nat) (k:Str) (items:List V) (h0 h:List O) (F:aO):Prop where
 K:Keep (λm=>m<h0.length/\m≠R) h0 h
 res:∃a,h[R]?=some (bp (.str k) (.ref I) a)/\RA lo R h0 h F a
 its:h[I]?=some (.list items)
theorem RS.isV {lo R:Nat}{items:List V}{F:aO}(a:RS lo R I k items h0 h F)(c:k≠ "NULL")(q:items.length<=4096)(o:lo<=R)(g:lo<=I):IsV (λm=>lo<=m) h (.ref R) ⟨k,items,F⟩:=by
 refine ac (a.res) λv e r=>.vec c q o g e a.its ?_;cases r with
 |none f=>exact .none f
 |dict d _=>exact(IsA.dict d).mono λn Z p=>p.1
noncomputable def c9(t:Nat)(F:aO)(z:Vc):aO:=if z.items.length=t then(match z.att "names" with|some q=>F.upd "names" q|none=>F)else F
noncomputable def jK:aO:=λZ=>none
structure Side (lo R:Nat) (h:List O) (v:V) (z:Vc):Prop where
 isv:IsV (λm=>lo<=m/\m<R) h v z
 dims:∃d,dG z.att z.items.length d
theorem C4 {wf j lo R I fd b t:Nat}{items:List V}{F:aO}{w u v shape:V}{z:Vc}(a:FS lo R fd h0 h F)(s:Side lo R h0 w z)(X:h0[R]?=some (bp (.str k) (.ref I) .none))(hI:h0[I]?=some (.list items))(hk:k≠ "NULL")(A:items.length=t)(U:t<=9):
  ∃x h',fq (Tj wf (j+2)) b w u v (.ref R) (.ref fd) shape (λJ l=>mr (J,l)) h=.ok (.next,[("u",u),("v",v),("result",.ref R),("found",.ref fd),("shape",shape),("operand",w),("heads",x)]) h'/\FS lo R fd h0 h' (c9 t F z):=by
 refine bO (fq (Tj wf (j+2)) b w u v (.ref R) (.ref fd) shape (λJ l=>mr (J,l)) h) λgQ gR=>?_;have g:=aA X;have KR:∀ {h'},Keep (λm=>m<h0.length) h0 h'->Keep (λm=>lo<=m/\m<R) h0 h':=λk=>k.mono λm Z q=>by omega
 have S:=s.isv.keep (KR a.K);have ir:IsV (λZ=>True) h (.ref R) ⟨k,items,jK⟩:=.vec hk (Lh A U) trivial trivial (a.K.get _ _ (LG g) X) (a.K.get _ _ (aA hI) hI) (.none λZ=>rfl);refine aB λgP c=>ac (qU (j:=j+1) S "names") λr er o=>c<|az er<|gR _<|⟨r, ?_⟩;unfold c9;induction hq:z.att "names" using Vp with
 |none=>
  rw[hq]at o;dsimp only at o;subst o;exact⟨h,rfl,by split<;>exact a⟩
 |some q=>
  rw[hq]at o;refine ac (o) λm G av=>?_;subst G;dsimp only;unfold iq;rw[fV,ae,Vj,aa (dy (j:=j+1) S),aa (dy (j:=j+1) ir),bA,ae];refine aB λgP c=>?_;by_cases hz:z.items.length=t
  ·refine c ?_
   rw[show decide ((z.items.length:Int)=(items.length:Nat))=true from UD (LN A hz),Vj,Vo hz];refine aB λgP c=>aV (kr (wf:=wf) (j:=j) S) λr4 h4 e4 Y y=>?_;obtain⟨d,hd⟩:=s.dims;have W:d=none:=by
    induction d using Vp with
    |none=>rfl
    |some ds=>have:=hd.2.2;rw[hq]at this;cases this
   subst W;have L:z.att "dim"=none:=hd;unfold kq at y;rw[L]at y;dsimp only at y;subst y;refine c ?_;rw[aa e4,cu,ae,Vj];obtain⟨h5,e5,a5⟩:=(a.gr Y).put (key:= "names") (q:=q) (by decide) ((av.mono (Q:=λm=>lo<=m/\m≠R) λn p=>⟨p.1,by exact LJ p⟩).keep (P:=λm=>lo<=m/\m≠R) Y.keep);rw[aa e5];exact⟨h5,rfl,a5⟩
  ·refine c ?_
   rw[show decide ((z.items.length:Int)=(items.length:Nat))=false from Uv (Ls A hz),Ve,Vn hz];exact⟨h,rfl,a⟩
noncomputable def qV(u v r f s:V):Loc:= [("u",u),("v",v),("result",r),("found",f),("shape",s)]
noncomputable def l8(u v r f s o d:V):Loc:= [("u",u),("v",v),("result",r),("found",f),("shape",s),("operand",o),("heads",d)]
theorem E4 {wf j lo R fd b:Nat}{F:aO}{w u v shape:V}{z:Vc}(a:FS lo R fd h0 h F)(s:Side lo R h0 w z)(y:R<h0.length):
  gV (Tj wf (j+2)) b w u v (.ref R) (.ref fd) shape (λo l=>mr (o,l)) h=.ok (.next,[("u",u),("v",v),("result",.ref R),("found",.ref fd),("shape",shape),("operand",w),("heads",.none)]) h:=by
 have g:=s.isv.keep (a.K.mono λm Z q=>by omega);refine ac (qU (j:=j+1) g "dimnames") λr x c=>aN x ?_;rw[g.no (k:= "dimnames") (by decide)]at c;dsimp only at c;subst c;rfl
theorem E5 {wf j lo R fd b:Nat}{F:aO}{u v shape:V}{x y:Vc}(a:FS lo R fd h0 h F)(W:Side lo R h0 u x)(X:Side lo R h0 v y)(U:R<h0.length)(hw:40<wf):
  ∃o d,bF (Tj wf (j+2)) 22 "shape_attrs" b [2,0,1] (.vals [v,u]) (qV u v (.ref R) (.ref fd) shape) h=.ok (.next,l8 u v (.ref R) (.ref fd) shape o d) h:=by
 refine aB λgP Y=>?_;obtain⟨lc,h',e,G,J⟩:=bX (body:=λv l=>aJ (Tj wf (j+2)) 22 "shape_attrs" b [2,0,1] v l λS l=>mr (S,l)) (it:=.vals [v,u]) [v,u]
  (λi lc h'=>h'=h/\((i=0/\lc=qV u v (.ref R) (.ref fd) shape)\/ ∃o d,lc=l8 u v (.ref R) (.ref fd) shape o d))
  (λi lc h' Z=>rfl)
  (λi w lc h' g hI=>by
   obtain⟨rfl,c⟩:=hI
   have⟨z,sz⟩:∃z,Side lo R h0 w z:=by
    have L:i<2:=by have:=(SV.mp g).1;simpa using this
    rcases(show i=0\/i=1 from Dt L)with rfl|rfl
    ·cases g;exact⟨y,X⟩
    ·cases g;exact⟨x,W⟩
   have A:=E4 (wf:=wf) (j:=j) (b:=b) (u:=u) (v:=v) (shape:=shape) a sz U;refine bJ .next (l8 u v (.ref R) (.ref fd) shape w .none) h' ⟨?_,.inl rfl,rfl,.inr ⟨_,_,rfl⟩⟩;rcases c with⟨_,rfl⟩|⟨o,d,rfl⟩
   ·unfold qV;rw[ry];exact A
   ·unfold l8;rw[rz];exact A)
  wf 0 (qV u v (.ref R) (.ref fd) shape) h o1 (by simp;exact HP hw) ⟨rfl,.inl ⟨rfl,rfl⟩⟩
 subst G;rcases J with⟨q,_⟩|⟨o,d,rfl⟩
 ·simp at q
 ·refine Y<|aU o d ((cC (by kernel_rfl)).trans e)
theorem C5 {wf j lo R I fd b t:Nat}{items:List V}{F:aO}{u v shape:V}{x y:Vc}(a:FS lo R fd h0 h F)(su:Side lo R h0 u x)(sv:Side lo R h0 v y)(hR:h0[R]?=some (bp (.str k) (.ref I) .none))(hI:h0[I]?=some (.list items))(Y:k≠ "NULL")(W:items.length=t)(G:t<=9)(hw:40<wf):
  ∃o d h',bF (Tj wf (j+2)) 22 "shape_attrs" b [2,1,0] (.vals [v,u]) (qV u v (.ref R) (.ref fd) shape) h=.ok (.next,l8 u v (.ref R) (.ref fd) shape o d) h'/\FS lo R fd h0 h' (c9 t (c9 t F y) x):=by
 refine aB λgP gH=>?_;obtain⟨lc,h',e,L,S⟩:=bX (body:=λv l=>aJ (Tj wf (j+2)) 22 "shape_attrs" b [2,1,0] v l λfl l=>mr (fl,l)) (it:=.vals [v,u]) [v,u]
  (λi lc h'=>FS lo R fd h0 h' (([y,x].take i).foldl (c9 t) F)/\((i=0/\lc=qV u v (.ref R) (.ref fd) shape)\/ ∃o d,lc=l8 u v (.ref R) (.ref fd) shape o d))
  (λi lc h' Z=>rfl)
  (λi w lc h' g A=>by
   obtain⟨X,c⟩:=A
   have⟨z,sz,ez⟩:∃z,Side lo R h0 w z/\([y,x].take (i+1)).foldl (c9 t) F=c9 t (([y,x].take i).foldl (c9 t) F) z:=by
    have U:i<2:=by have:=(SV.mp g).1;simpa using this
    rcases(show i=0\/i=1 from Dt U)with rfl|rfl
    ·cases g;exact⟨y,sv,rfl⟩
    ·cases g;exact⟨x,su,rfl⟩
   refine cY (C4 (wf:=wf) (j:=j) (b:=b) (u:=u) (v:=v) (shape:=shape) X sz hR hI Y W G) λdd h2 J a2=>?_;rw[ez];refine bJ .next (l8 u v (.ref R) (.ref fd) shape w dd) h2 ⟨?_,.inl rfl,a2,.inr ⟨_,_,rfl⟩⟩;rcases c with⟨_,rfl⟩|⟨o,d,rfl⟩
   ·unfold qV;rw[rA];exact J
   ·unfold l8;rw[rB];exact J)
  wf 0 (qV u v (.ref R) (.ref fd) shape) h o1 (by simp;exact HP hw) ⟨a,.inl ⟨rfl,rfl⟩⟩
 rcases S with⟨q,_⟩|⟨o,d,rfl⟩
 ·simp at q
 ·refine gH<|bJ o d h' ⟨(cC (by kernel_rfl)).trans e,L⟩
theorem C6(C:Tb)(b:Nat)(u v r f s o d:V)(h:List O):cm C 23 (aw "shape_attrs" (aq "shape_attrs") b) (aG "shape_attrs" [2,0,2]) (cm C 24 (aw "shape_attrs" (aq "shape_attrs") b) (aG "shape_attrs" [3]) cb) .next (l8 u v r f s o d) h=ft C b u v r f s h:=by kernel_rfl
theorem C7(C:Tb)(b:Nat)(u v r f s o d:V)(h:List O):cm C 23 (aw "shape_attrs" (aq "shape_attrs") b) (aG "shape_attrs" [2,1,1]) (cm C 24 (aw "shape_attrs" (aq "shape_attrs") b) (aG "shape_attrs" [3]) cb) .next (l8 u v r f s o d) h=ft C b u v r f s h:=by kernel_rfl
theorem Bt {lo R:Nat}{items:List V}{F:aO}{s:V}(a:FS lo R fd h0 h F)(g:h0[R]?=some (bp (.str k) (.ref I) .none))(A:h0[I]?=some (.list items)):
  ∃h',ft C b u v (.ref R) (.ref fd) s h=.ok .none h'/\RS lo R I k items h0 h' F:=by
 refine bO (ft C b u v (.ref R) (.ref fd) s h) λgQ S=>?_;obtain⟨D,c⟩:=a.isd;have U:=aA g;have Y:=aA A;have z:=a.K.get _ _ U g;have G:=a.K.get _ _ Y A;have nI:R≠I:=λe=>by rw[e,A]at g;cases g
 refine az ((CN c.get (by have:=c.dk.len;exact Qm this)))<|aB λgP y=>?_;rcases D with _|⟨p,r⟩
 ·refine y<|S _<|⟨h,rfl,a.K.mono λm Z q=>q.1,⟨.none,z,.none λx=>?_⟩,G⟩
  have:=c.at_ x;induction hF:F x using Vp with
  |none=>rfl
  |some q=>rw[hF]at this;obtain⟨m,e,_⟩:=this;exact ns e
 ·refine y<|S _ ?_
  show ∃h',mq (dF (.ref R) "attrs" (.ref fd)) _ h=_/\_;rw[aa (ln z)];have nf:R≠fd:=by have:=a.old;exact Ds U this
  refine⟨_,rfl,⟨λm o q e=>by rw[Tr (λe=>q.2 e.symm)];exact a.K.get _ _ q.1 e,by simpa using a.K.len⟩,⟨_,bg z,.dict (D:=p::r) ⟨c.p,by rw[Tr nf];exact c.get,c.dk, ?_⟩ a.old⟩,by rw[Tr nI];exact G⟩;intro x;have:=c.at_ x;induction hF:F x using Vp with
  |none=>rw[hF]at this;exact this
  |some q=>
   rw[hF]at this;refine aB λgP y=>?_;obtain⟨m,e,i',J,L,X,e1,W⟩:=this;refine y<|⟨m,e,i',J,L,X,by rw[Tr (λe=>J.2 e.symm)];exact e1,by rw[Tr (λe=>L.2 e.symm)];exact W⟩
def tL(q:DR)(t:Nat)(x y:Vc):aO:=match q with
 |.dim ds=>jK.upd "dim" ("integer",bH ds)
 |_=>c9 t (c9 t jK y) x
theorem Side.gr {lo R:Nat}{z:Vc}(s:Side lo R h v z)(g:Gr h h'):Side lo R h' v z:=⟨s.isv.keep g.keep,s.dims⟩
theorem wj {a:List Int}(e:ce a n m=.dim ds):ds=a:=by
 by_cases p:(n=1/\m>1)\/(m=0/\n>0)
 ·exact DR.noConfusion ((Vo p).symm.trans e)
 ·have c:=(Vn p).symm.trans e
  by_cases q:n=aL n m
  ·exact(DR.dim.inj ((Vo q).symm.trans c)).symm
  ·exact DR.noConfusion ((Vn q).symm.trans c)
theorem C8 {x y:Vc}{z g:Option (List Int)}(A:dG x.att x.items.length z)(F:dG y.att y.items.length g)(o:cf z g n m=.dim ds):ds.length<=2:=by
 induction z using Vp with
 |none=>
  induction g using Vp with
  |none=>cases o
  |some b=>rw[wj o];exact F.2.1.2.2
 |some a=>
  induction g using Vp with
  |none=>rw[wj o];exact A.2.1.2.2
  |some b=>
   have c:(if a=b then DR.dim a else .bad "non-conformable arrays")=.dim ds:=o;by_cases q:a=b
   ·rw[<-DR.dim.inj ((Vo q).symm.trans c)];exact A.2.1.2.2
   ·exact DR.noConfusion ((Vn q).symm.trans c)
theorem wY {lo R:Nat}{items:List V}{x y:Vc}{S G:Option (List Int)}(hu:IsV (λm=>lo<=m/\m<R) h u x)(hv:IsV (λm=>lo<=m/\m<R) h v y)
  (h1:dG x.att x.items.length S)(h2:dG y.att y.items.length G)(hx:x.items.length<=9)(hy:y.items.length<=9)(W:h[R]?=some (bp (.str k) (.ref I) .none))(hI:h[I]?=some (.list items))(hk:k≠ "NULL")(ht:items.length=t)(ht9:t<=9)(F:lo<=h.length)
  (hq:∀e,cf S G x.items.length y.items.length≠ .bad e)(hw:40<wf):
  ∃h',T ai wf 24 (j+4) "shape_attrs" [u,v,.ref R] h=.ok .none h'/\RS lo R I k items h h' (tL (cf S G x.items.length y.items.length) t x y):=by
 rw[aK (by kernel_rfl) (by kernel_rfl),wB];refine bO (ot (Tj wf (j+3)) h.length u v (.ref R) h) λJ mk=>az (aH _ _) ?_;have Y:=aA W;have g:Gr h (h++ [O.dict []]):=Keep.app _;have a1:FS lo R h.length h (h++ [O.dict []]) jK:=⟨Keep.app _,⟨[],⟨F,by exact rP Y⟩,ay _ _,Dk.nil,λx=>rfl⟩,U9 _⟩;generalize h++ [O.dict []]=h1' at*;have hd1:dZ x S:=h1.dims;have hd2:dZ y G:=h2.dims;have rd:=pI (j:=j) (hu.keep (g.keep (P:=λm=>lo<=m/\m<R))) (hv.keep (g.keep (P:=λm=>lo<=m/\m<R))) hd1 hd2 hx hy hw;have su:Side lo R h u x:=⟨hu,S,h1⟩;have sv:Side lo R h v y:=⟨hv,G,h2⟩;induction hr:cf S G x.items.length y.items.length using Vu with
 |bad e=>exact absurd hr (hq e)
 |no=>
  rw[hr]at rd;refine ac (rd) λc e2 g2=>az e2<|bC dU<|qQ<|bC (show bY (.tup [v,u])=mr (It.vals [v,u]) from rfl) ?_;have X:=a1.gr g2;refine dK (C5 (j:=j+1) (b:=h.length) (shape:=.none) X su sv W hI hk ht ht9 hw) λo d L e3 a3=>?_;unfold qV at e3;refine az e3 (mk _ ?_);rw[C7,hr];exact Bt a3 W hI
 |dim ds=>
  rw[hr]at rd;refine aV (rd) λr c e2 g2 l2=>az e2<|bC (fV _)<|yF ?_;have X:=a1.gr g2;have hds:=C8 (x:=x) (y:=y) h1 h2 hr;have U:(bH ds).length<=4096:=by simp[bH];exact LK hds
  refine az (hW l2 (lz U)) ?_;have g3:Gr c (c++ [O.list (bH ds)]):=Keep.app _;have n3:=ay c (O.list (bH ds));have z:=X.K.len;have a3:=X.gr g3;have A:=g3.len;generalize c++ [O.list (bH ds)]=L at*;refine az gY ?_;have g4:Gr L (L++ [bp (.str "integer") (.ref c.length) .none]):=Keep.app _;have n4:=ay L (bp (.str "integer") (.ref c.length) .none);have a4:=a3.gr g4;have Z:=g4.get _ _ trivial n3;generalize L++ [bp (.str "integer") (.ref c.length) .none]=h4 at*;refine ac (a4.put (key:= "dim") (q:=("integer",bH ds)) (m:=L.length) (by decide) ⟨c.length,⟨by exact P3 F z A,by exact U1 (tt Y (tt z A))⟩,⟨by exact o5 F z,by exact rQ Y z⟩,U,n4,Z⟩) λh5 e5 a5=>?_;refine az e5<|bC (show bY (.tup [v,u])=mr (It.vals [v,u]) from rfl)<|cI (E5 (j:=j+1) (b:=h.length) (shape:=.ref r) a5 su sv Y hw) λo d e6=>?_;unfold qV at e6;refine az e6 (mk _ ?_);rw[C6,hr];exact Bt a5 W hI
theorem fU.setR {F:aO}{R:Nat}{o:O}(a:fU P h D F)(y:∀m,P m->m≠R):fU P (h.set R o) D F:=λx=>by
 have:=a x;induction hF:F x using Vp with
 |none=>rw[hF]at this;exact this
 |some q=>
  rw[hF]at this;obtain⟨m,e,i,g,c,G,A,z⟩:=this;refine⟨m,e,i,g,c,G,by rw[Tr (Vm (y m g))];exact A,by rw[Tr (Vm (y i c))];exact z⟩
theorem RS.keep {lo R:Nat}{items:List V}{F:aO}(a:RS lo R I k items h0 h F){P:Nat->Prop}(q:∀m,P m->m<h0.length/\m≠R):Keep P h0 h:=a.K.mono λm Z p=>q m p
theorem RS.put {lo R I m:Nat}{k:Str}{items:List V}{h0 h:List O}{F:aO}{key:Str}{q:Str×List V}{β:Type}(a:RS lo R I k items h0 h F)(c:key∈Ks)(v:fu (λm=>lo<=m/\m≠R) h m q.1 q.2)(Y:lo<=h0.length)(hR:R<h0.length)(K:M β):
  ∃h',(mq (aM (.ref R) "attrs") λW=>mq (cmp .Is W .none) λr7=>bif r7 then(mq (aC (.dict [])) λX=>mq (dF (.ref R) "attrs" X) λZ=>mq (aM (.ref R) "attrs") λA=>mq (cH A (.str key) (.ref m)) λZ=>K)else(mq (aM (.ref R) "attrs") λA=>mq (cH A (.str key) (.ref m)) λZ=>K)) h=K h'/\RS lo R I k items h0 h' (F.upd key q):=by
 refine bO ((mq (aM (.ref R) "attrs") λW=>mq (cmp .Is W .none) λr7=>bif r7 then(mq (aC (.dict [])) λX=>mq (dF (.ref R) "attrs" X) λZ=>mq (aM (.ref R) "attrs") λA=>mq (cH A (.str key) (.ref m)) λZ=>K)else(mq (aM (.ref R) "attrs") λA=>mq (cH A (.str key) (.ref m)) λZ=>K)) h) λgQ gR=>ac (a.res) λav J ra=>?_;have len:=a.K.len;have nI:R≠I:=λe=>by have:=a.its;rw[<-e,J]at this;cases this
 refine az ((dj J)) ?_;cases ra with
 |none f=>
  refine bC cu<|yF<|az ((aH _ _)) ?_;have g:Gr h (h++ [O.dict []]):=Keep.app _;have z:=g.get _ _ trivial J;have d1:=ay h (O.dict []);have U:=g.get _ _ trivial a.its;have v1:=v.keep (P:=λm=>lo<=m/\m≠R) g.keep;have k1:Keep (λm=>m<h0.length/\m≠R) h0 (h++ [O.dict []]):=a.K.trans g.keep;have l1:(h++ [O.dict []]).length=h.length+1:=by simp
  generalize h++ [O.dict []]=h1 at*;have S:R≠h.length:=Ds hR len;have L:(h1.set R (bp (.str k) (.ref I) (.ref h.length)))[h.length]?=some (.dict []):=by rw[Tr S];exact d1
  refine az ((ln z))<|az ((dj (bg z)))<|az ((pB L (by show 0<=line;decide))) ?_;have hp:∀m:Nat,(lo<=m/\m≠R)->m≠R:=λm p=>p.2;refine gR _<|⟨_,rfl,⟨λm' o G e=>by rw[Tr (LA len G),Tr (Vm G.2)];exact k1.get _ _ G e,by simpa using k1.len⟩,⟨.ref h.length,by rw[Tr (Vm S)];exact bg z, ?_⟩, ?_⟩
  ·refine .dict (D:=Mine.put key (.ref m) []) ⟨⟨by exact o5 Y len,by exact rQ hR len⟩,bg L,Dk.nil.put c, ?_⟩ len
   have base:fU (λm=>lo<=m/\m≠R) (h1.set R (bp (.str k) (.ref I) (.ref h.length))) [] F:=λx=>by rw[f x];rfl
   refine(base.set (E:=Mine.put key (.ref m) []) L).put (fu.set ?_ L);refine aB λgP gH=>w3 (v1) λi p1 p2 hl e1 e2=>gH<|⟨i,p1,p2,hl,by rw[Tr (Vm p1.2)];exact e1,by rw[Tr (Vm p2.2)];exact e2⟩
  ·have y:h.length≠I:=λe=>by rw[<-e,d1]at U;cases U
   rw[Tr y,Tr nI];exact U
 |@dict fd D hD old=>
  refine bC (mS ..)<|qQ<|az ((dj J))<|az ((pB hD.get (UZ hD.dk.len (by decide)))) ?_;have S:fd≠R:=rQ hR old;have y:fd≠I:=λe=>by have:=a.its;rw[<-e,hD.get]at this;cases this
  refine gR _<|⟨_,rfl,⟨λm' o G e=>by rw[Tr (LA old G)];exact a.K.get _ _ G e,by simpa using len⟩,⟨.ref fd,by rw[Tr S];exact J,.dict ⟨hD.p,bg hD.get,hD.dk.put c,(hD.at_.set hD.get).put (v.set hD.get)⟩ old⟩,by rw[Tr y];exact a.its⟩
noncomputable def wk(z:Vc)(F:aO):aO:=λk=>if(z.att k).isSome=true/\k≠ "names"/\k≠ "dim" then z.att k else F k
noncomputable def qW(z:Vc)(ks:List Str)(F:aO):aO:=λk=>if k∈ks/\k≠ "names"/\k≠ "dim" then z.att k else F k
theorem J3(z:Vc)(F:aO):qW z [] F=F:=by funext k;unfold qW;rw[Vn (λq=>by cases q.1)]
theorem Hc(z:Vc)(ks:List Str)(F:aO)(n:Str)(q:Str×List V)(o:z.att n=some q):qW z (ks++ [n]) F=if n≠ "names"/\n≠ "dim" then(qW z ks F).upd n q else qW z ks F:=by
 by_cases g:n≠ "names"/\n≠ "dim"
 ·rw[Vo g]
  funext k
  unfold qW aO.upd;by_cases c:k=n
  ·subst c
   rw[Vo ⟨by simp,g⟩,Vo rfl,o]
  ·rw[Vn c]
   have:k∈ks++ [n]↔k∈ks:=by simp[c]
   simp only[this]
 ·rw[Vn g]
  funext k
  unfold qW;by_cases c:k=n
  ·subst c
   rw[Vn (λq=>g q.2),Vn (λq=>g q.2)]
  ·have:k∈ks++ [n]↔k∈ks:=by simp[c]
   simp only[this]
noncomputable def lO(u v r o:V):Loc:= [("u",u),("v",v),("result",r),("operand",o)]
noncomputable def iO(u v r o a b:V):Loc:= [("u",u),("v",v),("result",r),("operand",o),("name",a),("value",b)]
theorem C9 {C:Tb}{lo R I b m:Nat}{items:List V}{F:aO}{u v o:V}{n:Str}{q:Str×List V}(a:RS lo R I k items h0 h F)(z:n∈Ks)(J:fu (λm=>lo<=m/\m≠R) h m q.1 q.2)(g:lo<=h0.length)(L:R<h0.length):
  ∃h',eK C b (.tup [.str n,.ref m]) u v (.ref R) o (λG l=>mr (G,l)) h=.ok (.next,iO u v (.ref R) o (.str n) (.ref m)) h'/\RS lo R I k items h0 h' (if n≠ "names"/\n≠ "dim" then F.upd n q else F):=by
 unfold eK;rw[show dS (.tup [.str n,.ref m])=mr (V.str n,V.ref m) from rfl,ae];dsimp only;unfold iq;rw[pG,ae];have A:n≠ "dimnames":=λe=>by subst e;exact absurd z (by decide)
 by_cases c:n≠ "names"/\n≠ "dim"
 ·rw[Vo c,Uv (λq=>by rcases q with q|q|q;exact c.1 q;exact c.2 q;exact A q),Uz,Vj]
  exact a.put z J g L _
 ·rw[Vn c,UD (by
   by_cases y:n= "names"
   ·exact .inl y
   ·by_cases x:n= "dim"
    ·exact .inr (.inl x)
    ·exact absurd ⟨y,x⟩ c)]
  exact⟨h,rfl,a⟩
theorem Da {wf j lo R I b d:Nat}{items:List V}{F:aO}{o:V}{z:Vc}{l0:Loc}(a:RS lo R I k items h0 h F)(hd:IsD (λm=>lo<=m/\m<R) h0 d z.att D)(hlo:lo<=h0.length)(hR:R<h0.length)(hw:40<wf)
  (Y:l0=lO u v (.ref R) o\/ ∃x y,l0=iO u v (.ref R) o x y):
  ∃lc h',bF (Tj wf j) 21 "result_attrs" b [1,0,0,0,0] (.items d (D.map (·.1))) l0 h=.ok (.next,lc) h'/\(lc=lO u v (.ref R) o\/ ∃x y,lc=iO u v (.ref R) o x y)/\RS lo R I k items h0 h' (wk z F):=by
 have hp:∀m:Nat,(lo<=m/\m<R)->m<h0.length/\m≠R:=λm p=>by exact LH hR p
 refine aB λgP gH=>?_;obtain⟨lc,h',e,i1,i2⟩:=bX (body:=λv l=>aJ (Tj wf j) 21 "result_attrs" b [1,0,0,0,0] v l λfl l=>mr (fl,l)) (it:=.items d (D.map (·.1))) (D.map λp=>V.tup [.str p.1,p.2])
  (λi lc h'=>RS lo R I k items h0 h' (qW z ((D.take i).map (·.1)) F)/\(lc=lO u v (.ref R) o\/ ∃x y,lc=iO u v (.ref R) o x y))
  (λi lc h' S=>CM ((S.1.keep hp).get _ _ hd.p hd.get))
  (λi w lc h' hv S=>by
   refine af (S) λa' X=>am (SV.mp hv) λJ g=>?_;simp only[Uo]at J;simp only[List.getElem_map]at g;have c:look D[i].1 D=some D[i].2:=iI hd.dk.nd (T7 J);obtain⟨q,hq⟩:∃q,z.att D[i].1=some q:=by
    have:=hd.at_ D[i].1;induction hF:z.att D[i].1 using Vp with
    |none=>rw[hF]at this;rw[c]at this;cases this
    |some q=>exact⟨q,rfl⟩
   have G:=hd.at_ D[i].1;rw[hq]at G;refine ac (G) λm em av=>?_;rw[c]at em;have W:D[i].2=.ref m:=Uu em;have L:D[i].1∈Ks:=hd.dk.sub _ (UV.mpr ⟨_,T7 J,rfl⟩);have U:fu (λm=>lo<=m/\m≠R) h' m q.1 q.2:=(av.keep (a'.keep hp)).mono λn p=>⟨p.1,by exact LJ p⟩;refine ac (C9 (C:=Tj wf j) (b:=b) (u:=u) (v:=v) (o:=o) a' L U hlo hR) λh2 et a2=>?_;rw[<-Hc z _ F _ q hq]at a2;rw[<-g,W];refine bJ .next _ h2 ⟨?_,.inl rfl, ?_,.inr ⟨.str D[i].1,.ref m,rfl⟩⟩
   ·rcases X with rfl|⟨x,y,rfl⟩
    ·show aJ (Tj wf j) 21 "result_attrs" b [1,0,0,0,0] _ (lO u v (.ref R) o) _ h'=_
     unfold lO;rw[qx];exact et
    ·show aJ (Tj wf j) 21 "result_attrs" b [1,0,0,0,0] _ (iO u v (.ref R) o x y) _ h'=_
     unfold iO;rw[qy];exact et
   ·rw[bv J,Uq];exact a2)
  wf 0 l0 h o1 (by have:=hd.dk.len;simp;exact Lj hw this) ⟨by rw[List.take_zero,List.map_nil,J3];exact a,Y⟩
 refine gH<|aU lc h' ⟨(cC (by kernel_rfl)).trans e,i2, ?_⟩;have eF:qW z ((D.take (D.map λp=>V.tup [.str p.1,p.2]).length).map (·.1)) F=wk z F:=by
  rw[Uo,List.take_length]
  funext x
  unfold qW wk;have:x∈D.map (·.1)↔(z.att x).isSome=true:=by
   have A:=hd.at_ x;induction hF:z.att x using Vp with
   |none=>rw[hF]at A;dsimp only at A;simp only[Option.isSome_none,TJ,iff_false];exact ib.mp A
   |some q=>
    rw[hF]at A;refine ac (A) λm e Z=>?_;simp only[Option.isSome_some,iff_true];exact UV.mpr ⟨_,ko e,rfl⟩
  simp only[this]
 rw[eF]at i1;exact i1
noncomputable def fz(t:Nat)(F:aO)(z:Vc):aO:=if z.items.length=t then wk z F else F
theorem Hd {z:Vc}(F:aO)(h:∀k,z.att k=none):wk z F=F:=by
 funext k;unfold wk;rw[Vn (λq=>by rw[h k]at q;cases q.1)]
theorem NL {β:Type}(C:Tb)(b:Nat)(K:Fl->Loc->M β)(l:Loc):cm C 22 (aw "result_attrs" (aq "result_attrs") b) (aG "result_attrs" [1,0,0,0,1]) (cm C 23 (aw "result_attrs" (aq "result_attrs") b) (aG "result_attrs" [1,0,1]) K) .next l=K .next l:=by kernel_rfl
def E6 {β:Type}(C:Tb)(b:Nat)(w G J c:V)(l0:Loc)(k:Fl->Loc->M β):M β:=mq (aM w "attrs") λx=>mq (cmp .IsNot x .none) λg=>bif g then(mq (C.f "length" [w]) λz=>mq (C.f "length" [c]) λF=>mq (cmp .Eq z F) λy=>bif y then(mq (aM w "attrs") λA=>mq (dI A) λo=>mq (bF C 21 "result_attrs" b [1,0,0,0,0] o l0) λq=>cm C 22 (aw "result_attrs" (aq "result_attrs") b) (aG "result_attrs" [1,0,0,0,1]) (cm C 23 (aw "result_attrs" (aq "result_attrs") b) (aG "result_attrs" [1,0,1]) k) q.1 q.2)else(k .next l0))else(k .next l0)
theorem rL {wf j lo R I b t:Nat}{items:List V}{F:aO}{u v w:V}{z:Vc}{l0:Loc}(a:RS lo R I k items h0 h F)(s:Side lo R h0 w z)(hlo:lo<=h0.length)(hR:R<h0.length)(hk:k≠ "NULL")(J:items.length=t)(ht9:t<=9)(hw:40<wf)
  (g:l0=lO u v (.ref R) w\/ ∃x y,l0=iO u v (.ref R) w x y)(K:Fl->Loc->M (Fl×Loc))(hK:K=λfl l=>mr (fl,l)):
  ∃lc h',E6 (Tj wf (j+1)) b w u v (.ref R) l0 K h=.ok (.next,lc) h'/\(lc=lO u v (.ref R) w\/ ∃x y,lc=iO u v (.ref R) w x y)/\RS lo R I k items h0 h' (fz t F z):=by
 subst hK;have G:∀m:Nat,(lo<=m/\m<R)->m<h0.length/\m≠R:=λm p=>by exact LH hR p
 have iw:=s.isv.keep (a.keep G);unfold E6 fz;refine ac (iw.attrs) λav c S=>?_;rw[aa c];cases S with
 |none f=>
  refine aU l0 h ⟨rfl,g, ?_⟩
  split
  ·rw[Hd F f];exact a
  ·exact a
 |@dict d D hd=>
  rw[fV,ae,Vj,aa (dy (j:=j) iw)];refine ac (a.res) λra Y Z=>?_;have el:T ai wf 24 (j+1) "length" [.ref R] h=.ok (.int items.length) h:=by
   rw[aK (by kernel_rfl) (by kernel_rfl),yi];unfold rl;have ev:=Bo Y;refine aN ((rF Y))<|mM (Uv hk)<|aN ev<|aQ (aW ..)<|vS<|aN ((hZ Y))<|aN ((dx a.its (vc (Lh J ht9)))) ?_;rfl
  rw[aa el,bA,ae];by_cases hz:z.items.length=t
  ·rw[show decide ((z.items.length:Int)=(items.length:Nat))=true from UD (LN J hz),Vj,Vo hz,aa c,aa (yM hd.get)]
   refine ac (s.isv.attrs) λW q o=>?_;have A:W=.ref d:=by
    cases hs:s.isv with
    |null p e f=>
     have U:=(a.keep G).get _ _ p e;have:=(nZ U).symm.trans c;cases this
    |@vec n i k' l a' F' hk' hl p1 p2 e1 e2 ha=>
     have U:=(a.keep G).get _ _ p1 e1;have t1:=(dj U).symm.trans c;have t2:=(dj e1).symm.trans q;cases t1;cases t2;rfl
   subst A;cases o with
   |@dict d0 D0 hd0=>
    have L:D0=D:=by
     have h3:=(a.keep G).get _ _ hd0.p hd0.get;have:=h3.symm.trans hd.get;cases this;rfl
    subst L;refine aV (Da (j:=j+1) (b:=b) a hd0 hlo hR hw g) λlc h' e X a'=>?_;rw[aa e,NL];exact aU lc h' ⟨rfl,X,a'⟩
  ·rw[show decide ((z.items.length:Int)=(items.length:Nat))=false from Uv (Ls J hz),Ve,Vn hz]
   exact aU l0 h ⟨rfl,g,a⟩
def hj(q:DR)(t:Nat)(x y:Vc):aO:=fz t (fz t (tL q t x y) y) x
theorem vk {lo R:Nat}{items:List V}{x y:Vc}{d1 Y:Option (List Int)}(hu:IsV (λm=>lo<=m/\m<R) h u x)(hv:IsV (λm=>lo<=m/\m<R) h v y)
  (h1:dG x.att x.items.length d1)(A:dG y.att y.items.length Y)(hx:x.items.length<=9)(hy:y.items.length<=9)(hR:h[R]?=some (bp (.str k) (.ref I) .none))(hI:h[I]?=some (.list items))(hk:k≠ "NULL")(ht:items.length=t)(J:t<=9)(L:lo<=h.length)
  (hq:∀e,cf d1 Y x.items.length y.items.length≠ .bad e)(hw:40<wf):
  ∃h',T ai wf 24 (j+5) "result_attrs" [u,v,.ref R] h=.ok .none h'/\RS lo R I k items h h' (hj (cf d1 Y x.items.length y.items.length) t x y):=by
 refine bO (T ai wf 24 (j+5) "result_attrs" [u,v,.ref R] h) λgQ gR=>?_;rw[aK (by kernel_rfl) (by kernel_rfl),uD];unfold mC;have lR:=aA hR;have su:Side lo R h u x:=⟨hu,d1,h1⟩;have sv:Side lo R h v y:=⟨hv,Y,A⟩;refine ac (wY (j:=j) hu hv h1 A hx hy hR hI hk ht J L hq hw) λh1' e1 a1=>az e1<|gR _ ?_;show ∃h',mq (mr (It.vals [v,u])) _ h1'=_/\_;rw[ae];generalize hF0:tL (cf d1 Y x.items.length y.items.length) t x y=F0 at a1;refine aB λgP gH=>?_;obtain⟨lc,h',e,i1,i2⟩:=bX (body:=λv l=>aJ (Tj wf (j+4)) 23 "result_attrs" h.length [1] v l λg l=>mr (g,l)) (it:=.vals [v,u]) [v,u]
  (λi lc h'=>RS lo R I k items h h' (([y,x].take i).foldl (fz t) F0)/\((i=0/\lc=([("u",u),("v",v),("result",.ref R)]:Loc))\/(∃o,lc=lO u v (.ref R) o)\/ ∃o p q,lc=iO u v (.ref R) o p q))
  (λi lc h' Z=>rfl)
  (λi w lc h' U hI'=>by
   refine af (hI') λa' hlc=>?_
   have⟨z,sz,ez⟩:∃z,Side lo R h w z/\([y,x].take (i+1)).foldl (fz t) F0=fz t (([y,x].take i).foldl (fz t) F0) z:=by
    have hi:i<2:=by have:=(SV.mp U).1;simpa using this
    rcases(show i=0\/i=1 from Dt hi)with rfl|rfl
    ·cases U;exact⟨y,sv,rfl⟩
    ·cases U;exact⟨x,su,rfl⟩
   rw[ez];have F:∀c A e2,aJ (Tj wf (j+4)) 23 "result_attrs" h.length [1] w lc (λg l=>mr (g,l)) h'=.ok (.next,c) A->(c=lO u v (.ref R) w\/ ∃x y,c=iO u v (.ref R) w x y)->RS lo R I k items h A e2->
     ∃g l' h'',aJ (Tj wf (j+4)) 23 "result_attrs" h.length [1] w lc (λg l=>mr (g,l)) h'=.ok (g,l') h''/\(g=.next\/g=.cont)/\RS lo R I k items h h'' e2/\((i+1=0/\l'=([("u",u),("v",v),("result",.ref R)]:Loc))\/(∃o,l'=lO u v (.ref R) o)\/ ∃o p q,l'=iO u v (.ref R) o p q):=λc A e2 S X W=>by
    refine bJ .next c A ⟨S,.inl rfl,W,.inr ?_⟩;rcases X with rfl|⟨p,q,rfl⟩
    ·exact .inl ⟨w,rfl⟩
    ·exact .inr ⟨w,p,q,rfl⟩
   rcases hlc with⟨_,rfl⟩|⟨o,rfl⟩|⟨o,p,q,rfl⟩
   ·refine aV (rL (j:=j+3) (b:=h.length) (u:=u) (v:=v) (l0:=lO u v (.ref R) w) a' sz L lR hk ht J hw (.inl rfl) (λg l=>mr (g,l)) rfl) λc A S G W=>F c A _ (by rw[qs];exact S) G W
   ·refine aV (rL (j:=j+3) (b:=h.length) (u:=u) (v:=v) (l0:=lO u v (.ref R) w) a' sz L lR hk ht J hw (.inl rfl) (λg l=>mr (g,l)) rfl) λc A S G W=>F c A _ (by unfold lO;rw[qt];exact S) G W
   ·refine aV (rL (j:=j+3) (b:=h.length) (u:=u) (v:=v) (l0:=iO u v (.ref R) w p q) a' sz L lR hk ht J hw (.inr ⟨p,q,rfl⟩) (λg l=>mr (g,l)) rfl) λc A S G W=>?_
    exact F c A _ (by unfold iO;rw[qw];exact S) G W)
  wf 0 [("u",u),("v",v),("result",.ref R)] h1' o1 (by simp;exact HP hw) ⟨a1,.inl ⟨rfl,rfl⟩⟩
 refine gH ?_;rw[aa ((cC (by kernel_rfl)).trans e)];unfold hj;rw[hF0];rcases i2 with⟨q,_⟩|⟨o,rfl⟩|⟨o,p,q,rfl⟩
 ·simp at q
 ·rw[fv];unfold lO;rw[qz];exact⟨h',rfl,i1⟩
 ·rw[fv];unfold iO;rw[qA];exact⟨h',rfl,i1⟩
noncomputable def NM(o:Option Int):Q:=o.map λi=>(i,1)
theorem J4(o:Option Int):vg (vi o)=vq (NM o):=by cases o<;>rfl
theorem He {o:Option Int}(h:fF o):c7 (NM o):=by
 rcases o with _|i
 ·exact⟨trivial,trivial⟩
 ·have h':i.natAbs<=2147483647:=h
  refine⟨⟨by show(0:Int)<=1;decide,.inr (Nat.gcd_one_right _)⟩, ?_, ?_⟩
  ·show i.natAbs<2^40;exact Qq h'
  ·show 1<2^40;decide
structure DI (x:Vc) (l:List Q):Prop where
 eq:b7 "double" x=l.map vq
 good:∀q∈l,c7 q
theorem DI.len {x:Vc}{l:List Q}(d:DI x l):l.length=x.items.length:=by
 have:=Vk List.length d.eq;rw[eu,Uo]at this;exact this.symm
structure II (x:Vc) (l:List (Option Int)):Prop where
 eq:x.items=l.map vi
 sm:∀q∈l,fF q
theorem II.len {x:Vc}{l:List (Option Int)}(d:II x l):l.length=x.items.length:=by rw[d.eq,Uo]
theorem Wf.ii {x:Vc}(w:Wf x)(g:dE x.kind)(hd:x.kind≠ "double"):∃l,II x l:=by
 have kd:=w.kd;generalize o:x.kind=k at kd g hd;generalize c:x.items=its at kd;cases kd with
 |null=>exact⟨[],c,λq h=>by cases h⟩
 |logical l h=>exact⟨l,c,h⟩
 |integer l h=>exact⟨l,c,h⟩
 |double l h=>exact absurd rfl hd
 |character l=>rcases g with h|h|h|h<;>exact absurd h (by decide)
theorem Wf.di {x:Vc}(w:Wf x)(A:dE x.kind):∃l,DI x l:=by
 by_cases hd:x.kind= "double"
 ·have kd:=w.kd
  generalize g:x.items=its at kd;rw[hd]at kd;cases kd with
  |double l h=>exact⟨l,by unfold b7;rw[Vn (λq=>q.2 hd)];exact g,h⟩
 ·obtain⟨l,e,s⟩:=w.ii A hd
  refine⟨l.map NM, ?_,λq z=>?_⟩
  ·unfold b7
   rw[Vo ⟨rfl,hd⟩,e,List.map_map,List.map_map]
   congr 1;funext o;exact J4 o
  ·refine ac (UV.mp z) λo y c=>?_;subst c
   exact He (s o y)
theorem II.plain {x:Vc}{l:List (Option Int)}(d:II x l):∀v∈x.items,v=.none\/ ∃i:Int,v=.int i:=λv g=>by
 rw[d.eq]at g;refine ac (UV.mp g) λo Z c=>?_;subst c;induction o using Vp with
 |none=>exact .inl rfl
 |some i=>exact .inr ⟨i,rfl⟩
def lP(o:Op)(x y:Vc):Prop:=x.kind= "double"\/y.kind= "double"\/o.whole=false
theorem zc(o:Op):cmp .In (.str o.s) (.tup [.str "/",.str "^"])=mr (!o.whole):=by
 cases o<;>kernel_rfl
theorem zd {n m:Nat}(h:0<aL n m):0<n/\0<m:=by
 unfold aL at h;split at h<;>omega
theorem J5 {wf j N:Nat}{Q:Nat->Prop}{o u v:V}{x y:Vc}(A:IsV P h u x)(G:IsV Q h v y)(J:¬(dE x.kind/\dE y.kind)):∃h',T ai wf 24 (j+2) "arith" [o,u,v,.ref N] h=.exc (.str "non-numeric argument to binary operator") h'/\Gr h h':=by
 refine bO (T ai wf 24 (j+2) "arith" [o,u,v,.ref N] h) λL z=>?_;rw[aK (by kernel_rfl) (by kernel_rfl),Bc];refine aB λS F=>?_;by_cases c:dE x.kind
 ·refine aV (gf (j:=j) A c) λr h' e g Z=>F<|az e<|z _<|⟨h',gZ (mT (j:=j) (G.keep g.keep) λq=>J ⟨c,q⟩),g⟩
 ·refine F<|z _<|⟨h,gZ (mT (j:=j) A c),Keep.refl⟩
def ze(lo N:Nat)(h h':List O)(k:Str)(items:List V)(F:aO)(notes:List V)(r:V):Prop:=
 Keep (λm=>m≠N) h h'/\IsV (λm=>lo<=m) h' r ⟨k,items,F⟩/\h'[N]?=some (.list notes)
theorem wl {wf j lo B N D t:Nat}{k:Str}{items notes:List V}{x y:Vc}{d1 U:Option (List Int)}(hu:IsV (λm=>lo<=m/\m<B) h u x)(hv:IsV (λm=>lo<=m/\m<B) h v y)
  (h1:dG x.att x.items.length d1)(h2:dG y.att y.items.length U)(hx:x.items.length<=9)(hy:y.items.length<=9)(hB:B<=h0.length)(G:lo<=B)(K:Keep (λm=>m≠N) h0 h)(hN:h[N]?=some (.list notes))(J:N<h0.length)
  (hD:h[D]?=some (.list items))(hD0:h0.length<=D)(hk:k≠ "NULL")(ht:items.length=t)(L:t<=9)(hq:∀e,cf d1 U x.items.length y.items.length≠ .bad e)(hw:40<wf):
  ∃r h',(mq (T ai wf 24 (j+5) "Vector" [.str k,.ref D]) λA=>mq (T ai wf 24 (j+5) "result_attrs" [u,v,A]) λr6=>mr A) h=.ok r h'/\ze lo N h0 h' k items (hj (cf d1 U x.items.length y.items.length) t x y) notes r:=by
 refine bO ((mq (T ai wf 24 (j+5) "Vector" [.str k,.ref D]) λA=>mq (T ai wf 24 (j+5) "result_attrs" [u,v,A]) λr6=>mr A) h) λgQ gR=>az gY ?_;have g:Gr h (h++ [bp (.str k) (.ref D) .none]):=Keep.app _;have hR:=ay h (bp (.str k) (.ref D) .none);have c:=K.len;have F:B<=h.length:=UZ hB c;have W:IsV (λm=>lo<=m/\m<h.length) (h++ [bp (.str k) (.ref D) .none]) u x:=(hu.keep g.keep).mono λm Z p=>⟨p.1,by have:=p.2;exact Ma F p⟩;have hv1:IsV (λm=>lo<=m/\m<h.length) (h++ [bp (.str k) (.ref D) .none]) v y:=(hv.keep g.keep).mono λm Z p=>⟨p.1,by have:=p.2;exact Ma F p⟩;have hD1:=g.get _ _ trivial hD;have X:=g.get _ _ trivial hN;have hl1:=g.len;have K1:Keep (λm=>m≠N) h0 (h++ [bp (.str k) (.ref D) .none]):=K.trans g.keep;have z:(h++ [bp (.str k) (.ref D) .none]).length=h.length+1:=by simp
 generalize h++ [bp (.str k) (.ref D) .none]=h1' at*;refine ac (vk (j:=j) W hv1 h1 h2 hx hy hR hD1 hk ht L (PS G F z) hq hw) λY e2 S=>az e2<|gR _<|aU _ Y ⟨rfl,⟨λm o q e=>S.K.get _ _ ⟨by have:=aA e;exact P7 c z this,by have:=aA e;exact Aq c this⟩ (K1.get _ _ q e),by have:=S.K.len;exact Rj c z this⟩,S.isV hk (Lh ht L) (o5 G F) (RZ hB G hD0),S.K.get _ _ ⟨by exact PN J c z,by exact Ds J c⟩ X⟩
structure Ans (o:Op) (x y:Vc) (t:Nat) (k:Str) (items:List V) (over:Bool):Prop where
 dbl:lP o x y-> ∃l r,DI x l/\DI y r/\k= "double"/\items=(List.range t).map (λi=>vq (tJ o l r i))/\over=false
 int:¬lP o x y-> ∃l r,II x l/\II y r/\k= "integer"/\items=(List.range t).map (λi=>vi (eb o l r i))/\over=lM o l r t
theorem wm(f:Nat->V):((List.range t).map f).length=t:=by simp
theorem J6 {lo:Nat}{o:Op}{x y:Vc}{W X:Option (List Int)}(hu:IsV (λm=>lo<=m/\m<B) h u x)(hv:IsV (λm=>lo<=m/\m<B) h v y)(wx:Wf x)(wy:Wf y)
  (h1:dG x.att x.items.length W)(h2:dG y.att y.items.length X)(nx:dE x.kind)(ny:dE y.kind)(hB:B<=N)(hlo:lo<=B)(hN:h[N]?=some (.list []))(hp:∀r,DI y r-> ∀q∈r,Pw o q)(hw:4200<wf):
  match cf W X x.items.length y.items.length with
  |.bad e=>∃h',T ai wf 24 (j+8) "arith" [.str o.s,u,v,.ref N] h=.exc (.str e) h'/\Gr h h'
  |q=>∃r h' k items over,T ai wf 24 (j+8) "arith" [.str o.s,u,v,.ref N] h=.ok r h'/\Ans o x y (aL x.items.length y.items.length) k items over/\
    ze lo N h h' k items (hj q (aL x.items.length y.items.length) x y) (ca over (bE W X x.items.length y.items.length []) iN) r:=by
 have ea:T ai wf 24 (j+8) "arith" [.str o.s,u,v,.ref N] h=Ba (Tj wf (j+7)) h.length (.str o.s) u v (.ref N) h:=by
  rw[aK (by kernel_rfl) (by kernel_rfl),Bc]
 have lN:=aA hN;refine aB λgP gH=>bM (gf (wf:=wf) (j:=j+6) hu nx) λL h1' e1 g1 eL pL=>bM (gf (wf:=wf) (j:=j+6) (hv.keep g1.keep) ny) λR h2' e2 g2 eR pR=>?_;have gp:Gr h h2':=g1.trans g2;have hu2:=hu.keep (gp.keep (P:=λm=>lo<=m/\m<B));have hv2:=hv.keep (gp.keep (P:=λm=>lo<=m/\m<B));have g:∀n,(lo<=n/\n<B)->n≠N:=λn p=>by exact Pd hB p
 have cl:=GZ (j:=j+3) hu2 hv2 h1.dims h2.dims g g (gp.get _ _ trivial hN) (by simp) wx.len wy.len (o4 hw);have ok:(∀e,cf W X x.items.length y.items.length≠ .bad e)->co (T ai wf 24 (j+7) "common_length" [u,v,.ref N]) N h2' (bE W X x.items.length y.items.length []) (.int (aL x.items.length y.items.length))->
   ∃r h' k items over,T ai wf 24 (j+8) "arith" [.str o.s,u,v,.ref N] h=.ok r h'/\Ans o x y (aL x.items.length y.items.length) k items over/\
    ze lo N h h' k items (hj (cf W X x.items.length y.items.length) (aL x.items.length y.items.length) x y) (ca over (bE W X x.items.length y.items.length []) iN) r:=λhq nt=>by
  refine bO (T ai wf 24 (j+8) "arith" [.str o.s,u,v,.ref N] h) λJ mk=>aP (nt) λh3 e3 k3 n3=>?_;have hu3:=hu2.keep (k3.mono λn Z p=>g n p);have hv3:=hv2.keep (k3.mono λn Z p=>g n p);have Y:=mV wx.len wy.len;have hpos:=@zd x.items.length y.items.length;have K3:Keep (λm=>m≠N) h h3:=gp.keep.trans k3;rw[ea];refine az e1<|az e2<|az e3<|az hu3.kind<|bC (aY ..) ?_;have S:lP o x y->J (kX (Tj wf (j+7)) (.str o.s) u v (.int (aL x.items.length y.items.length)) h3):=λhD=>by
   refine am (wx.di nx) λl dl=>am (wy.di ny) λr dr=>aV (mU (j:=j+5) hu3 nx (λq=>by obtain⟨l,il⟩:=wx.ii nx q;exact il.plain) hw) λA h4 e4 g4 eA=>?_;have hv4:=hv3.keep (g4.keep (P:=λm=>lo<=m/\m<B));refine aV (mU (j:=j+5) hv4 ny (λq=>by obtain⟨l,il⟩:=wy.ii ny q;exact il.plain) hw) λBb h5 e5 g5 eB=>?_;have eA5:=g5.get _ _ trivial eA;rw[dl.eq]at eA5;rw[dr.eq]at eB;refine bM (tK (j:=j) (o:=o) (n:=aL x.items.length y.items.length) eA5 eB Y (λq=>by rw[dl.len,dr.len];exact hpos q) (by rw[dl.len];exact wx.len) (by rw[dr.len];exact wy.len) dl.good dr.good (hp r dr) (HO hw)) λD h6 e6 g6 hD0 eD=>az e4<|az e5<|az e6 ?_;have z:Gr h3 h6:=(g4.trans g5).trans g6;have K6:Keep (λm=>m≠N) h h6:=K3.trans z.keep;have hl36:=z.len;have F:=K3.len;have h56:=(g4.trans g5).len;refine cY (wl (j:=j+2) (B:=B) (N:=N) (t:=aL x.items.length y.items.length) (k:= "double") (hu3.keep z.keep) (hv3.keep z.keep) h1 h2 wx.len wy.len (Mf hB lN) hlo K6 (z.get _ _ trivial n3) lN eD (tt F (tt h56 hD0)) (by decide) (wm _) Y hq (o4 hw)) λrr h7 e7 a7=>mk _ (xp rr h7 _ _ false ⟨e7,⟨λZ=>⟨l,r,dl,dr,rfl,rfl,rfl⟩,λq=>absurd hD q⟩,a7⟩)
  by_cases U:x.kind= "double"
  ·exact qP U (S (.inl U))
  refine sZ U<|az hv3.kind<|bC (aY ..) ?_;by_cases G:y.kind= "double"
  ·exact qP G (S (.inr (.inl G)))
  refine sZ G<|bC (zc ..) ?_;induction ho:o.whole using Vs with
  |false=>exact S (.inr (.inr ho))
  |true=>
   have nD:¬lP o x y:=λq=>q.elim U λq=>q.elim G λq=>ff (q.symm.trans ho);refine am (wx.ii nx U) λl il=>am (wy.ii ny G) λr ir=>?_;have lL:=aA eL;have lR:=aA eR;have hg1:=g1.len;have hLN:L≠N:=by rcases pL with q|q<;>omega
   have hRN:R≠N:=by rcases pR with q|q<;>omega
   have eL3:=k3.get _ _ hLN (g2.get _ _ trivial eL);have eR3:=k3.get _ _ hRN eR;rw[il.eq]at eL3;rw[ir.eq]at eR3;obtain⟨D,h6,e6,k6,hD0,eD,n6⟩:=rK (j:=j+5) (n:=aL x.items.length y.items.length) eL3 eR3 n3 Y (λq=>by rw[il.len,ir.len];exact hpos q) (by rw[il.len];exact wx.len) (by rw[ir.len];exact wy.len) il.sm ir.sm ho (by
    have a:=pK (c:=gA x.items.length y.items.length) (l:=ca (ji W X x.items.length y.items.length) [] eZ) (v:=eY);have b:=pK (c:=ji W X x.items.length y.items.length) (l:=([]:List V)) (v:=eZ);unfold bE;simp at b;exact tt a (tt (Uh b) (by decide))) (HO hw)
   refine qQ<|az (by with_reducible exact e6) ?_;have K6:Keep (λm=>m≠N) h h6:=K3.trans k6;have F:=K3.len;refine cY (wl (j:=j+2) (B:=B) (N:=N) (t:=aL x.items.length y.items.length) (k:= "integer") (hu3.keep (k6.mono λn Z p=>g n p)) (hv3.keep (k6.mono λn Z p=>g n p)) h1 h2 wx.len wy.len (Mf hB lN) hlo K6 n6 lN eD (Ap hD0 F) (by decide) (wm _) Y hq (o4 hw)) λrr h7 e7 a7=>mk _ (xp rr h7 _ _ _ ⟨e7,⟨λq=>absurd q nD,λZ=>⟨l,r,il,ir,rfl,rfl,rfl⟩⟩,a7⟩)
 refine gH ?_;induction hr:cf W X x.items.length y.items.length using Vu with
 |bad msg=>
  rw[hr]at cl;refine aB λgP gH=>ac (cl) λh3 e3 g3=>gH<|⟨h3, ?_,gp.trans g3⟩;rw[ea];refine aN e1<|aN e2<|gZ e3
 |no=>rw[hr]at cl ok;exact ok (λe q=>by cases q) cl
 |dim ds=>rw[hr]at cl ok;exact ok (λe q=>by cases q) cl
theorem Db {wf j R:Nat}{k i:V}{x:Vc}(F:IsV P h v x)(J:∀n,P n->n≠R)(q:h[R]?=some (bp k i .none)):
  ∃h' a,T ai wf 24 (j+1) "keep_all" [v,.ref R] h=.ok (.ref R) h'/\Keep (λm=>m≠R) h h'/\h'[R]?=some (bp k i a)/\IsA (λm=>P m\/h.length<=m) h' x.att a:=by
 refine bO (T ai wf 24 (j+1) "keep_all" [v,.ref R] h) λL y=>?_;rw[aK (by kernel_rfl) (by kernel_rfl),Ct];refine ac (F.attrs) λa z A=>?_;have G:=aA q;refine az z ?_;cases A with
 |none f=>
  refine bC dU<|qQ<|y _<|aU h .none ⟨rfl,Keep.refl,q,.none f⟩
 |@dict d D hd=>
  refine bC (fV ..)<|yF<|az z<|az ((JV hd.get (UZ hd.dk.len (by decide)))) ?_;have g:Gr h (h++ [O.dict D]):=Keep.app _;have c:=g.get _ _ trivial q;refine az ((ln c))<|y _<|aU _ _ ⟨rfl,g.keep.trans (Keep.set (by simp)),bg c,.dict (D:=D) ⟨.inr (U9 _),by rw[Tr (o8 G)];exact ay _ _,hd.dk, ?_⟩⟩;refine((hd.at_.keep (Q:=P) g.keep).setR (o:=_) J).mono λn Z p=>.inl p
noncomputable def kz:V->V
 |.int i=>.int (-i)
 |.tup [.int a,.int b]=>.tup [.int (-a),.int b]
 |v=>v
theorem J7(q:Q):kz (vq q)=vq (fP q):=by rcases q with _|⟨a,b⟩<;>rfl
theorem Bu {x:Vc}(g:IsV P h v x)(c:x.kind= "logical"\/x.kind= "integer"\/x.kind= "double"):T ai wf 24 (j+1) "check_unary" [v] h=.ok .none h:=by
 rw[aK (by kernel_rfl) (by kernel_rfl),ou];unfold jv;unfold iq;rw[aa g.kind,pG,ae,UD c];rfl
theorem J8 {x:Vc}(g:IsV P h v x)(c:¬(x.kind= "logical"\/x.kind= "integer"\/x.kind= "double")):T ai wf 24 (j+1) "check_unary" [v] h=.exc (.str "invalid argument to unary operator") h:=by
 rw[aK (by kernel_rfl) (by kernel_rfl),ou];unfold jv;unfold iq;rw[aa g.kind,pG,ae,Uv c];rfl
theorem zf {n:V}{x:Vc}(g:IsV P h v x)(c:¬(x.kind= "logical"\/x.kind= "integer"\/x.kind= "double")):T ai wf 24 (j+2) "negate" [v,n] h=.exc (.str "invalid argument to unary operator") h:=by
 rw[aK (by kernel_rfl) (by kernel_rfl),yl];exact gZ (J8 (j:=j) g c)
theorem lQ {lo D:Nat}{items:List V}{x:Vc}(X:IsV (λm=>lo<=m/\m<B) h v x)(U:B<=h.length)(F:lo<=B)(A:Gr h0 h)(S:h[D]?=some (.list items))(c:lo<=D)(W:k≠ "NULL")(hl:items.length<=9):
  ∃r h',(mq (T ai wf 24 (j+1) "Vector" [.str k,.ref D]) λq=>mq (T ai wf 24 (j+1) "keep_all" [v,q]) λJ=>mr J) h=.ok r h'/\Gr h0 h'/\IsV (λm=>lo<=m) h' r ⟨k,items,x.att⟩:=by
 refine bO ((mq (T ai wf 24 (j+1) "Vector" [.str k,.ref D]) λq=>mq (T ai wf 24 (j+1) "keep_all" [v,q]) λJ=>mr J) h) λgQ gR=>az gY ?_;have g:Gr h (h++ [bp (.str k) (.ref D) .none]):=Keep.app _;have hR:=ay h (bp (.str k) (.ref D) .none);have z:=X.keep (g.keep (P:=λm=>lo<=m/\m<B));have G:=g.get _ _ trivial S;have L:=aA S;have y:(h++ [bp (.str k) (.ref D) .none]).length=h.length+1:=by simp
 generalize h++ [bp (.str k) (.ref D) .none]=h1 at*;refine aB λgP gH=>bM (Db (j:=j) (R:=h.length) z (λn p=>by exact Pd U p) hR) λh' a e K Y ia=>gH<|az e<|gR _<|aU _ h' ⟨rfl,⟨λm o Z e=>K.get _ _ (by have:=aA e;have:=A.len;omega) (g.get _ _ trivial (A.get _ _ trivial e)),by have:=A.len;have:=K.len;omega⟩,.vec W (o2 hl) (Ap U F) c Y (K.get _ _ (o8 L) G) (ia.mono λn Z p=>?_)⟩;rcases p with p|p
 ·exact p.1
 ·exact QE c L y p
theorem Hf {lo:Nat}{v n:V}{x:Vc}(y:IsV (λm=>lo<=m/\m<B) h v x)(U:Wf x)(G:B<=h.length)(c:lo<=B)(L:x.kind= "logical"\/x.kind= "integer"\/x.kind= "double")(W:4200<wf):
  ∃r h',T ai wf 24 (j+2) "negate" [v,n] h=.ok r h'/\Gr h h'/\IsV (λm=>lo<=m) h' r ⟨if x.kind= "double" then "double" else "integer",x.items.map kz,x.att⟩:=by
 rw[aK (by kernel_rfl) (by kernel_rfl),yl];refine bO (yk (Tj wf (j+1)) h.length v n h) λJ F=>?_;have nn:x.kind≠ "NULL":=λe=>by rcases L with q|q|q<;>(rw[e]at q;exact absurd q (by decide))
 have A:=U.len;refine aP (y.items nn) λi Z X z=>az (Bu (j:=j) y L)<|az y.kind<|bC (aY ..) ?_;have hn:dE x.kind:=.inr L;have g:Gr h (h++ [O.list (x.items.map kz)]):=Keep.app _;by_cases hd:x.kind= "double"
 ·rw[Vo hd]at F;refine qP hd<|az X<|az (dg z) ?_
  have kd:=U.kd;rw[hd]at kd;generalize Y:x.items=its at kd z A g F ⊢;cases kd with
  |double l hg=>
   refine az (kt (f:=kz) (by kernel_rfl) (by kernel_rfl) z (by show(l.map vq).length<wf;exact Ll W A) λw o=>by
    refine ac (UV.mp o) λq Z S=>?_;subst S;rw[CD];refine aN ((CH (j:=j) q)) ?_;rw[J7];rfl) ?_
   refine az (aH _ _) (F _ ?_);exact lQ (j:=j) (y.keep g.keep) (by have:=g.len;exact o5 G this) c g (ay _ _) (Ap G c) (by decide) (by simpa using A)
 ·rw[Vn hd]at F;refine sZ hd<|az X<|az (dg z)<|am (U.ii hn hd) λl il=>?_
  refine az (kt (f:=kz) (by kernel_rfl) (by kernel_rfl) z (by show x.items.length<wf;exact Ll W A) λw o=>by
   rw[CE];unfold sU;rcases il.plain w o with rfl|⟨i,rfl⟩
   ·rfl
   ·refine aQ (qR ..)<|lh<|aQ (ch ..) ?_;rw[show(0:Int)-i= -i from Dq];rfl) ?_
  refine az (aH _ _) (F _ ?_);exact lQ (j:=j) (y.keep g.keep) (by have:=g.len;exact o5 G this) c g (ay _ _) (Ap G c) (by decide) (by simpa using A)
theorem NN {lo:Nat}{v n:V}{x:Vc}(o:IsV (λm=>lo<=m/\m<B) h v x)(L:Wf x)(z:B<=h.length)(c:lo<=B)(F:x.kind= "logical"\/x.kind= "integer"\/x.kind= "double")(S:4200<wf):
  ∃r h',T ai wf 24 (j+2) "plus" [v,n] h=.ok r h'/\Gr h h'/\IsV (λm=>lo<=m) h' r ⟨if x.kind= "double" then "double" else "integer",x.items,x.att⟩:=by
 refine bO (T ai wf 24 (j+2) "plus" [v,n] h) λU A=>?_;rw[aK (by kernel_rfl) (by kernel_rfl),M8];unfold EA;have nn:x.kind≠ "NULL":=λe=>by rcases F with q|q|q<;>(rw[e]at q;exact absurd q (by decide))
 have y:=L.len;refine aP (o.items nn) λi Z J G=>az ((Bu (j:=j) o F))<|az o.kind<|bC (aY ..) ?_;have g:Gr h (h++ [O.list x.items]):=Keep.app _;by_cases hd:x.kind= "double"
 ·rw[Vo hd]at A;refine qP hd<|az J<|az (hW G (lz (o2 y))) (A _ ?_)
  exact lQ (j:=j) (o.keep g.keep) (by have:=g.len;exact o5 z this) c g (ay _ _) (Ap z c) (by decide) y
 ·rw[Vn hd]at A;refine sZ hd<|az J<|az (hW G (lz (o2 y))) (A _ ?_)
  exact lQ (j:=j) (o.keep g.keep) (by have:=g.len;exact o5 z this) c g (ay _ _) (Ap z c) (by decide) y
noncomputable abbrev zg:Nat->Prop:=λZ=>True
structure SM (fd:Nat) (h0 h:List O) (F:aO):Prop where
 K:Keep (λm=>m<h0.length) h0 h
 isS:∃D,IsS zg h fd F D
 old:h0.length<=fd
theorem SM.gr {F:aO}(a:SM fd h0 h F)(g:Gr h h'):SM fd h0 h' F:=by
 refine am (a.isS) λD c=>⟨a.K.trans g.keep,⟨D,c.keep g⟩,a.old⟩
theorem SM.put {fd i:Nat}{h0 h:List O}{F:aO}{key:Str}{q:Str×List V}(a:SM fd h0 h F)(y:key∈Ks)(G:h[i]?=some (.list q.2)):
  ∃h',cH (.ref fd) (.str key) (.tup [.str q.1,.ref i]) h=.ok () h'/\SM fd h0 h' (F.upd key q)/\Keep (λm=>m≠fd) h h':=by
 refine am (a.isS) λD g=>⟨_,pB g.get (UZ g.dk.len (by decide)),⟨⟨λm o p e=>by rw[Tr (by have:=a.old;exact rQ p this)];exact a.K.get _ _ p e,by simpa using a.K.len⟩,⟨_,trivial,bg g.get,g.dk.put y,λx=>?_⟩,a.old⟩,Keep.set (by simp)⟩;have c:∀(j:Nat) (l:List V),h[j]?=some (.list l)->(h.set fd (.dict (Mine.put key (.tup [.str q.1,.ref i]) D)))[j]?=some (.list l):=λj l e=>by
  rw[Tr (λA=>by subst A;rw[g.get]at e;cases e)];exact e
 unfold aO.upd;rw[pC];by_cases z:x=key
 ·rw[Vo z,Vo z]
  exact⟨i,rfl,trivial,c _ _ G⟩
 ·rw[Vn z,Vn z]
  have:=g.at_ x;induction hF:F x using Vp with
  |none=>rw[hF]at this;exact this
  |some q'=>
   rw[hF]at this;refine aP (this) λj e Z A=>⟨j,e,trivial,c _ _ A⟩
noncomputable def eh(sn:Bool)(k:Str):Bool:= !decide (k= "dim")&&(!decide (k= "names")||sn)
noncomputable def E7(u v n m s t x f:V):Loc:= [("u",u),("v",v),("n",n),("m",m),("shape",s),("total",t),("extra",x),("found",f)]
noncomputable def ja(u v n m s t x f a b c:V):Loc:= [("u",u),("v",v),("n",n),("m",m),("shape",s),("total",t),("extra",x),("found",f),("side",a),("size",b),("seen",c)]
noncomputable def jb(u v n m s t x f a b c d:V):Loc:= [("u",u),("v",v),("n",n),("m",m),("shape",s),("total",t),("extra",x),("found",f),("side",a),("size",b),("seen",c),("name",d)]
theorem J9 {C:Tb}{b fd x t sz:Nat}{sn:Bool}{Q:Nat->Prop}{F G:aO}{u v n m shape side:V}{nm:Str}{q:Str×List V}(a:SM fd h0 h F)(s:IsS Q h x G E)(W:G nm=some q)(Y:cmp .Is shape .none=mr sn):
  ∃h',gb C b (.str nm) u v n m shape (.int t) (.bool true) (.ref fd) side (.int sz) (.ref x) (λX l=>mr (X,l)) h=.ok (.next,jb u v n m shape (.int t) (.bool true) (.ref fd) side (.int sz) (.ref x) (.str nm)) h'/\SM fd h0 h' (if sz=t/\eh sn nm=true then F.upd nm q else F)/\Keep (λm=>m≠fd) h h':=by
 have c:=s.at_ nm;rw[W]at c;refine aP (c) λi U Z li=>?_;have o:nm∈Ks:=s.dk.sub _ (UV.mpr ⟨_,ko U,rfl⟩);have L:=lw s.get U;refine aP (a.put o li) λA J S k2=>?_;unfold gb;dsimp only;unfold iq;rw[aY,ae,Nh,ae,Y,ae,bA,ae,aW,ae];have z:decide ((sz:Int)=(t:Nat))=decide (sz=t):=Uj.mpr (Int.ofNat_inj);rw[z];by_cases g:nm= "names"
 ·subst g
  have nd:decide (("names":Str)= "names"\/("names":Str)= "dim")=true:=UD (.inl rfl);rw[nd,UD rfl,Vj,Bool.not_true];simp only[Ve];have y:eh sn "names"=sn:=by
   unfold eh;rw[Uv (by decide),UD rfl];rfl
  rw[y];by_cases hz:sz=t
  ·rw[UD hz]
   induction sn using Vs with
   |false=>exact⟨h,rfl,by rw[Vn (λq=>by cases q.2)];exact a,Keep.refl⟩
   |true=>
    rw[Vj,Vj,aa L,aa J];exact⟨A,rfl,by rw[Vo ⟨hz,rfl⟩];exact S,k2⟩
  ·rw[Uv hz,Vn (λq=>hz q.1)]
   cases sn<;>exact⟨h,rfl,a,Keep.refl⟩
 ·rw[Uv g,Ve]
  by_cases hd:nm= "dim"
  ·subst hd
   rw[UD (.inr rfl),Bool.not_true,Ve,Vn (λq=>by
    have:=q.2;unfold eh at this;rw[UD rfl]at this;cases this)]
   exact⟨h,rfl,a,Keep.refl⟩
  ·have y:eh sn nm=true:=by unfold eh;rw[Uv hd,Uv g];rfl
   rw[Uv (λq=>q.elim g hd),Uz,Vj,y];by_cases hz:sz=t
   ·rw[UD hz,Vj,ae,Vj,aa L,aa J]
    exact⟨A,rfl,by rw[Vo ⟨hz,rfl⟩];exact S,k2⟩
   ·rw[Uv hz,Vn (λq=>hz q.1)]
    exact⟨h,rfl,a,Keep.refl⟩
def qX(sn:Bool)(c:Prop)[Decidable c](G:aO)(ks:List Str)(F:aO):aO:=λk=>if k∈ks/\c/\eh sn k=true then G k else F k
theorem Kb(sn:Bool)(c:Prop)[Decidable c](G F:aO):qX sn c G [] F=F:=by funext k;unfold qX;rw[Vn (λq=>by cases q.1)]
theorem Hg(sn:Bool)(c:Prop)[Decidable c](G F:aO)(ks:List Str)(n:Str)(q:Str×List V)(x:G n=some q):qX sn c G (ks++ [n]) F=if c/\eh sn n=true then(qX sn c G ks F).upd n q else qX sn c G ks F:=by
 by_cases o:c/\eh sn n=true
 ·rw[Vo o]
  funext k
  unfold qX aO.upd;by_cases g:k=n
  ·subst g
   rw[Vo ⟨by simp,o⟩,Vo rfl,x]
  ·rw[Vn g]
   have:k∈ks++ [n]↔k∈ks:=by simp[g]
   simp only[this]
 ·rw[Vn o]
  funext k
  unfold qX;by_cases g:k=n
  ·subst g
   rw[Vn (λq=>o q.2),Vn (λq=>o q.2)]
  ·have:k∈ks++ [n]↔k∈ks:=by simp[g]
   simp only[this]
def fb(sn:Bool)(t:Nat)(F:aO)(z:Vc):aO:=λk=>if(z.att k).isSome=true/\z.items.length=t/\eh sn k=true then z.att k else F k
theorem Kc {wf j b fd c t sz:Nat}{sn:Bool}{Q:Nat->Prop}{F:aO}{z:Vc}{u v n m shape side:V}{l0:Loc}(a:SM fd h0 h F)(s:IsS Q h c z.att E)(g:c≠fd)(hQ:∀n,Q n->n≠fd)(hs:cmp .Is shape .none=mr sn)(J:sz=z.items.length)(hw:40<wf)
  (S:l0=ja u v n m shape (.int t) (.bool true) (.ref fd) side (.int sz) (.ref c)\/ ∃x,l0=jb u v n m shape (.int t) (.bool true) (.ref fd) side (.int sz) (.ref c) x):
  ∃lc h',bF (Tj wf j) 22 "_law_attrs" b [2,0,1] (.keys c (E.map (·.1))) l0 h=.ok (.next,lc) h'/\(lc=ja u v n m shape (.int t) (.bool true) (.ref fd) side (.int sz) (.ref c)\/ ∃x,lc=jb u v n m shape (.int t) (.bool true) (.ref fd) side (.int sz) (.ref c) x)/\SM fd h0 h' (fb sn t F z)/\Keep (λm=>m≠fd) h h':=by
 refine aB λgP U=>?_;obtain⟨lc,h',e,X,i2,i3⟩:=bX (body:=λv l=>aJ (Tj wf j) 22 "_law_attrs" b [2,0,1] v l λfl l=>mr (fl,l)) (it:=.keys c (E.map (·.1))) (E.map λp=>V.str p.1)
  (λi lc h'=>SM fd h0 h' (qX sn (sz=t) z.att ((E.take i).map (·.1)) F)/\Keep (λm=>m≠fd) h h'/\(lc=ja u v n m shape (.int t) (.bool true) (.ref fd) side (.int sz) (.ref c)\/ ∃x,lc=jb u v n m shape (.int t) (.bool true) (.ref fd) side (.int sz) (.ref c) x))
  (λi lc h' W=>vY (W.2.1.get _ _ g s.get))
  (λi w lc h' hv W=>by
   refine cQ (W) λa' K L=>am (SV.mp hv) λA o=>?_;simp only[Uo]at A;simp only[List.getElem_map]at o;subst o;have G:look E[i].1 E=some E[i].2:=iI s.dk.nd (T7 A);obtain⟨q,Y⟩:∃q,z.att E[i].1=some q:=by
    have:=s.at_ E[i].1;induction hF:z.att E[i].1 using Vp with
    |none=>rw[hF]at this;rw[G]at this;cases this
    |some q=>exact⟨q,rfl⟩
   have s':IsS Q h' c z.att E:=⟨s.p,K.get _ _ g s.get,s.dk,s.at_.keep (K.mono λn Z p=>hQ n p)⟩;refine aP (J9 (C:=Tj wf j) (b:=b) (t:=t) (sz:=sz) (u:=u) (v:=v) (n:=n) (m:=m) (side:=side) a' s' Y hs) λh2 et a2 k2=>?_;rw[<-Hg sn (sz=t) z.att F _ _ q Y]at a2;refine bJ .next _ h2 ⟨?_,.inl rfl, ?_,K.trans k2,.inr ⟨.str E[i].1,rfl⟩⟩
   ·rcases L with rfl|⟨x,rfl⟩
    ·show aJ (Tj wf j) 22 "_law_attrs" b [2,0,1] _ (ja u v n m shape (.int t) (.bool true) (.ref fd) side (.int sz) (.ref c)) _ h'=_
     unfold ja;rw[uV];exact et
    ·show aJ (Tj wf j) 22 "_law_attrs" b [2,0,1] _ (jb u v n m shape (.int t) (.bool true) (.ref fd) side (.int sz) (.ref c) x) _ h'=_
     unfold jb;rw[uW];exact et
   ·rw[bv A,Uq];exact a2)
  wf 0 l0 h o1 (by have:=s.dk.len;simp;exact Lj hw this) ⟨by rw[List.take_zero,List.map_nil,Kb];exact a,Keep.refl,S⟩
 refine U<|aU lc h' ⟨(cC (by kernel_rfl)).trans e,i3, ?_,i2⟩;have eF:qX sn (sz=t) z.att ((E.take (E.map λp=>V.str p.1).length).map (·.1)) F=fb sn t F z:=by
  rw[Uo,List.take_length]
  funext x
  unfold qX fb;have:x∈E.map (·.1)↔(z.att x).isSome=true:=by
   have y:=s.at_ x;induction hF:z.att x using Vp with
   |none=>rw[hF]at y;dsimp only at y;simp only[Option.isSome_none,TJ,iff_false];exact ib.mp y
   |some q=>
    rw[hF]at y;refine aB λgP U=>ac (y) λm e Z=>U ?_;simp only[Option.isSome_some,iff_true];exact UV.mpr ⟨_,ko e,rfl⟩
  simp only[this,J]
 rw[eF]at X;exact X
theorem NO {β:Type}(C:Tb)(b:Nat)(K:Fl->Loc->M β)(l:Loc):cm C 23 (aw "_law_attrs" (aq "_law_attrs") b) (aG "_law_attrs" [2,0,2]) K .next l=K .next l:=by kernel_rfl
def E8 {β:Type}(C:Tb)(b:Nat)(w u v n m s t x f:V)(lc:V->V->V->Loc)(k:Fl->Loc->M β):M β:=mq (dS w) λg=>mq (C.f "_law_seen" [g.1]) λq=>mq (bY q) λc=>mq (bF C 22 "_law_attrs" b [2,0,1] c (lc g.1 g.2 q)) λo=>cm C 23 (aw "_law_attrs" (aq "_law_attrs") b) (aG "_law_attrs" [2,0,2]) k o.1 o.2
theorem rM {wf j b fd t sz:Nat}{sn:Bool}{F:aO}{z:Vc}{u v n m shape w:V}{lc:V->V->V->Loc}(a:SM fd h0 h F)(iw:IsV P h w z)(hs:cmp .Is shape .none=mr sn)(G:sz=z.items.length)(X:40<wf)
  (L:(∀x y z,lc x y z=ja u v n m shape (.int t) (.bool true) (.ref fd) x y z)\/ ∃q,∀x y z,lc x y z=jb u v n m shape (.int t) (.bool true) (.ref fd) x y z q):
  ∃c h',E8 (Tj wf (j+1)) b (.tup [w,.int sz]) u v n m shape (.int t) (.bool true) (.ref fd) lc (λJ l=>mr (J,l)) h=.ok (.next,c) h'/\((∃x y z,c=ja u v n m shape (.int t) (.bool true) (.ref fd) x y z)\/ ∃x y z q,c=jb u v n m shape (.int t) (.bool true) (.ref fd) x y z q)/\SM fd h0 h' (fb sn t F z)/\Keep (λm=>m≠fd) h h':=by
 refine bO (E8 (Tj wf (j+1)) b (.tup [w,.int sz]) u v n m shape (.int t) (.bool true) (.ref fd) lc (λJ l=>mr (J,l)) h) λgQ gR=>?_;refine bC (show dS (.tup [w,.int sz])=mr (w,V.int sz) from rfl)<|bw (dX (j:=j) iw X) λW E h1 e1 S Y=>?_;have g:fd<h.length:=by obtain⟨D,hD⟩:=a.isS;exact aA hD.get
 have A:h.length<=W:=S.p;refine az e1<|az ((vX S.get))<|aB λgP o=>?_;obtain⟨c,h2,e2,U,a2,k2⟩:=Kc (j:=j+1) (b:=b) (sz:=sz) (side:=w) (u:=u) (v:=v) (n:=n) (m:=m) (t:=t) (l0:=lc w (.int sz) (.ref W)) (a.gr Y) S (rQ g A) (λn p=>by exact rQ g p) hs G X (by
  rcases L with q|⟨q,Z⟩
  ·exact .inl (q _ _ _)
  ·exact .inr ⟨q,Z _ _ _⟩)
 refine o<|az e2 ?_;rw[NO];refine gR _<|aU c h2 ⟨rfl, ?_,a2, ?_⟩
 ·refine aB λgP o=>?_
  rcases U with q|⟨p,q⟩
  ·refine o<|.inl ⟨_,_,_,q⟩
  ·refine o<|.inr ⟨_,_,_,p,q⟩
 ·exact Y.keep.trans k2
def tM(sn:Bool)(t:Nat)(F:aO)(x y:Vc):aO:=fb sn t (fb sn t F y) x
def Dc(q:DR):aO:=match q with
 |.dim ds=>jK.upd "dim" ("integer",bH ds)
 |_=>jK
noncomputable def DR.sn:DR->Bool
 |.dim _=>false
 |_=>true
def zh(h:List O)(q:DR)(s:V):Prop:=match q with
 |.dim ds=>∃r,s=.ref r/\h[r]?=some (.list (bH ds))
 |_=>s=.none
theorem Ke {wf j fd t W:Nat}{sn:Bool}{Q:Nat->Prop}{F:aO}{x y:Vc}{shape:V}(a:SM fd h0 h F)(hu:IsV P h0 u x)(hv:IsV Q h0 v y)(hs:cmp .Is shape .none=mr sn)(hL:h[W]?=some (.list [.tup [v,.int y.items.length],.tup [u,.int x.items.length]]))(Y:40<wf):
  ∃h',(mq (bY (.ref W)) λit5=>mq (bF (Tj wf (j+1)) 23 "_law_attrs" h0.length [2] it5 [("u",u),("v",v),("n",.int x.items.length),("m",.int y.items.length),("shape",shape),("total",.int t),("extra",.bool true),("found",.ref fd)]) λp3=>cm (Tj wf (j+1)) 24 (aw "_law_attrs" (aq "_law_attrs") h0.length) (aG "_law_attrs" [3]) cb p3.1 p3.2) h=.ok (.ref fd) h'/\SM fd h0 h' (tM sn t F x y):=by
 rw[aa (dg hL)];have hfd:h[W]?=some (.list [.tup [v,.int y.items.length],.tup [u,.int x.items.length]])->W≠fd:=λq e=>by
  refine am (a.isS) λD hD=>?_;rw[e,hD.get]at q;cases q
 refine aB λgP X=>?_;obtain⟨lc,h',e,i1,_,i3⟩:=bX (body:=λv l=>aJ (Tj wf (j+1)) 23 "_law_attrs" h0.length [2] v l λfl l=>mr (fl,l)) (it:=.list W) [.tup [v,.int y.items.length],.tup [u,.int x.items.length]]
  (λi lc h'=>SM fd h0 h' (([y,x].take i).foldl (fb sn t) F)/\Keep (λm=>m≠fd) h h'/\((i=0/\lc=E7 u v (.int x.items.length) (.int y.items.length) shape (.int t) (.bool true) (.ref fd))\/(∃p q r,lc=ja u v (.int x.items.length) (.int y.items.length) shape (.int t) (.bool true) (.ref fd) p q r)\/ ∃p q r s,lc=jb u v (.int x.items.length) (.int y.items.length) shape (.int t) (.bool true) (.ref fd) p q r s))
  (λi lc h' hI=>lm (hI.2.1.get _ _ (hfd hL) hL))
  (λi w lc h' G hI=>by
   refine cQ (hI) λJ K hlc=>?_;obtain⟨z,w0,sz,P',iz,ez,ew,A⟩:∃(z:Vc) (w0:V) (sz:Nat) (P':Nat->Prop),IsV P' h' w0 z/\([y,x].take (i+1)).foldl (fb sn t) F=fb sn t (([y,x].take i).foldl (fb sn t) F) z/\w=.tup [w0,.int sz]/\sz=z.items.length:=by
    have hi:i<2:=by have:=(SV.mp G).1;simpa using this
    rcases(show i=0\/i=1 from Dt hi)with rfl|rfl
    ·cases G;exact vt y v _ Q ⟨hv.keep (J.K.mono λm hm Z=>hm),rfl,rfl,rfl⟩
    ·cases G;exact vt x u _ P ⟨hu.keep (J.K.mono λm hm Z=>hm),rfl,rfl,rfl⟩
   subst ew;rw[ez];rcases hlc with⟨_,rfl⟩|⟨p,q,r,rfl⟩|⟨p,q,r,s,rfl⟩
   ·refine bM (rM (j:=j) (b:=h0.length) (u:=u) (v:=v) (n:=.int x.items.length) (m:=.int y.items.length) (t:=t) (lc:=ja u v (.int x.items.length) (.int y.items.length) shape (.int t) (.bool true) (.ref fd)) J iz hs A Y (.inl λZ Z Z=>rfl)) λg L S o U k2=>bJ .next g L ⟨by show aJ (Tj wf (j+1)) 23 "_law_attrs" h0.length [2] _ (E7 _ _ _ _ _ _ _ _) _ h'=_;unfold E7;rw[uR];exact S,.inl rfl,U,K.trans k2,.inr o⟩
   ·refine bM (rM (j:=j) (b:=h0.length) (u:=u) (v:=v) (n:=.int x.items.length) (m:=.int y.items.length) (t:=t) (lc:=ja u v (.int x.items.length) (.int y.items.length) shape (.int t) (.bool true) (.ref fd)) J iz hs A Y (.inl λZ Z Z=>rfl)) λg L S o U k2=>bJ .next g L ⟨by show aJ (Tj wf (j+1)) 23 "_law_attrs" h0.length [2] _ (ja _ _ _ _ _ _ _ _ _ _ _) _ h'=_;unfold ja;rw[uS];exact S,.inl rfl,U,K.trans k2,.inr o⟩
   ·refine bM (rM (j:=j) (b:=h0.length) (u:=u) (v:=v) (n:=.int x.items.length) (m:=.int y.items.length) (t:=t) (lc:=λa b c=>jb u v (.int x.items.length) (.int y.items.length) shape (.int t) (.bool true) (.ref fd) a b c s) J iz hs A Y (.inr ⟨s,λZ Z Z=>rfl⟩)) λg L S o U k2=>?_
    exact bJ .next g L ⟨by show aJ (Tj wf (j+1)) 23 "_law_attrs" h0.length [2] _ (jb _ _ _ _ _ _ _ _ _ _ _ _) _ h'=_;unfold jb;rw[uU];exact S,.inl rfl,U,K.trans k2,.inr o⟩)
  wf 0 (E7 u v (.int x.items.length) (.int y.items.length) shape (.int t) (.bool true) (.ref fd)) h o1 (by simp;exact HP Y) ⟨a,Keep.refl,.inl ⟨rfl,rfl⟩⟩
 unfold E7 at e;refine X ?_;rw[aa ((cC (by kernel_rfl)).trans e)];refine aB λgP X=>?_;rcases i3 with⟨q,_⟩|⟨p,q,r,rfl⟩|⟨p,q,r,s,rfl⟩
 ·simp at q
 ·refine X ?_
  rw[fv];unfold ja;rw[uX];exact⟨h',rfl,i1⟩
 ·refine X ?_
  rw[fv];unfold jb;rw[uY];exact⟨h',rfl,i1⟩
theorem Ah {wf j t:Nat}{Q:Nat->Prop}{x y:Vc}{shape:V}{q:DR}(hu:IsV P h u x)(hv:IsV Q h v y)(o:zh h q shape)(hw:40<wf):
  ∃d D h',T ai wf 24 (j+2) "_law_attrs" [u,v,.int x.items.length,.int y.items.length,shape,.int t,.bool true] h=.ok (.ref d) h'/\IsS zg h' d (tM q.sn t (Dc q) x y) D/\Gr h h':=by
 refine bO (T ai wf 24 (j+2) "_law_attrs" [u,v,.int x.items.length,.int y.items.length,shape,.int t,.bool true] h) λgQ S=>?_;rw[aK (by kernel_rfl) (by kernel_rfl),zZ];refine az ((aH _ _)) ?_;have g:Gr h (h++ [O.dict []]):=Keep.app _;have G:SM h.length h (h++ [O.dict []]) jK:=⟨Keep.app _,⟨[],trivial,ay _ _,Dk.nil,λx=>rfl⟩,U9 _⟩;generalize h++ [O.dict []]=X at*;have c:∀(sn:Bool) (F:aO) (z:List O),SM h.length h z F->cmp .Is shape .none=mr sn-> ∃d D h',(mq (aC (.list [(.tup [v,.int y.items.length]),(.tup [u,.int x.items.length])])) λr4=>mq (bY r4) λJ=>mq (bF (Tj wf (j+1)) 23 "_law_attrs" h.length [2] J [("u",u),("v",v),("n",.int x.items.length),("m",.int y.items.length),("shape",shape),("total",.int t),("extra",.bool true),("found",.ref h.length)]) λW=>cm (Tj wf (j+1)) 24 (aw "_law_attrs" (aq "_law_attrs") h.length) (aG "_law_attrs" [3]) cb W.1 W.2) z=.ok (.ref d) h'/\IsS zg h' d (tM sn t F x y) D/\Gr h h':=λsn F z L hs=>by
  rw[aa (aH _ _)];refine ac (Ke (j:=j) (t:=t) (L.gr (Keep.app [O.list [(.tup [v,.int y.items.length]),(.tup [u,.int x.items.length])]])) hu hv hs (ay z _) hw) λY e3 U=>am (U.isS) λD hD=>bJ _ D Y ⟨e3,hD,U.K.mono λm hm Z=>hm⟩
 induction q using Vu with
 |dim ds=>
  refine ac (o) λr A lr=>?_;subst A;refine bC (fV ..)<|yF<|aP (G.put (key:= "dim") (q:=("integer",bH ds)) (by decide) (g.get _ _ trivial lr)) λz e2 L Z=>az e2<|S _<|c false _ z L (mS r)
 |no=>
  obtain rfl:=o;refine bC dU<|qQ<|S _<|c true _ X G cu
 |bad msg=>
  obtain rfl:=o;refine bC dU<|qQ<|S _<|c true _ X G cu
theorem Hh(q:DR)(t:Nat)(x y:Vc):tM q.sn t (Dc q) x y=hj q t x y:=by
 funext k
 have step:∀(sn:Bool) (F:aO) (z:Vc),fb sn t F z k=if(z.att k).isSome=true/\z.items.length=t/\eh sn k=true then z.att k else F k:=λZ Z Z=>rfl;have A:∀(F:aO) (z:Vc),fz t F z k=if z.items.length=t/\(z.att k).isSome=true/\k≠ "names"/\k≠ "dim" then z.att k else F k:=λF z=>by
  unfold fz;by_cases h:z.items.length=t
  ·rw[Vo h]
   unfold wk;by_cases L:(z.att k).isSome=true/\k≠ "names"/\k≠ "dim"
   ·rw[Vo L,Vo ⟨h,L⟩]
   ·rw[Vn L,Vn (λq=>L q.2)]
  ·rw[Vn h,Vn (λq=>h q.1)]
 have c:∀(F:aO) (z:Vc),c9 t F z k=if z.items.length=t/\k= "names"/\(z.att k).isSome=true then z.att k else F k:=λF z=>by
  unfold c9;by_cases h:z.items.length=t
  ·rw[Vo h]
   by_cases S:k= "names"
   ·subst S
    induction hz:z.att "names" using Vp with
    |none=>rw[Vn (λq=>by cases q.2.2)]
    |some p=>
     rw[Vo ⟨h,rfl,rfl⟩]
     show(if("names":Str)= "names" then some p else _)=_
     rw[Vo rfl]
   ·rw[Vn (λq=>S q.2.1)]
    induction z.att "names" using Vp with
    |none=>rfl
    |some p=>exact Vn S
  ·rw[Vn h,Vn (λq=>h q.1)]
 unfold tM hj;rw[step,step,A,A];by_cases hd:k= "dim"
 ·have X:∀sn,eh sn k=false:=λsn=>by unfold eh;rw[UD hd];rfl
  rw[Vn (λq=>by rw[X]at q;cases q.2.2),Vn (λq=>by rw[X]at q;cases q.2.2),Vn (λq=>q.2.2.2 hd),Vn (λq=>q.2.2.2 hd)];have nn:k≠ "names":=λe=>by rw[hd]at e;exact absurd e (by decide)
  induction q using Vu with
  |dim ds=>rfl
  |no=>unfold tL;dsimp only;rw[c,c,Vn (λq=>nn q.2.1),Vn (λq=>nn q.2.1)];rfl
  |bad m=>unfold tL;dsimp only;rw[c,c,Vn (λq=>nn q.2.1),Vn (λq=>nn q.2.1)];rfl
 by_cases G:k= "names"
 ·have Y:∀sn,eh sn k=sn:=λsn=>by unfold eh;rw[Uv hd,UD G];rfl
  have W:∀z:Vc,¬(z.items.length=t/\(z.att k).isSome=true/\k≠ "names"/\k≠ "dim"):=λz q=>q.2.2.1 G;rw[Vn (W x),Vn (W y),Y];have J:∀(b:Bool) (F:aO),b=true->(if(x.att k).isSome=true/\x.items.length=t/\b=true then x.att k else if(y.att k).isSome=true/\y.items.length=t/\b=true then y.att k else F k)=c9 t (c9 t F y) x k:=λb F U=>by
   rw[c,c];by_cases o:(x.att k).isSome=true/\x.items.length=t
   ·rw[Vo ⟨o.1,o.2,U⟩,Vo ⟨o.2,G,o.1⟩]
   ·refine(Vn (λq=>o ⟨q.1,q.2.1⟩)).trans (Eq.trans ?_ (Vn (λq=>o ⟨q.2.2,q.1⟩)).symm)
    by_cases g:(y.att k).isSome=true/\y.items.length=t
    ·rw[Vo ⟨g.1,g.2,U⟩,Vo ⟨g.2,G,g.1⟩]
    ·exact(Vn (λq=>g ⟨q.1,q.2.1⟩)).trans (Vn (λq=>g ⟨q.2.2,q.1⟩)).symm
  induction q using Vu with
  |dim ds=>
   rw[Vn (λq=>nomatch (show false=true from q.2.2)),Vn (λq=>nomatch (show false=true from q.2.2))];rfl
  |no=>exact J _ _ rfl
  |bad m=>exact J _ _ rfl
 ·have tt:∀sn,eh sn k=true:=λsn=>by unfold eh;rw[Uv hd,Uv G];rfl
  have base:Dc q k=tL q t x y k:=by
   induction q using Vu with
   |dim ds=>rfl
   |no=>unfold tL;dsimp only;rw[c,c,Vn (λq=>G q.2.1),Vn (λq=>G q.2.1)];rfl
   |bad m=>unfold tL;dsimp only;rw[c,c,Vn (λq=>G q.2.1),Vn (λq=>G q.2.1)];rfl
  by_cases o:(x.att k).isSome=true/\x.items.length=t
  ·rw[Vo ⟨o.1,o.2,tt _⟩,Vo ⟨o.2,o.1,G,hd⟩]
  ·refine(Vn (λq=>o ⟨q.1,q.2.1⟩)).trans (Eq.trans ?_ (Vn (λq=>o ⟨q.2.1,q.1⟩)).symm)
   by_cases g:(y.att k).isSome=true/\y.items.length=t
   ·rw[Vo ⟨g.1,g.2,tt _⟩,Vo ⟨g.2,g.1,G,hd⟩]
   ·exact(Vn (λq=>g ⟨q.1,q.2.1⟩)).trans (base.trans (Vn (λq=>g ⟨q.2.1,q.1⟩)).symm)
noncomputable def cD(e:Expr):Expr:=by
 have d:=e;induction e using Expr.casesOn with
 |Lambda _ b=>exact b
 |_=>exact d
noncomputable def aR(e:Expr):Scope:=by
 induction e using Expr.casesOn with
 |Lambda _ _ sc=>exact sc
 |_=>exact default
noncomputable def xl(e:Expr):Bool:=by
 induction e using Expr.casesOn with
 |Lambda=>exact true
 |_=>exact false
abbrev fx:Expr:=aX (bG (aG "law" [9])) [0]
abbrev gh:Expr:=aX (bG (aG "law" [23,0,0,0,0])) [0,0]
abbrev gj:Expr:=aX (bG (aG "law" [24])) [0,0]
noncomputable def kA(r:R V):R V:=match r with
 |.ok v h'=>.ok v h'
 |.exc m h'=>.ok m h'
 |.bad=>.bad
def E9(C:Tb)(n:Nat):M V:=BU (Ic C 22) (.ref n)
noncomputable abbrev Il (m:M V) (l:Loc):M (Fl×Loc):=xI m l
theorem NP(C:Tb)(n b:Nat)(h:List O):Bd C "_law_kept" [.ref n] b h=mq (Il (E9 C n) [("ask",.ref n)]) (λp=>cm C 24 (aw "_law_kept" (aq "_law_kept") b) [] cb p.1 p.2) h:=by kernel_rfl
theorem zi {e:Expr}{c:List (Str×Nat)}(q:h[n]?=some (.clo (cD e) (aR e) c))(g:jD (aR e)=true):
  T ai wf 24 (j+1) "_law_kept" [.ref n] h=kA ((kK ai wf (T ai wf 24 j) 22).ev ⟨Str.empty,aR e,c⟩ [] (cD e) mr h):=by
 rw[aK (by kernel_rfl) (by kernel_rfl),NP];have o:E9 (Tj wf j) n h=(kK ai wf (T ai wf 24 j) 22).ev ⟨Str.empty,aR e,c⟩ [] (cD e) mr h:=by
  show(clo h[n]?).elim _ _=_
  rw[q]
  show(if jD (aR e)=true then _ else _)=_
  rw[Vo g,(nP ai wf (T ai wf 24 j) 22).ev,mB]
 unfold mq Il xI;rw[o];generalize (kK ai wf (T ai wf 24 j) 22).ev ⟨Str.empty,aR e,c⟩ [] (cD e) mr h=r;cases r<;>rfl
theorem zj(e:Expr)(c:Cx)(g:xl e=true)(h0:h[0]?=some .tab):xc e c h=.ok (.ref h.length) (h++ [.clo (cD e) (aR e) (cq c (aR e))]):=by
 induction e using Vq with
 |Lambda=>
  show(bif BS h[0]? then _ else _)=_
  rw[h0];rfl
 |_=>exact ff g
theorem Kf(wf:Nat)(C:Str->List V->M V)(b:Nat)(h:List O):(kK ai wf C 22).ev ⟨Str.empty,aR fx,cq (aw "law" (aq "law") b) (aR fx)⟩ [] (cD fx) mr h=(mq (aZ (b+3)) λop=>mq (aZ (b+5)) λu=>mq (aZ (b+6)) λv=>mq (aZ (b+2)) λn=>mq (C "arith" [op,u,v,n]) mr) h:=by kernel_rfl
theorem Kg(wf:Nat)(C:Str->List V->M V)(b:Nat)(h:List O):(kK ai wf C 22).ev ⟨Str.empty,aR gh,cq (aw "law" (aq "law") b) (aR gh)⟩ [] (cD gh) mr h=(mq (aZ (b+4)) λs=>mq (aC (.list [])) λl=>mq (C "negate" [s,l]) mr) h:=by kernel_rfl
theorem Kh(wf:Nat)(C:Str->List V->M V)(b:Nat)(h:List O):(kK ai wf C 22).ev ⟨Str.empty,aR gj,cq (aw "law" (aq "law") b) (aR gj)⟩ [] (cD gj) mr h=(mq (aC (.list [.str "1"])) λl=>mq (C "Vector" [.str "character",l]) λv=>mq (aC (.list [])) λc=>mq (C "negate" [v,c]) mr) h:=by kernel_rfl
theorem Ki:jD (aR fx)=true:=by kernel_rfl
theorem Kj:jD (aR gh)=true:=by kernel_rfl
theorem Kk:jD (aR gj)=true:=by kernel_rfl
theorem Kl:xl fx=true:=by kernel_rfl
theorem Km:xl gh=true:=by kernel_rfl
theorem Kn:xl gj=true:=by kernel_rfl
structure LL where
 sc:V
 kind:V
 held:V
 told:V
 left:V
 right:V
 due:V
 refused:V
 shape:V
 total:V
 items:V
noncomputable def LL.l12(x:LL)(over:V):Loc:= [("script",x.sc),("kind",x.kind),("held",x.held),("told",x.told),("left",x.left),("right",x.right),("due",x.due),("refused",x.refused),("shape",x.shape),("total",x.total),("items",x.items),("over",over)]
noncomputable def LL.l15(x:LL)(over s a b:V):Loc:= [("script",x.sc),("kind",x.kind),("held",x.held),("told",x.told),("left",x.left),("right",x.right),("due",x.due),("refused",x.refused),("shape",x.shape),("total",x.total),("items",x.items),("over",over),("spot",s),("a",a),("b",b)]
theorem Im(C:Tb)(b:Nat)(w:V)(x:LL)(over:V)(k:Fl->Loc->M (Fl×Loc))(h:List O):aJ C 23 "law" b [19] w (x.l12 over) k h=fR C b w x.sc x.kind x.held x.told x.left x.right x.due x.refused x.shape x.total x.items over k h:=GS C b w _ _ _ _ _ _ _ _ _ _ _ _ k h
theorem Io(C:Tb)(b:Nat)(w:V)(x:LL)(over s p q:V)(k:Fl->Loc->M (Fl×Loc))(h:List O):aJ C 23 "law" b [19] w (x.l15 over s p q) k h=fR C b w x.sc x.kind x.held x.told x.left x.right x.due x.refused x.shape x.total x.items over k h:=GT C b w _ _ _ _ _ _ _ _ _ _ _ _ _ _ _ k h
theorem zk {wf j b Lf Rt It i:Nat}{o:Op}{l r:List (Option Int)}{ov:Bool}{x:LL}(hk:x.kind=.str "integer")(F:x.left=.ref Lf)(A:x.right=.ref Rt)(S:x.items=.ref It)
  (c:h[b+3]?=some (.cell (some (.str o.s))))(hL:h[Lf]?=some (.list (l.map vi)))(hR:h[Rt]?=some (.list (r.map vi)))(U:h[It]?=some (.list acc))(ha:acc.length<=9)
  (l0:0<l.length)(Z:0<r.length)(hl:l.length<=9)(hr:r.length<=9)(gl:∀q∈l,fF q)(gr:∀q∈r,fF q)(ho:o.whole=true):
  ∃p q h',fR (Tj wf (j+1)) b (.int i) x.sc x.kind x.held x.told x.left x.right x.due x.refused x.shape x.total x.items (.bool ov) (λfl l=>mr (fl,l)) h=.ok (.next,x.l15 (.bool (ov||vj o l r i)) (.int i) p q) h'/\Keep (λm=>m≠It) h h'/\h'[It]?=some (.list (acc++ [vi (eb o l r i)])):=by
 obtain⟨sc,kind,held,told,left,Y,due,L,shape,W,items⟩:=x;dsimp only at hk F A S ⊢;subst hk F A S;unfold fR;rw[aa (dx hL (by simp;exact vu hl)),Uo,ic l0,ae,aa (ie (d:=none) hL l0 (o2 hl)),aa (dx hR (by simp;exact vu hr)),Uo,ic Z,ae,aa (ie (d:=none) hR Z (o2 hr))];unfold iq;rw[aa (cP U (by decide)),aY,ae,UD rfl,Vj,aa (aE c)];refine am (wV (wf:=wf) (j:=j) (h:=h) ho (gl _ (eE (d:=none) (Vb i l0))) (gr _ (eE (d:=none) (Vb i Z)))) λt et=>?_;rw[aa et];have g:Gr h (h++t):=Keep.app t;have z:=g.get _ _ trivial U;have G:=g.get _ _ trivial c;generalize h++t=X at*;dsimp only;rw[aa (dh z (TT ha (by decide)))];have nI:It≠b+3:=λe=>by rw[e,c]at U;cases U
 have K2:Keep (λm=>m≠It) h (X.set It (.list (acc++ [vi (gJ o (l.getD (i%l.length) none) (r.getD (i%r.length) none))]))):=g.keep.trans (Keep.set (by simp));have J:=bg (o:=.list (acc++ [vi (gJ o (l.getD (i%l.length) none) (r.getD (i%r.length) none))])) z;have y:(X.set It (.list (acc++ [vi (gJ o (l.getD (i%l.length) none) (r.getD (i%r.length) none))])))[b+3]?=some (.cell (some (.str o.s))):=by rw[Tr nI];exact G
 generalize X.set It (.list (acc++ [vi (gJ o (l.getD (i%l.length) none) (r.getD (i%r.length) none))]))=h2 at*;refine bJ (vi (l.getD (i%l.length) none)) (vi (r.getD (i%r.length) none)) h2 ⟨?_,K2,J⟩;have e1:vj o l r i=((gJ o (l.getD (i%l.length) none) (r.getD (i%r.length) none)).isNone&&o.three&&(l.getD (i%l.length) none).isSome&&(r.getD (i%r.length) none).isSome):=rfl;rw[e1];refine aQ (aW ..) ?_;induction ov using Vs with
 |true=>rfl
 |false=>
  rw[Ve,ae,aW,ae,Vj,aa (aE y),y9,ae,aW,ae,Bool.false_or];induction o.three using Vs with
  |false=>refine lh ?_;simp;rfl
  |true=>
   refine vS<|aN ((vU (v:=vi (gJ o (l.getD (i%l.length) none) (r.getD (i%r.length) none))) J (by simp) (by simp;exact TT (Uh ha) (by decide))))<|aQ (Ik ..)<|aQ (aW ..) ?_;induction (gJ o (l.getD (i%l.length) none) (r.getD (i%r.length) none)).isNone using Vs with
   |false=>rfl
   |true=>
    refine vS<|aQ (og ..)<|aQ (aW ..) ?_;induction (l.getD (i%l.length) none).isSome using Vs with
    |false=>rfl
    |true=>refine vS ?_;refine aQ (og ..) ?_;rfl
theorem zl {wf j b Lf Rt It i:Nat}{o:Op}{l r:List Q}{x:LL}(U:x.kind=.str "double")(z:x.left=.ref Lf)(y:x.right=.ref Rt)(F:x.items=.ref It)
  (S:h[b+3]?=some (.cell (some (.str o.s))))(X:h[Lf]?=some (.list (l.map vq)))(W:h[Rt]?=some (.list (r.map vq)))(hI:h[It]?=some (.list acc))(ha:acc.length<=9)
  (l0:0<l.length)(G:0<r.length)(Y:l.length<=9)(Z:r.length<=9)(gl:∀q∈l,c7 q)(gr:∀q∈r,c7 q)(pr:∀q∈r,Pw o q)(hw:2000<wf):
  ∃p q h',fR (Tj wf (j+4)) b (.int i) x.sc x.kind x.held x.told x.left x.right x.due x.refused x.shape x.total x.items (.bool false) (λfl l=>mr (fl,l)) h=.ok (.next,x.l15 (.bool false) (.int i) p q) h'/\Keep (λm=>m≠It) h h'/\h'[It]?=some (.list (acc++ [vq (tJ o l r i)])):=by
 obtain⟨sc,kind,held,told,left,L,due,A,shape,J,items⟩:=x;dsimp only at U z y F ⊢;subst U z y F;unfold fR;rw[aa (dx X (by simp;exact vu Y)),Uo,ic l0,ae,aa (ie (d:=none) X l0 (o2 Y)),aa (dx W (by simp;exact vu Z)),Uo,ic G,ae,aa (ie (d:=none) W G (o2 Z))];unfold iq;rw[aa (cP hI (by decide)),aY,ae,Uv (by decide),Ve,aa (aE S)];refine am (wX (j:=j) (h:=h) (o:=o) (gl _ (eE (d:=none) (Vb i l0))) (gr _ (eE (d:=none) (Vb i G))) (pr _ (eE (d:=none) (Vb i G))) hw) λt et=>?_;rw[aa et];have g:Gr h (h++t):=Keep.app t;have c:=g.get _ _ trivial hI;generalize h++t=h1 at*;dsimp only;rw[aa (dh c (TT ha (by decide)))];exact bJ (vq (l.getD (i%l.length) none)) (vq (r.getD (i%r.length) none)) _ ⟨rfl,g.keep.trans (Keep.set (by simp)),bg c⟩
theorem vm {wf j b Lf Rt It:Nat}{o:Op}{x y:Vc}{items:List V}{over:Bool}{X:LL}(A:Ans o x y (aL x.items.length y.items.length) k items over)(hx:x.items.length<=9)(hy:y.items.length<=9)
  (hp:∀r,DI y r-> ∀q∈r,Pw o q)(hk:X.kind=.str k)(hl':X.left=.ref Lf)(hr':X.right=.ref Rt)(hi':X.items=.ref It)
  (W:h[b+3]?=some (.cell (some (.str o.s))))(hL:h[Lf]?=some (.list (b7 k x)))(hR:h[Rt]?=some (.list (b7 k y)))(hI:h[It]?=some (.list []))(nL:Lf≠It)(nR:Rt≠It)(hw:2000<wf):
  ∃lc h',bF (Tj wf (j+4)) 23 "law" b [19] (.range (aL x.items.length y.items.length)) (X.l12 (.bool false)) h=.ok (.next,lc) h'/\(lc=X.l12 (.bool over)\/ ∃s p q,lc=X.l15 (.bool over) s p q)/\Keep (λm=>m≠It) h h'/\h'[It]?=some (.list items):=by
 refine bO (bF (Tj wf (j+4)) 23 "law" b [19] (.range (aL x.items.length y.items.length)) (X.l12 (.bool false)) h) λgQ gR=>?_;have ht:=mV hx hy;have g:=@zd x.items.length y.items.length;have n3:b+3≠It:=λe=>by rw[<-e,W]at hI;cases hI
 generalize aL x.items.length y.items.length=t at*;refine aB λgP gH=>?_;by_cases hD:lP o x y
 ·refine bW (A.dbl hD) λl r dl dr G S J=>?_;subst G;subst S;subst J
  rw[dl.eq]at hL;rw[dr.eq]at hR;obtain⟨lc,h',e,i1,i2,i3⟩:=bX (body:=λv l=>aJ (Tj wf (j+4)) 23 "law" b [19] v l λfl l=>mr (fl,l)) (it:=.range t) (rng t)
   (λi lc h'=>(lc=X.l12 (.bool false)\/ ∃s p q,lc=X.l15 (.bool false) s p q)/\Keep (λm=>m≠It) h h'/\h'[It]?=some (.list ((List.range i).map λi=>vq (tJ o l r i))))
   (λi lc h' Z=>cK t i h')
   (λi v lc h' hv c=>by
    refine af (gW hv) λhi F=>?_;subst F;refine cQ (c) λL K U=>af (g (HL hi)) λl0 r0=>?_;rw[<-dl.len]at l0;rw[<-dr.len]at r0;refine bw (zl (j:=j) (b:=b) (i:=i) hk hl' hr' hi' (K.get _ _ n3 W) (K.get _ _ nL hL) (K.get _ _ nR hR) U (by simp;exact Lc ht hi) l0 r0 (by rw[dl.len];exact hx) (by rw[dr.len];exact hy) dl.good dr.good (hp r dr) hw) λp q h2 Y K2 I2=>bJ .next _ h2 ⟨?_,.inl rfl,.inr ⟨.int i,p,q,rfl⟩,K.trans K2,by rw[I2,Ut,Uq];rfl⟩;rcases L with rfl|⟨s,p',q',rfl⟩
    ·exact(Im _ _ _ _ _ _ _).trans Y
    ·exact(Io _ _ _ _ _ _ _ _ _ _).trans Y)
   wf 0 (X.l12 (.bool false)) h o1 (by simp;exact LV hw ht) ⟨.inl rfl,Keep.refl,hI⟩
  rw[iY]at i3;refine gH<|gR _<|aU lc h' ⟨(cC (by kernel_rfl)).trans e,i1,i2,i3⟩
 ·refine bW (A.int hD) λl r il ir G S J=>?_;subst G;subst S;subst J
  have ei:∀z:Vc,b7 "integer" z=z.items:=λz=>Vn (λq=>absurd q.1 (by decide));rw[ei,il.eq]at hL;rw[ei,ir.eq]at hR;have ho:o.whole=true:=by
   induction hq:o.whole using Vs with
   |true=>rfl
   |false=>exact absurd (.inr (.inr hq)) hD
  obtain⟨lc,h',e,i1,i2,i3⟩:=bX (body:=λv l=>aJ (Tj wf (j+4)) 23 "law" b [19] v l λfl l=>mr (fl,l)) (it:=.range t) (rng t)
   (λi lc h'=>(lc=X.l12 (.bool (lM o l r i))\/ ∃s p q,lc=X.l15 (.bool (lM o l r i)) s p q)/\Keep (λm=>m≠It) h h'/\h'[It]?=some (.list ((List.range i).map λi=>vi (eb o l r i))))
   (λi lc h' Z=>cK t i h')
   (λi v lc h' hv c=>by
    refine af (gW hv) λhi F=>?_;subst F;refine cQ (c) λL K U=>af (g (HL hi)) λl0 r0=>?_;rw[<-il.len]at l0;rw[<-ir.len]at r0;refine bw (zk (wf:=wf) (j:=j+3) (b:=b) (i:=i) (ov:=lM o l r i) hk hl' hr' hi' (K.get _ _ n3 W) (K.get _ _ nL hL) (K.get _ _ nR hR) U (by simp;exact Lc ht hi) l0 r0 (by rw[il.len];exact hx) (by rw[ir.len];exact hy) il.sm ir.sm ho) λp q h2 Y K2 I2=>?_;rw[<-y8]at Y;refine bJ .next _ h2 ⟨?_,.inl rfl,.inr ⟨.int i,p,q,rfl⟩,K.trans K2,by rw[I2,Ut,Uq];rfl⟩;rcases L with rfl|⟨s,p',q',rfl⟩
    ·exact(Im _ _ _ _ _ _ _).trans Y
    ·exact(Io _ _ _ _ _ _ _ _ _ _).trans Y)
   wf 0 (X.l12 (.bool false)) h o1 (by simp;exact LV hw ht) ⟨.inl rfl,Keep.refl,hI⟩
  rw[iY]at i1 i3;refine gH<|gR _<|aU lc h' ⟨(cC (by kernel_rfl)).trans e,i1,i2,i3⟩
def rN {β:Type}(C:Tb)(b:Nat)(bad2:V->V->V->M β)(next2:V->V->V->M β)(x5:V):M β:=mq (fL (b+1) x5) λZ=>mq (aZ (b+4)) λJ=>mq (aC (.list [])) λr7=>mq (C.f "negate" [J,r7]) λG=>mq (aZ (b+4)) λF=>mq (aC (.list [])) λr10=>mq (C.f "plus" [F,r10]) λc=>mq (aZ (b+4)) λx=>mq (aM x "items") λr13=>mq (bY r13) λL=>mq (cF C.wf (Ic C 22) (aw "law" (aq "law") b) (aX (bG (aG "law" [23,0,4])) []) L) λS=>mq (aC (.list S)) λg=>mq (aM G "kind") λr27=>mq (aM c "kind") λU=>mq (aM G "items") λX=>mq (aM c "items") λr30=>mq (aC (.list [r27,U,X,r30])) λr31=>mq (aZ (b+1)) λz=>mq (aZ (b+1)) λq=>mq (aZ (b+4)) λo=>mq (aM o "items") λW=>mq (builtin "list" [W]) λr36=>mq (aC (.list [z,q,g,r36])) λr37=>mq (cmp .NotEq r31 r37) λY=>bif Y then(bad2 G c g)else
 (mq (C.f "_law_seen" [G]) λr23=>mq (aZ (b+4)) λy=>mq (C.f "_law_seen" [y]) λr25=>mq (cmp .NotEq r23 r25) λr26=>bif r26 then(bad2 G c g)else(mq (C.f "_law_seen" [c]) λr19=>mq (aZ (b+4)) λA=>mq (C.f "_law_seen" [A]) λr21=>mq (cmp .NotEq r19 r21) λr22=>bif r22 then(bad2 G c g)else(next2 G c g)))
def tN {β:Type}(C:Tb)(b:Nat)(w:V)(bad1 cont1:M β)(bad2 next2:V->V->V->M β):M β:=mq (fL (b+4) w) λZ=>mq (aZ (b+4)) λg=>mq (aM g "kind") λq=>mq (cmp .Eq q (.str "NULL")) λx=>bif x then(mq (xc gh (aw "law" (aq "law") b)) λo=>mq (C.f "_law_kept" [o]) λA=>mq (cmp .NotEq A (.str "invalid argument to unary operator")) λF=>bif F then bad1 else cont1)else
 (mq (aZ (b+4)) λc=>mq (aM c "kind") λy=>mq (cmp .Eq y (.str "double")) λz=>bif z then(rN C b bad2 next2 (.str "double"))else(rN C b bad2 next2 (.str "integer")))
noncomputable def LL.y12(x:LL)(over a b c:V):Loc:= [("script",x.sc),("kind",x.kind),("held",x.held),("told",x.told),("left",x.left),("right",x.right),("due",x.due),("refused",x.refused),("shape",x.shape),("total",x.total),("items",x.items),("over",over),("low",a),("high",b),("minus",c)]
noncomputable def LL.y15(x:LL)(over s p q a b c:V):Loc:= [("script",x.sc),("kind",x.kind),("held",x.held),("told",x.told),("left",x.left),("right",x.right),("due",x.due),("refused",x.refused),("shape",x.shape),("total",x.total),("items",x.items),("over",over),("spot",s),("a",p),("b",q),("low",a),("high",b),("minus",c)]
theorem OY {β:Type}(C:Tb)(b:Nat)(w:V)(x:LL)(over:V)(k:Fl->Loc->M β)(h:List O):aJ C 23 "law" b [23] w (x.l12 over) k h=tN C b w (k (.ret (.bool false)) (x.l12 over)) (k .cont (x.l12 over)) (λa b c=>k (.ret (.bool false)) (x.y12 over a b c)) (λa b c=>k .next (x.y12 over a b c)) h:=by kernel_rfl
theorem OZ {β:Type}(C:Tb)(b:Nat)(w:V)(x:LL)(over o g q:V)(k:Fl->Loc->M β)(h:List O):aJ C 23 "law" b [23] w (x.y12 over o g q) k h=tN C b w (k (.ret (.bool false)) (x.y12 over o g q)) (k .cont (x.y12 over o g q)) (λa b c=>k (.ret (.bool false)) (x.y12 over a b c)) (λa b c=>k .next (x.y12 over a b c)) h:=by kernel_rfl
theorem O0 {β:Type}(C:Tb)(b:Nat)(w:V)(x:LL)(over s p q:V)(k:Fl->Loc->M β)(h:List O):aJ C 23 "law" b [23] w (x.l15 over s p q) k h=tN C b w (k (.ret (.bool false)) (x.l15 over s p q)) (k .cont (x.l15 over s p q)) (λa b c=>k (.ret (.bool false)) (x.y15 over s p q a b c)) (λa b c=>k .next (x.y15 over s p q a b c)) h:=by kernel_rfl
theorem O1 {β:Type}(C:Tb)(b:Nat)(w:V)(x:LL)(over s p q o g y:V)(k:Fl->Loc->M β)(h:List O):aJ C 23 "law" b [23] w (x.y15 over s p q o g y) k h=tN C b w (k (.ret (.bool false)) (x.y15 over s p q o g y)) (k .cont (x.y15 over s p q o g y)) (λa b c=>k (.ret (.bool false)) (x.y15 over s p q a b c)) (λa b c=>k .next (x.y15 over s p q a b c)) h:=by kernel_rfl
theorem Ip(q:Q):Dv (vq q):=by rcases q with _|⟨a,b⟩<;>first|exact .none|exact .pair a b
theorem Dd(o:Option Int):Dv (vi o):=by cases o<;>first|exact .none|exact .int _
theorem Kd.dv(h:Kd k l):∀v∈l,Dv v:=by
 cases h with
 |null=>intro v c;cases c
 |logical l _=>intro v c;obtain⟨o,_,rfl⟩:=UV.mp c;exact Dd o
 |integer l _=>intro v c;obtain⟨o,_,rfl⟩:=UV.mp c;exact Dd o
 |double l _=>intro v c;obtain⟨o,_,rfl⟩:=UV.mp c;exact Ip o
 |character l=>intro v c;obtain⟨o,_,rfl⟩:=UV.mp c;exact .str o
theorem Ko(h:Dv v):Dv (kz v):=by cases h<;>first|exact .none|exact .int _|exact .str _|exact .pair _ _
theorem jL {x y:V}{q:Bool}(g:f x y=some p)(c:gE f xs ys=some q):gE f (x::xs) (y::ys)=some (p&&q):=jo g c
noncomputable def cp(z:Vc):Str:=if z.kind= "double" then "double" else "integer"
theorem De {z:Vc}(y:Wf z)(G:dE z.kind)(g:h[b+1]?=some (.cell (some (.str (cp z)))))(x:w∈z.items):
  bS C 22 (aw "law" (aq "law") b) (aX (bG (aG "law" [23,0,4])) []) w mr h=.ok (some (kz w)) h:=by
 rw[JQ];unfold Bl;unfold cp at g;by_cases hd:z.kind= "double"
 ·rw[Vo hd]at g
  have kd:=y.kd;rw[hd]at kd;generalize A:z.items=its at kd x;cases kd with
  |double l hg=>
   refine ac (UV.mp x) λq Z o=>?_;subst o;rcases q with _|⟨a,c⟩
   ·rfl
   ·show mq (cmp .Is (.tup [.int a,.int c]) .none) _ h=_
    refine aQ (jg ..)<|lh ?_;dsimp only;refine aN ((aE g))<|aQ (aY ..)<|oA (UD rfl) ?_;rw[show vq (some (a,c))=.tup [.int a,.int c] from rfl];refine aQ (bz ..)<|aQ (show nz (.int a)=mr (.int (-a)) from rfl) ?_;rw[bL];rfl
 ·rw[Vn hd]at g
  refine am (y.ii G hd) λl F=>?_;rcases F.plain w x with rfl|⟨i,rfl⟩
  ·rfl
  ·refine aQ (qR ..)<|lh ?_
   dsimp only;refine aN ((aE g))<|aQ (aY ..)<|mM (Uv (by decide)) ?_;rfl
structure SideOk (lo B:Nat) (h:List O) (w:V) (z:Vc):Prop where
 isv:IsV (λm=>lo<=m/\m<B) h w z
 wf:Wf z
 num:dE z.kind
noncomputable def Df(b:Nat)(h:List O):Prop:=(∃c,h[b+1]?=some (.cell c))/\ ∃c,h[b+4]?=some (.cell c)
def bf {β:Type}(m cont1:M β)(next2:V->V->V->M β)(b:Nat)(h:List O):Prop:=
 (∃h',m h=cont1 h'/\Keep (λn=>n≠b+1/\n≠b+4) h h'/\Df b h')\/ ∃r s t h',m h=next2 r s t h'/\Keep (λn=>n≠b+1/\n≠b+4) h h'/\Df b h'
theorem bf.pre {β:Type}{m m' cont1:M β}{next2:V->V->V->M β}(e:m h=m' h')(k:Keep (λn=>n≠b+1/\n≠b+4) h h')(d:bf m' cont1 next2 b h'):bf m cont1 next2 b h:=by
 refine aB λq o=>?_;rcases d with⟨c,g,k2,cc⟩|⟨r,s,t,c,g,k2,cc⟩
 ·refine o<|.inl ⟨c,e.trans g,k.trans k2,cc⟩
 ·refine o<|.inr ⟨r,s,t,c,e.trans g,k.trans k2,cc⟩
theorem Ai {β:Type}{lo:Nat}{z:Vc}{bad2 next2:V->V->V->M β}{cont1:M β}(s:SideOk lo B h w z)(hB:B<=h.length)(hlo:lo<=B)(hbl:b+6<lo)(hk:z.kind= "logical"\/z.kind= "integer"\/z.kind= "double")
  (F:∃c,h[b+1]?=some (.cell c))(h4:h[b+4]?=some (.cell (some w)))(hw:4200<wf):bf (rN (Tj wf (j+2)) b bad2 next2 (.str (cp z))) cont1 next2 b h:=by
 refine am (F) λc F=>?_;refine bf.pre (aa (fT F)) (Keep.set (by simp)) ?_;have c1:=bg (o:=.cell (some (.str (cp z)))) F;have c4:(h.set (b+1) (.cell (some (.str (cp z)))))[b+4]?=some (.cell (some w)):=by rw[Tr Rx];exact h4
 have iw:IsV (λm=>lo<=m/\m<B) (h.set (b+1) (.cell (some (.str (cp z))))) w z:=s.isv.keep (Keep.set (λh=>absurd (tt hbl h.1) (Nat.not_le_of_lt (TG (by decide:1<7) _))));have hB':B<=(h.set (b+1) (.cell (some (.str (cp z))))).length:=by simpa using hB
 generalize h.set (b+1) (.cell (some (.str (cp z))))=F at*;have nn:z.kind≠ "NULL":=λe=>by rcases hk with q|q|q<;>(rw[e]at q;exact absurd q (by decide))
 refine bf.pre (aa (aE c4)) Keep.refl ?_;have g2:Gr F (F++ [O.list []]):=Keep.app _;refine bf.pre (aa (aH _ _)) g2.keep ?_;have iw2:=iw.keep (g2.keep (P:=λm=>lo<=m/\m<B));have cc1:=g2.get _ _ trivial c1;have cc4:=g2.get _ _ trivial c4;have hB2:B<=(F++ [O.list []]).length:=by have:=g2.len;exact o5 hB' this
 generalize F++ [O.list []]=h2 at*;refine aB λX x=>aV (Hf (j:=j) (n:=.ref F.length) iw2 s.wf hB2 hlo hk hw) λs5 h3 e3 g3 il3=>x<|bf.pre (aa e3) g3.keep<|bf.pre (aa (aE (g3.get _ _ trivial cc4))) Keep.refl ?_;have g4:Gr h3 (h3++ [O.list []]):=Keep.app _;refine bf.pre (aa (aH _ _)) g4.keep ?_;have J:Gr h2 (h3++ [O.list []]):=g3.trans g4;have il4:=il3.keep (g4.keep (P:=λm=>lo<=m));have iw4:=iw2.keep (J.keep (P:=λm=>lo<=m/\m<B));have c14:=J.get _ _ trivial cc1;have c44:=J.get _ _ trivial cc4;have hB4:B<=(h3++ [O.list []]).length:=by have:=J.len;exact o5 hB2 this
 generalize h3++ [O.list []]=h4' at*;refine aB λX x=>aV (NN (j:=j) (n:=.ref h3.length) iw4 s.wf hB4 hlo hk hw) λhigh S e5 g5 ih5=>x<|bf.pre (aa e5) g5.keep ?_;have il5:=il4.keep (g5.keep (P:=λm=>lo<=m));have iw5:=iw4.keep (g5.keep (P:=λm=>lo<=m/\m<B));have c15:=g5.get _ _ trivial c14;have c45:=g5.get _ _ trivial c44;refine bf.pre (aa (aE c45)) Keep.refl<|aB λX x=>aP (iw5.items nn) λi5 Z xp li5=>x<|bf.pre (aa xp) Keep.refl<|bf.pre (aa (dg li5)) Keep.refl<|bf.pre (aa (kt (f:=kz) (by kernel_rfl) (by kernel_rfl) li5 (by have:=s.wf.len;show _<wf;exact Ll hw this) λv hv=>De s.wf s.num c15 hv)) Keep.refl ?_;have g6:Gr S (S++ [O.list (z.items.map kz)]):=Keep.app _;refine bf.pre (aa (aH _ _)) g6.keep ?_;have m6:=ay S (O.list (z.items.map kz));have U:=il5.keep (g6.keep (P:=λm=>lo<=m));have L:=ih5.keep (g6.keep (P:=λm=>lo<=m));have iw6:=iw5.keep (g6.keep (P:=λm=>lo<=m/\m<B));have c16:=g6.get _ _ trivial c15;have c46:=g6.get _ _ trivial c45;generalize S++ [O.list (z.items.map kz)]=h6 at*;have kn:(if z.kind= "double" then("double":Str)else "integer")≠ "NULL":=by split<;>decide
 refine aB λX x=>aP (U.items kn) λil Z eil lil=>aP (L.items kn) λih Z eih lih=>x<|bf.pre (aa U.kind) Keep.refl<|bf.pre (aa L.kind) Keep.refl<|bf.pre (aa eil) Keep.refl<|bf.pre (aa eih) Keep.refl ?_;have sk:(if z.kind= "double" then("double":Str)else "integer")=cp z:=rfl;rw[sk]at U L ⊢;have G:Gr h6 (h6++ [O.list [.str (cp z),.str (cp z),.ref il,.ref ih]]):=Keep.app _;refine bf.pre (aa (aH _ _)) G.keep ?_;have a7:=ay h6 (O.list [.str (cp z),.str (cp z),.ref il,.ref ih]);have il7:=U.keep (G.keep (P:=λm=>lo<=m));have ih7:=L.keep (G.keep (P:=λm=>lo<=m));have iw7:=iw6.keep (G.keep (P:=λm=>lo<=m/\m<B));have c17:=G.get _ _ trivial c16;have c47:=G.get _ _ trivial c46;have m7:=G.get _ _ trivial m6;have lil7:=G.get _ _ trivial lil;have lih7:=G.get _ _ trivial lih;generalize h6++ [O.list [.str (cp z),.str (cp z),.ref il,.ref ih]]=y at*;refine bf.pre (aa (aE c17)) Keep.refl<|bf.pre (aa (aE c17)) Keep.refl<|bf.pre (aa (aE c47)) Keep.refl<|aB λX x=>aP (iw7.items nn) λi7 Z HD li7=>x<|bf.pre (aa HD) Keep.refl ?_;have g8:Gr y (y++ [O.list z.items]):=Keep.app _;refine bf.pre (aa (hW li7 (lz iw7.len))) g8.keep ?_;have m8:=ay y (O.list z.items);have g9:Gr (y++ [O.list z.items]) (y++ [O.list z.items]++ [O.list [.str (cp z),.str (cp z),.ref S.length,.ref y.length]]):=Keep.app _;refine bf.pre (aa (aH _ _)) g9.keep ?_;have a9:=ay (y++ [O.list z.items]) (O.list [.str (cp z),.str (cp z),.ref S.length,.ref y.length]);have g:Gr y (y++ [O.list z.items]++ [O.list [.str (cp z),.str (cp z),.ref S.length,.ref y.length]]):=g8.trans g9;have il9:=il7.keep (g.keep (P:=λm=>lo<=m));have ih9:=ih7.keep (g.keep (P:=λm=>lo<=m));have iw9:=iw7.keep (g.keep (P:=λm=>lo<=m/\m<B));have c49:=g.get _ _ trivial c47;have m9:=g.get _ _ trivial m7;have b9:=g9.get _ _ trivial m8;have lil9:=g.get _ _ trivial lil7;have lih9:=g.get _ _ trivial lih7;have a79:=g.get _ _ trivial a7;generalize y++ [O.list z.items]++ [O.list [.str (cp z),.str (cp z),.ref S.length,.ref y.length]]=h9 at*;have dv:=s.wf.kd.dv;have ene:cmp .NotEq (.ref h6.length) (.ref (y++ [O.list z.items]).length) h9=.ok false h9:=by
  refine gc (r:=true) ?_;rw[jI a79 a9];have vs:eO h9 (.str (cp z)) (.str (cp z))=some true:=v8 (.str _);have v1:eO h9 (.ref il) (.ref S.length)=some true:=lC lil9 m9 λv hv=>by
   refine ac (UV.mp hv) λv' hv' gz2=>?_;subst gz2;refine Ko (dv v' hv')
  have v2:eO h9 (.ref ih) (.ref y.length)=some true:=lC lih9 b9 dv;rw[jL vs (jL vs (lA v1 v2))];rfl
 refine bf.pre (aa ene) Keep.refl ?_;rw[Ve];refine aB λX x=>bw (dX (j:=j+1) il9 (o4 hw)) λd1 D1 h10 e10 s10 W=>x<|bf.pre (aa e10) W.keep<|bf.pre (aa (aE (W.get _ _ trivial c49))) Keep.refl<|aB λX x=>bw (dX (j:=j+1) (iw9.keep (W.keep (P:=λm=>lo<=m/\m<B))) (o4 hw)) λd2 D2 h11 e11 s11 g11=>x<|bf.pre (aa e11) g11.keep ?_;have da:=s.wf.a.data;refine bf.pre (aa (vd (s10.keep g11.keep) s11 da)) Keep.refl ?_;rw[Ve];have g911:Gr h9 h11:=W.trans g11;refine aB λX x=>bw (dX (j:=j+1) (ih9.keep (g911.keep (P:=λm=>lo<=m))) (o4 hw)) λd3 D3 h12 e12 s12 gp=>x<|bf.pre (aa e12) gp.keep ?_;have A:Gr h9 h12:=g911.trans gp;refine bf.pre (aa (aE (A.get _ _ trivial c49))) Keep.refl<|aB λX x=>bw (dX (j:=j+1) (iw9.keep (A.keep (P:=λm=>lo<=m/\m<B))) (o4 hw)) λd4 D4 h13 e13 s13 g13=>x<|bf.pre (aa e13) g13.keep<|bf.pre (aa (vd (s12.keep g13.keep) s13 da)) Keep.refl ?_;rw[Ve];have Y:Gr y h13:=g.trans (A.trans g13);exact .inr ⟨s5,high,_,h13,rfl,Keep.refl,⟨_,Y.get _ _ trivial c17⟩,⟨_,Y.get _ _ trivial c47⟩⟩
theorem oh {β:Type}{lo:Nat}{z:Vc}{bad1 cont1:M β}{bad2 next2:V->V->V->M β}(s:SideOk lo B h w z)(hB:B<=h.length)(hlo:lo<=B)(y:b+6<lo)(h0:h[0]?=some .tab)
  (x:∃c,h[b+1]?=some (.cell c))(J:∃c,h[b+4]?=some (.cell c))(hw:4200<wf):bf (tN (Tj wf (j+3)) b w bad1 cont1 bad2 next2) cont1 next2 b h:=by
 refine am (J) λc4 J=>am (x) λc1 x=>?_;refine bf.pre (aa (fT J)) (Keep.set (by simp)) ?_;have t0:(h.set (b+4) (.cell (some w)))[0]?=some .tab:=by rw[Tr RP];exact h0
 have G:=bg (o:=.cell (some w)) J;have d1:(h.set (b+4) (.cell (some w)))[b+1]?=some (.cell c1):=by rw[Tr Qs];exact x
 have S:IsV (λm=>lo<=m/\m<B) (h.set (b+4) (.cell (some w))) w z:=s.isv.keep (Keep.set (λh=>absurd (tt y h.1) (Nat.not_le_of_lt (TG (by decide:4<7) _))));have Z:B<=(h.set (b+4) (.cell (some w))).length:=by simpa using hB
 generalize h.set (b+4) (.cell (some w))=x at*;refine bf.pre (aa (aE G)) Keep.refl<|bf.pre (aa S.kind) Keep.refl ?_;rw[aY,ae];by_cases W:z.kind= "NULL"
 ·rw[UD W,Vj]
  have U:Gr x (x++ [.clo (cD gh) (aR gh) (cq (aw "law" (aq "law") b) (aR gh))]):=Keep.app _;refine bf.pre (aa (zj gh _ Km t0)) U.keep ?_;have cl:=ay x (.clo (cD gh) (aR gh) (cq (aw "law" (aq "law") b) (aR gh)));have A:=U.get _ _ trivial G;have X:=S.keep (U.keep (P:=λm=>lo<=m/\m<B));generalize x++ [.clo (cD gh) (aR gh) (cq (aw "law" (aq "law") b) (aR gh))]=L at*;have Y:=zi (wf:=wf) (j:=j+2) cl Kj;rw[Kg]at Y;have F:Gr L (L++ [O.list []]):=Keep.app _;have ex:(mq (aZ (b+4)) λs=>mq (aC (.list [])) λl=>mq (T ai wf 24 (j+2) "negate" [s,l]) mr) L=.exc (.str "invalid argument to unary operator") (L++ [O.list []]):=by
   refine aN ((aE A))<|aN ((aH _ _))<|gZ (zf (j:=j) (X.keep F.keep) λq=>?_);rcases q with q|q|q<;>(rw[W]at q;exact absurd q (by decide))
  rw[ex]at Y;refine bf.pre (aa Y) F.keep ?_;rw[iJ,ae,UD rfl];exact .inl ⟨_,rfl,Keep.refl,⟨_,F.get _ _ trivial (U.get _ _ trivial d1)⟩,⟨_,F.get _ _ trivial A⟩⟩
 ·rw[Uv W,Ve]
  refine bf.pre (aa (aE G)) Keep.refl<|bf.pre (aa S.kind) Keep.refl ?_;rw[aY,ae];have g:=Ai (j:=j+1) (bad2:=bad2) (next2:=next2) (cont1:=cont1) ⟨S,s.wf,s.num⟩ Z hlo y (s.num.resolve_left W) ⟨_,d1⟩ G hw;unfold cp at g;by_cases hd:z.kind= "double"
  ·rw[Vo hd]at g
   rw[UD hd,Vj];exact g
  ·rw[Vn hd]at g
   rw[Uv hd,Ve];exact g
def mc(X:LL)(over:V)(lc:Loc):Prop:=lc=X.l12 over\/(∃a b c,lc=X.y12 over a b c)\/(∃s p q,lc=X.l15 over s p q)\/ ∃s p q a b c,lc=X.y15 over s p q a b c
theorem Hi {wf j b lo B:Nat}{z:Vc}{X:LL}(s:SideOk lo B h w z)(S:B<=h.length)(x:lo<=B)(g:b+6<lo)(h0:h[0]?=some .tab)
  (L:∃c,h[b+1]?=some (.cell c))(G:∃c,h[b+4]?=some (.cell c))(J:4200<wf)(U:mc X over lc):
  ∃A l' h',aJ (Tj wf (j+3)) 23 "law" b [23] w lc (λA l=>mr (A,l)) h=.ok (A,l') h'/\(A=.next\/A=.cont)/\mc X over l'/\Keep (λn=>n≠b+1/\n≠b+4) h h'/\Df b h':=by
 refine bO (aJ (Tj wf (j+3)) 23 "law" b [23] w lc (λA l=>mr (A,l)) h) λW y=>?_;rcases U with rfl|⟨a,F,c,rfl⟩|⟨o,p,q,rfl⟩|⟨o,p,q,a,F,c,rfl⟩
 ·rw[OY]
  rcases oh (j:=j) (bad1:=(mr (Fl.ret (.bool false),X.l12 over):M (Fl×Loc))) (cont1:=mr (Fl.cont,X.l12 over)) (bad2:=λa b c=>mr (Fl.ret (.bool false),X.y12 over a b c)) (next2:=λa b c=>mr (Fl.next,X.y12 over a b c)) s S x g h0 L G J with⟨h',e,k⟩|⟨r,t,u,h',e,k⟩
  ·refine y _<|bJ _ _ h' ⟨e,.inr rfl,.inl rfl,k⟩
  ·refine y _<|bJ _ _ h' ⟨e,.inl rfl,.inr (.inl ⟨_,_,_,rfl⟩),k⟩
 ·rw[OZ]
  rcases oh (j:=j) (bad1:=(mr (Fl.ret (.bool false),X.y12 over a F c):M (Fl×Loc))) (cont1:=mr (Fl.cont,X.y12 over a F c)) (bad2:=λa b c=>mr (Fl.ret (.bool false),X.y12 over a b c)) (next2:=λa b c=>mr (Fl.next,X.y12 over a b c)) s S x g h0 L G J with⟨h',e,k⟩|⟨r,t,u,h',e,k⟩
  ·refine y _<|bJ _ _ h' ⟨e,.inr rfl,.inr (.inl ⟨_,_,_,rfl⟩),k⟩
  ·refine y _<|bJ _ _ h' ⟨e,.inl rfl,.inr (.inl ⟨_,_,_,rfl⟩),k⟩
 ·rw[O0]
  rcases oh (j:=j) (bad1:=(mr (Fl.ret (.bool false),X.l15 over o p q):M (Fl×Loc))) (cont1:=mr (Fl.cont,X.l15 over o p q)) (bad2:=λa b c=>mr (Fl.ret (.bool false),X.y15 over o p q a b c)) (next2:=λa b c=>mr (Fl.next,X.y15 over o p q a b c)) s S x g h0 L G J with⟨h',e,k⟩|⟨r,t,u,h',e,k⟩
  ·refine y _<|bJ _ _ h' ⟨e,.inr rfl,.inr (.inr (.inl ⟨_,_,_,rfl⟩)),k⟩
  ·refine y _<|bJ _ _ h' ⟨e,.inl rfl,.inr (.inr (.inr ⟨_,_,_,_,_,_,rfl⟩)),k⟩
 ·rw[O1]
  rcases oh (j:=j) (bad1:=(mr (Fl.ret (.bool false),X.y15 over o p q a F c):M (Fl×Loc))) (cont1:=mr (Fl.cont,X.y15 over o p q a F c)) (bad2:=λa b c=>mr (Fl.ret (.bool false),X.y15 over o p q a b c)) (next2:=λa b c=>mr (Fl.next,X.y15 over o p q a b c)) s S x g h0 L G J with⟨h',e,k⟩|⟨r,t,u,h',e,k⟩
  ·refine y _<|bJ _ _ h' ⟨e,.inr rfl,.inr (.inr (.inr ⟨_,_,_,_,_,_,rfl⟩)),k⟩
  ·refine y _<|bJ _ _ h' ⟨e,.inl rfl,.inr (.inr (.inr ⟨_,_,_,_,_,_,rfl⟩)),k⟩
theorem Dg {wf j b lo B G:Nat}{x y:Vc}{X:LL}(su:SideOk lo B h u x)(sv:SideOk lo B h v y)(F:h[G]?=some (.list [u,v]))(hB:B<=h.length)(hlo:lo<=B)(q:b+6<lo)(h0:h[0]?=some .tab)(hb:0<b)
  (L:∃c,h[b+1]?=some (.cell c))(J:∃c,h[b+4]?=some (.cell c))(hw:4200<wf)(o:mc X over lc):
  ∃g h',bF (Tj wf (j+3)) 23 "law" b [23] (.list G) lc h=.ok (.next,g) h'/\mc X over g/\Keep (λn=>n≠b+1/\n≠b+4) h h':=by
 refine aB λgP gH=>am (L) λc1 L=>am (J) λc4 J=>?_;have S:G≠b+1:=λe=>by rw[e,L]at F;cases F
 have nL4:G≠b+4:=λe=>by rw[e,J]at F;cases F
 obtain⟨g,h',e,i1,i2,_⟩:=bX (body:=λv l=>aJ (Tj wf (j+3)) 23 "law" b [23] v l λW l=>mr (W,l)) (it:=.list G) [u,v]
  (λi lc h'=>mc X over lc/\Keep (λn=>n≠b+1/\n≠b+4) h h'/\(∃c,h'[b+1]?=some (.cell c))/\ ∃c,h'[b+4]?=some (.cell c))
  (λi lc h' hI=>lm (hI.2.1.get _ _ ⟨S,nL4⟩ F))
  (λi w lc h' A hI=>by
   refine fD (hI) λo K U h4'=>?_
   have⟨z,sz⟩:∃z,SideOk lo B h w z:=by
    have hi:i<2:=by have:=(SV.mp A).1;simpa using this
    rcases(show i=0\/i=1 from Dt hi)with rfl|rfl
    ·cases A;exact⟨x,su⟩
    ·cases A;exact⟨y,sv⟩
   have Y:SideOk lo B h' w z:=⟨sz.isv.keep (K.mono λm Z p=>by exact⟨U1 (tt (tt (TE (by decide:2<=7) _) q) p.1),U1 (tt (tt (TE (by decide:5<=7) _) q) p.1)⟩),sz.wf,sz.num⟩;refine jd (Hi (j:=j) (b:=b) Y (by have:=K.len;exact o5 hB this) hlo q (K.get _ _ LO h0) U h4' hw o) λW l' h2 e2 hf hl2 k2 cc=>?_;exact bJ W l' h2 ⟨e2,hf,hl2,K.trans k2,cc⟩)
  wf 0 lc h o1 (by simp;exact RT hw) ⟨o,Keep.refl,⟨c1,L⟩,⟨c4,J⟩⟩
 refine gH<|aU g h' ⟨(cC (by kernel_rfl)).trans e,i1,i2⟩
def Dh(C:Tb)(b:Nat)(c g z J y A F p q t:V):M V:=mq (aC (.list [])) λG=>mq (bt t) λo=>mq (bF C 23 "law" b [19] o [("script",c),("kind",g),("held",z),("told",J),("left",y),("right",A),("due",F),("refused",p),("shape",q),("total",t),("items",G),("over",(.bool false))]) λx=>cm C 24 (aw "law" (aq "law") b) (aG "law" [20]) cb x.1 x.2
def xm(C:Tb)(b:Nat)(c o y q x z A:V)(g:V×V×V):M V:=iq .NotEq g.1 (.str "") (mq (cmp .Eq q g.1) λF=>mr (.bool F)) (Dh C b c o y q x z A g.1 g.2.1 g.2.2)
def O2(C:Tb)(b:Nat)(c g z G o q x:V):M V:=mq (aZ (b+5)) λJ=>mq (aZ (b+6)) λA=>mq (builtin "len" [o]) λL=>mq (builtin "len" [q]) λy=>mq (C.f "_law_shape" [J,A,L,y,x]) λF=>mq (j0 F) (xm C b c g z G o q x)
def zn(C:Tb)(b:Nat)(g c x A:V):M V:=mq (aZ (b+5)) λF=>mq (C.f "_law_items" [F,c]) λo=>mq (aZ (b+6)) λq=>mq (C.f "_law_items" [q,c]) λy=>mq (aC (.list [])) λz=>O2 C b g c x A o y z
def Iq(C:Tb)(b:Nat)(c g y o:V):M V:=mq (aZ (b+5)) λq=>mq (aM q "kind") λx=>mq (aZ (b+6)) λA=>mq (aM A "kind") λz=>iq .In (.str "character") (.tup [x,z]) (mq (cmp .Eq o (.str "non-numeric argument to binary operator")) λF=>mr (.bool F)) (zn C b c g y o)
def Hj(C:Tb)(b:Nat)(q o:V)(k:V->M V):M V:=mq (aZ (b+6)) λc=>mq (C.f "_law_items" [c,.str ""]) λy=>mq (aZ (b+6)) λg=>mq (C.f "_law_seen" [g]) λx=>mq (aC (.list [q,o,y,x])) k
def qj(C:Tb)(b:Nat)(k:V->M V):M V:=mq (aZ (b+5)) λc=>mq (C.f "_law_items" [c,.str ""]) λo=>mq (aZ (b+5)) λg=>mq (C.f "_law_seen" [g]) λq=>Hj C b o q k
def tO(C:Tb)(b:Nat)(c g o x:V):M V:=qj C b λq=>iq .NotEq o q (mr (.bool false)) (Iq C b c g o x)
def Ir(C:Tb)(b:Nat)(c g q:V):M V:=mq (aC (.list [])) λx=>mq (fL (b+2) x) λZ=>mq (xc (aX (bG (aG "law" [9])) [0]) (aw "law" (aq "law") b)) λo=>mq (C.f "_law_kept" [o]) λy=>tO C b c g q y
def jq(C:Tb)(b:Nat)(c g:V):M V:=qj C b λo=>Ir C b c g o
def kB(C:Tb)(b:Nat)(c:V):M V:=mq (aZ (b+5)) λo=>mq (aM o "kind") λy=>iq .Eq y (.str "double") (jq C b c (.str "double")) (mq (aZ (b+6)) λx=>mq (aM x "kind") λq=>iq .Eq q (.str "double") (jq C b c (.str "double")) (mq (aZ (b+3)) λg=>iq .In g (.tup [(.str "/"),(.str "^")]) (jq C b c (.str "double")) (jq C b c (.str "integer"))))
def Di(C:Tb)(b:Nat)(c:V):M V:=mq (aZ b) λo=>mq (aZ b) λg=>mq (C.f "_law_next" [g]) λA=>mq (ah .Mod A (.int 3)) λz=>mq (ah .Add (.int 1) z) λJ=>mq (bt J) λq=>mq (cF C.wf (Ic C 19) (aw "law" (aq "law") b) (aX (bG (aG "law" [4,0,0])) [1,1]) q) λx=>mq (aC (.list x)) λy=>mq (C.f "Vector" [(.str "double"),y]) λF=>mq (C.f "_law_dressed" [o,F]) λG=>mq (fL (b+6) G) λZ=>kB C b c
def Dj(C:Tb)(b:Nat)(c:V):M V:=mq (aZ (b+3)) λg=>iq .Eq g (.str "^") (Di C b c) (kB C b c)
def qk(C:Tb)(b k:Nat)(f:M V):M V:=mq (aZ b) λc=>mq (C.f "_law_vector" [c]) λg=>mq (fL (b+k) g) λZ=>f
def O3(C:Tb)(b:Nat)(c:V):M V:=qk C b 5 (qk C b 6 (Dj C b c))
def O4(C:Tb)(b:Nat)(c:V):M V:=mq (aC (.list [(.str "+"),(.str "-"),(.str "*"),(.str "/"),(.str "^"),(.str "%%"),(.str "%/%")])) λq=>mq (aZ b) λg=>mq (C.f "_law_next" [g]) λx=>mq (ah .Mod x (.int 7)) λy=>mq (ak q y) λo=>mq (fL (b+3) o) λZ=>O3 C b c
def Iu(C:Tb)(b:Nat)(c:V):M V:=mq (C.f "_law_row" [c]) λg=>mq (fL b g) λZ=>O4 C b c
theorem O5(C:Tb)(b:Nat)(c:V)(h:List O):Bd C "law" [c] b h=Iu C b c h:=by kernel_rfl
structure LS (b lo:Nat) (o:Op) (u v:V) (x y:Vc) (h:List O):Prop where
 tab:h[0]?=some .tab
 c1:∃c,h[b+1]?=some (.cell c)
 c2:∃c,h[b+2]?=some (.cell c)
 c3:h[b+3]?=some (.cell (some (.str o.s)))
 c4:∃c,h[b+4]?=some (.cell c)
 c5:h[b+5]?=some (.cell (some u))
 c6:h[b+6]?=some (.cell (some v))
 iu:IsV (λm=>lo<=m) h u x
 iv:IsV (λm=>lo<=m) h v y
 wx:Wf x
 wy:Wf y
 pw:∀r,DI y r-> ∀q∈r,Pw o q
 bl:b+6<lo
 pos:0<b
theorem NQ {p q:Q}(h:vq p=vq q):p=q:=by
 rcases p with _|⟨a,b⟩<;>rcases q with _|⟨c,d⟩
 ·rfl
 ·cases h
 ·cases h
 ·cases h;rfl
theorem tP:∀ {l r:List Q},l.map vq=r.map vq->l=r
 | [],[],_=>rfl
 | [],_::_,h=>by cases h
 |_::_,[],h=>by cases h
 |a::l,b::r,h=>by
  rw[UI,UI]at h;injection h with h1 h2;rw[NQ h1,tP h2]
theorem Kq {i:Int}(h0:0<=i)(c:i<7):∃o:Op,[V.str "+",.str "-",.str "*",.str "/",.str "^",.str "%%",.str "%/%"][i.toNat]?=some (.str o.s):=by
 rcases(show i=0\/i=1\/i=2\/i=3\/i=4\/i=5\/i=6 from QC h0 c)with rfl|rfl|rfl|rfl|rfl|rfl|rfl
 ·exact⟨.add,rfl⟩
 ·exact⟨.sub,rfl⟩
 ·exact⟨.mul,rfl⟩
 ·exact⟨.div,rfl⟩
 ·exact⟨.pow,rfl⟩
 ·exact⟨.mod,rfl⟩
 ·exact⟨.idiv,rfl⟩
theorem Fa {wf j r b many:Nat}(A:c8 r h)(g:h[b]?=some (.cell (some (.ref r))))(hm:many<=9)(hw:40<wf):
  ∃(l:List Q) (h':List O),cF wf (Ic (Tj wf (j+1)) 19) (aw "law" (aq "law") b) (aX (bG (aG "law" [4,0,0])) [1,1]) (.range many) h=.ok (l.map vq) h'/\c8 r h'/\Keep (λm=>m≠r) h h'/\(∀q∈l,c7 q/\ ∃k:Int,q=some (k,1)/\k.natAbs<=4)/\l.length=many:=by
 have S:b≠r:=λe=>by obtain⟨l,el,_⟩:=A;rw[e,el]at g;cases g
 have ec:=fQ (C:=Tj wf (j+1)) (m:=19) (c:=aw "law" (aq "law") b) (e:=aX (bG (aG "law" [4,0,0])) [1,1]) (it:=.range many) (by kernel_rfl) (by kernel_rfl);refine aB λgP gH=>?_;obtain⟨acc,h',e,F,G,l,i3,Y,J⟩:=fS (turn:=λv=>bS (Tj wf (j+1)) 19 (aw "law" (aq "law") b) (aX (bG (aG "law" [4,0,0])) [1,1]) v mr) (it:=.range many) (rng many)
  (λt acc h'=>c8 r h'/\Keep (λm=>m≠r) h h'/\ ∃l:List Q,acc=l.map vq/\(∀q∈l,c7 q/\ ∃k:Int,q=some (k,1)/\k.natAbs<=4)/\l.length=t)
  (λt acc h' Z=>cK many t h')
  (λt v acc h' y hI=>by
   obtain⟨L,K,l,rfl,X,a2⟩:=hI;show ∃q h'',bS (Tj wf (j+1)) 19 (aw "law" (aq "law") b) (aX (bG (aG "law" [4,0,0])) [1,1]) v mr h'=_/\_;rw[JP];unfold Bk;rw[aa (aE (K.get _ _ S g))];refine bW (bh (wf:=wf) (j:=j) L) λk2 U e2 Z Z W p2=>af (cM k2 (k:=9) (by decide)) λz o=>?_;rw[aa e2,aD (by decide),ae,ch,ae];refine aU _ U ⟨rfl,W,K.trans p2,l++ [some (k2.fmod 9-4,1)],by simp[vq],λx hx=>?_,by simp[a2]⟩;rcases Ur.mp hx with q|q
   ·exact X x q
   ·rw[TO]at q;subst q
    refine⟨⟨⟨by show(0:Int)<=1;decide,.inr (Nat.gcd_one_right _)⟩, ?_, ?_⟩,_,rfl,by exact Qd z o⟩
    ·show(k2.fmod 9-4).natAbs<2^40;exact Rh z o
    ·show 1<2^40;decide)
  wf 0 [] h o1 (by simp;exact HN hm hw) ⟨A,Keep.refl,[],rfl,(λv y=>by cases y),rfl⟩
 subst i3;refine gH<|aU l h' ⟨(congrFun ec h).trans e,F,G,Y,by simpa using J⟩
theorem Hk(o:Op):(o=.pow/\cmp .Eq (.str o.s) (.str "^")=mr true)\/(o≠ .pow/\cmp .Eq (.str o.s) (.str "^")=mr false):=by
 cases o
 case pow=>exact .inl ⟨rfl,by kernel_rfl⟩
 all_goals exact .inr ⟨(λh=>by cases h),by kernel_rfl⟩
structure LR (b r:Nat) (h0 h:List O):Prop where
 pos:0<b
 lr:b+7<=r
 tab:h[0]?=some .tab
 row:c8 r h
 cell:h[b]?=some (.cell (some (.ref r)))
 cs:∀k,k<7-> ∃c,h[b+k]?=some (.cell c)
 keep:Keep (λm=>m<b) h0 h
theorem NR {c:Type}{P:c->Prop}{a b:c}(e:a=b)(q:P b):P a:=e▸q
theorem LR.ne {b r k:Nat}(s:LR b r h0 h)(c:k<7):b+k<r:=TU (TG c b) s.lr
theorem LR.next(s:LR b r h0 h)(R:c8 r h')(K:Keep (λm=>m≠r) h h'):LR b r h0 h':=
 ⟨s.pos,s.lr,K.get _ _ (U2 (Nat.zero_lt_of_lt (s.ne (k:=0) (by decide)))) s.tab,R,K.get _ _ (U2 (s.ne (k:=0) (by decide))) s.cell,λk g=>(s.cs k g).elim λc e=>⟨c,K.get _ _ (U2 (s.ne g)) e⟩,
  s.keep.trans (K.mono λm Z q=>U2 (U0 q (s.ne (k:=0) (by decide))))⟩
theorem LR.write {b r k:Nat}(s:LR b r h0 h)(o:0<k)(x:k<7)(v:V):LR b r h0 (h.set (b+k) (.cell (some v)))/\Keep (λm=>m≠b+k) h (h.set (b+k) (.cell (some v))):=by
 have K:Keep (λm=>m≠b+k) h (h.set (b+k) (.cell (some v))):=Keep.set λq=>q rfl;refine⟨⟨s.pos,s.lr,K.get _ _ (U2 (Uf k s.pos)) s.tab,s.row.keep K (U1 (s.ne x)),K.get _ _ (U2 (Nat.lt_add_of_pos_right o)) s.cell,λi g=>?_,s.keep.trans (K.mono λm Z q=>U2 (Uf k q))⟩,K⟩;refine am (s.cs i g) λc e=>?_;by_cases q:i=k
 ·subst q;exact⟨_,bg e⟩
 ·exact⟨c,K.get _ _ (λe=>q (TF e)) e⟩
theorem LR.rlt(s:LR b r h0 h):r<h.length:=by obtain⟨_,e,_⟩:=s.row;exact aA e
theorem Bv {wf j b r k:Nat}(s:LR b r h0 h)(z:0<k)(g:k<7)(f:M V)(J:2000<wf):
  ∃v x h',qk (Tj wf (j+4)) b k f h=f h'/\LR b r h0 h'/\IsV (λm=>r<m) h' v x/\Wf x/\h'[b+k]?=some (.cell (some v))/\Keep (λm=>m≠r/\m≠b+k) h h':=by
 refine jd (y3 (j:=j) s.row J) λv x h' e G F A p=>?_;have o:=s.next A p;refine am (o.cs k g) λc y=>?_;have w:=o.write z g v;exact bJ v x _ ⟨aN (aE s.cell) (aN e (aN (fT y) rfl)),w.1,G.keep (w.2.mono λm Z q=>U1 (U0 (s.ne g) q)),F,bg y,(p.mono λm Z q=>q.1).trans (w.2.mono λm Z q=>q.2)⟩
theorem Fb {S:V}(s:LR b r h0 h)(hw:2000<wf):
  ∃v y h',Di (Tj wf (j+4)) b S h=kB (Tj wf (j+4)) b S h'/\LR b r h0 h'/\IsV (λm=>r<m) h' v y/\Wf y/\h'[b+6]?=some (.cell (some v))/\Keep (λm=>m≠r/\m≠b+6) h h'/\ ∀r',DI y r'-> ∀q∈r',Pw .pow q:=by
 refine bO (Di (Tj wf (j+4)) b S h) λJ mk=>az (aE s.cell)<|az (aE s.cell)<|bW (bh (j:=j+3) s.row) λG h10 e10 Z Z X Y=>az e10<|bC (aD (by decide))<|bC (cZ ..)<|af (cM G (k:=3) (by decide)) λm0 m3=>bC (z9 (Qz m0) (QA m3)) ?_;have s1:=s.next X Y;refine bW (Fa (j:=j+3) (many:=(1+G.fmod 3).toNat) X s1.cell (QS m3) (qD hw)) λl g e11 A p11 hl L=>az e11<|az ((aH _ _))<|az gY ?_;have s2:=s1.next A p11;have gp:Gr g (g++ [O.list (l.map vq)]):=Keep.app _;have n12:=ay g (O.list (l.map vq));have W:Gr (g++ [O.list (l.map vq)]) (g++ [O.list (l.map vq)]++ [bp (.str "double") (.ref g.length) .none]):=Keep.app _;have n13:=ay (g++ [O.list (l.map vq)]) (bp (.str "double") (.ref g.length) .none);have gg:=gp.trans W;have x:=s2.rlt;have lt12:r<(g++ [O.list (l.map vq)]).length:=TU x gp.len;have l9:(l.map vq).length<=9:=by rw[Uo];exact PM m3 L
 refine bW (oG (j:=j+1) (A.gr gg) n13 (W.get _ _ trivial n12) (by decide) l9 lt12 x (qD hw)) λh14 F e14 iv14 aF r14 U=>az e14 ?_;have z:Keep (λm=>m≠r) g h14:=⟨λm o q e=>U.get _ _ ⟨q,U2 (TU (aA e) gp.len)⟩ (gg.get _ _ trivial e),UZ gg.len U.len⟩;have s3:=s2.next r14 z;refine am (s3.cs 6 (by decide)) λc ec=>?_;have w:=s3.write (k:=6) (by decide) (by decide) (.ref (g++ [O.list (l.map vq)]).length);refine az (fT ec) (mk _ ?_);refine bJ _ ⟨"double",l.map vq,F⟩ _ ⟨rfl,w.1,iv14.keep (w.2.mono λm Z q=>U1 (U0 (s.ne (k:=6) (by decide)) q)),⟨aF,l9,.double l λq hq=>(hl q hq).1⟩,bg ec,(((Y.trans p11).trans z).mono λm Z q=>q.1).trans (w.2.mono λm Z q=>q.2),λr' dr q hq=>?_⟩;have e:=dr.eq;unfold b7 at e;rw[Vn (λq=>q.2 rfl)]at e;have e':l=r':=tP e;subst e';exact(hl q hq).2
theorem LR.ls {o:Op}{x y:Vc}(s:LR b r h0 h)(A:h[b+3]?=some (.cell (some (.str o.s))))(J:h[b+5]?=some (.cell (some u)))(G:h[b+6]?=some (.cell (some v)))(g:IsV (λm=>r<m) h u x)(L:IsV (λm=>r<m) h v y)(c:Wf x)(z:Wf y)(F:∀r,DI y r-> ∀q∈r,Pw o q):LS b (r+1) o u v x y h:=
 ⟨s.tab,s.cs 1 (by decide),s.cs 2 (by decide),A,s.cs 4 (by decide),J,G,g,L,c,z,F,Nat.lt_succ_of_lt (s.ne (k:=6) (by decide)),s.pos⟩
theorem Fc {S:Nat}(h0:h[0]?=some .tab)(hS:h[S]?=some (.flist l))(hl:qg l)(hll:l.length<=line*line)(F:0<h.length)(hw:2000<wf):
  ∃h' lo o u v x y,Iu (Tj wf (j+4)) h.length (.ref S) (h++List.replicate 7 (.cell none))=kB (Tj wf (j+4)) h.length (.ref S) h'/\LS h.length lo o u v x y h'/\Keep (λm=>m<h.length) h h':=by
 refine @bO _ (λz=>∃h' lo o u v x y,z=kB (Tj wf (j+4)) h.length (.ref S) h'/\LS h.length lo o u v x y h'/\Keep (λm=>m<h.length) h h') _ λJ mk=>?_;have g0:Gr h (h++List.replicate 7 (.cell none)):=Keep.app _;have cs:∀k,k<7->(h++List.replicate 7 (O.cell none))[h.length+k]?=some (.cell none):=λk hk=>by
  rw[SP QK,List.getElem?_replicate,Vo (QY hk)]
 have G:(h++List.replicate 7 (O.cell none)).length=h.length+7:=by simp
 have t0:=g0.get _ _ trivial h0;have s0:=g0.get _ _ trivial hS;generalize h++List.replicate 7 (O.cell none)=ha at*;refine bM (EL (j:=j+3) s0 hl hll (qD hw)) λr X e1 r1 hr g1=>az e1 ?_;generalize hb:h.length=b at*;have q0:=g1.get _ _ trivial (cs 0 (by decide));refine az (fT q0) ?_;have k1:Keep (λm=>m≠b) X (X.set b (.cell (some (.ref r)))):=Keep.set λq=>q rfl;have Y:LR b r h (X.set b (.cell (some (.ref r)))):=⟨F,G▸hr,k1.get _ _ (U2 F) (g1.get _ _ trivial t0),r1.keep k1 (Q4 G hr),bg q0,λk hk=>by
  by_cases q:k=0
  ·subst q;exact⟨_,bg q0⟩
  ·exact⟨_,k1.get _ _ (λe=>q (TF e)) (g1.get _ _ trivial (cs k hk))⟩,(Gr.keep (g0.trans g1)).trans (k1.mono λm Z q=>U2 q)⟩
 generalize X.set b (.cell (some (.ref r)))=h2 at Y ⊢;refine az ((aH _ _)) ?_;have g3:Gr h2 (h2++ [O.list [.str "+",.str "-",.str "*",.str "/",.str "^",.str "%%",.str "%/%"]]):=Keep.app _;have l3:=ay h2 (O.list [.str "+",.str "-",.str "*",.str "/",.str "^",.str "%%",.str "%/%"]);have s3:=Y.next (Y.row.gr g3) g3.keep;refine az (aE s3.cell)<|bW (bh (j:=j+3) s3.row) λk4 h4 e4 Z Z r4 p4=>az e4<|bC (aD (by decide))<|af (cM k4 (k:=7) (by decide)) λn0 n7=>am (Kq n0 n7) λo ho=>az (iZ (p4.get _ _ (U1 Y.rlt) l3) n0 ho (Qw n7)) ?_;have s4:=s3.next r4 p4;refine am (s4.cs 3 (by decide)) λc L=>az (fT L) ?_;have w:=(s4.write (k:=3) (by decide) (by decide) (.str o.s)).1;have U:=bg (o:=.cell (some (.str o.s))) L;generalize h4.set (b+3) (.cell (some (.str o.s)))=h5 at w U ⊢;have g:∀k m,k<7->m≠k->b+m≠b+k:=λk m Z q e=>q (TF e);refine kH (Bv (j:=j) (k:=5) w (by decide) (by decide) (qk (Tj wf (j+4)) b 6 (Dj (Tj wf (j+4)) b (.ref S))) hw) λu x h6 e6 s6 iu wx c5 k6=>kH (Bv (j:=j) (k:=6) s6 (by decide) (by decide) (Dj (Tj wf (j+4)) b (.ref S)) hw) λv y h7 e7 A iv wy c6 k7=>?_;have U:=k7.get _ _ ⟨U2 (A.ne (by decide)),g _ _ (by decide) (by decide)⟩ (k6.get _ _ ⟨U2 (A.ne (by decide)),g _ _ (by decide) (by decide)⟩ U);have c5:=k7.get _ _ ⟨U2 (A.ne (by decide)),g _ _ (by decide) (by decide)⟩ c5;have iu:=iu.keep (k7.mono λm Z q=>⟨U1 q,U1 (U0 (A.ne (k:=6) (by decide)) q)⟩);refine NR (P:=J) (e6.trans e7)<|az (aE U) ?_;rcases Hk o with⟨rfl,L⟩|⟨W,L⟩
 ·refine bC L<|yF<|HF (Fb (j:=j) (S:=.ref S) A hw) λv' y' h8 e8 s8 iv8 wy8 c68 k8 pw=>mk _ (HD h8 (r+1) .pow u v' x y' ⟨e8,s8.ls (k8.get _ _ ⟨U2 (A.ne (by decide)),g _ _ (by decide) (by decide)⟩ U) (k8.get _ _ ⟨U2 (A.ne (by decide)),g _ _ (by decide) (by decide)⟩ c5) c68 (iu.keep (k8.mono λm Z q=>⟨U1 q,U1 (U0 (A.ne (k:=6) (by decide)) q)⟩)) iv8 wx wy8 pw,s8.keep⟩)
 ·refine bC L<|qQ<|mk _ (HD h7 (r+1) o u v x y ⟨rfl,A.ls U c5 c6 iu iv wx wy λr' Z q Z=>?_,A.keep⟩)
  cases o
  case pow=>exact absurd rfl W
  all_goals trivial
def pO(lo N:Nat)(h':List O)(o:Op)(x y:Vc)(g c:Option (List Int))(told:V):Prop:=
 (¬(dE x.kind/\dE y.kind)/\told=.str "non-numeric argument to binary operator")\/((dE x.kind/\dE y.kind)/\match cf g c x.items.length y.items.length with
  |.bad e=>told=.str e
  |q=>∃k items over,Ans o x y (aL x.items.length y.items.length) k items over/\IsV (λm=>lo<=m) h' told ⟨k,items,hj q (aL x.items.length y.items.length) x y⟩/\h'[N]?=some (.list (ca over (bE g c x.items.length y.items.length []) iN)))
structure Held (h:List O) (H:Nat) (x y:Vc):Prop where
 ex:∃i1 d1 i2 d2 D1 D2,h[H]?=some (.list [.ref i1,.ref d1,.ref i2,.ref d2])/\h[i1]?=some (.list x.items)/\IsS zg h d1 x.att D1/\h[i2]?=some (.list y.items)/\IsS zg h d2 y.att D2
structure HS (b lo B N H:Nat) (o:Op) (u v:V) (x y:Vc) (h:List O):Prop where
 tab:h[0]?=some .tab
 c1:∃c,h[b+1]?=some (.cell c)
 c2:h[b+2]?=some (.cell (some (.ref N)))
 c3:h[b+3]?=some (.cell (some (.str o.s)))
 c4:∃c,h[b+4]?=some (.cell c)
 c5:h[b+5]?=some (.cell (some u))
 c6:h[b+6]?=some (.cell (some v))
 iu:IsV (λm=>lo<=m/\m<B) h u x
 iv:IsV (λm=>lo<=m/\m<B) h v y
 wx:Wf x
 wy:Wf y
 pw:∀r,DI y r-> ∀q∈r,Pw o q
 bl:b+6<lo
 pos:0<b
 lB:lo<=B
 BN:B<=N
 NH:N<h.length
 held:Held h H x y
theorem wZ(x:Vc):b7 "" x=x.items:=Vn (λq=>absurd q.1 (by decide))
structure Sees (h0 h:List O) (H:Nat) (x y:Vc):Prop where
 le:h0.length<=H
 ex:∃i1 d1 i2 d2 D1 D2,h[H]?=some (.list [.ref i1,.ref d1,.ref i2,.ref d2])/\h[i1]?=some (.list x.items)/\IsS (λn=>h0.length<=n) h d1 x.att D1/\h[i2]?=some (.list y.items)/\IsS (λn=>h0.length<=n) h d2 y.att D2/\h0.length<=i1/\h0.length<=i2
theorem Sees.held {x y:Vc}(s:Sees h0 h H x y)(K:Keep (λn=>h0.length<=n) h h'):Held h' H x y:=
 s.ex.elim λc t=>t.elim λz t=>t.elim λg t=>t.elim λF t=>t.elim λA t=>t.elim λo q=>⟨c,z,g,F,A,o,K.get _ _ s.le q.1,K.get _ _ q.2.2.2.2.2.1 q.2.1,(q.2.2.1.keep K).mono λZ Z Z=>trivial,K.get _ _ q.2.2.2.2.2.2 q.2.2.2.1,(q.2.2.2.2.1.keep K).mono λZ Z Z=>trivial⟩
theorem Bw {x y:Vc}(X:h[b+5]?=some (.cell (some u)))(S:h[b+6]?=some (.cell (some v)))(U:IsV P h u x)(Y:IsV P h v y)(k:V->M V)(z:4200<wf):
  ∃H h',qj (Tj wf (j+1)) b k h=k (.ref H) h'/\Gr h h'/\Sees h h' H x y:=by
 refine bO (qj (Tj wf (j+1)) b k h) λJ mk=>az (aE X)<|bM (jh (j:=j) U "" z) λF h1 e1 A p1 l1=>az e1<|az (aE (A.get _ _ trivial X))<|bw (dX (j:=j) (U.keep A.keep) (o4 z)) λs1 D1 h2 e2 q2 g2=>?_;have gp:Gr h h2:=A.trans g2;refine az e2<|az (aE (gp.get _ _ trivial S))<|bM (jh (j:=j) (Y.keep gp.keep) "" z) λG h3 e3 L p3 W=>?_;have c:Gr h h3:=gp.trans L;refine az e3<|az (aE (c.get _ _ trivial S))<|bw (dX (j:=j) (Y.keep c.keep) (o4 z)) λs2 D2 q e4 q4 g4=>az e4<|az (aH _ _) (mk _ ?_);have g5:Gr q (q++ [O.list [.ref F,.ref s1,.ref G,.ref s2]]):=Keep.app _;have o:=g4.trans g5;have g:=L.trans o;rw[wZ]at l1 W;exact aU q.length _ ⟨rfl,gp.trans g,(c.trans g4).len,F,s1,G,s2,D1,D2,ay q _,(g2.trans g).get _ _ trivial l1,(q2.keep (Gr.keep g)).mono λn Z p=>UZ A.len p,o.get _ _ trivial W,(q4.keep g5.keep).mono λn Z p=>UZ c.len p,p1,UZ gp.len p3⟩
theorem NS {lo:Nat}{o:Op}{x y:Vc}{J F:Option (List Int)}(W:IsV (λm=>lo<=m/\m<B) h u x)(X:IsV (λm=>lo<=m/\m<B) h v y)(wx:Wf x)(Y:Wf y)
  (h1:dG x.att x.items.length J)(Z:dG y.att y.items.length F)(hB:B<=N)(U:lo<=B)(hN:h[N]?=some (.list []))(hp:∀r,DI y r-> ∀q∈r,Pw o q)(hw:4200<wf):
  ∃told h',kA (T ai wf 24 (j+8) "arith" [.str o.s,u,v,.ref N] h)=.ok told h'/\pO lo N h' o x y J F told/\Keep (λm=>m≠N) h h':=by
 by_cases z:dE x.kind/\dE y.kind
 ·have A:=J6 (j:=j) (o:=o) W X wx Y h1 Z z.1 z.2 hB U hN hp hw
  unfold pO;induction hq:cf J F x.items.length y.items.length using Vu with
  |bad msg=>
   rw[hq]at A;refine ac (A) λc g L=>aU _ c ⟨Vk kA g,.inr ⟨z,rfl⟩,L.keep⟩
  |no=>
   rw[hq]at A;obtain⟨rr,c,k,items,over,g,an,G,S,nn⟩:=A;exact aU _ c ⟨Vk kA g,.inr ⟨z,k,items,over,an,S,nn⟩,G⟩
  |dim ds=>
   rw[hq]at A;obtain⟨rr,c,k,items,over,g,an,G,S,nn⟩:=A;exact aU _ c ⟨Vk kA g,.inr ⟨z,k,items,over,an,S,nn⟩,G⟩
 ·refine ac (J5 (j:=j+6) (N:=N) (o:=.str o.s) W X z) λc g L=>aU _ c ⟨Vk kA g,.inl ⟨z,rfl⟩,L.keep⟩
theorem IsV.lo {P:Nat->Prop}{lo:Nat}{h:List O}{w:V}{z:Vc}(c:IsV P h w z)(q:∀n,P n->lo<=n):lo<=h.length:=by
 cases c with
 |null p e f=>exact UZ (q _ p) (UY (aA e))
 |vec hk hl p1 p2 e1 e2 ha=>exact UZ (q _ p1) (UY (aA e1))
theorem Fd {lo:Nat}{o:Op}{u v S kind:V}{x y:Vc}{d1 d2:Option (List Int)}(s:LS b lo o u v x y h)(h1:dG x.att x.items.length d1)(h2:dG y.att y.items.length d2)(hw:4200<wf):
  ∃told h' N H,jq (Tj wf (j+9)) b S kind h=tO (Tj wf (j+9)) b S kind (.ref H) told h'/\HS b lo h.length N H o u v x y h'/\pO lo N h' o x y d1 d2 told/\Keep (λm=>m<b) h h':=by
 refine bO (jq (Tj wf (j+9)) b S kind h) λJ mk=>?_;have lB:=s.iu.lo λn p=>p;have iu:IsV (λm=>lo<=m/\m<h.length) h u x:=s.iu.mono λn hn p=>⟨p,hn⟩;have iv:IsV (λm=>lo<=m/\m<h.length) h v y:=s.iv.mono λn hn p=>⟨p,hn⟩;refine aV (Bw (j:=j+8) s.c5 s.c6 iu iv (λr22=>Ir (Tj wf (j+9)) b S kind r22) hw) λH g e5 W se=>NR (P:=J) e5<|az (aH _ _) ?_;have g6:Gr g (g++ [O.list []]):=Keep.app _;have n6:=ay g (O.list []);have g16:Gr h (g++ [O.list []]):=W.trans g6;refine am (s.c2) λc2 L=>?_;have c26:=g16.get _ _ trivial L;have l2:b+2<g.length:=TU (aA L) W.len;refine az (fT c26) ?_;have k7:Keep (λm=>m≠b+2) (g++ [O.list []]) ((g++ [O.list []]).set (b+2) (.cell (some (.ref g.length)))):=Keep.set λq=>q rfl;have w7:=bg (o:=.cell (some (.ref g.length))) c26;have n7:=k7.get _ _ (U1 l2) n6;have lH:g.length<((g++ [O.list []]).set (b+2) (.cell (some (.ref g.length)))).length:=by simp
 generalize (g++ [O.list []]).set (b+2) (.cell (some (.ref g.length)))=Y at*;have A:Keep (λm=>m≠b+2) g Y:=g6.keep.trans k7;refine az (zj fx _ Kl (A.get _ _ Pk (W.get _ _ trivial s.tab))) ?_;have U:Gr Y (Y++ [O.clo (cD fx) (aR fx) (cq (aw "law" (aq "law") b) (aR fx))]):=Keep.app _;have cl:=ay Y (O.clo (cD fx) (aR fx) (cq (aw "law" (aq "law") b) (aR fx)));have ek:=zi (wf:=wf) (j:=j+8) cl Ki;generalize Y++ [O.clo (cD fx) (aR fx) (cq (aw "law" (aq "law") b) (aR fx))]=h8 at*;have z:Keep (λm=>m≠b+2) h h8:=W.keep.trans (A.trans U.keep);have nk:∀k,k≠2->b+k≠b+2:=λk q e=>q (TF e);have r3:=z.get _ _ (nk 3 (by decide)) s.c3;have r5:=z.get _ _ (nk 5 (by decide)) s.c5;have r6:=z.get _ _ (nk 6 (by decide)) s.c6;have hbl:=s.bl;have iu8:IsV (λm=>lo<=m/\m<h.length) h8 u x:=iu.keep (z.mono λm Z p=>by exact Me hbl p);have iv8:IsV (λm=>lo<=m/\m<h.length) h8 v y:=iv.keep (z.mono λm Z p=>by exact Me hbl p);refine aV (NS (j:=j) (o:=o) iu8 iv8 s.wx s.wy h1 h2 W.len lB (U.get _ _ trivial n7) s.pw hw) λtold h9 e9 t9 G=>az (ek.trans ((Vk kA ((Kf ..).trans (aN (aE r3) (aN (aE r5) (aN (aE r6) (aN (aE (U.get _ _ trivial w7)) (congrFun (mB _) _))))))).trans e9)) (mk _ ?_);have X:∀ {m},m<h.length->m≠g.length:=λq=>U2 (TU q W.len);have F:Keep (λm=>m≠b+2/\m≠g.length) h h9:=(z.mono λm Z q=>q.1).trans (G.mono λm Z q=>q.2);have kc:∀ {k c},k≠2->h[b+k]?=some c->h9[b+k]?=some c:=λq e=>F.get _ _ ⟨nk _ q,X (aA e)⟩ e;have l28:=aA L;refine vt told h9 g.length H ⟨rfl,⟨F.get _ _ ⟨by exact Pk,X (aA s.tab)⟩ s.tab,s.c1.elim λc e=>⟨c,kc (by decide) e⟩,G.get _ _ (X l28) (U.get _ _ trivial w7),kc (by decide) s.c3,s.c4.elim λc e=>⟨c,kc (by decide) e⟩,kc (by decide) s.c5,kc (by decide) s.c6,
  iu8.keep (G.mono λm Z p=>X p.2),iv8.keep (G.mono λm Z p=>X p.2),s.wx,s.wy,s.pw,s.bl,s.pos,lB,W.len,TU lH (UZ U.len G.len),se.held ⟨λm o q e=>?_, ?_⟩⟩,t9,F.mono λm hm q=>⟨U2 (Uf 2 q),X hm⟩⟩
 ·exact G.get _ _ (U2 (aA e)) (U.get _ _ trivial (A.get _ _ (U1 (TU l28 q)) e))
 ·exact UZ A.len (UZ U.len G.len)
def tQ(C:Tb)(b:Nat)(X:LL)(lc:Loc):M V:=mq (C.f "_law_seen" [X.told]) λJ=>mq (aZ (b+5)) λz=>mq (aZ (b+6)) λy=>mq (builtin "len" [X.left]) λc=>mq (builtin "len" [X.right]) λg=>mq (C.f "_law_attrs" [z,y,c,g,X.shape,X.total,(.bool true)]) λq=>iq .NotEq J q (mr (.bool false)) (mq (aZ (b+5)) λA=>mq (aZ (b+6)) λG=>mq (aC (.list [A,G])) λF=>mq (bY F) λo=>mq (bF C 23 "law" b [23] o lc) λx=>cm C 24 (aw "law" (aq "law") b) (aG "law" [24]) cb x.1 x.2)
def kC(C:Tb)(b:Nat)(X:LL)(lc:Loc):M V:=iq .Eq X.told (.str "non-conformable arrays") (mr (.bool false)) (mq (isV "str" X.told) λg=>mq (truth g) λq=>bif q then(mr (.bool false))else(mq (aM X.told "kind") λo=>iq .NotEq o X.kind (mr (.bool false)) (mq (aM X.told "items") λx=>iq .NotEq x X.items (mr (.bool false)) (mq (aZ (b+2)) λc=>iq .NotEq c X.due (mr (.bool false)) (tQ C b X lc)))))
def ql(C:Tb)(b:Nat)(X:LL)(over:V)(lc:Loc):M V:=mq (truth over) λc=>bif c then(mq (bQ X.due "append") λZ=>mq (bN X.due "append" [(.str "NAs produced by integer overflow")]) λg=>kC C b X lc)else(kC C b X lc)
theorem O6(C:Tb)(b:Nat)(X:LL)(over:V)(h:List O):cm C 24 (aw "law" (aq "law") b) (aG "law" [20]) cb .next (X.l12 over) h=ql C b X over (X.l12 over) h:=by kernel_rfl
theorem O7(C:Tb)(b:Nat)(X:LL)(over s p q:V)(h:List O):cm C 24 (aw "law" (aq "law") b) (aG "law" [20]) cb .next (X.l15 over s p q) h=ql C b X over (X.l15 over s p q) h:=by kernel_rfl
def Dl(C:Tb)(b:Nat):M V:=mq (xc gj (aw "law" (aq "law") b)) λc=>mq (C.f "_law_kept" [c]) λo=>mq (cmp .Eq o (.str "invalid argument to unary operator")) λg=>mr (.bool g)
theorem Kr {X:LL}(g:mc X over lc)(h:List O):cm C 24 (aw "law" (aq "law") b) (aG "law" [24]) cb .next lc h=Dl C b h:=by
 rcases g with rfl|⟨a,x,c,rfl⟩|⟨o,p,q,rfl⟩|⟨o,p,q,a,x,c,rfl⟩<;>kernel_rfl
theorem Kt {wf j b:Nat}(h0:h[0]?=some .tab):∃h',Dl (Tj wf (j+3)) b h=.ok (.bool true) h'/\Gr h h':=by
 refine bO (Dl (Tj wf (j+3)) b h) λgQ X=>?_;unfold Dl;rw[aa (zj gj _ Kn h0)];have S:=ay h (O.clo (cD gj) (aR gj) (cq (aw "law" (aq "law") b) (aR gj)));have Y:Gr h (h++ [O.clo (cD gj) (aR gj) (cq (aw "law" (aq "law") b) (aR gj))]):=Keep.app _;generalize h++ [O.clo (cD gj) (aR gj) (cq (aw "law" (aq "law") b) (aR gj))]=c at*;have x:=zi (wf:=wf) (j:=j+2) S Kk;rw[Kh]at x;have J:=ay c (O.list [.str "1"]);have o:∃h',(mq (aC (.list [.str "1"])) λl=>mq (T ai wf 24 (j+2) "Vector" [.str "character",l]) λv=>mq (aC (.list [])) λG=>mq (T ai wf 24 (j+2) "negate" [v,G]) mr) c=.exc (.str "invalid argument to unary operator") h'/\Gr c h':=by
  rw[aa (aH _ _)];have W:Gr c (c++ [O.list [.str "1"]]):=Keep.app _;generalize c++ [O.list [.str "1"]]=g at*;rw[aa gY];have z:Gr g (g++ [bp (.str "character") (.ref c.length) .none]):=Keep.app _;have U:=ay g (bp (.str "character") (.ref c.length) .none);have y:=z.get _ _ trivial J;generalize g++ [bp (.str "character") (.ref c.length) .none]=A at*;have L:IsV zg A (.ref g.length) ⟨"character",[.str "1"],jK⟩:=.vec (by decide) (by simp) trivial trivial U y (.none λZ=>rfl);rw[aa (aH _ _)];exact⟨_,gZ (zf (j:=j) (L.keep (Keep.app _)) (λq=>by rcases q with q|q|q<;>exact absurd q (by decide))),(W.trans z).trans (Keep.app _)⟩
 refine ac (o) λh' o F=>?_;rw[o]at x;rw[aa x,aY,ae,UD rfl];refine X _<|⟨h',rfl,Y.trans F⟩
theorem NT {q:DR}{x y:Vc}(o:iR x.att)(g:iR y.att):iR (tL q t x y):=by
 have up:∀ {F:aO} {k:Str} {p:Str×List V},iR F->(∀v∈p.2,Dv v)->iR (F.upd k p):=λ{F k p} hF hp k' q' e v c=>by
  unfold aO.upd at e
  split at e
  ·cases e;exact hp v c
  ·exact hF k' q' e v c
 have nn:iR jK:=λk q e=>by cases e
 have nm:∀ {F:aO} {z:Vc},iR F->iR z.att->iR (c9 t F z):=λ{F z} hF hz=>by
  unfold c9
  split
  ·induction hq:z.att "names" using Vp with
   |none=>exact hF
   |some p=>exact up hF (hz _ _ hq)
  ·exact hF
 induction q using Vu with
 |dim ds=>exact up nn λv c=>by obtain⟨i,_,rfl⟩:=UV.mp c;exact .int i
 |no=>exact nm (nm nn g) o
 |bad m=>exact nm (nm nn g) o
theorem Ku {q:DR}{x y:Vc}(o:iR x.att)(g:iR y.att):iR (hj q t x y):=by
 have c:∀ {F:aO} {z:Vc},iR F->iR z.att->iR (fz t F z):=λ{F z} hF hz k p e v hv=>by
  unfold fz at e
  split at e
  ·unfold wk at e
   split at e
   ·exact hz k p e v hv
   ·exact hF k p e v hv
  ·exact hF k p e v hv
 exact c (c (NT o g) g) o
theorem HS.keep {b lo B N H:Nat}{o:Op}{u v:V}{x y:Vc}{h h':List O}(s:HS b lo B N H o u v x y h)(K:Keep (λm=>m<h.length) h h'):HS b lo B N H o u v x y h':=by
 have c:∀ {n:Nat} {o:O},h[n]?=some o->h'[n]?=some o:=λe=>K.get _ _ (aA e) e;have g:Gr h h':=⟨λn o Z e=>c e,K.len⟩;refine aB λgP W=>?_;obtain⟨c1,h1⟩:=s.c1;obtain⟨c4,G⟩:=s.c4;obtain⟨q,J,z,A,L,X,e1,S,U,Y,F⟩:=s.held;refine W<|⟨c s.tab,⟨c1,c h1⟩,c s.c2,c s.c3,⟨c4,c G⟩,c s.c5,c s.c6,s.iu.keep g.keep,s.iv.keep g.keep,s.wx,s.wy,s.pw,s.bl,s.pos,s.lB,s.BN,by have:=s.NH;have:=K.len;omega,⟨q,J,z,A,L,X,c e1,c S,U.keep g,c Y,F.keep g⟩⟩
theorem HS.gr {lo:Nat}{o:Op}{x y:Vc}(s:HS b lo B N H o u v x y h)(K:Gr h h'):HS b lo B N H o u v x y h':=s.keep K.keep
structure TS (b lo B N H:Nat) (o:Op) (u v:V) (x y:Vc) (q:DR) (k:Str) (items:List V) (X:LL) (Lf Rt:Nat) (h:List O):Prop where
 hs:HS b lo B N H o u v x y h
 nx:dE x.kind
 ny:dE y.kind
 told:IsV zg h X.told ⟨k,items,hj q (aL x.items.length y.items.length) x y⟩
 left:X.left=.ref Lf
 right:X.right=.ref Rt
 lL:∃l,h[Lf]?=some (.list l)/\l.length=x.items.length
 lR:∃l,h[Rt]?=some (.list l)/\l.length=y.items.length
 shape:zh h q X.shape
 total:X.total=.int (aL x.items.length y.items.length:Nat)
theorem Fe {lo Lf Rt:Nat}{o:Op}{x y:Vc}{q:DR}{items:List V}{X:LL}(s:TS b lo B N H o u v x y q k items X Lf Rt h)(L:mc X over lc)(U:4200<wf):
  ∃h',tQ (Tj wf (j+3)) b X lc h=.ok (.bool true) h'/\Keep (λm=>m<b) h h':=by
 refine bO (tQ (Tj wf (j+3)) b X lc h) λgQ gR=>?_;unfold tQ;have F:=s.hs;refine aB λJ z=>bw (dX (wf:=wf) (j:=j+2) s.told (o4 U)) λd1 D1 h1 e1 s1 G=>z<|az e1 ?_;have g:=F.gr G;refine az ((aE g.c5))<|az ((aE g.c6))<|aB λJ z=>ac (s.lL) λl el ll=>ac (s.lR) λr er lr=>z ?_;rw[s.left,s.right];refine az ((dx (G.get _ _ trivial el) (by have:=F.wx.len;exact Lu ll this)))<|az ((dx (G.get _ _ trivial er) (by have:=F.wy.len;exact Lu lr this))) ?_;rw[ll,lr,s.total];have Y:zh h1 q X.shape:=by
  have:=s.shape;induction q using Vu with
  |dim ds=>refine ac (this) λr e l=>?_;exact⟨r,e,G.get _ _ trivial l⟩
  |no=>exact this
  |bad m=>exact this
 refine aB λJ z=>bw (Ah (wf:=wf) (j:=j+1) (t:=aL x.items.length y.items.length) g.iu g.iv Y (o4 U)) λd2 D2 S e2 s2 g2=>z<|az e2 ?_;rw[Hh]at s2;refine az ((vd (s1.keep (g2.keep (P:=λn=>h.length<=n))) s2 (Ku F.wx.a.data F.wy.a.data)))<|qQ ?_;have A:=g.gr g2;refine az ((aE A.c5))<|az ((aE A.c6))<|az ((aH _ _)) ?_;have c:=A.gr (Keep.app [O.list [u,v]]);have n3:=ay S (O.list [u,v]);have g03:Gr h (S++ [O.list [u,v]]):=G.trans (g2.trans (Keep.app _));generalize S++ [O.list [u,v]]=h3 at*;refine az ((dg n3))<|aB λJ z=>aV (Dg (wf:=wf) (j:=j) (lo:=lo) (B:=B) ⟨c.iu,c.wx,s.nx⟩ ⟨c.iv,c.wy,s.ny⟩ n3 (by have:=c.BN;have:=c.NH;omega) c.lB c.bl c.tab c.pos c.c1 c.c4 U L) λlc' h4 e4 W k4=>z<|az e4 ?_;rw[Kr W];refine aB λJ z=>ac (Kt (wf:=wf) (j:=j) (b:=b) (k4.get _ _ (by have:=c.pos;exact LO) c.tab)) λh' e' g'=>z<|gR _<|⟨h',e',(g03.keep.trans (k4.mono λm Z p=>by exact⟨U2 (Nat.lt_succ_of_lt p),U2 (Uf 4 p)⟩)).trans g'.keep⟩
theorem Dm {k i a:V}{t:Str}(c:h[n]?=some (bp k i a)):cmp .Eq (.ref n) (.str t) h=.ok false h:=by
 have g:im h (.ref n)=true:=by show(oP h[n]?).isSome=true;rw[c];rfl
 show(bif im h (.ref n)then R.ok false h else .bad)=_
 rw[g];rfl
theorem Kv {k i a:V}(c:h[n]?=some (bp k i a)):isV "str" (.ref n) h=.ok (.bool false) h:=by
 unfold isV;rw[Vn (by decide),Vo rfl]
 show(nC h (.ref n)).elim _ _=_
 rw[Bn c,Option.elim_some,Vo rfl]
theorem Aj {wf j b lo B N H Lf Rt Du It:Nat}{o:Op}{x y:Vc}{q:DR}{items notes:List V}{X:LL}(s:TS b lo B N H o u v x y q k items X Lf Rt h)(G:mc X over lc)(hw:4200<wf)
  (Y:X.kind=.str k)(g:k≠ "NULL")(U:X.items=.ref It)(hd:X.due=.ref Du)(W:h[It]?=some (.list items))(eD:h[Du]?=some (.list notes))(eN:h[N]?=some (.list notes))(F:∀v∈items,Dv v)(J:∀v∈notes,Dv v):
  ∃h',kC (Tj wf (j+3)) b X lc h=.ok (.bool true) h'/\Keep (λm=>m<b) h h':=by
 have last:=Fe (j:=j) s G hw;unfold kC;refine aB λgP gH=>?_;obtain⟨n,A,L,e3⟩:∃n,X.told=.ref n/\cmp .Eq (.ref n) (.str "non-conformable arrays") h=.ok false h/\isV "str" (.ref n) h=.ok (.bool false) h:=by
  have:=s.told;generalize X.told=w at this;generalize hz:(⟨k,items,hj q (aL x.items.length y.items.length) x y⟩:Vc)=z at this;cases this with
  |null p e f=>cases hz;exact absurd rfl g
  |vec hk' hl p1 p2 A L ha=>exact⟨_,rfl,Dm A,Kv A⟩
 refine aP (s.told.items g) λi Z S li=>?_;have c:=s.told.kind;refine gH ?_;rw[A]at S c ⊢;unfold iq;rw[aa L,Ve,aa e3,aW,ae,Ve,aa c,Y,iJ,ae,UD rfl,Bool.not_true,Ve,aa S,U,aa (EP li W F),Ve,aa (aE s.hs.c2),hd,aa (EP eN eD J),Ve];exact last
theorem TS.keep {b lo B N H Lf Rt:Nat}{o:Op}{u v:V}{x y:Vc}{q:DR}{k:Str}{items:List V}{X:LL}{h h':List O}(s:TS b lo B N H o u v x y q k items X Lf Rt h)(Du:Nat)(L:h.length<=h'.length)
  (K:Keep (λm=>m≠Du) h h')(z:HS b lo B N H o u v x y h')(told:IsV (λm=>m≠Du) h X.told ⟨k,items,hj q (aL x.items.length y.items.length) x y⟩)(F:Lf≠Du)(c:Rt≠Du)(A:∀r,X.shape=.ref r->r≠Du):TS b lo B N H o u v x y q k items X Lf Rt h':=by
 refine ac (s.lL) λl el J=>ac (s.lR) λr G g=>⟨z,s.nx,s.ny,(told.keep K).mono λZ Z Z=>trivial,s.left,s.right,⟨l,K.get _ _ F el,J⟩,⟨r,K.get _ _ c G,g⟩, ?_,s.total⟩;have:=s.shape;induction q using Vu with
 |dim ds=>refine ac (this) λr e l=>?_;exact⟨r,e,K.get _ _ (A r e) l⟩
 |no=>exact this
 |bad m=>exact this
theorem NU {g c:Option (List Int)}{e:Str}(x:n<=9)(o:m<=9)(h:cf g c n m=.bad e):e≠ "":=by
 have k:∀a t:Nat,CU a t≠ "":=λa t q=>by
  have:=Vk Str.length q;unfold CU at this;rw[bB,bB,bB,bB]at this;have k1:(Str.ofString "dims [product ").length=14:=by decide
  have k2:(Str.ofString "").length=0:=by decide
  rw[k1,k2]at this;exact P5 this
 have fc:∀(a:List Int) (n m:Nat),ce a n m=.bad e->e≠ "":=λa n m q=>by
  by_cases p:(n=1/\m>1)\/(m=0/\n>0)
  ·exact DR.noConfusion ((Vo p).symm.trans q)
  ·have q:=(Vn p).symm.trans q
   by_cases r:n=aL n m
   ·exact DR.noConfusion ((Vo r).symm.trans q)
   ·exact DR.bad.inj ((Vn r).symm.trans q)▸k _ _
 induction g using Vp with
 |none=>
  induction c using Vp with
  |none=>cases h
  |some b=>exact fc _ _ _ h
 |some a=>
  induction c using Vp with
  |none=>exact fc _ _ _ h
  |some b=>
   have h':(if a=b then DR.dim a else .bad "non-conformable arrays")=.bad e:=h;by_cases p:a=b
   ·exact DR.noConfusion ((Vo p).symm.trans h')
   ·exact DR.bad.inj ((Vn p).symm.trans h')▸(by decide)
theorem Ak(g o:Option (List Int))(n m:Nat)(over:Bool):(∀v∈ca over (bE g o n m []) iN,Dv v)/\(bE g o n m []).length<=2:=by
 unfold bE ca;refine⟨λv c=>?_, ?_⟩
 ·repeat' split at c
  all_goals simp at c
  all_goals rcases c with rfl|rfl|rfl
  all_goals exact .str _
 ·repeat' split
  all_goals simp
theorem Ans.dv {o:Op}{x y:Vc}{items:List V}{over:Bool}(a:Ans o x y t k items over):(∀v∈items,Dv v)/\(k= "double"\/k= "integer"):=by
 by_cases A:lP o x y
 ·refine bW (a.dbl A) λl r Z Z q g c=>?_;subst q;subst g;subst c
  exact⟨λv z=>by obtain⟨i,_,rfl⟩:=UV.mp z;exact Ip _,.inl rfl⟩
 ·refine bW (a.int A) λl r Z Z q g c=>?_;subst q;subst g;subst c
  exact⟨λv z=>by obtain⟨i,_,rfl⟩:=UV.mp z;exact Dd _,.inr rfl⟩
theorem Ff {wf j b lo B N H Lf Rt Du:Nat}{o:Op}{u v S told shape:V}{x y:Vc}{q:DR}{d1 d2:Option (List Int)}{items:List V}{over:Bool}{z g:List O}(c:HS b lo B N H o u v x y z)(nx:dE x.kind)(ny:dE y.kind)
  (A:Ans o x y (aL x.items.length y.items.length) k items over)(it:IsV (λm=>m<z.length) z told ⟨k,items,hj q (aL x.items.length y.items.length) x y⟩)(eN:z[N]?=some (.list (ca over (bE d1 d2 x.items.length y.items.length []) iN)))
  (eL:z[Lf]?=some (.list (b7 k x)))(eR:z[Rt]?=some (.list (b7 k y)))(K:Keep (λm=>m<z.length) z g)(hD:z.length<=Du)(eD:g[Du]?=some (.list (bE d1 d2 x.items.length y.items.length [])))(sh:zh g q shape)(nS:∀r,shape=.ref r->r≠Du)(hw:4200<wf):
  ∃h',Dh (Tj wf (j+4)) b S (.str k) (.ref H) told (.ref Lf) (.ref Rt) (.ref Du) (.str "") shape (.int (aL x.items.length y.items.length:Nat)) g=.ok (.bool true) h'/\Keep (λm=>m<b) g h':=by
 refine bO (Dh (Tj wf (j+4)) b S (.str k) (.ref H) told (.ref Lf) (.ref Rt) (.ref Du) (.str "") shape (.int (aL x.items.length y.items.length:Nat)) g) λgQ gR=>?_;have ht:=mV c.wx.len c.wy.len;have lL:=aA eL;have lR:=aA eR;have lN:=aA eN;have lD:=aA eD;have lK:=K.len;refine az ((aH _ _))<|bC (cW (xr ht)) ?_;have g5:Gr g (g++ [O.list []]):=Keep.app _;have n5:=ay g (O.list []);have l5:(g++ [O.list []]).length=g.length+1:=by simp
 generalize g++ [O.list []]=h5 at*;have K5:Keep (λm=>m<z.length) z h5:=K.trans g5.keep;have L:=aA c.c3;refine bM (vm (j:=j) (b:=b) (X:=⟨S,.str k,.ref H,told,.ref Lf,.ref Rt,.ref Du,.str "",shape,.int (aL x.items.length y.items.length:Nat),.ref g.length⟩) A c.wx.len c.wy.len c.pw rfl rfl rfl rfl (K5.get _ _ L c.c3) (K5.get _ _ lL eL) (K5.get _ _ lR eR) n5 (Ds lL lK) (Ds lR lK) (HO hw)) λlc h6 e6 hl6 k6 eI=>az ((show bF (Tj wf (j+4)) 23 "law" b [19] (.range (aL x.items.length y.items.length)) [("script",S),("kind",.str k),("held",.ref H),("told",told),("left",.ref Lf),("right",.ref Rt),("due",.ref Du),("refused",.str ""),("shape",shape),("total",.int (aL x.items.length y.items.length:Nat)),("items",.ref g.length),("over",(.bool false))] h5=_ from e6)) ?_;have K6:Keep (λm=>m<z.length) z h6:=K5.trans (k6.mono λm Z p=>by exact Aq lK p);have G:=k6.get _ _ (o8 lD) (g5.get _ _ trivial eD);have sh6:zh h6 q shape:=by
  induction q using Vu with
  |dim ds=>refine ac (sh) λr e l=>?_;exact⟨r,e,k6.get _ _ (by have:=aA l;exact o8 this) (g5.get _ _ trivial l)⟩
  |no=>exact sh
  |bad m=>exact sh
 refine af (Ak d1 d2 x.items.length y.items.length over) λdvN nl=>af (A.dv) λdvI hk=>?_;have hkn:k≠ "NULL":=by rcases hk with rfl|rfl<;>decide
 have len6:=k6.len;have U:∀(Y:List O),Keep (λm=>m≠Du) h6 Y->Y[Du]?=some (.list (ca over (bE d1 d2 x.items.length y.items.length []) iN))->mc ⟨S,.str k,.ref H,told,.ref Lf,.ref Rt,.ref Du,.str "",shape,.int (aL x.items.length y.items.length:Nat),.ref g.length⟩ (.bool over) lc->
   ∃h',kC (Tj wf (j+4)) b ⟨S,.str k,.ref H,told,.ref Lf,.ref Rt,.ref Du,.str "",shape,.int (aL x.items.length y.items.length:Nat),.ref g.length⟩ lc Y=.ok (.bool true) h'/\Keep (λm=>m<b) Y h':=λY K7 eD7 J=>by
  have F:Keep (λm=>m<z.length) z Y:=K6.trans (K7.mono λm Z p=>by exact Aq hD p);have sh7:zh Y q shape:=by
   induction q using Vu with
   |dim ds=>refine ac (sh6) λr e l=>?_;exact⟨r,e,K7.get _ _ (nS r e) l⟩
   |no=>exact sh6
   |bad m=>exact sh6
  exact Aj (j:=j+1) (Lf:=Lf) (Rt:=Rt) (Du:=Du) (It:=g.length) (q:=q) (items:=items) (notes:=ca over (bE d1 d2 x.items.length y.items.length []) iN)
   ⟨c.keep F,nx,ny,(it.keep F).mono λZ Z Z=>trivial,rfl,rfl,⟨_,F.get _ _ lL eL,eu _ _⟩,⟨_,F.get _ _ lR eR,eu _ _⟩,sh7,rfl⟩ J hw rfl hkn rfl rfl (K7.get _ _ (rP lD) eI) eD7 (F.get _ _ lN eN) dvI dvN
 have W:mc ⟨S,.str k,.ref H,told,.ref Lf,.ref Rt,.ref Du,.str "",shape,.int (aL x.items.length y.items.length:Nat),.ref g.length⟩ (.bool over) lc-> ∃h',ql (Tj wf (j+4)) b ⟨S,.str k,.ref H,told,.ref Lf,.ref Rt,.ref Du,.str "",shape,.int (aL x.items.length y.items.length:Nat),.ref g.length⟩ (.bool over) lc h6=.ok (.bool true) h'/\Keep (λm=>m<b) h6 h':=λJ=>by
  unfold ql;rw[aW,ae];induction over using Vs with
  |false=>exact U h6 Keep.refl G J
  |true=>
   rw[Vj];dsimp only;rw[aa (cP G (by decide)),aa (dh G (TT nl (by decide)))];refine ac (U _ (Keep.set (by simp)) (bg G) J) λh' e' k'=>⟨h',e',(Keep.set (by have:=c.bl;have:=c.lB;have:=c.BN;have:=c.NH;exact λh=>absurd (tt (tt h (Ue _ 4)) (tt L hD)) (Nat.not_succ_le_self _))).trans k'⟩
 rcases hl6 with rfl|⟨s,p,q',rfl⟩
 ·refine ac (W (.inl rfl)) λh' e k'=>gR _<|⟨h',(O6 _ _ _ _ _).trans e,(g5.keep.trans (k6.mono λm Z p=>by have:=c.bl;have:=c.lB;have:=c.BN;have:=c.NH;exact Lw hD lD L p)).trans k'⟩
 ·refine ac (W (.inr (.inr (.inl ⟨s,p,q',rfl⟩)))) λh' e k'=>gR _<|⟨h',(O7 _ _ _ _ _ _ _ _).trans e,(g5.keep.trans (k6.mono λm Z p=>by have:=c.bl;have:=c.lB;have:=c.BN;have:=c.NH;exact Lw hD lD L p)).trans k'⟩
theorem Fg {lo:Nat}{o:Op}{u v S told:V}{x y:Vc}{d1 X:Option (List Int)}(F:HS b lo B N H o u v x y h)(nx:dE x.kind)(ny:dE y.kind)(h1:dG x.att x.items.length d1)(h2:dG y.att y.items.length X)
  (hk:(lP o x y->k= "double")/\(¬lP o x y->k= "integer"))
  (T:match cf d1 X x.items.length y.items.length with
  |.bad e=>told=.str e
  |q=>∃k items over,Ans o x y (aL x.items.length y.items.length) k items over/\IsV (λm=>lo<=m) h told ⟨k,items,hj q (aL x.items.length y.items.length) x y⟩/\h[N]?=some (.list (ca over (bE d1 X x.items.length y.items.length []) iN)))(hw:4200<wf):
  ∃h',zn (Tj wf (j+4)) b S (.str k) (.ref H) told h=.ok (.bool true) h'/\Keep (λm=>m<b) h h':=by
 refine bO (zn (Tj wf (j+4)) b S (.str k) (.ref H) told h) λJ mk=>az ((aE F.c5))<|bM (jh (wf:=wf) (j:=j+3) F.iu k hw) λLf h1' e1 g1 Z l1=>?_;have W:=F.gr g1;refine az e1<|az ((aE W.c6))<|bM (jh (wf:=wf) (j:=j+3) W.iv k hw) λRt c e2 g2 Z l2=>?_;have hs2:=W.gr g2;have l12:=g2.get _ _ trivial l1;refine az e2<|az ((aH _ _)) ?_;have g3:Gr c (c++ [O.list []]):=Keep.app _;have n3:=ay c (O.list []);generalize c++ [O.list []]=Y at*;have L:=hs2.gr g3;have lx:=F.wx.len;have ly:=F.wy.len;have eL:builtin "len" [.ref Lf] Y=.ok (.int x.items.length) Y:=eu k x▸dx (g3.get _ _ trivial l12) (by rw[eu];exact L9 lx);have eR:builtin "len" [.ref Rt] Y=.ok (.int y.items.length) Y:=eu k y▸dx (g3.get _ _ trivial l2) (by rw[eu];exact L9 ly);refine az (aE L.c5)<|az (aE L.c6)<|az eL<|az eR ?_;have ls:=Ac (wf:=wf) (j:=j+2) L.iu L.iv h1.dims h2.dims n3 (by simp) lx ly;have G:Gr h c:=g1.trans g2;have lb:b<=c.length:=UZ (UZ (UY (TT (Ue b 6) F.bl)) (UZ F.lB F.BN)) (UZ (UY F.NH) G.len);have K34:∀ {z},Keep (λi=>i≠c.length) Y z->Keep (λm=>m<b) h z:=λK=>(Gr.keep (G.trans g3)).trans (K.mono λm Z p=>U2 (TU p lb));have g:∀ {q:DR} {shape:V} {z:List O},(∃k items over,Ans o x y (aL x.items.length y.items.length) k items over/\IsV (λm=>lo<=m) h told ⟨k,items,hj q (aL x.items.length y.items.length) x y⟩/\h[N]?=some (.list (ca over (bE d1 X x.items.length y.items.length []) iN)))->
   Keep (λi=>i≠c.length) Y z->z[c.length]?=some (.list (bE d1 X x.items.length y.items.length []))->zh z q shape->(∀r,shape=.ref r->r≠c.length)->
   J (mq (j0 (.tup [.str "",shape,.int (aL x.items.length y.items.length:Nat)])) (xm (Tj wf (j+4)) b S (.str k) (.ref H) told (.ref Lf) (.ref Rt) (.ref c.length)) z):=λ{q shape z} hA U n4 sh nS=>by
  refine bw (hA) λk' items over A it eN=>?_;have hkk:k'=k:=by
   by_cases hD:lP o x y
   ·exact bM (A.dbl hD) λl r Z Z e Z=>e.trans (hk.1 hD).symm
   ·exact bM (A.int hD) λl r Z Z e Z=>e.trans (hk.2 hD).symm
  subst hkk;refine bC (show j0 (.tup [.str "",shape,.int (aL x.items.length y.items.length:Nat)])=mr (.str "",shape,.int (aL x.items.length y.items.length:Nat)) from rfl) ?_;unfold xm;refine SD (show cmp .NotEq (.str "") (.str "")=mr false from(iJ ..).trans (by rw[UD rfl];rfl)) (mk _ ?_);exact ac (Ff (S:=S) (H:=H) hs2 nx ny A ((it.keep (Gr.keep G)).mono λn hn Z=>hn) (G.get _ _ trivial eN) l12 l2 ((Gr.keep g3).trans (U.mono λm Z p=>by exact o8 p)) (U9 _) n4 sh nS hw) λh' e' k'=>⟨h',e',(K34 U).trans k'⟩
 induction hq:cf d1 X x.items.length y.items.length using Vu with
 |bad e=>
  rw[hq]at ls T;refine ac (ls) λz e4 U=>?_;have T':told=.str e:=T;refine az e4<|bC (show j0 (.tup [.str e,.none,.int (aL x.items.length y.items.length:Nat)])=mr (.str e,.none,.int (aL x.items.length y.items.length:Nat)) from rfl) ?_;unfold xm;refine SC (show cmp .NotEq (.str e) (.str "")=mr true from(iJ ..).trans (by rw[Uv (NU lx ly hq)];rfl)) (mk _ ?_);exact⟨z,by rw[T'];exact aQ (aY ..) (by rw[UD rfl];rfl),K34 U⟩
 |no=>
  rw[hq]at ls T;refine aP (ls) λz e4 U n4=>az e4 (g (q:=.no) T U n4 rfl λr q=>by cases q)
 |dim ds=>
  rw[hq]at ls T;refine bW (ls) λr z e4 U n4 nr lr=>az e4 (g (q:=.dim ds) T U n4 ⟨r,rfl,lr⟩ λr' q=>by cases q;exact nr)
theorem qm {x:Vc}(w:Wf x):(x.kind= "character")↔ ¬dE x.kind:=by
 have kd:=w.kd;generalize x.kind=k at kd;generalize x.items=l at kd;cases kd with
 |null=>exact⟨λq=>absurd q (by decide),λq=>absurd (.inl rfl) q⟩
 |logical=>exact⟨λq=>absurd q (by decide),λq=>absurd (.inr (.inl rfl)) q⟩
 |integer=>exact⟨λq=>absurd q (by decide),λq=>absurd (.inr (.inr (.inl rfl))) q⟩
 |double=>exact⟨λq=>absurd q (by decide),λq=>absurd (.inr (.inr (.inr rfl))) q⟩
 |character=>exact⟨λZ q=>by rcases q with q|q|q|q<;>exact absurd q (by decide),λZ=>rfl⟩
theorem Fh {g:Nat}{x y:Vc}(a:Held h H x y)(b:Held h g x y)(o:Wf x)(c:Wf y):cmp .NotEq (.ref H) (.ref g) h=.ok false h:=by
 obtain⟨j1,t1,W,Z,E1,E2,J,U,z,L,F⟩:=a.ex;obtain⟨X,s1,Y,s2,D1,D2,S,b2,q,G,A⟩:=b.ex;refine gc (r:=true) ?_;rw[jI J S];exact Vk (Option.map _) (jL (lC U b2 o.kd.dv) (jL (pE z q o.a.data) (lA (lC L G c.kd.dv) (pE F A c.a.data))))
theorem pO.gr {lo:Nat}{o:Op}{x y:Vc}{z G:Option (List Int)}{told:V}(t:pO lo N h o x y z G told)(g:Gr h h'):pO lo N h' o x y z G told:=by
 unfold pO at t ⊢;refine t.imp id λq=>⟨q.1, ?_⟩;have T:=q.2;induction hq:cf z G x.items.length y.items.length using Vu with
 |bad e=>rw[hq]at T;exact T
 |no=>rw[hq]at T;exact bw T λc items over A it F=>bJ c items over ⟨A,it.keep (Gr.keep g),g.get _ _ trivial F⟩
 |dim ds=>rw[hq]at T;exact bw T λc items over A it F=>bJ c items over ⟨A,it.keep (Gr.keep g),g.get _ _ trivial F⟩
theorem Fi {lo:Nat}{o:Op}{u v S told:V}{x y:Vc}{U L:Option (List Int)}(g:HS b lo B N H o u v x y h)(h1:dG x.att x.items.length U)(h2:dG y.att y.items.length L)
  (hk:(lP o x y->k= "double")/\(¬lP o x y->k= "integer"))(T:pO lo N h o x y U L told)(W:4200<wf):∃h',tO (Tj wf (j+4)) b S (.str k) (.ref H) told h=.ok (.bool true) h'/\Keep (λm=>m<b) h h':=by
 refine bO (tO (Tj wf (j+4)) b S (.str k) (.ref H) told h) λJ Y=>aV (Bw (wf:=wf) (j:=j+3) g.c5 g.c6 g.iu g.iv (λG=>mq (cmp .NotEq (.ref H) G) λF=>bif F then(mr (.bool false))else(Iq (Tj wf (j+4)) b S (.str k) (.ref H) told)) W) λH' h5 e5 A se=>?_;have c:=g.gr A;refine NR (P:=J) e5<|az (Fh c.held (se.held Keep.refl) g.wx g.wy)<|qQ<|az (aE c.c5)<|az c.iu.kind<|az (aE c.c6)<|az c.iv.kind<|bC (SE ..) ?_;by_cases z:(("character":Str)=x.kind\/("character":Str)=y.kind)
 ·refine qP z (Y _ ?_)
  have hn:¬(dE x.kind/\dE y.kind):=λq=>z.elim (λz=>(qm g.wx).mp z.symm q.1) λz=>(qm g.wy).mp z.symm q.2;rcases T with⟨_,rfl⟩|⟨q,_⟩
  ·exact⟨h5,aQ (aY ..) (by rw[UD rfl];rfl),A.keep⟩
  ·exact absurd q hn
 ·refine sZ z (Y _ ?_)
  have Z:dE x.kind:=Classical.byContradiction λq=>z (.inl ((qm g.wx).mpr q).symm);have X:dE y.kind:=Classical.byContradiction λq=>z (.inr ((qm g.wy).mpr q).symm);rcases T.gr A with⟨q,_⟩|⟨_,T⟩
  ·exact absurd ⟨Z,X⟩ q
  ·exact ac (Fg (wf:=wf) (j:=j) (S:=S) (told:=told) c Z X h1 h2 hk T W) λh' e' k'=>⟨h',e',(Gr.keep A).trans k'⟩
theorem Fj {lo:Nat}{o:Op}{u v S:V}{x y:Vc}(s:LS b lo o u v x y h)(L:4200<wf):∃h',kB (Tj wf (j+9)) b S h=.ok (.bool true) h'/\Keep (λm=>m<b) h h':=by
 refine bO (kB (Tj wf (j+9)) b S h) λJ mk=>?_;have go:∀k:Str,(lP o x y->k= "double")/\(¬lP o x y->k= "integer")->J (jq (Tj wf (j+9)) b S (.str k) h):=λk X=>mk _ (by
  refine am s.wx.a.dim λd1 U=>am s.wy.a.dim λd2 G=>mZ (Fd (j:=j) (S:=S) (kind:=.str k) s U G L) λtold h' N H e Y T W=>?_;exact ac (Fi (wf:=wf) (j:=j+5) (S:=S) Y U G X T L) λF e2 k2=>⟨F,e.trans e2,W.trans k2⟩)
 have c:lP o x y->J (jq (Tj wf (j+9)) b S (.str "double") h):=λq=>go "double" ⟨λZ=>rfl,λn=>absurd q n⟩;refine az (aE s.c5)<|az s.iu.kind<|bC (aY ..) ?_;by_cases A:x.kind= "double"
 ·exact qP A (c (.inl A))
 refine sZ A<|az (aE s.c6)<|az s.iv.kind<|bC (aY ..) ?_;by_cases z:y.kind= "double"
 ·exact qP z (c (.inr (.inl z)))
 refine sZ z<|az (aE s.c3)<|bC (zc ..) ?_;by_cases g:o.whole=false
 ·exact EF (by rw[g];rfl) (c (.inr (.inr g)))
 ·exact Be (by rw[Bool.of_not_eq_false g];rfl) (go "integer" ⟨λq=>q.elim (λq=>absurd q A) λq=>q.elim (λq=>absurd q z) λq=>absurd q g,λZ=>rfl⟩)
theorem O8 {wf j S:Nat}{h:List O}(h0:h[0]?=some .tab)(J:h[S]?=some (.flist l))(G:qg l)(q:l.length<=line*line)(z:4200<wf):
  ∃h',T ai wf 24 (j+10) "law" [.ref S] h=.ok (.bool true) h'/\Keep (λm=>m<h.length) h h':=by
 have c:0<h.length:=aA h0;refine aB λL F=>Ow (Fc (wf:=wf) (j:=j+5) h0 J G q c (HO z)) λh' lo o u v x y e s k1=>ac (Fj (j:=j) (S:=.ref S) s z) λg A k2=>F<|⟨g, ?_,k1.trans k2⟩;rw[xf (by kernel_rfl),show cellN (aq "law").scope.names=7 by kernel_rfl,O5,e];exact A
end Mine
end
noncomputable section
open PySem PySem.W PyProof.Rows
namespace Mine
def qo(p:Program)(w:World)(a:Nat)(b:Option Value):Nat->SharedT->Thread->Option SharedT
 |0,_,_=>none
 |n+1,s,t=>match through t with
  |true=>some s
  |false=>match Fast.tw6613529449190102663 a b t with
   |false=>none
   |true=>match Fast.tw10156331382660048174 (Fast.tw11892475500146522536 Fast.tw14364793385576792824) p w s t with
    |some (s',t')=>qo p w a b n s' t'
    |none=>none
theorem tR {p:Program}{w:World}{a:Nat}{b:Option Value}:∀ {n:Nat} {s s':SharedT} {t:Thread},qo p w a b n s t=some s'->topRun treeTable p w a b n s.abs t=some s'.abs
 |0,s,s',t,h=>by cases h
 |n+1,s,s',t,h=>by
  unfold qo at h;unfold topRun;rw[<-Fast.te6613529449190102663,<-Fast.te10156331382660048174,<-Fast.te11892475500146522536,<-Fast.te14364793385576792824]at h;cases ht:through t with
  |true=>rw[ht]at h;cases h;rfl
  |false=>
   rw[ht]at h;dsimp only at h ⊢;cases hk:stepOk a b t with
   |false=>rw[hk]at h;cases h
   |true=>
    rw[hk]at h;dsimp only at h ⊢;cases hs:stepT (denote treeTable) p w s t with
    |none=>rw[hs]at h;cases h
    |some r=>obtain⟨d,c⟩:=r;rw[hs]at h;rw[stepT_spec hs];exact tR h
noncomputable def kE {b:Type}:List b->List b×List b
 | []=>([],[])
 |a::r=>(a::(kE r).2,(kE r).1)
theorem vn {c:Type}:∀(l:List c) (i:Nat),(kE l).1[i]?=l[2*i]? /\(kE l).2[i]?=l[2*i+1]?
 | [],i=>by simp[kE]
 |a::r,i=>by
  have b:=vn r;refine⟨?_, ?_⟩
  ·show(a::(kE r).2)[i]?=_
   cases i with
   |zero=>rfl
   |succ i=>
    rw[S7,(b i).2,show 2*(i+1)=(2*i+1)+1 from rfl,S7]
  ·show(kE r).1[i]?=_
   rw[(b i).1,S7]
theorem Bx {b:Type}:∀(l:List b),(kE l).1.length+(kE l).2.length=l.length
 | []=>rfl
 |a::r=>by
  have:=Bx r
  show(a::(kE r).2).length+(kE r).1.length=_
  simp;exact Q5 this
def tS:Nat->List Obj->BT
 |0,_=>.nil
 |_+1,[]=>.nil
 |k+1,x::xs=>.node x (tS k (kE xs).1) (tS k (kE xs).2)
theorem vo:∀(k:Nat) (l:List Obj) (i:Nat),l.length<=k->(tS k l).get i=l[i]?
 |0,l,i,h=>by
  have:l= []:=List.eq_nil_of_length_eq_zero (PP h);subst this;rfl
 |k+1,[],i,h=>rfl
 |k+1,x::xs,i,h=>by
  have c:=Bx xs;have h':xs.length<=k:=by simpa using h
  show(BT.node x (tS k (kE xs).1) (tS k (kE xs).2)).get i=_
  rw[BT.get_node];by_cases b:i=0
  ·subst b;rw[Vo rfl];rfl
  ·rw[Vn b]
   obtain⟨i,rfl⟩:∃j,i=j+1:=⟨i-1,by exact(Nat.sub_add_cancel (Nat.pos_of_ne_zero b)).symm⟩;rw[S7];by_cases a:(i+1)%2=1
   ·rw[Vo a,vo k _ _ (Q9 c h'),(vn xs _).1];congr 1;exact QO a
   ·rw[Vn a,vo k _ _ (RH c h'),(vn xs _).2];congr 1;exact R5 a
def PI(s:Shared):SharedT:=⟨tS s.heap.objs.size s.heap.objs.toList,s.heap.objs.size,s.heap.life,s.gens,s.drawn,s.toks,s.os⟩
theorem Kw(s:Shared):(PI s).abs=s:=by
 obtain⟨⟨⟨a⟩,f⟩,d,b,c,h⟩:=s
 show(⟨⟨((tS a.length a).list a.length).toArray,f⟩,d,b,c,h⟩:Shared)=_
 have e:(tS a.length a).list a.length=a:=by
  unfold BT.list;refine List.ext_getElem? λi=>?_;rw[TY];by_cases g:i<a.length
  ·rw[List.getElem?_range g]
   show some (((tS a.length a).get i).getD default)=_;rw[vo _ _ _ (U9 _),S1 g];rfl
  ·rw[Th (by simpa using g),Th (Dw g)];rfl
 rw[e]
noncomputable def Hl(T:BT)(n:Nat)(a:Addr):Option Obj:=bif Nat.blt a n then alive ((T.get a).getD default)else none
theorem Kx(T:BT)(n:Nat)(l:Life):(absHeap T n l).get?=Hl T n:=by
 funext a
 unfold Heap.get? Hl;rw[absHeap_at];by_cases h:a<n
 ·rw[Vo h,show Nat.blt a n=true from Nat.ble_eq.mpr h,Vj]
  generalize (T.get a).getD default=o;obtain⟨c,d,b,e⟩:=o;cases b<;>rfl
 ·rw[Vn h,show Nat.blt a n=false from TW.mpr λq=>h (Nat.ble_eq.mp q)];rfl
noncomputable abbrev Fk:=Fast.tw8920871248978507458
def NV(p q:Program)(loose:List Str)(Xt:Shared->Bool){b:Type}(F:Heap->(Addr->Option Obj)->(Str->Option Value)->(Str->Option Value)->b)(c:Bool)(a:Heap)(s:SharedT):=
 match staticsOk (importedModules p.main.body) a s.abs.heap&&namesBound p s.abs.heap&&gensDone s.abs&&laidKept a s.abs.heap with
 |true=>some (Fast.tw4187177175401517315 q loose (importedModules p.main.body) Xt c s.abs,F s.abs.heap (Hl s.tree s.n) (Fk s.abs.heap mainGlobals) (Fk s.abs.heap builtinsNs))
 |false=>none
theorem LeftO.of_fast {p q:Program}{loose:List Str}{Xt:Shared->Bool}{f:Type}{F:Heap->(Addr->Option Obj)->(Str->Option Value)->(Str->Option Value)->f}{Ya:World->f}{N:Nat}{i:Bool}{H:Params->Heap}{d:Drawn}{k:Nat}
  (o:∀w:World,(fencedOpening treeTable p w N).map (λs=>(s.heap,s.gens,s.drawn,s.toks))=some (H w.params, #[],d,k))
  (z:∀w:World,(H w.params).isNs mainGlobals=true)
  (h:∀w c,(qo p w (H w.params).objs.size (Fk (H w.params) mainGlobals "__annotations__") N (PI ⟨H w.params, #[],d,k,c⟩) (topStub p)).bind (NV p q loose Xt F i (H w.params))=some (openGood q loose,Ya w)):
  LeftO p q loose Xt (λs=>F s.heap s.heap.get? (s.heap.nsMap mainGlobals) (s.heap.nsMap builtinsNs)) Ya N i:=λw=>by
 obtain⟨⟨g,gs,d,k,c⟩,e,l⟩:=Tf.mp (o w);cases l;obtain⟨a,m,b⟩:=S9.mp (h w c);have j:=tR m;rw[Kw,Fk,<-Fast.te8920871248978507458]at j;unfold NV at b;rw[Fk,<-Fast.te8920871248978507458,<-Fast.te4187177175401517315,<-Kx a.tree a.n a.life]at b;unfold openEnds;rw[e]
 show(topFrom treeTable p w N _).map _=_
 unfold topFrom;dsimp only;rw[z w];rw[show(true&&(#[]:Array GenState).size==0)=true from rfl];dsimp only;rw[j]
 show(match staticsOk (importedModules p.main.body) (H w.params) a.abs.heap&&namesBound p a.abs.heap&&gensDone a.abs&&laidKept (H w.params) a.abs.heap with|true=>some a.abs|false=>none).map _=_
 cases hc:(staticsOk (importedModules p.main.body) (H w.params) a.abs.heap&&namesBound p a.abs.heap&&gensDone a.abs&&laidKept (H w.params) a.abs.heap)with
 |false=>rw[hc]at b;cases b
 |true=>rw[hc]at b;exact b
end Mine
end
noncomputable section
open PySem PySem.W PyProof.Rows PySem.Calls
namespace Mine
variable {d:Data} {v:Value}
open Challenge
noncomputable def KA:List Addr:= [2,3,65,64,62,45,44,257,256,247,228,227,225,550]
noncomputable def oi(g:Addr->Option Obj):Frag:=KA.filterMap λa=>(g a).map λo=>(a,o)
abbrev zo (h:Heap):Frag:=oi h.get?
noncomputable def Fm(o:Obj):Bool:=o.cls==.type "list"
noncomputable def Hm(K:Frag)(C:Addr):Bool:=findIn K (.ref C) "__eq__"==some (some (.builtin "object.__eq__"))&&mroIn K C (.type "object")==some true&&findIn K (.ref C) "__getattribute__"==some (some (.builtin "object.__getattribute__"))&&
 findIn K (.ref C) "__setattr__"==some (some (.builtin "object.__setattr__"))&&hasDictIn K C&&plainOver K C&&(["kind", "items", "attrs", "shared", "loose"]:List Str).all λa=>findIn K (.ref C) a==some none
noncomputable def xn(K:Frag)(C b:Addr):Bool:=makesIn K C&&keepIn K (.ref C)&&findIn K (.ref C) "__init__"==some (some (.ref b))&&typeIn K (.ref b)==some (.type "function")
noncomputable def NW(K:Frag)(C:Addr):Bool:=kin_notT K C "str"&&plainGet K C "__class__"&&hasDictIn K C&&findIn K (.ref C) "__class__"==some (some (.builtin "object.__class__"))&&
 specialIn K (.builtin "object.__class__") "__get__"==some (some (.builtin "getset_descriptor.__get__"))&&takesIn K (.builtin "object.__class__")==some true&&mroIn K C (.type "object")==some true
theorem cw {a:Type}{o:Option a}{p:a->Bool}(h:o.any p=true):∃x,o=some x/\p x=true:=by
 induction o using Vp with
 |none=>exact ff h
 |some x=>exact⟨x,rfl,h⟩
theorem an {a b:Bool}(h:(a&&b)=true):a=true/\b=true:=Tm.mp h
noncomputable def Hn(d:Data):Option (Array Value):=by
 induction d using PySem.Data.casesOn with
 |seq vs=>exact some vs
 |_=>exact none
noncomputable def Ho(d:Data):Option (Array Value):=by
 induction d using PySem.Data.casesOn with
 |fields vs=>exact some vs
 |_=>exact none
noncomputable def Hp(d:Data):Option FuncData:=by
 induction d using PySem.Data.casesOn with
 |func fd=>exact some fd
 |_=>exact none
noncomputable def NX(d:Data):Bool:=by
 induction d using PySem.Data.casesOn with
 |plain=>exact true
 |_=>exact false
noncomputable def rO(v:Value):Option Addr:=by
 induction v using PySem.Value.casesOn with
 |ref a=>exact some a
 |_=>exact none
noncomputable def NY(v:Value):Option Str:=by
 induction v using PySem.Value.casesOn with
 |str a=>exact some a
 |_=>exact none
noncomputable def Iv(v:Value):Option Int:=by
 induction v using PySem.Value.casesOn with
 |int a=>exact some a
 |_=>exact none
noncomputable def Dn(v:Value):Bool:=by
 induction v using PySem.Value.casesOn with
 |none=>exact true
 |_=>exact false
noncomputable def Sk(k:Const):Bool:=by
 induction k using PySem.Const.casesOn with
 |none=>exact true
 |_=>exact false
def Iw(e:Expr):Bool:=by
 induction e using PySem.Expr.casesOn with
 |Constant k=>exact Sk k
 |_=>exact false
theorem By {vs:Array Value}(h:Hn d=some vs):∃n,d=.seq vs n:=by
 induction d using Vx with
 |seq vs n=>rw[Uu h];exact⟨n,rfl⟩
 |_=>exact ns h
theorem Bz {vs:Array Value}(h:Ho d=some vs):d=.fields vs:=by
 induction d using Vx with
 |fields vs=>exact Vk Data.fields (Uu h)
 |_=>exact ns h
theorem Ky {vs:FuncData}(h:Hp d=some vs):d=.func vs:=by
 induction d using Vx with
 |func vs=>exact Vk Data.func (Uu h)
 |_=>exact ns h
theorem Kz(h:NX d=true):d=.plain:=by
 induction d using Vx with
 |plain=>rfl
 |_=>exact ff h
theorem mY {a:Addr}(h:rO v=some a):v=.ref a:=by
 induction v using Vy with
 |ref=>exact Vk Value.ref (Uu h)
 |_=>exact ns h
theorem KB {a:Str}(h:NY v=some a):∃t,v=.str a t:=by
 induction v using Vy with
 |str a t=>rw[Uu h];exact⟨t,rfl⟩
 |_=>exact ns h
theorem zp {i:Int}(h:Iv v=some i):∃t,v=.int i t:=by
 induction v using Vy with
 |int a t=>rw[Uu h];exact⟨t,rfl⟩
 |_=>exact ns h
theorem vp(h:Dn v=true):v=.none:=by
 induction v using Vy with
 |none=>rfl
 |_=>exact ff h
theorem KC {e:Expr}(h:Iw e=true):∃k p,e=.Constant .none k p:=by
 induction e using Vw with
 |Constant k i p=>induction k using PySem.Const.casesOn with
  |none=>exact aU i p rfl
  |_=>exact ff h
 |_=>exact ff h
noncomputable def Sl(K:Frag):Bool:=(clsIn K 65).any (λa=>a.mro== [.ref 65,.ref 45,.type "Exception",.type "BaseException",.type "object"]&&(a.hasDict&& !a.hasDel))&&
 (specialIn K (.ref 65) "__call__"==some (some (.builtin "type.__call__"))&&(instIn K (.ref 65) (.type "type")==some true&&(keepIn K (.ref 65)&&(findIn K (.ref 65) "__setattr__"==some (some (.builtin "object.__setattr__"))&&
 (findIn K (.ref 65) "__getattribute__"==some (some (.builtin "BaseException.__getattribute__"))&&(findIn K (.ref 65) "__getattr__"==some none&&(findIn K (.ref 65) "message"==some none&&
 (findIn K (.ref 65) "__init__"==some (some (.ref 62))&&(typeIn K (.ref 62)==some (.type "function")&&
 (K.lookup 65).any λo=>o.cls==.type "type"&&(o.slots.size==6&&o.slots[4]?==some (some (.builtin "Exception.__new__"))))))))))))
def zq(g:Addr->Option Obj)(n:Str->Option Value)(x:Str)(a b:Int):Bool:=((n x).bind rO).any λT=>T !=548&&(g T).any λo=>o.cls==.type "tuple"&&(Hn o.data).any λvs=>vs.toList.map Iv== [some a,some b]
abbrev Sn (h:Heap):=zq h.get? (h.nsMap mainGlobals)
def Hq(n:Str->Option Value)(x:Str)(a:Int):Bool:=(n x).bind Iv==some a
abbrev So (h:Heap):=Hq (h.nsMap mainGlobals)
noncomputable def zs(n b:Str->Option Value)(x:Str)(v:Value):Bool:=(n x).isNone&&b x==some v
noncomputable abbrev NZ (h:Heap):=zs (h.nsMap mainGlobals) (h.nsMap builtinsNs)
def Sp(g:Addr->Option Obj)(n:Str->Option Value):Bool:=((n "__builtins__").bind rO).any λbm=>bm !=builtinsNs&&(bm !=mainGlobals&&(bm !=548&&(g bm).any λo=>o.cls==.type "module"&&(o.dict==some builtinsNs&&NX o.data)))
def N0(g:Addr->Option Obj):Bool:=(g 548).any λo=>Dn o.cls&&(o.dict.isNone&&((Ho o.data).any (λps=>ps.size==0)&&o.slots.size==0))
theorem KD {g:Addr->Option Obj}(h:N0 g=true):g 548=some (tabObj #[]):=by
 refine ac (cw h) λo i h=>af (an h) λj h=>af (an h) λe h=>af (an h) λa b=>ac (cw a) λps a f=>?_;obtain⟨c,d,l,k⟩:=o;rw[i,show c=.none from vp j,show d=none from SX.mp e,show l=.fields ps from Bz a,Array.eq_empty_of_size_eq_zero (Vd.mp f),show k= #[] from Array.eq_empty_of_size_eq_zero (Vd.mp b)]
def tT(n:Str->Option Value)(x:Str):Addr:=((n x).bind rO).getD 548
abbrev xo (h:Heap):=tT (h.nsMap mainGlobals)
noncomputable def Ix(s:Stmt):Option Str:=by
 induction s using Stmt.casesOn with
 |FunctionDef n=>exact some n
 |_=>exact none
noncomputable def defNames:List Str:=pw_nz0488_01.main.body.filterMap Ix
def jc:Option Fn:=(pw_nz0488_01.main.body.find? (fe "Refusal")).bind xJ
def Iy(g:Addr->Option Obj)(a:Value)(q:Str):Bool:=(rO a).any λc=>(g c).any λo=>(Ho o.data).any λvs=>(vs[1]?.bind NY).any λn=>Fast.sEq n q
theorem Hr {h:Heap}{a:Value}{q:Str}(x:Iy h.get? a q=true):h.CodeRec a q:=
 ac (cw x) λc i x=>ac (cw x) λo e x=>ac (cw x) λvs k x=>ac (cw x) λn b x=>ac (S9.mp b) λv f g=>am (KB g) λt j=>
  ⟨c,o,vs,t,mY i,e,Bz k,by rw[f,j,Fast.sEq_iff.mp x]⟩
def Iz(g:Addr->Option Obj)(f:Fn)(fd:FuncData):Bool:=(f.params.defaults.isEmpty&&Dn fd.defaults)||((fI f.params.defaults).any Iw&&(!f.params.args.isEmpty&&(rO fd.defaults).any λT=>T !=548&&(g T).any λa=> !Fm a&&(Hn a.data).any λvs=>(fI vs.toList).any Dn))
def Fo(g:Addr->Option Obj)(x:Str)(f:Option Fn)(a:Addr):Bool:=f.any λf=>a !=548&&(g a).any λo=>(Hp o.data).any λfd=>
 Iy g fd.code fd.qualname&&(fd.code !=.ref 548&&((if x== "law" then fd.code==.ref 550&&fd.qualname==("law":Str)else true)&&Iz g f fd))
abbrev N3 (h:Heap):=Fo h.get?
def Sq(h:Heap)(g:Addr->Option Obj)(n b:Str->Option Value):List Bool:=
 [h.isNs mainGlobals,h.isNs builtinsNs,h.noLimitOk,(g sysModules).isSome,(oi g).all λp=> !Fm p.2,
 zq g n "NAN" 0 0,zq g n "INF" 1 0,zq g n "ZERO" 0 1,zq g n "ONE" 1 1,Hq n "MOST_POWER" 4096,Hq n "MOST_INTEGER" 2147483647,
 Hm (oi g) 257,Hm (oi g) 228,xn (oi g) 257 247,xn (oi g) 228 225,NW (oi g) 257,Sl (oi g),
 (["len", "abs", "max", "min", "list", "dict", "chr", "str"]:List Str).all (λx=>zs n b x (iT x)),zs n b "range" (.type "range"),zs n b "isinstance" (.builtin "isinstance"),
 n "Vector"==some (.ref 257),n "Null"==some (.ref 228),n "Refusal"==some (.ref 65),codeHdIn (oi g) 550 548,Sp g n,N0 g,
 defNames.all (λx=>(n x).isSome&&Fo g x (ai.fn x) (tT n x)),Fo g "__init__" (ai.init "Vector") 247,Fo g "__init__" (ai.init "Null") 225,Fo g "__init__" jc 62]
def N4(h:Heap)(g:Addr->Option Obj)(n b:Str->Option Value):Bool:=(Sq h g n b).all id
theorem be {l:List Bool}(h:l.all id=true)(i:Nat){b:Bool}(e:l[i]?=some b):b=true:=T6.mp h b (Tu e)
abbrev obs (h:Heap):Bool:=N4 h h.get? (h.nsMap mainGlobals) (h.nsMap builtinsNs)
noncomputable abbrev zv:=FuncBody×Scope×Addr×Addr×List (Str×Addr)×Arguments
def zx(g:Addr->Option Obj)(a:Addr):Option zv:=(g a).bind λo=>(Hp o.data).map λfd=>(fd.body,fd.scope,fd.globals,fd.builtins,fd.closure,fd.params)
abbrev BA (h:Heap):=zx h.get?
noncomputable def kF(f:Fn):zv:=(.stmts f.body,f.scope,mainGlobals,builtinsNs,[],⟨[],f.params.args,none,[],[],none,f.params.defaults⟩)
def PJ(h:Heap)(g:Addr->Option Obj)(n b:Str->Option Value):Bool×List (Option zv):=(N4 h g n b,zx g 247::zx g 225::zx g 62::defNames.map λx=>zx g (tT n x))
abbrev Yf (s:Shared):Bool×List (Option zv):=PJ s.heap s.heap.get? (s.heap.nsMap mainGlobals) (s.heap.nsMap builtinsNs)
def Ya(_:World):Bool×List (Option zv):=(true,(ai.init "Vector").map kF::(ai.init "Null").map kF::jc.map kF::defNames.map λx=>(ai.fn x).map kF)
end Mine
end
noncomputable section
open PySem PySem.W PyProof.Rows
namespace Mine
open Challenge
def IA(x:Stmt):Bool:=fe "law" x
def qv:Program:= {pw_nz0488_01 with main:= {pw_nz0488_01.main with body:=pw_nz0488_01.main.body.filter IA} }
def KE(s:Stmt):List Str:=by
 induction s using Stmt.casesOn with
 |FunctionDef n=>exact [n]
 |ClassDef n=>exact [n]
 |Assign t=>exact(((fI t).bind mh).map λn=> [n]).getD []
 |_=>exact []
def zy:List Str:=(pw_nz0488_01.main.body.filter λs=> !IA s).flatMap KE
theorem O9(w:World):(fencedOpening treeTable pw_nz0488_01 w 6304).map (λs=>(s.heap,s.gens,s.drawn,s.toks))=some (boot_heap w.params, #[],boot_drawn,boot_toks):=
 boot_open (p:=pw_nz0488_01) (N:=6304) rfl rfl (λZ=>rfl) w
set_option maxRecDepth 1000000 in
set_option maxHeartbeats 0 in
theorem left:LeftO pw_nz0488_01 qv zy (λZ=>true) Yf Ya 6304:=LeftO.of_fast (F:=PJ) O9 (λw=>by kernel_rfl) (by
 intro w a
 kernel_rfl)
end Mine
end
noncomputable section
open PySem PySem.W PyProof.Rows PySem.Calls
set_option maxRecDepth 100000
namespace Mine
variable {a C:Addr} {o:Obj} {x:Str} {f:Fn} {h:Heap} {φ:al}
open Challenge
noncomputable def Pa:ScopeKind->Bool
 |.function=>true
 |_=>false
def oj(f:Fn):Bool:=Pa f.scope.kind&& !f.scope.isGenerator&& !f.scope.isCoroutine&&decide (f.scope.names.map (·.1)).Nodup&&decide (f.params.args.map (·.arg)).Nodup
def Pb:List Bool:= [defNames.all (λx=> !(x==("__debug__":Str))&&(ai.fn x).all oj),(ai.init "Vector").all oj,(ai.init "Null").all oj,jc.all oj]
noncomputable def KG:Bool:=Pb.all id
theorem iP:KG=true:=by kernel_rfl
structure RefShape (f:Fn):Prop where
 body:∃p1 p2 p3 p4,f.body= [.Assign [.Attribute (.Name "self" p1) "message" p2] (.Name "message" p3) p4]
 args:f.params.args.map (·.arg)=(["self", "message"]:List Str)
 dflt:f.params.defaults= []
 s:f.scope.names.lookup ("self":Str)=some .local
 m:f.scope.names.lookup ("message":Str)=some .local
 names:∀x∈f.scope.names,x.2≠ .cell
theorem BC:jc.isSome=true:=by kernel_rfl
noncomputable def IB:Fn:=jc.get BC
theorem Al:∃f,jc=some f/\RefShape f:=by
 refine⟨IB,(Option.some_get BC).symm,⟨⟨20,8,20,12⟩,⟨20,8,20,20⟩,⟨20,23,20,30⟩,⟨20,8,20,30⟩,by kernel_rfl⟩,by kernel_rfl,by kernel_rfl,by kernel_rfl,by kernel_rfl,λx c e=>?_⟩;have a:(IB.scope.names.all λx=> !(x.2==.cell))=true:=by kernel_rfl
 have b:=T6.mp a x c;rw[e]at b;exact absurd b (by decide)
theorem Do {K:Frag}{d:ClassData}(h:K.lookup a=some o)(e:clsIn K a=some d):o.data=.cls d:=by
 unfold clsIn at e;rw[h]at e;obtain⟨j,i,b,g⟩:=o;induction b using Vx with
 |cls c=>exact Vk Data.cls (Uu e)
 |_=>exact ns e
theorem qq {b:Type}{n:Nat}{l:List b}(h:l.length=n+1):∃x r,l=x::r/\r.length=n:=by
 induction l using Vr with
 |nil=>exact nomatch h
 |cons x r=>exact aU x r ⟨rfl,U4 h⟩
theorem SH {j:Type}{a:Array j}(h:a.size=6):∃b c e g d i,a= #[b,c,e,g,d,i]:=by
 obtain⟨l⟩:=a;refine cY (qq h) λb r k h=>cY (qq h) λc r q h=>cY (qq h) λe r p h=>cY (qq h) λg r t h=>cY (qq h) λd r n h=>cY (qq h) λi r m h=>KZ b c e g d i (Vk Array.mk ((show l=b::_ from k).trans (by rw[q,p,t,n,m,S8.mp h])))
theorem Hs {b:Stmt}(c:nj b=some f)(d:fe x b=true):Ix b=some x:=by
 induction b using PySem.Stmt.casesOn with
 |FunctionDef n=>exact Vk some (Fast.sEq_iff.mp d)
 |_=>exact ns c
theorem BD(h:ai.fn x=some f):x∈Mine.defNames:=by
 refine ac (S9.mp (show(pw_nz0488_01.main.body.find? (fe x)).bind nj=some f from h)) λd b c=>TN.mpr ⟨_,List.mem_of_find?_eq_some b,Hs c (List.find?_some b)⟩
noncomputable def IC(x:Str):Option Addr:=if x= "Vector" then some 257 else if x= "Null" then some 228 else none
def fh(w:World)(s:Shared)(h:Heap)(c:Addr)(b:Obj):Wd:=⟨pw_nz0488_01,w,zo s.heap,s.heap.nsMap mainGlobals,s.heap.nsMap builtinsNs,⟨IC,550,548, #[],b⟩,hideAll h [548,c],65,ai⟩
structure Ran (w:World) (s:Shared) (h:Heap) (sa:Addr) (so:Obj):Prop where
 seen:Yf s=Ya w
 keep:∀b o,s.heap.get? b=some o->h.get? b=some o
 at_:h.get? sa=some so
 cls:so.cls=.type "list"
 seq:∃vs n,so.data=.seq vs n
section
variable {w:World} {s:Shared} {h:Heap} {sa:Addr} {so:Obj}
theorem Ran.toB(r:Ran w s h sa so)(e:s.heap.get? a=some o)(c:a≠548)(b:o.cls≠ .type "list"\/ ∀vs n,o.data≠ .seq vs n):(fh w s h sa so).B.get? a=some o:=by
 refine hideAll_get [548,sa] (r.keep _ _ e) λq=>?_;simp only[UJ,Uc,or_false]at q;rcases q with q|q
 ·exact c q
 ·subst q
  have:=(r.keep _ _ e).symm.trans r.at_;cases this;rcases b with b|b
  ·exact b r.cls
  ·obtain⟨vs,n,d⟩:=r.seq;exact b vs n d
theorem Ran.obs(r:Ran w s h sa so):Mine.obs s.heap=true:=Vk Prod.fst r.seen
theorem KH {h:Heap}(e:(zo h).lookup a=some o):(a,o)∈zo h:=by
 have:∀l:List (Addr×Obj),l.lookup a=some o->(a,o)∈l:=by
  intro l;induction l with
  |nil=>intro q;cases q
  |cons p r ih=>
   obtain⟨b,x⟩:=p;intro q;rw[Ua]at q;by_cases c:(a==b)=true
   ·rw[c]at q;cases q;rw[Vd.mp c];simp
   ·have d:(a==b)=false:=by simpa using c
    rw[d]at q;exact Tt _ (ih q)
 exact this _ e
theorem Ran.K(r:Ran w s h sa so):(zo s.heap).In (fh w s h sa so).B:=λa o e=>by
 have g:=KH e;have c:=T6.mp (be r.obs 4 rfl) _ g;obtain⟨b,i,d⟩:=TN.mp g;obtain⟨l,k,j⟩:=Tf.mp d;cases j;refine r.toB k (λq=>?_) (.inl λq=>?_)
 ·subst q;exact absurd i (by decide)
 ·unfold Fm at c;rw[q]at c;exact absurd c (by decide)
theorem Ran.ns(r:Ran w s h sa so)(b:a≠548)(e:s.heap.isNs a=true):(fh w s h sa so).B.Ns a (s.heap.nsMap a):=by
 obtain⟨o,c,ep,g,d,x⟩:=Heap.Ns.of_isNs e;exact⟨o,c,ep,r.toB g b (.inr λvs n q=>by rw[d]at q;cases q),d,x⟩
theorem ej {c:Type}[BEq c][LawfulBEq c]{a b:c}(h:(a !=b)=true):a≠b:=bne_iff_ne.mp h
theorem Ht(h:(!Fm o)=true):o.cls≠ .type "list":=λq=>by
 unfold Fm at h;rw[q]at h;exact absurd h (by decide)
theorem N5(h:oj f=true):f.scope.kind=.function/\f.scope.isGenerator=false/\f.scope.isCoroutine=false/\(f.scope.names.map (·.1)).Nodup/\(f.params.args.map (·.arg)).Nodup:=by
 refine af (an h) λh e=>af (an h) λh g=>af (an h) λh d=>af (an h) λb c=>⟨?_,TX _▸c,TX _▸d,T4 g,T4 e⟩;generalize f.scope.kind=k at b;induction k using ScopeKind.casesOn with
 |function=>rfl
 |_=>exact ff b
theorem KJ(r:Ran w s h sa so){fd:FuncData}(e:Iz s.heap.get? f fd=true):(f.params.defaults= []/\fd.defaults=.none)\/(∃k p T g n,f.params.defaults= [.Constant .none k p]/\f.params.args≠ []/\fd.defaults=.ref T/\(fh w s h sa so).B.get? T=some g/\g.data=.seq #[.none] n):=by
 refine(Bool.or_eq_true_iff.mp e).elim (λq=>af (an q) λb c=>.inl ⟨T8.mp b,vp c⟩) λq=>.inr<|af (an q) λb q=>af (an q) λc q=>ac (cw b) λd D b=>cI (KC b) λk p u=>ac (cw q) λT j q=>af (an q) λt q=>ac (cw q) λg y q=>af (an q) λA q=>ac (cw q) λvs l q=>ac (cw q) λv m q=>am (By l) λn i=>xp k p T g n ⟨by rw[dn D,u],λz=>by rw[z]at c;exact ff c,mY j,r.toB y (ej t) (.inl (Ht A)), ?_⟩;rw[i,show vs= #[.none] from Array.toList_inj.mp ((dn m).trans (by rw[vp q]))]
theorem Hu {fd:FuncData}(e:(fd.body,fd.scope,fd.globals,fd.builtins,fd.closure,fd.params)=kF f):fd.body=.stmts f.body/\fd.scope=f.scope/\fd.globals=mainGlobals/\fd.builtins=builtinsNs/\fd.closure= []/\fd.params=⟨[],f.params.args,none,[],[],none,f.params.defaults⟩:=
 ⟨Vk (·.1) e,Vk (·.2.1) e,Vk (·.2.2.1) e,Vk (·.2.2.2.1) e,Vk (·.2.2.2.2.1) e,Vk (·.2.2.2.2.2) e⟩
theorem zA(r:Ran w s h sa so)(i:N3 s.heap x (some f) a=true)(j:BA s.heap a=some (kF f))(E:oj f=true):FuncOk (fh w s h sa so) x f a:=by
 refine HE (N5 E) λI p J N D=>⟨?_,I,p,J,N,D⟩;refine ac (S9.mp j) λo m j=>ac (Tf.mp j) λfd hd j=>af (an i) λu i=>ac (cw i) λS l i=>?_;rw[<-Uu (m.symm.trans l)]at i;refine ac (cw i) λL k i=>?_;rw[<-Uu (hd.symm.trans k)]at i;refine af (an i) λk1 i=>af (an i) λk2 i=>af (an i) λk3 P=>?_;have hd:=Ky hd;refine BH (Hu j) λA z y G B H=>aU o fd ⟨r.toB m (ej u) (.inr λvs n q=>by rw[hd]at q;exact nomatch q),hd,A,z,y,G,B, ?_,H,λq=>?_,KJ r P⟩
 ·refine mZ (Hr k1) λc F vs t e g d v=>⟨c,F,vs,t,e,r.toB g (λq=>ej k2 (by rw[e,q])) (.inr λvs n q=>by rw[d]at q;exact nomatch q),d,v⟩
 ·rw[q,Vo (beq_self_eq_true _)]at k3
  exact af (an k3) λa b=>⟨Vd.mp a,Vd.mp b⟩
end
open Challenge
section
variable {w:World} {s:Shared} {h:Heap} {sa:Addr} {so:Obj}
theorem ig {b:Type}{c:Prop}[Decidable c]{a v:b}{o:Option b}{P:Prop}(e:(if c then some a else o)=some v)(h:c->v=a->P)(k:o=some v->P):P:=by
 by_cases q:c
 ·rw[Vo q]at e;exact h q (Uu e).symm
 ·rw[Vn q]at e;exact k e
theorem Hv {c:Str}(e:IC c=some C):(c= "Vector"/\C=257)\/(c= "Null"/\C=228):=
 ig e (λa b=>.inl ⟨a,b⟩) λe=>ig e (λa b=>.inr ⟨a,b⟩) λe=>ns e
theorem zB {P:Str->V->Prop}(i:P "NAN" (.tup [.int 0,.int 0]))(g:P "INF" (.tup [.int 1,.int 0]))(k:P "ZERO" (.tup [.int 0,.int 1]))(d:P "ONE" (.tup [.int 1,.int 1]))(j:P "MOST_POWER" (.int 4096))(c:P "MOST_INTEGER" (.int 2147483647)){v:V}(e:jP x=some v):P x v:=
 ig e (λa b=>a▸b▸i) λe=>ig e (λa b=>a▸b▸g) λe=>ig e (λa b=>a▸b▸k) λe=>ig e (λa b=>a▸b▸d) λe=>ig e (λa b=>a▸b▸j) λe=>ig e (λa b=>a▸b▸c) λe=>ns e
theorem KK {l:List Value}{a b:Int}(h:l.map Iv= [some a,some b]):∃c d,l= [.int a c,.int b d]:=by
 induction l using Vr with
 |nil=>exact nomatch h
 |cons x r=>induction r using Vr with
  |nil=>exact nomatch (UH h).2
  |cons y r=>induction r using Vr with
   |nil=>
    refine am (zp (UH h).1) λc e=>am (zp (UH (UH h).2).1) λd g=>aU c d (by rw[e,g])
   |cons=>exact absurd (UH (UH h).2).2 (List.cons_ne_nil _ _)
theorem ID {T:String}{v:Value}(h:v=.type T)(k:(T== "list")=false):v≠ .type "list":=λq=>by
 have:T= "list":=Value.type.inj (h.symm.trans q);rw[this]at k;exact absurd k (by decide)
theorem tU(r:Ran w s h sa so){a b:Int}(e:Sn s.heap x a b=true):∃val,s.heap.nsMap mainGlobals x=some val/\ ∀φ h',(fh w s h sa so).B.StaysIn h'->VR φ h' (.tup [.int a,.int b]) val:=by
 refine ac (cw e) λT g e=>ac (S9.mp g) λv k g=>af (an e) λi e=>ac (cw e) λo l e=>af (an e) λc e=>ac (cw e) λvs j e=>am (By j) λn hd=>cI (KK (Vd.mp e)) λq p d=>?_;have c:=Vd.mp c;refine⟨_,k,λφ h' m=>?_⟩;rw[mY g];exact .tup (m _ _ (r.toB l (ej i) (.inl (ID c (by decide))))) c hd (by rw[d];exact .cons (.int _ _) (.cons (.int _ _) .nil))
theorem Fp(r:Ran w s h sa so){a:Int}(e:So s.heap x a=true):∃val,s.heap.nsMap mainGlobals x=some val/\ ∀φ h',(fh w s h sa so).B.StaysIn h'->VR φ h' (.int a) val:=
 ac (S9.mp (Vd.mp e)) λv c b=>am (zp b) λt d=>⟨v,c,λφ h' Z=>by rw[d];exact .int _ _⟩
theorem zC {v:Value}(e:NZ s.heap x v=true):s.heap.nsMap mainGlobals x=none/\s.heap.nsMap builtinsNs x=some v:=by
 unfold NZ zs at e;simp only[T5,SX,Vd]at e;exact e
theorem bq {c:Type}[BEq c][LawfulBEq c]{a b:c}(h:(a==b)=true):a=b:=Vd.mp h
theorem KL {a:Str}(b:jM a=true):a∈(["kind", "items", "attrs", "shared", "loose"]:List Str):=by
 unfold jM at b;simp only[Bool.or_eq_true,T3]at b;simp only[UJ,Uc,or_false];simpa only[or_assoc]using b
theorem Fq {K:Frag}(e:Hm K C=true):EqK K C/\ClsOk K C:=
 af (an e) λe c=>af (an e) λe l=>af (an e) λe b=>af (an e) λe g=>af (an e) λe j=>af (an e) λk i=>
  ⟨⟨bq k,bq i⟩,bq j,bq g,b,l,λa d=>bq (T6.mp c a (KL d))⟩
theorem KM {K:Frag}{W:Wd}{b:Addr}(d:W.K=K)(e:xn K C b=true):MakeOk W C b:=by
 rw[<-d]at e;exact af (an e) λe c=>af (an e) λe i=>af (an e) λj g=>⟨j,g,bq i,bq c⟩
theorem N6 {K:Frag}(e:NW K C=true):IsiOk K C:=
 af (an e) λe c=>af (an e) λe k=>af (an e) λe b=>af (an e) λe d=>af (an e) λe i=>af (an e) λj g=>⟨j,g,i,bq d,bq b,bq k,bq c⟩
theorem Hw {h:Heap}{f:Option Fn}(e:N3 h x f (xo h x)=true):h.nsMap mainGlobals x=some (.ref (xo h x)):=by
 refine ac (cw e) λf Z e=>af (an e) λb Z=>?_;have b:=ej b;unfold xo tT at b ⊢;induction hv:(h.nsMap mainGlobals x).bind rO using Vp with
 |none=>rw[hv]at b;exact absurd rfl b
 |some a=>exact ac (S9.mp hv) λv d c=>d.trans (Vk some (mY c))
theorem vr(r:Ran w s h sa so):(BA s.heap 247=(ai.init "Vector").map kF/\BA s.heap 225=(ai.init "Null").map kF/\BA s.heap 62=jc.map kF)/\ ∀x∈Mine.defNames,BA s.heap (xo s.heap x)=(ai.fn x).map kF:=by
 have e:=Vk Prod.snd r.seen;exact⟨⟨(UH e).1,(UH (UH e).2).1,(UH (UH (UH e).2).2).1⟩,List.map_inj_left.mp (UH (UH (UH e).2).2).2⟩
theorem tV(e:ai.init x=some f):(x= "Vector"/\ai.init "Vector"=some f)\/(x= "Null"/\ai.init "Null"=some f):=by
 by_cases d:x= "Vector"
 ·subst d;exact .inl ⟨rfl,e⟩
 by_cases b:x= "Null"
 ·subst b;exact .inr ⟨rfl,e⟩
 have c:(if x= "Vector"\/x= "Null" then(pw_nz0488_01.main.body.find? (fe x)).bind xJ else none)=some f:=e;rw[Vn (λq=>q.elim d b)]at c;cases c
theorem KN(b:xy x=true):x∈(["len", "abs", "max", "min", "list", "dict", "chr", "str"]:List Str):=by
 unfold xy at b;simp only[Bool.or_eq_true,T3]at b;simp only[UJ,Uc,or_false];simpa only[or_assoc]using b
theorem Ran.defs(r:Ran w s h sa so)(e:ai.fn x=some f):∃b,s.heap.nsMap mainGlobals x=some (.ref b)/\FuncOk (fh w s h sa so) x f b:=by
 have c:=BD e;have d:=(an (T6.mp (be r.obs 26 rfl) x c)).2;have i:=(an (T6.mp (be iP 0 rfl) x c)).2;have g:=(vr r).2 x c;rw[e]at d i g;exact⟨_,Hw d,zA r d g i⟩
theorem Ran.initV(r:Ran w s h sa so){b:Addr}(j:IC x=some C)(k:s.heap.nsMap mainGlobals x=some (.ref C))(i:xn (zo s.heap) C b=true)(g:N3 s.heap "__init__" (ai.init x) b=true)(d:BA s.heap b=(ai.init x).map kF)(c:(ai.init x).all oj=true)(e:ai.init x=some f):
  ∃C b,(fh w s h sa so).cl.at_ x=some C/\(fh w s h sa so).mg x=some (.ref C)/\MakeOk (fh w s h sa so) C b/\FuncOk (fh w s h sa so) "__init__" f b:=by
 rw[e]at g d c;exact aU C b ⟨j,k,KM rfl i,zA r g d c⟩
theorem Ran.blt(r:Ran w s h sa so){x:Str}(b:xy x=true):s.heap.nsMap mainGlobals x=none/\s.heap.nsMap builtinsNs x=some (iT x):=zC (T6.mp (be r.obs 17 rfl) x (KN b))
theorem Ran.clsA(r:Ran w s h sa so){b:Str}(e:IC b=some C):EqK (zo s.heap) C/\ClsOk (zo s.heap) C:=by
 rcases Hv e with⟨_,q⟩|⟨_,q⟩
 ·rw[q];exact Fq (be r.obs 11 rfl)
 ·rw[q];exact Fq (be r.obs 12 rfl)
theorem Ran.inits(r:Ran w s h sa so)(e:ai.init x=some f):∃C b,(fh w s h sa so).cl.at_ x=some C/\(fh w s h sa so).mg x=some (.ref C)/\MakeOk (fh w s h sa so) C b/\FuncOk (fh w s h sa so) "__init__" f b:=by
 have t:=(vr r).1;rcases tV e with⟨q,c⟩|⟨q,c⟩
 ·rw[q];exact r.initV rfl (bq (be r.obs 20 rfl)) (be r.obs 13 rfl) (be r.obs 27 rfl) t.1 (be iP 1 rfl) c
 ·rw[q];exact r.initV rfl (bq (be r.obs 21 rfl)) (be r.obs 14 rfl) (be r.obs 28 rfl) t.2.1 (be iP 2 rfl) c
theorem Ran.mod(r:Ran w s h sa so):(fh w s h sa so).B.BuiltinsAt (fh w s h sa so).mg (fh w s h sa so).cl.tab:=by
 refine ac (cw (be r.obs 24 rfl)) λbm b e=>ac (S9.mp b) λv j b=>af (an e) λi e=>af (an e) λg e=>af (an e) λc e=>ac (cw e) λo d e=>af (an e) λo1 e=>af (an e) λo2 k=>?_;have o1:=bq o1;exact⟨bm,o,j.trans (Vk some (mY b)),ej i,ej g,ej c,r.toB d (ej c) (.inl (ID o1 (by decide))),o1,bq o2,Kz k⟩
theorem Ran.names(r:Ran w s h sa so)(e:(ai.fn x).isSome\/(ai.init x).isSome):(x==("__debug__":Str))=false:=by
 rcases e with e|e
 ·refine am (S5.mp e) λf e=>?_
  have q:=(an (T6.mp (be iP 0 rfl) x (BD e))).1;exact TX _▸q
 ·refine am (S5.mp e) λf e=>?_
  rcases tV e with⟨q,_⟩|⟨q,_⟩<;>(rw[q];decide)
theorem Ran.wd(r:Ran w s h sa so)(d:∃o,(fh w s h sa so).B.get? sysModules=some o):WdOk7 (fh w s h sa so):=by
 have ob:=r.obs;refine {K:=r.K,g:=r.ns (by decide) (be ob 0 rfl),b:=r.ns (by decide) (be ob 1 rfl),lim:= ?_,consts:= ?_,sys:=d,cmp:=λi C e=>(r.clsA e).1,cls:=λi C e=>(r.clsA e).2,blt:=λZ=>r.blt,rng:=zC (be ob 18 rfl),isi:=zC (be ob 19 rfl),strT:=r.blt (x:= "str") (by decide),vec:=⟨257,rfl,bq (be ob 20 rfl),N6 (be ob 15 rfl)⟩,code:=codeHd_of_K r.K (be ob 23 rfl),blt':=r.mod,gtab:=(by show mainGlobals≠548;decide),defs:=λZ Z=>r.defs,clss:=λZ Z=>r.inits,names:= ?_}
 ·have c:=be ob 2 rfl
  unfold Heap.noLimitOk at c;exact af (an c) λa b=>⟨_,r.ns (by decide) a,SX.mp b⟩
 ·exact λx v e=>zB (P:=λx v=>∃val,s.heap.nsMap mainGlobals x=some val/\ ∀φ h',(fh w s h sa so).B.StaysIn h'->VR φ h' v val) (tU r (be ob 5 rfl)) (tU r (be ob 6 rfl)) (tU r (be ob 7 rfl)) (tU r (be ob 8 rfl)) (Fp r (be ob 9 rfl)) (Fp r (be ob 10 rfl)) e
 ·intro x f e
  exact r.names (e.imp (λe=>by rw[show ai.fn x=some f from e];rfl) λe=>by rw[show ai.init x=some f from e];rfl)
theorem KO {h:Heap}{e:ClassData}(g:h.get? 65=some o)(hd:o.data=.cls e)(i:o.cls=.type "type")(v:o.slots.size=6)(p:o.slots[4]?=some (some (.builtin "Exception.__new__")))(b:e.mro= [.ref 65,.ref 45,.type "Exception",.type "BaseException",.type "object"])(n:e.hasDel=false):
  ∃nm q N bs D hdct sn sub ab col dd k0 k1 k2 k3 k5,h.get? 65=some ⟨.type "type",dd,.cls ⟨nm,bs,[.ref 65,.ref D,.type "Exception",.type "BaseException",.type "object"],N,q,hdct,sn,sub,ab,col,false⟩, #[k0,k1,k2,k3,some (.builtin "Exception.__new__"),k5]⟩:=by
 refine BI (SH v) λk0 k1 k2 k3 u k5 c=>?_;obtain⟨r,y,l,d⟩:=o;obtain⟨nm,bs,j,ns,t,m,sn,sub,ab,col,k⟩:=e
 replace hd:l=_:=hd
 replace i:r=_:=i
 replace c:d=_:=c
 replace b:j=_:=b
 replace n:k=_:=n
 rw[hd,i,c,b,n]at g;rw[show d[4]?=some u by rw[c];rfl]at p;rw[Uu p]at g;exact⟨nm,t,ns,bs,45,m,sn,sub,ab,col,y,k0,k1,k2,k3,k5,g⟩
theorem Ran.ref(r:Ran w s h sa so):RefOk (fh w s h sa so):=by
 refine af (an (be r.obs 16 rfl)) λg e=>af (an e) λz e=>af (an e) λD e=>af (an e) λE e=>af (an e) λu e=>af (an e) λU e=>af (an e) λv e=>af (an e) λN e=>af (an e) λG e=>af (an e) λj b=>?_;have k:=be r.obs 29 rfl;have i:=(vr r).1.2.2;have l:=be iP 3 rfl;refine ac Al λf H d=>?_;rw[H]at k i l;have I:=zA r k i l
 clear k i l
 refine ac (cw g) λP p g=>af (an g) λc g=>af (an g) λt S=>ac (cw b) λo n b=>af (an b) λB b=>af (an b) λF b=>⟨bq (be r.obs 22 rfl),KO (r.K 65 _ n) (Do n p) (bq B) (bq F) (bq b) (bq c) (TX _▸S),⟨P,45,p,bq c,t⟩,bq z,bq D,E,bq u,bq U,bq v,bq N,62,f, ?_⟩;exact HG d.body λy L A J q=>vt y L A J ⟨bq G,bq j,I,q,d.args,d.dflt,d.s,d.m,d.names⟩
end
open Challenge
noncomputable abbrev bV:OpenRow:=rw_nz0488_01.row
theorem BE:(defOf qv "law").isSome=true:=by kernel_rfl
def fW:DefRec×List (Str×Expr):=(defOf qv "law").get BE
theorem BF:defOf qv bV.name=some (fW.1,fW.2):=(Option.some_get BE).symm
def YP(w:World)(h:Heap):Prop:=∃s:Shared,Yf s=Ya w/\ ∀b o,s.heap.get? b=some o->h.get? b=some o
noncomputable def PK(d:WData):Option Int:=by
 induction d using WData.casesOn with
 |int i=>exact some i
 |_=>exact none
theorem SI {d:WData}{i:Int}(h:PK d=some i):d=.int i:=by
 induction d using WData.casesOn with
 |int=>exact Vk WData.int (Uu h)
 |_=>exact ns h
def BG(d:WData):V:=(PK d).elim .none .int
theorem KP {d:WData}(h:WShape.has [] d .int=true):∃i,d=.int i:=by
 induction d using WData.casesOn with
 |int i=>exact⟨i,rfl⟩
 |_=>exact ff h
theorem Hx(ds:List WData):WShape.hasItems [] ds .int=true-> ∀d∈ds,∃i,d=.int i:=by
 induction ds using List.rec with
 |nil=>exact λZ d hd=>absurd hd Uc
 |cons x xs ih=>
  intro h d hd;have h':=Tm.mp (show(WShape.has [] x .int&&WShape.hasItems [] xs .int)=true from h);exact(UJ.mp hd).elim (λq=>by rw[q];exact KP h'.1) λq=>ih h'.2 d q
theorem Fr {j:Str->Option Addr}(ds:List WData):∀ {vs:List Value} {as:List Addr},ReadsAllW [] j h vs ds as->(∀d∈ds,∃i,d=.int i)->VRs φ h (ds.map BG) vs:=by
 induction ds using List.rec with
 |nil=>exact λr Z=>by rw[(readsAllW_nil_inv r).1];exact .nil
 |cons d ds ih=>
  intro vs as r hd;refine mZ (readsAllW_cons_inv r) λv vs m p l n c e=>am (hd d (TM ..)) λi k=>?_;rw[k]at c ⊢;refine ac (readsW_int_inv c) λt g Z=>?_;rw[l,g];exact .cons (.int i t) (ih e λd b=>hd d (Tt _ b))
theorem KQ {ds:List WData}(h:bV.pre.holds [] {args:= [.list ds] }=true):ds.length<=63:=by
 have a:bV.pre=.and (.not (.lt (.lit (.int 63)) (.len (.arg 0)))) (.lit (.bool true)):=rfl;have b:WTm.value [] (.lt (.lit (.int 63)) (.len (.arg 0))) {args:= [.list ds] }=some (.bool (decide ((63:Int)<(ds.length:Int)))):=rfl;rw[a]at h;by_cases d:(63:Int)<(ds.length:Int)
 ·rw[UD d]at b
  have c:WTm.value [] (.not (.lt (.lit (.int 63)) (.len (.arg 0)))) {args:= [.list ds] }=some (.bool false):=by rw[WTm.value,b];rfl
  unfold WTm.holds at h;rw[WTm.value,c]at h;cases h
 ·exact UT.mp (Va.mp d)
theorem Hy {x:WData}(h:WShape.has [] x (.list .int)=true):∃ds,x=.list ds/\WShape.hasItems [] ds .int=true:=by
 induction x using WData.casesOn with
 |list ds=>exact⟨ds,rfl,(Bool.or_false _).symm.trans (show((WShape.hasItems [] ds .int)||false)=true from h)⟩
 |_=>exact ff h
theorem Dp {args:List WData}(h:bV.claim.pre args=true):∃ds,args= [.list ds]/\(∀d∈ds,∃i,d=.int i)/\ds.length<=63:=by
 obtain⟨b,g⟩:=Tm.mp (show(WShape.hasAll [] args [.list .int]&&bV.pre.holds [] {args:=args})=true from h);induction args using Vr with
 |nil=>exact ff b
 |cons x r=>
  have b:=Tm.mp (show(WShape.has [] x (.list .int)&&WShape.hasAll [] r [])=true from b);induction r using Vr with
  |cons=>exact ff b.2
  |nil=>exact ac (Hy b.1) λds e c=>⟨ds,by rw[e],Hx ds c,KQ (e▸g)⟩
theorem Am(ds:List WData)(h:∀d∈ds,∃i,d=.int i):qg (ds.map BG):=λv b=>by
 refine ac (UV.mp b) λd hd e=>am (h d hd) λi c=>⟨i, ?_⟩;rw[<-e,c];rfl
theorem Fs:nq ai "law"=true:=by kernel_rfl
theorem An:fW.1.name= "law":=defOf_name BF
theorem KS(ds:List WData):bV.claim.post [.list ds] (.bool true) [.list ds]=true:=by
 show(WShape.has [] (.bool true) .bool&&(WTm.eq .res (.lit (.bool true))).holds [] {args:= [.list ds],res:=some (.bool true),after:= [.list ds] })=true
 have a:WTm.value [] (.eq .res (.lit (.bool true))) {args:= [.list ds],res:=some (.bool true),after:= [.list ds] }=some (.bool (same (.bool true) (.bool true))):=rfl;have b:same (.bool true) (.bool true)=true:=by decide+kernel
 rw[b]at a;unfold WTm.holds;rw[a];rfl
theorem KT {c:Cls}{e:Program}{w:World}{p:Addr×Aux}(q:ObjR c e w φ h p .tab):∃more,h.get? p.1=some (tabObj (c.ps++more)):=
 w4 q.tab' λa ps d Z b g Z Z=>am b λmore b=>⟨more,by rw[d,<-b];exact g⟩
theorem Ft {b:Cls}{d:Program}{w:World}{p:Addr×Aux}{l:List V}(q:ObjR b d w φ h p (.flist l)):h.get? p.1=some b.scr:=
 jd q.flist' λa vs n c Z Z g Z=>by rw[c];exact g
theorem Fu {a b c:Nat}(q:a∈ [b,c]):a=b\/a=c:=(UJ.mp q).imp id TO.mp
theorem call:WalkO qv zy (λZ Z=>True) YP bV.toRowW fW.1 fW.2 (λf vs=>PySem.call f vs):=by
 intro w s₀ s₁ mg mb G Y fa o pm cd doc dV kV u hd hcd hD W hg args vals as E hlay U hwl hlo;obtain⟨s,hY,P⟩:=Y;obtain⟨ds,rfl,hi,I⟩:=Dp E;obtain⟨v,vs0,as1,as2,rfl,rfl,r1,r2⟩:=readsAllW_cons_inv U;obtain⟨rfl,rfl⟩:=readsAllW_nil_inv r2;obtain⟨c,vs,as',rfl,⟨H,d,k,n,D⟩,ri,rfl⟩:=readsW_list_inv r1;have r:Ran w s s₁.heap c H:=⟨hY,P,d,k,⟨vs,n,D⟩⟩;have ob:=r.obs;have n1:=be ob 0 rfl;have n4:=be ob 3 rfl;have m1:=be ob 23 rfl;have m3:=be ob 25 rfl;have J:c≠sysModules:=λe=>by have:=hlo c (by simp);rw[e]at this;simp at this
 have hb:∃o,(fh w s s₁.heap c H).B.get? sysModules=some o:=by
  obtain⟨osm,e⟩:=S5.mp n4;refine⟨osm,hideAll_get [548,c] (P _ _ e) λq=>?_⟩;exact(Fu q).elim (λq=>absurd q (by decide)) λq=>J q.symm
 have t0:=KD m3;have N:=P _ _ t0;have hne:(548:Nat)≠c:=λe=>by rw[<-e,N]at d;cases d;cases k
 have S:(fh w s s₁.heap c H).St (ao []) [(548,Aux.none),(c,Aux.none)] [.tab,.flist (ds.map BG)] s₁.heap:=by
  refine⟨λb o e=>of_hideAll _ e, ?_,λa ha=>hideAll_none _ ?_,rfl,λi p o t u=>?_,λf hf=>by cases hf⟩
  ·show [548,c].Nodup
   simp[hne]
  ·exact ha
  ·match i,t,u with
   |0,t,u=>
    cases t;cases u;exact .tab rfl ⟨#[],rfl⟩ N trivial λpos cv e=>by cases e
   |1,t,u=>
    cases t;cases u;exact .flist k D d (Fr ds ri hi)
   |i+2,t,_=>cases t
 have y:(fh w s s₁.heap c H).mg "law"=some (.ref fa):=by
  have X:mg=s₁.heap.nsMap mainGlobals:=G.T.g.eq_nsMap;have e2:s.heap.nsMap mainGlobals=s₁.heap.nsMap mainGlobals:=((Heap.Ns.of_isNs n1).keeps P).eq_nsMap;show s.heap.nsMap mainGlobals "law"=_;rw[e2,<-X,<-An];exact W
 have hA:At callerA [] (10*(24+1)):=⟨rfl,by decide,by decide,rfl,λe he=>by cases he⟩;obtain⟨L,eT,kT⟩:=O8 (wf:=4300) (j:=0) (S:=1) (h:= [.tab,.flist (ds.map BG)]) (l:=ds.map BG) rfl rfl (Am ds hi) (by rw[Uo];show ds.length<=4096*4096;exact Qe I) (by decide);refine AZ (r.wd hb) r.ref (wf:=4300) (by decide) 24 10 callerA [] hA "law" (.ref fa) [.ref 1] [.ref c] s₁ _ _ _ _ Fs y S (.cons (.ref (p:=(c,Aux.none)) rfl) .nil) ?_;show aj _ [] [] VR (T ai 4300 24 (0+10) "law" [.ref 1] _) _ _ _ _;rw[eT];intro b h' tk F S' g z;cases z;have e0:F[0]?=some (548,Aux.none):=dp g.pre rfl;have X:F[1]?=some (c,Aux.none):=dp g.pre rfl;have f0:L[0]?=some .tab:=kT.get _ _ (by simp) rfl;have f1:L[1]?=some (.flist (ds.map BG)):=kT.get _ _ (by simp) rfl;obtain⟨more,tb⟩:=KT (S'.obj _ _ _ e0 f0);have sb:h'.get? c=some H:=Ft (S'.obj _ _ _ X f1);have A:∀b o,s₁.heap.get? b=some o->b≠548->h'.get? b=some o:=λb o e m=>by
  by_cases hs:b=c
  ·subst hs
   rw[d]at e;cases e;exact sb
  ·exact(g.kp b o e (λq=>by
    exact(Fu q).elim m hs)).1 Uc
 have cd:CodeHd s₁.heap 550 548:=(r.wd hb).code.keeps λb o e=>of_hideAll _ e;have ct:isCodeTable s₁.heap 548:=(cd.tab N).isCodeTable;refine⟨.inl ⟨_,.bool true,[],rfl,λcls=>rfl,.bool true,KS ds,λZ=>⟨.nil,λa ha=>by cases ha⟩⟩,⟨λb o e=>?_,λb o e=>?_⟩,rfl,.of_eq hg⟩
 ·by_cases m:b=548
  ·subst m
   rw[N]at e;cases e;exact .inr (.inl ⟨ct,rfl, #[],more,rfl,tb⟩)
  ·exact .inl (A b o e m)
 ·by_cases m:b=548
  ·subst m;exact⟨_,tb⟩
  ·exact⟨o,A b o e m⟩
open Challenge
theorem hY(w:World)(s:Shared)(e:Yf s=Ya w):YP w s.heap:=⟨s,e,λZ Z e=>e⟩
theorem SJ(w:World)(h h':Heap)(y:YP w h)(k:∀b o,h.get? b=some o->h'.get? b=some o):YP w h':=let⟨s,e,q⟩:=y;⟨s,e,λb o e=>k _ _ (q b o e)⟩
theorem KU:bV.prog.theDef bV.name=some (fW.1.params,fW.1.body,fW.1.scope):=by kernel_rfl
theorem N7:kwWritten? fW.1.params.kwonlyargs fW.1.params.kw_defaults=some fW.2:=by kernel_rfl
theorem N8:(chainsOk qv&&opensWell bV.prog&&(frees bV.toRowW&&bV.within.isEmpty))=true:=by kernel_rfl
theorem Hz:bV.prog.bare:=⟨rfl,rfl,rfl,rfl,rfl,by decide+kernel⟩
theorem Ao:bV.toRowW.promised:=⟨[.list [.int 3,.int 1]],by decide+kernel,by decide+kernel⟩
theorem KV:namesResolve bV.prog=true:=by rw[Fast.te8377067652309620493];kernel_rfl
theorem KW:noRoadLSs {strict:= !(importedModules bV.prog.main.body).all cThrough.contains,foot:=none,bare:=(["vars", "dir", "locals"]:List Str).filter (readsOut bV.prog bV.prog.main.body) } bV.prog.main.body=true:=by rw[Fast.te8326940854005059898];kernel_rfl
theorem KX:(namesMeet bV.prog bV.prog.main.body λZ n=>attrL n)=true:=by rw[Fast.te17119622794617984870];kernel_rfl
theorem HA:looksOpen bV.prog=true:=by
 unfold looksOpen;rw[KV,KW,KX]
 kernel_rfl
theorem HB:bV.partSaid=true:=by
 unfold OpenRow.partSaid;rw[HA]
 kernel_rfl
theorem N9:bV.wellSaid=true:=by
 unfold OpenRow.wellSaid;rw[HB]
 kernel_rfl
theorem said_ok:rw_nz0488_01.wellSaid=true:=by
 unfold OpenLaw.wellSaid;rw[N9]
 kernel_rfl
open Challenge
theorem holds_of(b:rw_nz0488_01.row.wellSaid=true):rw_nz0488_01.row.Holds:=
 holds_open (r:=bV) (q:=qv) (loose:=zy) (Xt:=λZ=>true) (XP:=λZ Z=>True) (Yf:=Yf) (Ya:=Ya) (YP:=YP) (N:=6304) left hY SJ (λZ Z=>trivial) (λZ Z Z Z Z=>trivial) BF KU N7 (λs Z=>recFacts_nil rfl) rfl b N8 Hz Ao call
end Mine
theorem PySem.Challenge.cw_nz0488_01_holds : PySem.Challenge.rw_nz0488_01.Holds :=
 PySem.W.holds_law Mine.said_ok Mine.holds_of
end
