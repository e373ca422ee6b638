import PyProof.Rows.All
import Wide.All
import Wide.FinOn
import KE.KNest
import KE.KNestM
import KE.KTryMore
import KE.KTryDeep
import PyProof.TupleKey
import PyProof.DictKeyH
import KE.KTryOn
import KE.KDictSum
import KE.KPop
import KE.KxSplit
import PyProof.Rows.SortShellK
import KE.KLam
import PyProof.P3Eq
import KE.KDictAnyTail
import KE.LcTurns
import KE.KItem
import KE.KDictObj
import KE.KDictAnyGet
import Lean
import PySem.Challenge.RW_sa0448_01
set_option Elab.async false
set_option maxRecDepth 100000
set_option maxHeartbeats 2000000
set_option genInjectivity false
set_option genSizeOf false
set_option linter.all false
set_option compiler.extract_closed false
set_option tactic.hygienic false
namespace Mine.Internal
open PySem PySem.W PySem.Spec PySem.Calls PyProof.Rows
noncomputable section
section
universe u v w u1 u2 u3 u4 u5 u6 u7 u8 u9 u10 u11 u12
variable {dH:Sort u1} {eR:Sort u2} {gW:Sort u3} {lX:Sort u4} {oB:Sort u5} {qR:Sort u6} {zT:Sort u7} {Cu:Sort u8} {HA:Sort u9} {yo:Sort u10} {FD:Sort u11} {Qa:Sort u12} {G Q:Prop}
abbrev qS:=@List.eq_nil_of_length_eq_zero
abbrev kN:=@List.getElem?_append_right
abbrev zZ:=@PyProof.Rows.callWith_type
abbrev z6:=@List.getD_eq_getElem?_getD
abbrev z7:=@PySem.F.excBase_Exception
abbrev bP:=@List.getElem?_eq_some_iff
abbrev i7:=@List.getElem?_append_left
abbrev z8:=@List.getElem?_eq_none_iff
abbrev z9:=@List.mem_of_find?_eq_some
abbrev i8:=@List.getElem?_eq_getElem
abbrev oC:=@Nat.exists_eq_add_of_le'
abbrev sM:=@Nat.add_sub_cancel_left
abbrev lj:=@PySem.Heap.get?_push_of_some
abbrev uA:=@List.getElem?_set_self
abbrev w5:=@List.length_eq_one_iff
abbrev w6:=@List.find?_cons_of_neg
abbrev ll:=@List.mem_append_right
abbrev w7:=@List.getElem?_toArray
abbrev w8:=@List.length_filter_le
abbrev j4:=@List.length_singleton
abbrev j5:=@List.mem_append_left
abbrev jA:=@List.getElem?_of_mem
abbrev f8:=@List.mem_of_getElem?
abbrev eL:=@List.getElem?_set_ne
abbrev gb:=@Bool.and_eq_true_iff
abbrev nY:=@Nat.add_le_add_right
abbrev cD:=@List.mem_map_of_mem
abbrev uB:=@List.map_congr_left
abbrev uC:=@Nat.add_le_add_left
abbrev p8:=@Array.length_toList
abbrev uD:=@List.getElem?_range
abbrev sN:=@PySem.BindsTo.of_defaults
abbrev cM:=@List.mem_singleton
abbrev cN:=@List.length_append
abbrev lm:=@Nat.lt_of_le_of_lt
abbrev uE:=@List.pairwise_cons
abbrev dU:=@Nat.lt_of_lt_of_le
abbrev l7:=@PySem.wpAny_loadPart_at
abbrev l8:=@of_decide_eq_true
abbrev gd:=@List.getElem?_map
abbrev uF:=@List.getElem?_inj
abbrev sP:=@List.nodup_append
abbrev oE:=@Bool.not_eq_true'
abbrev bT:=@List.append_assoc
abbrev mN:=@decide_eq_true_eq
abbrev dI:=@List.length_cons
abbrev ln:=@Bool.and_eq_true
abbrev dq:=@List.not_mem_nil
abbrev ej:=@Nat.le_add_right
abbrev uG:=@Nat.lt_succ_self
abbrev lu:=@List.lookup_cons
abbrev lx:=@beq_self_eq_true
abbrev gH:=@List.all_eq_true
abbrev sQ:=@List.cons_append
abbrev iy:=@List.nodup_cons
abbrev fu:=@List.mem_append
abbrev qT:=@List.length_set
abbrev aU:=@Option.some.inj
abbrev gI:=@List.append_nil
abbrev fy:=@decide_eq_false
abbrev jB:=@List.map_append
abbrev cy:=@List.length_map
abbrev sR:=@List.nil_append
abbrev eE:=@decide_eq_true
abbrev j6:=@List.nodup_nil
abbrev dJ:=@PySem.wpAny_holding
abbrev aX:=@List.mem_cons
abbrev sS:=@Nat.lt_irrefl
abbrev eM:=@List.map_cons
abbrev sT:=@List.any_cons
abbrev gy:=@PySem.wpAny_standAt
abbrev i9:=@Nat.ne_of_lt
abbrev gJ:=@PySem.Heap.lt_size
abbrev eo:=@Nat.le_trans
abbrev mO:=@Nat.ne_of_gt
abbrev qU:=@Nat.le_of_eq
abbrev bX:=@List.mem_map
abbrev oF:=@Nat.sub_self
abbrev j7:=@Nat.succ.inj
abbrev ly:=@Nat.le_succ
abbrev ba:=@Nat.le_refl
abbrev p9:=@Nat.zero_le
abbrev aw:=@PySem.wpAny_bind
abbrev aW:=@PySem.wpAny_pure
abbrev cE:=@PySem.wpAny_mono
abbrev bJ:=@congrArg
abbrev gz:=@Ne.symm
abbrev aZ:=@Or.elim
theorem Tz {P:dH->Prop}(h:∃a,P a)(f:∀a,P a->G):G:=h.elim f
theorem Mi {P:dH->eR->Prop}(h:∃a b,P a b)(f:∀a b,P a b->G):G:=h.elim λa h=>Tz h<|f a
theorem Qb {P:dH->eR->gW->Prop}(h:∃a b c,P a b c)(f:∀a b c,P a b c->G):G:=h.elim λa h=>Mi h<|f a
theorem TA {P:dH->eR->gW->lX->Prop}(h:∃a b c d,P a b c d)(f:∀a b c d,P a b c d->G):G:=h.elim λa h=>Qb h<|f a
theorem Mj {P:dH->eR->gW->lX->oB->Prop}(h:∃a b c d e,P a b c d e)(f:∀a b c d e,P a b c d e->G):G:=h.elim λa h=>TA h<|f a
theorem HB {P:dH->eR->gW->lX->oB->qR->Prop}(h:∃a b c d e i,P a b c d e i)(f:∀a b c d e i,P a b c d e i->G):G:=h.elim λa h=>Mj h<|f a
theorem Mk {P:dH->eR->gW->lX->oB->qR->zT->Prop}(h:∃a b c d e i j,P a b c d e i j)(f:∀a b c d e i j,P a b c d e i j->G):G:=h.elim λa h=>HB h<|f a
theorem TC {P:dH->eR->gW->lX->oB->qR->zT->Cu->Prop}(h:∃a b c d e i j k,P a b c d e i j k)(f:∀a b c d e i j k,P a b c d e i j k->G):G:=h.elim λa h=>Mk h<|f a
theorem xe9 {P:dH->eR->gW->lX->oB->qR->zT->Cu->HA->Prop}(h:∃a b c d e i j k l,P a b c d e i j k l)(f:∀a b c d e i j k l,P a b c d e i j k l->G):G:=h.elim λa h=>TC h<|f a
theorem XT {P:dH->eR->gW->lX->oB->qR->zT->Cu->HA->yo->Prop}(h:∃a b c d e i j k l m,P a b c d e i j k l m)(f:∀a b c d e i j k l m,P a b c d e i j k l m->G):G:=h.elim λa h=>xe9 h<|f a
theorem XU {P:dH->eR->gW->lX->oB->qR->zT->Cu->HA->yo->FD->Prop}(h:∃a b c d e i j k l m n,P a b c d e i j k l m n)(f:∀a b c d e i j k l m n,P a b c d e i j k l m n->G):G:=h.elim λa h=>XT h<|f a
theorem TD {P:dH->eR->gW->lX->oB->qR->zT->Cu->HA->yo->FD->Qa->Prop}(h:∃a b c d e i j k l m n o,P a b c d e i j k l m n o)(f:∀a b c d e i j k l m n o,P a b c d e i j k l m n o->G):G:=h.elim λa h=>XU h<|f a
theorem Qc {A B:Prop}(h:A/\B)(f:A->B->G):G:=f h.1 h.2
theorem HK {A B C:Prop}(h:A/\B/\C)(f:A->B->C->G):G:=Qc h.2<|f h.1
theorem L4 {A B C D:Prop}(h:A/\B/\C/\D)(f:A->B->C->D->G):G:=HK h.2<|f h.1
theorem Qd {A B C D E:Prop}(h:A/\B/\C/\D/\E)(f:A->B->C->D->E->G):G:=L4 h.2<|f h.1
theorem Ek {A B C D E F:Prop}(h:A/\B/\C/\D/\E/\F)(f:A->B->C->D->E->F->G):G:=Qd h.2<|f h.1
theorem XV {A B C D E F H:Prop}(h:A/\B/\C/\D/\E/\F/\H)(f:A->B->C->D->E->F->H->G):G:=Ek h.2<|f h.1
theorem Qe {A B C D E F H aaM:Prop}(h:A/\B/\C/\D/\E/\F/\H/\aaM)(f:A->B->C->D->E->F->H->aaM->G):G:=XV h.2<|f h.1
theorem xa9 {A B C D E F H aaM J:Prop}(h:A/\B/\C/\D/\E/\F/\H/\aaM/\J)(f:A->B->C->D->E->F->H->aaM->J->G):G:=Qe h.2<|f h.1
theorem XW {A B C D E F H aaM J K:Prop}(h:A/\B/\C/\D/\E/\F/\H/\aaM/\J/\K)(f:A->B->C->D->E->F->H->aaM->J->K->G):G:=xa9 h.2<|f h.1
theorem TE {A B C D E F H aaM J K L:Prop}(h:A/\B/\C/\D/\E/\F/\H/\aaM/\J/\K/\L)(f:A->B->C->D->E->F->H->aaM->J->K->L->G):G:=XW h.2<|f h.1
theorem cR {A B:Prop}(h:A/\B)(f:A->B->G):G:=Qc h f
theorem qV {A B C:Prop}(h:A/\B/\C)(f:A->B->C->G):G:=HK h f
theorem yp {A B C D:Prop}(h:A/\B/\C/\D)(f:A->B->C->D->G):G:=L4 h f
theorem XX {A B C D E:Prop}(h:A/\B/\C/\D/\E)(f:A->B->C->D->E->G):G:=Qd h f
theorem aN {A:dH->Prop}(h:∃a,A a)(f:∀a,A a->G):G:=Tz h f
theorem aJ {A B:dH->Prop}(h:∃a,A a/\B a)(f:∀a,A a->B a->G):G:=Tz h λa h=>Qc h<|f a
theorem j8 {A B C:dH->Prop}(h:∃a,A a/\B a/\C a)(f:∀a,A a->B a->C a->G):G:=Tz h λa h=>HK h<|f a
theorem uH {A B C D:dH->Prop}(h:∃a,A a/\B a/\C a/\D a)(f:∀a,A a->B a->C a->D a->G):G:=Tz h λa h=>L4 h<|f a
theorem kQ {A:dH->eR->Prop}(h:∃a b,A a b)(f:∀a b,A a b->G):G:=Mi h f
theorem gG {A B:dH->eR->Prop}(h:∃a b,A a b/\B a b)(f:∀a b,A a b->B a b->G):G:=Mi h λa b h=>Qc h<|f a b
theorem de {A B C:dH->eR->Prop}(h:∃a b,A a b/\B a b/\C a b)(f:∀a b,A a b->B a b->C a b->G):G:=Mi h λa b h=>HK h<|f a b
theorem tK {A B C D:dH->eR->Prop}(h:∃a b,A a b/\B a b/\C a b/\D a b)(f:∀a b,A a b->B a b->C a b->D a b->G):G:=Mi h λa b h=>L4 h<|f a b
theorem Ml {A B C D E:dH->eR->Prop}(h:∃a b,A a b/\B a b/\C a b/\D a b/\E a b)(f:∀a b,A a b->B a b->C a b->D a b->E a b->G):G:=Mi h λa b h=>Qd h<|f a b
theorem HL {A:dH->eR->gW->Prop}(h:∃a b c,A a b c)(f:∀a b c,A a b c->G):G:=Qb h f
theorem rR {A B:dH->eR->gW->Prop}(h:∃a b c,A a b c/\B a b c)(f:∀a b c,A a b c->B a b c->G):G:=Qb h λa b c h=>Qc h<|f a b c
theorem kR {A B C:dH->eR->gW->Prop}(h:∃a b c,A a b c/\B a b c/\C a b c)(f:∀a b c,A a b c->B a b c->C a b c->G):G:=Qb h λa b c h=>HK h<|f a b c
theorem uI {A B C D:dH->eR->gW->Prop}(h:∃a b c,A a b c/\B a b c/\C a b c/\D a b c)(f:∀a b c,A a b c->B a b c->C a b c->D a b c->G):G:=Qb h λa b c h=>L4 h<|f a b c
theorem Mm {A B C D E:dH->eR->gW->Prop}(h:∃a b c,A a b c/\B a b c/\C a b c/\D a b c/\E a b c)(f:∀a b c,A a b c->B a b c->C a b c->D a b c->E a b c->G):G:=Qb h λa b c h=>Qd h<|f a b c
theorem XY {A:dH->eR->gW->lX->Prop}(h:∃a b c d,A a b c d)(f:∀a b c d,A a b c d->G):G:=TA h f
theorem nk {A B:dH->eR->gW->lX->Prop}(h:∃a b c d,A a b c d/\B a b c d)(f:∀a b c d,A a b c d->B a b c d->G):G:=TA h λa b c d h=>Qc h<|f a b c d
theorem Qf {A B C:dH->eR->gW->lX->Prop}(h:∃a b c d,A a b c d/\B a b c d/\C a b c d)(f:∀a b c d,A a b c d->B a b c d->C a b c d->G):G:=TA h λa b c d h=>HK h<|f a b c d
theorem uJ {A:dH->eR->gW->lX->oB->Prop}(h:∃a b c d e,A a b c d e)(f:∀a b c d e,A a b c d e->G):G:=Mj h f
theorem FE {A B C:dH->eR->gW->lX->oB->qR->Prop}(h:∃a b c d e i,A a b c d e i/\B a b c d e i/\C a b c d e i)(f:∀a b c d e i,A a b c d e i->B a b c d e i->C a b c d e i->G):G:=HB h λa b c d e i h=>HK h<|f a b c d e i
theorem Xj {P:dH->Prop}(a:dH)(h:P a):∃a,P a:=⟨a,h⟩
theorem Tc {P:dH->eR->Prop}(a:dH)(b:eR)(h:P a b):∃a b,P a b:=⟨a,Xj (P:=P a) b h⟩
theorem Mn {P:dH->eR->gW->Prop}(a:dH)(b:eR)(c:gW)(h:P a b c):∃a b c,P a b c:=⟨a,Tc (P:=P a) b c h⟩
theorem Te {P:dH->eR->gW->lX->Prop}(a:dH)(b:eR)(c:gW)(d:lX)(h:P a b c d):∃a b c d,P a b c d:=⟨a,Mn (P:=P a) b c d h⟩
theorem Mp {P:dH->eR->gW->lX->oB->Prop}(a:dH)(b:eR)(c:gW)(d:lX)(e:oB)(h:P a b c d e):∃a b c d e,P a b c d e:=⟨a,Te (P:=P a) b c d e h⟩
theorem TF {P:dH->eR->gW->lX->oB->qR->Prop}(a:dH)(b:eR)(c:gW)(d:lX)(e:oB)(i:qR)(h:P a b c d e i):∃a b c d e i,P a b c d e i:=⟨a,Mp (P:=P a) b c d e i h⟩
theorem L5 {P:dH->eR->gW->lX->oB->qR->zT->Prop}(a:dH)(b:eR)(c:gW)(d:lX)(e:oB)(i:qR)(j:zT)(h:P a b c d e i j):∃a b c d e i j,P a b c d e i j:=⟨a,TF (P:=P a) b c d e i j h⟩
theorem Xk {P:dH->eR->gW->lX->oB->qR->zT->Cu->Prop}(a:dH)(b:eR)(c:gW)(d:lX)(e:oB)(i:qR)(j:zT)(k:Cu)(h:P a b c d e i j k):∃a b c d e i j k,P a b c d e i j k:=⟨a,L5 (P:=P a) b c d e i j k h⟩
theorem ye9 {P:dH->eR->gW->lX->oB->qR->zT->Cu->HA->Prop}(a:dH)(b:eR)(c:gW)(d:lX)(e:oB)(i:qR)(j:zT)(k:Cu)(l:HA)(h:P a b c d e i j k l):∃a b c d e i j k l,P a b c d e i j k l:=⟨a,Xk (P:=P a) b c d e i j k l h⟩
theorem XZ {P:dH->eR->gW->lX->oB->qR->zT->Cu->HA->yo->Prop}(a:dH)(b:eR)(c:gW)(d:lX)(e:oB)(i:qR)(j:zT)(k:Cu)(l:HA)(m:yo)(h:P a b c d e i j k l m):∃a b c d e i j k l m,P a b c d e i j k l m:=⟨a,ye9 (P:=P a) b c d e i j k l m h⟩
theorem X0 {P:dH->eR->gW->lX->oB->qR->zT->Cu->HA->yo->FD->Prop}(a:dH)(b:eR)(c:gW)(d:lX)(e:oB)(i:qR)(j:zT)(k:Cu)(l:HA)(m:yo)(n:FD)(h:P a b c d e i j k l m n):∃a b c d e i j k l m n,P a b c d e i j k l m n:=⟨a,XZ (P:=P a) b c d e i j k l m n h⟩
theorem X1 {P:dH->eR->gW->lX->oB->qR->zT->Cu->HA->yo->FD->Qa->Prop}(a:dH)(b:eR)(c:gW)(d:lX)(e:oB)(i:qR)(j:zT)(k:Cu)(l:HA)(m:yo)(n:FD)(o:Qa)(h:P a b c d e i j k l m n o):∃a b c d e i j k l m n o,P a b c d e i j k l m n o:=⟨a,X0 (P:=P a) b c d e i j k l m n o h⟩
theorem Tf {A B:Prop}(h1:A)(h2:B):A/\B:=⟨h1,h2⟩
theorem Mq {A B C:Prop}(h1:A)(h2:B)(h3:C):A/\B/\C:=⟨h1,Tf h2 h3⟩
theorem Mr {A B C D:Prop}(h1:A)(h2:B)(h3:C)(h4:D):A/\B/\C/\D:=⟨h1,Mq h2 h3 h4⟩
theorem O5 {A B C D E:Prop}(h1:A)(h2:B)(h3:C)(h4:D)(h5:E):A/\B/\C/\D/\E:=⟨h1,Mr h2 h3 h4 h5⟩
theorem TG {A B C D E F:Prop}(h1:A)(h2:B)(h3:C)(h4:D)(h5:E)(h6:F):A/\B/\C/\D/\E/\F:=⟨h1,O5 h2 h3 h4 h5 h6⟩
theorem ya7 {A B C D E F H:Prop}(h1:A)(h2:B)(h3:C)(h4:D)(h5:E)(h6:F)(h7:H):A/\B/\C/\D/\E/\F/\H:=⟨h1,TG h2 h3 h4 h5 h6 h7⟩
theorem Tg {A B C D E F H aaM:Prop}(h1:A)(h2:B)(h3:C)(h4:D)(h5:E)(h6:F)(h7:H)(h8:aaM):A/\B/\C/\D/\E/\F/\H/\aaM:=⟨h1,ya7 h2 h3 h4 h5 h6 h7 h8⟩
theorem Xl {A B C D E F H aaM J:Prop}(h1:A)(h2:B)(h3:C)(h4:D)(h5:E)(h6:F)(h7:H)(h8:aaM)(h9:J):A/\B/\C/\D/\E/\F/\H/\aaM/\J:=⟨h1,Tg h2 h3 h4 h5 h6 h7 h8 h9⟩
theorem X2 {A B C D E F H aaM J K:Prop}(h1:A)(h2:B)(h3:C)(h4:D)(h5:E)(h6:F)(h7:H)(h8:aaM)(h9:J)(h10:K):A/\B/\C/\D/\E/\F/\H/\aaM/\J/\K:=⟨h1,Xl h2 h3 h4 h5 h6 h7 h8 h9 h10⟩
theorem X3 {A B C D E F H aaM J K L:Prop}(h1:A)(h2:B)(h3:C)(h4:D)(h5:E)(h6:F)(h7:H)(h8:aaM)(h9:J)(h10:K)(SJ:L):A/\B/\C/\D/\E/\F/\H/\aaM/\J/\K/\L:=⟨h1,X2 h2 h3 h4 h5 h6 h7 h8 h9 h10 SJ⟩
theorem bF {A B:dH->Prop}(a:dH)(h1:A a)(h2:B a):∃a,A a/\B a:=Xj (P:=λa=>A a/\B a) a<|Tf h1 h2
theorem lY {A B C:dH->Prop}(a:dH)(h1:A a)(h2:B a)(h3:C a):∃a,A a/\B a/\C a:=Xj (P:=λa=>A a/\B a/\C a) a<|Mq h1 h2 h3
theorem oG {A B C D:dH->Prop}(a:dH)(h1:A a)(h2:B a)(h3:C a)(h4:D a):∃a,A a/\B a/\C a/\D a:=Xj (P:=λa=>A a/\B a/\C a/\D a) a<|Mr h1 h2 h3 h4
theorem FF {A:dH->eR->Prop}(a:dH)(b:eR)(h1:A a b):∃a b,A a b:=Tc (P:=λa b=>A a b) a b h1
theorem kz {A B:dH->eR->Prop}(a:dH)(b:eR)(h1:A a b)(h2:B a b):∃a b,A a b/\B a b:=Tc (P:=λa b=>A a b/\B a b) a b<|Tf h1 h2
theorem fc {A B C:dH->eR->Prop}(a:dH)(b:eR)(h1:A a b)(h2:B a b)(h3:C a b):∃a b,A a b/\B a b/\C a b:=Tc (P:=λa b=>A a b/\B a b/\C a b) a b<|Mq h1 h2 h3
theorem Cv {A B C D:dH->eR->Prop}(a:dH)(b:eR)(h1:A a b)(h2:B a b)(h3:C a b)(h4:D a b):∃a b,A a b/\B a b/\C a b/\D a b:=Tc (P:=λa b=>A a b/\B a b/\C a b/\D a b) a b<|Mr h1 h2 h3 h4
theorem Aa {A:dH->eR->gW->Prop}(a:dH)(b:eR)(c:gW)(h1:A a b c):∃a b c,A a b c:=Mn (P:=λa b c=>A a b c) a b c h1
theorem Cw {A B:dH->eR->gW->Prop}(a:dH)(b:eR)(c:gW)(h1:A a b c)(h2:B a b c):∃a b c,A a b c/\B a b c:=Mn (P:=λa b c=>A a b c/\B a b c) a b c<|Tf h1 h2
theorem Ab {A B C:dH->eR->gW->Prop}(a:dH)(b:eR)(c:gW)(h1:A a b c)(h2:B a b c)(h3:C a b c):∃a b c,A a b c/\B a b c/\C a b c:=Mn (P:=λa b c=>A a b c/\B a b c/\C a b c) a b c<|Mq h1 h2 h3
theorem tL {A B C D:dH->eR->gW->Prop}(a:dH)(b:eR)(c:gW)(h1:A a b c)(h2:B a b c)(h3:C a b c)(h4:D a b c):∃a b c,A a b c/\B a b c/\C a b c/\D a b c:=Mn (P:=λa b c=>A a b c/\B a b c/\C a b c/\D a b c) a b c<|Mr h1 h2 h3 h4
theorem X4 {A B C D E:dH->eR->gW->Prop}(a:dH)(b:eR)(c:gW)(h1:A a b c)(h2:B a b c)(h3:C a b c)(h4:D a b c)(h5:E a b c):∃a b c,A a b c/\B a b c/\C a b c/\D a b c/\E a b c:=Mn (P:=λa b c=>A a b c/\B a b c/\C a b c/\D a b c/\E a b c) a b c<|O5 h1 h2 h3 h4 h5
theorem X5 {A:dH->eR->gW->lX->Prop}(a:dH)(b:eR)(c:gW)(d:lX)(h1:A a b c d):∃a b c d,A a b c d:=Te (P:=λa b c d=>A a b c d) a b c d h1
theorem TH {A B:dH->eR->gW->lX->Prop}(a:dH)(b:eR)(c:gW)(d:lX)(h1:A a b c d)(h2:B a b c d):∃a b c d,A a b c d/\B a b c d:=Te (P:=λa b c d=>A a b c d/\B a b c d) a b c d<|Tf h1 h2
theorem X6 {A:dH->eR->gW->lX->oB->Prop}(a:dH)(b:eR)(c:gW)(d:lX)(e:oB)(h1:A a b c d e):∃a b c d e,A a b c d e:=Mp (P:=λa b c d e=>A a b c d e) a b c d e h1
theorem FH {A B C:dH->eR->gW->lX->oB->qR->Prop}(a:dH)(b:eR)(c:gW)(d:lX)(e:oB)(i:qR)(h1:A a b c d e i)(h2:B a b c d e i)(h3:C a b c d e i):∃a b c d e i,A a b c d e i/\B a b c d e i/\C a b c d e i:=TF (P:=λa b c d e i=>A a b c d e i/\B a b c d e i/\C a b c d e i) a b c d e i<|Mq h1 h2 h3
theorem rS {A B C D E F:dH->eR->gW->lX->oB->qR->Prop}(a:dH)(b:eR)(c:gW)(d:lX)(e:oB)(i:qR)(h1:A a b c d e i)(h2:B a b c d e i)(h3:C a b c d e i)(h4:D a b c d e i)(h5:E a b c d e i)(h6:F a b c d e i):∃a b c d e i,A a b c d e i/\B a b c d e i/\C a b c d e i/\D a b c d e i/\E a b c d e i/\F a b c d e i:=TF (P:=λa b c d e i=>A a b c d e i/\B a b c d e i/\C a b c d e i/\D a b c d e i/\E a b c d e i/\F a b c d e i) a b c d e i<|TG h1 h2 h3 h4 h5 h6
theorem Cx {A:dH->Prop}(h:Q/\∃a,A a)(f:Q->∀a,A a->G):G:=aN h.2<|f h.1
theorem TI {A B:dH->Prop}(h:Q/\∃a,A a/\B a)(f:Q->∀a,A a->B a->G):G:=aJ h.2<|f h.1
theorem Ms {A:dH->eR->Prop}(h:Q/\∃a b,A a b)(f:Q->∀a b,A a b->G):G:=kQ h.2<|f h.1
theorem X7 {A B C:dH->eR->Prop}(h:Q/\∃a b,A a b/\B a b/\C a b)(f:Q->∀a b,A a b->B a b->C a b->G):G:=de h.2<|f h.1
theorem Qg {A B C D:dH->eR->gW->Prop}(h:Q/\∃a b c,A a b c/\B a b c/\C a b c/\D a b c)(f:Q->∀a b c,A a b c->B a b c->C a b c->D a b c->G):G:=uI h.2<|f h.1
theorem TJ {A B C D E:dH->eR->gW->Prop}(h:Q/\∃a b c,A a b c/\B a b c/\C a b c/\D a b c/\E a b c)(f:Q->∀a b c,A a b c->B a b c->C a b c->D a b c->E a b c->G):G:=Mm h.2<|f h.1
theorem TK {A B C:dH->eR->gW->lX->oB->qR->Prop}(h:Q/\∃a b c d e i,A a b c d e i/\B a b c d e i/\C a b c d e i)(f:Q->∀a b c d e i,A a b c d e i->B a b c d e i->C a b c d e i->G):G:=FE h.2<|f h.1
theorem TL {A:dH->Prop}(q:Q)(a:dH)(h1:A a):Q/\∃a,A a:=⟨q,a,h1⟩
theorem X8 {A B:dH->Prop}(q:Q)(a:dH)(h1:A a)(h2:B a):Q/\∃a,A a/\B a:=⟨q,bF a h1 h2⟩
theorem X9 {A:dH->eR->Prop}(q:Q)(a:dH)(b:eR)(h1:A a b):Q/\∃a b,A a b:=⟨q,FF a b h1⟩
theorem Ya {A B C D:dH->eR->Prop}(q:Q)(a:dH)(b:eR)(h1:A a b)(h2:B a b)(h3:C a b)(h4:D a b):Q/\∃a b,A a b/\B a b/\C a b/\D a b:=⟨q,Cv a b h1 h2 h3 h4⟩
theorem TM {A B C D:dH->eR->gW->Prop}(q:Q)(a:dH)(b:eR)(c:gW)(h1:A a b c)(h2:B a b c)(h3:C a b c)(h4:D a b c):Q/\∃a b c,A a b c/\B a b c/\C a b c/\D a b c:=⟨q,tL a b c h1 h2 h3 h4⟩
theorem TN {A B C D E:dH->eR->gW->Prop}(q:Q)(a:dH)(b:eR)(c:gW)(h1:A a b c)(h2:B a b c)(h3:C a b c)(h4:D a b c)(h5:E a b c):Q/\∃a b c,A a b c/\B a b c/\C a b c/\D a b c/\E a b c:=⟨q,X4 a b c h1 h2 h3 h4 h5⟩
theorem TO {A B C:dH->eR->gW->lX->oB->qR->Prop}(q:Q)(a:dH)(b:eR)(c:gW)(d:lX)(e:oB)(i:qR)(h1:A a b c d e i)(h2:B a b c d e i)(h3:C a b c d e i):Q/\∃a b c d e i,A a b c d e i/\B a b c d e i/\C a b c d e i:=⟨q,FH a b c d e i h1 h2 h3⟩
theorem o3 {A B C:Prop}(h:A∨B∨C)(f1:A->G)(f2:B->G)(f3:C->G):G:=h.elim f1 <| λh=>h.elim f2 f3
theorem o4 {A B C D:Prop}(h:A∨B∨C∨D)(f1:A->G)(f2:B->G)(f3:C->G)(f4:D->G):G:=h.elim f1 <| λh=>h.elim f2 <| λh=>h.elim f3 f4
theorem o5 {A B C D E:Prop}(h:A∨B∨C∨D∨E)(f1:A->G)(f2:B->G)(f3:C->G)(f4:D->G)(f5:E->G):G:=h.elim f1 <| λh=>h.elim f2 <| λh=>h.elim f3 <| λh=>h.elim f4 f5
theorem aO {n m:Nat}(h:n.ble m=true):n<=m:=Nat.le_of_ble_eq_true h
theorem gX {α:Type u}{β:Type v}{a:List α}{x:α}{l:List β}{n:Nat}(h:a.length+(l.length+1)<n):(a++[x]).length+l.length<n:=by
 rw[cN,j4,Nat.add_assoc,Nat.add_comm 1];exact h
theorem ua {α:Type u}{β:Type v}{a:List α}{x:α}{l:List β}{n:Nat}(h:a.length+(l.length+1)<=n):(a++[x]).length+l.length<=n:=by
 rw[cN,j4,Nat.add_assoc,Nat.add_comm 1];exact h
theorem ig {a b n m:Nat}(h:a+b<n)(k:n.ble m=true):a<m:=dU (lm (ej _ _) h)<|aO k
theorem Qh {a b n m:Nat}(h:a+b<=n)(k:(n+1).ble m=true):a<m:=lm (eo (ej _ _) h)<|aO k
theorem yq {a b n:Nat}(h:a+(b+1)<n):a+b<n:=Nat.lt_of_succ_lt h
theorem cb {a n m:Nat}(h:a<n)(k:n.ble m=true):a<m:=dU h<|aO k
theorem eu {a n m:Nat}(h:a<=n)(k:(n+1).ble m=true):a<m:=lm h<|aO k
theorem HM {a n m:Nat}(h:a<=n)(k:n.ble m=true):a<=m:=eo h<|aO k
theorem uK {a n m:Nat}(h:n<=a)(k:m.ble n=true):m<=a:=eo (aO k) h
theorem pC {n k:Nat}(h:k+1<=n):∃m,n=m+1/\k<=m:=⟨n - 1,by omega,by omega⟩
end
abbrev Mt:OpenLaw:=PySem.Challenge.rw_sa0448_01
abbrev pw:Program:=Mt.prog
def TP (j:Nat)(s:Stmt):Stmt:=match s with
 | .ClassDef _ _ _ b _ _ _ _ _ _ _=>(b[j]?).getD<|.Pass default
 |_=>.Pass default
def Yb (i j:Nat):Stmt:=match j with
 | 0=>(pw.main.body[i]?).getD<|.Pass default
 |j+1=>TP j<|(pw.main.body[i]?).getD<|.Pass default
structure Fd where
 name:Str:=default
 params:Arguments:=⟨[],[],none,[],[],none,[]⟩
 body:List Stmt:=[]
 scope:Scope:=default
def fdOf (s:Stmt):Fd:=match s with
 | .FunctionDef name params body _ _ _ scope _ _ _=>{name,params,body,scope}
 |_=>{}
abbrev vs (s:String)(t:Nat):Value:=.str (Str.ofString s) t
structure FR where
 (a i j:Nat) (q:String) (m d t l k r8 r11 r13 r14 r15 u:Nat)
def El (n:Nat):Value:=if n==0 then .none else .ref n
def TQ (n:Nat):Value:=match n with
 | 0=>vs "lendcore.errors" 194
 | 1=>vs "lendcore.names" 276
 | 2=>vs "lendcore.modules" 406
 |_=>vs "law_sa0448_01" 757
def FR.s (r:FR):Fd:=fdOf<|Yb r.i r.j
def FR.qual (r:FR):Str:=Str.ofString r.q
def FR.fd (r:FR):FuncData:=fnX r.s.name r.qual r.s.params r.s.body r.s.scope [] (El r.d) .none .none (TQ r.m) none (.ref<|r.a - 1) .none
def FR.cs (r:FR):Array Value:=#[.str r.s.name r.t,.str r.qual (r.t+1),vs "/claim/cut.py" (r.t+2),.int r.l 0,.int r.k 0,.int 0 0,.int 0 0,.int 3 0,.ref r.r8,.bool true,.int 181 0,.ref r.r11,.none,El r.r13,El r.r14,.ref r.r15,.int r.u 0,.int r.l 0,vs "/claim/cut.py" (r.u+1)]
def FR.code (r:FR):Obj:={cls:=.type "code",data:=.fields r.cs}
def FR.fn (r:FR):Obj:=⟨.type "function",none,.func r.fd,#[]⟩
def kv (P:Params)(s:String)(t:Nat)(v:Value):DictEntry:={hash:=PyData.keyHash P<|Str.ofString s,key:=.str (Str.ofString s) t,val:=v}
def cO (n:String)(bases mro:List Value)(ns:Nat)(sub:List Value)(sl:Array (Option Value)):Obj:={cls:=.type "type",data:=.cls {name:=Str.ofString n,bases,mro,ns,qualname:=Str.ofString n,subclasses:=sub},slots:=sl}
def sO (c:String)(l:Array Value)(n:Nat):Obj:={cls:=.type c,data:=.seq l n}
noncomputable def jV:List FR:=[⟨36,2,1,"LendError.__init__",0,29,209,7,3,30,31,32,33,34,215⟩,
 ⟨86,9,0,"region_told",1,0,290,20,2,80,81,82,83,84,295⟩,
 ⟨100,10,1,"Reader.__init__",1,0,310,28,6,94,95,96,97,98,319⟩,
 ⟨105,10,2,"Reader.read",1,0,322,35,2,101,102,0,0,103,325⟩,
 ⟨112,10,3,"Reader.unknown",1,0,328,51,1,106,107,108,109,110,332⟩,
 ⟨117,10,4,"Reader.path",1,0,335,54,3,113,114,0,0,115,338⟩,
 ⟨124,10,5,"Reader.single",1,0,341,65,3,118,119,120,121,122,350⟩,
 ⟨131,10,6,"Reader.bare",1,0,353,81,4,125,126,127,128,129,360⟩,
 ⟨136,10,7,"Reader.named",1,0,363,86,4,132,133,0,0,134,366⟩,
 ⟨151,11,0,"type_of",1,144,382,97,6,145,146,147,148,149,391⟩,
 ⟨156,12,0,"trait_of",1,0,394,99,4,152,153,0,0,154,397⟩,
 ⟨161,13,0,"bounds_of",1,0,400,108,4,157,158,0,0,159,403⟩,
 ⟨172,19,0,"joined",2,0,431,131,2,166,167,168,169,170,436⟩,
 ⟨179,20,0,"parent_of",2,0,439,133,1,173,174,175,176,177,444⟩,
 ⟨186,21,0,"is_within",2,0,447,136,2,180,181,182,183,184,452⟩,
 ⟨200,22,1,"Use.__init__",2,0,467,140,4,194,195,196,197,198,474⟩,
 ⟨221,23,1,"Table.__init__",2,0,500,146,1,215,216,217,218,219,504⟩,
 ⟨228,23,2,"Table.space",2,0,507,151,2,222,223,224,225,226,512⟩,
 ⟨233,23,3,"Table.is_taken",2,0,515,154,3,229,230,0,0,231,518⟩,
 ⟨254,24,1,"Modules.__init__",2,0,544,158,2,248,249,250,251,252,553⟩,
 ⟨261,24,2,"Modules.enter",2,0,556,173,3,255,256,257,258,259,565⟩,
 ⟨268,24,3,"Modules.declare",2,0,568,192,7,262,263,264,265,266,581⟩,
 ⟨273,24,4,"Modules.declare_type",2,0,584,203,5,269,270,0,0,271,587⟩,
 ⟨280,24,5,"Modules.enter_variants",2,0,590,210,3,274,275,276,277,278,597⟩,
 ⟨287,24,6,"Modules.enter_use",2,0,600,216,3,281,282,283,284,285,612⟩,
 ⟨294,24,7,"Modules.can_see",2,0,615,226,4,288,289,290,291,292,622⟩,
 ⟨302,24,8,"Modules.find",2,295,626,229,5,296,297,298,299,300,634⟩,
 ⟨309,24,9,"Modules.walk",2,0,637,233,6,303,304,305,306,307,650⟩,
 ⟨316,24,10,"Modules.begin",2,0,653,245,4,310,311,312,313,314,662⟩,
 ⟨323,24,11,"Modules.step",2,0,665,259,7,317,318,319,320,321,676⟩,
 ⟨330,24,12,"Modules.look",2,0,679,267,7,324,325,326,327,328,692⟩,
 ⟨337,24,13,"Modules.follow",2,0,695,286,6,331,332,333,334,335,705⟩,
 ⟨345,24,14,"Modules.find_prefix",2,338,709,295,4,339,340,341,342,343,716⟩,
 ⟨352,24,15,"Modules.checked_uses",2,0,719,298,1,346,347,348,349,350,723⟩,
 ⟨359,24,16,"Modules.checked_publics",2,0,726,301,1,353,354,355,356,357,734⟩,
 ⟨364,24,17,"Modules.may_tell_on",2,0,737,309,3,360,361,0,0,362,740⟩,
 ⟨378,26,0,"_law_pool",3,0,759,322,2,372,373,374,375,376,767⟩,
 ⟨385,27,0,"_law_take",3,0,770,327,2,379,380,381,382,383,776⟩,
 ⟨392,28,0,"_law_one",3,0,779,334,2,386,387,388,389,390,784⟩,
 ⟨404,32,0,"_law_joined",3,0,804,339,2,398,399,400,401,402,809⟩,
 ⟨411,33,0,"_law_parts",3,0,812,341,1,405,406,407,408,409,816⟩,
 ⟨418,34,0,"_law_word",3,0,819,343,1,412,413,414,415,416,823⟩,
 ⟨425,35,0,"_law_fn",3,0,826,352,2,419,420,421,422,423,831⟩,
 ⟨432,36,0,"_law_sees",3,0,834,354,2,426,427,428,429,430,839⟩,
 ⟨439,37,0,"_law_way_seen",3,0,842,356,3,433,434,435,436,437,848⟩,
 ⟨446,38,0,"_law_use",3,0,851,358,3,440,441,442,443,444,865⟩,
 ⟨453,39,0,"_law_items",3,0,868,379,3,447,448,449,450,451,882⟩,
 ⟨458,40,0,"_law_publics_right",3,0,885,391,1,454,455,0,0,456,888⟩,
 ⟨465,41,0,"_law_plain_right",3,0,891,400,1,459,460,461,462,463,900⟩,
 ⟨472,42,0,"_law_chain_right",3,0,903,406,1,466,467,468,469,470,913⟩,
 ⟨479,43,0,"_law_world",3,0,916,414,0,473,474,475,476,477,920⟩,
 ⟨486,44,0,"_law_path",3,0,923,419,3,480,481,482,483,484,929⟩,
 ⟨493,45,0,"_law_region",3,0,932,421,1,487,488,489,490,491,937⟩,
 ⟨498,46,0,"_law_all",3,0,940,424,1,494,495,0,0,496,943⟩,
 ⟨503,47,0,"_law_type",3,0,946,427,2,499,500,0,0,501,949⟩,
 ⟨510,48,0,"_law_bound",3,0,952,461,1,504,505,506,507,508,957⟩,
 ⟨515,49,0,"_law_bounds_right",3,0,960,464,2,511,512,0,0,513,963⟩,
 ⟨522,50,0,"_law_fixed_right",3,0,966,478,1,516,517,518,519,520,972⟩,
 ⟨529,51,0,"law",3,0,975,485,1,523,524,525,526,527,984⟩]
noncomputable def kd3 (P:Params):Obj:={cls:=.type "dict",data:=.dict #[kv P "__name__" 165 (vs "law_sa0448_01" 757),kv P "__doc__" 166 (.none),kv P "__package__" 167 (.none),kv P "__loader__" 168 (.builtin "__main__.__loader__#opaque"),kv P "__spec__" 169 (.none),kv P "__annotations__" 170 (.ref 6),kv P "__builtins__" 171 (.ref 4),kv P "__file__" 173 (vs "/claim/cut.py" 172),kv P "__cached__" 174 (.none),kv P "_wall" 193 (.ref 21),kv P "LendError" 227 (.ref 39),kv P "NameFault" 243 (.ref 52),kv P "VisibilityFault" 259 (.ref 64),kv P "TypeFault" 275 (.ref 76),kv P "INT_KINDS" 287 (.ref 79),kv P "MOST_ELEMENTS" 289 (.int 10000 288),kv P "region_told" 297 (.ref 86),kv P "Reader" 381 (.ref 139),kv P "type_of" 393 (.ref 151),kv P "trait_of" 399 (.ref 156),kv P "bounds_of" 405 (.ref 161),kv P "PRELUDE_NAMES" 421 (.ref 162),kv P "MOST_USES" 423 (.int 30 422),kv P "WAYS" 427 (.ref 163),kv P "PLAIN_NAMES" 430 (.ref 165),kv P "joined" 438 (.ref 172),kv P "parent_of" 446 (.ref 179),kv P "is_within" 454 (.ref 186),kv P "Use" 487 (.ref 203),kv P "Table" 531 (.ref 236),kv P "Modules" 756 (.ref 367),kv P "_law_pool" 769 (.ref 378),kv P "_law_take" 778 (.ref 385),kv P "_law_one" 786 (.ref 392),kv P "_law_none" 787 (.ref 395),kv P "_law_places" 791 (.ref 396),kv P "_law_plain" 803 (.ref 397),kv P "_law_joined" 811 (.ref 404),kv P "_law_parts" 818 (.ref 411),kv P "_law_word" 825 (.ref 418),kv P "_law_fn" 833 (.ref 425),kv P "_law_sees" 841 (.ref 432),kv P "_law_way_seen" 850 (.ref 439),kv P "_law_use" 867 (.ref 446),kv P "_law_items" 884 (.ref 453),kv P "_law_publics_right" 890 (.ref 458),kv P "_law_plain_right" 902 (.ref 465),kv P "_law_chain_right" 915 (.ref 472),kv P "_law_world" 922 (.ref 479),kv P "_law_path" 931 (.ref 486),kv P "_law_region" 939 (.ref 493),kv P "_law_all" 945 (.ref 498),kv P "_law_type" 951 (.ref 503),kv P "_law_bound" 959 (.ref 510),kv P "_law_bounds_right" 965 (.ref 515),kv P "_law_fixed_right" 974 (.ref 522),kv P "law" 986 (.ref 529)] 57}
noncomputable def TR (P:Params):Obj:={cls:=.type "dict",data:=.dict #[kv P "__module__" 203 (vs "lendcore.errors" 194),kv P "__firstlineno__" 207 (.int 5 206),kv P "__init__" 217 (.ref 36),kv P "__static_attributes__" 220 (.ref 37),kv P "__weakref__" 222 (.ref 40),kv P "__doc__" 223 (.none)] 3}
noncomputable def TS (P:Params):Obj:={cls:=.type "dict",data:=.dict #[kv P "__module__" 235 (vs "lendcore.errors" 194),kv P "__firstlineno__" 239 (.int 11 238),kv P "__static_attributes__" 240 (.ref 50),kv P "__doc__" 241 (.none)] 2}
noncomputable def TU (P:Params):Obj:={cls:=.type "dict",data:=.dict #[kv P "__module__" 251 (vs "lendcore.errors" 194),kv P "__firstlineno__" 255 (.int 13 254),kv P "__static_attributes__" 256 (.ref 62),kv P "__doc__" 257 (.none)] 2}
noncomputable def TV (P:Params):Obj:={cls:=.type "dict",data:=.dict #[kv P "__module__" 267 (vs "lendcore.errors" 194),kv P "__firstlineno__" 271 (.int 15 270),kv P "__static_attributes__" 272 (.ref 74),kv P "__doc__" 273 (.none)] 2}
noncomputable def TW (P:Params):Obj:={cls:=.type "dict",data:=.dict #[kv P "__module__" 305 (vs "lendcore.names" 276),kv P "__firstlineno__" 309 (.int 26 308),kv P "__init__" 321 (.ref 100),kv P "read" 327 (.ref 105),kv P "unknown" 334 (.ref 112),kv P "path" 340 (.ref 117),kv P "single" 352 (.ref 124),kv P "bare" 362 (.ref 131),kv P "named" 368 (.ref 136),kv P "__static_attributes__" 374 (.ref 137),kv P "__dict__" 376 (.ref 140),kv P "__weakref__" 378 (.ref 141),kv P "__doc__" 379 (.none)] 4}
noncomputable def TY (P:Params):Obj:={cls:=.type "dict",data:=.dict #[kv P "__module__" 462 (vs "lendcore.modules" 406),kv P "__firstlineno__" 466 (.int 138 465),kv P "__init__" 476 (.ref 200),kv P "__static_attributes__" 480 (.ref 201),kv P "__dict__" 482 (.ref 204),kv P "__weakref__" 484 (.ref 205),kv P "__doc__" 485 (.none)] 4}
noncomputable def TZ (P:Params):Obj:={cls:=.type "dict",data:=.dict #[kv P "__module__" 495 (vs "lendcore.modules" 406),kv P "__firstlineno__" 499 (.int 144 498),kv P "__init__" 506 (.ref 221),kv P "space" 514 (.ref 228),kv P "is_taken" 520 (.ref 233),kv P "__static_attributes__" 524 (.ref 234),kv P "__dict__" 526 (.ref 237),kv P "__weakref__" 528 (.ref 238),kv P "__doc__" 529 (.none)] 4}
noncomputable def T5 (P:Params):Obj:={cls:=.type "dict",data:=.dict #[kv P "__module__" 539 (vs "lendcore.modules" 406),kv P "__firstlineno__" 543 (.int 156 542),kv P "__init__" 555 (.ref 254),kv P "enter" 567 (.ref 261),kv P "declare" 583 (.ref 268),kv P "declare_type" 589 (.ref 273),kv P "enter_variants" 599 (.ref 280),kv P "enter_use" 614 (.ref 287),kv P "can_see" 624 (.ref 294),kv P "find" 636 (.ref 302),kv P "walk" 652 (.ref 309),kv P "begin" 664 (.ref 316),kv P "step" 678 (.ref 323),kv P "look" 694 (.ref 330),kv P "follow" 707 (.ref 337),kv P "find_prefix" 718 (.ref 345),kv P "checked_uses" 725 (.ref 352),kv P "checked_publics" 736 (.ref 359),kv P "may_tell_on" 742 (.ref 364),kv P "__static_attributes__" 749 (.ref 365),kv P "__dict__" 751 (.ref 368),kv P "__weakref__" 753 (.ref 369),kv P "__doc__" 754 (.none)] 4}
noncomputable def c39:Obj:=cO "LendError" [.type "Exception"] [.ref 39,.type "Exception",.type "BaseException",.type "object"] 38 [.ref 52,.ref 64,.ref 76] #[some (.ref 22),none,some (vs "LendError" 196),some (vs "LendError" 204),some (.builtin "Exception.__new__"),some (.bool true)]
noncomputable def Yc:Obj:=cO "NameFault" [.ref 39] [.ref 52,.ref 39,.type "Exception",.type "BaseException",.type "object"] 51 [] #[some (.ref 43),none,some (vs "NameFault" 228),some (vs "NameFault" 236),some (.builtin "Exception.__new__"),some (.bool true)]
noncomputable def Yd:Obj:=cO "VisibilityFault" [.ref 39] [.ref 64,.ref 39,.type "Exception",.type "BaseException",.type "object"] 63 [] #[some (.ref 55),none,some (vs "VisibilityFault" 244),some (vs "VisibilityFault" 252),some (.builtin "Exception.__new__"),some (.bool true)]
noncomputable def Ye:Obj:=cO "TypeFault" [.ref 39] [.ref 76,.ref 39,.type "Exception",.type "BaseException",.type "object"] 75 [] #[some (.ref 67),none,some (vs "TypeFault" 260),some (vs "TypeFault" 268),some (.builtin "Exception.__new__"),some (.bool true)]
noncomputable def Yf:Obj:=cO "Reader" [.type "object"] [.ref 139,.type "object"] 138 [] #[none,none,some (vs "Reader" 298),some (vs "Reader" 306),some (.builtin "object.__new__"),some (.bool true)]
noncomputable def Yg:Obj:=cO "Use" [.type "object"] [.ref 203,.type "object"] 202 [] #[none,none,some (vs "Use" 455),some (vs "Use" 463),some (.builtin "object.__new__"),some (.bool true)]
noncomputable def Yh:Obj:=cO "Table" [.type "object"] [.ref 236,.type "object"] 235 [] #[none,none,some (vs "Table" 488),some (vs "Table" 496),some (.builtin "object.__new__"),some (.bool true)]
noncomputable def Yi:Obj:=cO "Modules" [.type "object"] [.ref 367,.type "object"] 366 [] #[none,none,some (vs "Modules" 532),some (vs "Modules" 540),some (.builtin "object.__new__"),some (.bool true)]
def T6 (P:Params):Frag:=[(3,kd3 P),
 (29,sO "tuple" #[.int 0 208] 0),
 (38,TR P),
 (39,c39),
 (51,TS P),
 (52,Yc),
 (63,TU P),
 (64,Yd),
 (75,TV P),
 (76,Ye),
 (79,sO "tuple" #[vs "i8" 278,vs "i16" 279,vs "i32" 280,vs "i64" 281,vs "u8" 282,vs "u16" 283,vs "u32" 284,vs "u64" 285,vs "usize" 286] 0),
 (138,TW P),
 (139,Yf),
 (144,sO "tuple" #[.none] 0),
 (162,sO "tuple" #[vs "Clone" 408,vs "Copy" 409,vs "Default" 410,vs "Drop" 411,vs "Err" 412,vs "None" 413,vs "Ok" 414,vs "Option" 415,vs "Range8" 416,vs "Result" 417,vs "Some" 418,vs "Vec8" 419,vs "swapped" 420] 0),
 (163,sO "tuple" #[vs "crate" 424,vs "self" 425,vs "super" 426] 0),
 (165,sO "tuple" #[vs "i8" 278,vs "i16" 279,vs "i32" 280,vs "i64" 281,vs "u8" 282,vs "u16" 283,vs "u32" 284,vs "u64" 285,vs "usize" 286,vs "bool" 428,vs "Box" 429] 0),
 (202,TY P),
 (203,Yg),
 (235,TZ P),
 (236,Yh),
 (295,sO "tuple" #[.int 0 625] 0),
 (338,sO "tuple" #[.int 0 708] 0),
 (366,T5 P),
 (367,Yi),
 (393,sO "tuple" #[] 0),
 (394,sO "tuple" #[] 0),
 (395,sO "tuple" #[.ref 393,.ref 394] 0),
 (396,sO "list" #[vs "" 788,vs "a" 789,vs "a::b" 790] 0),
 (397,sO "list" #[vs "i8" 792,vs "i16" 793,vs "i32" 794,vs "i64" 795,vs "u8" 796,vs "u16" 797,vs "u32" 798,vs "u64" 799,vs "usize" 800,vs "bool" 801,vs "Box" 802] 0)]
noncomputable def FI:List FR->Frag
 | []=>[]
 |r::t=>(r.a,r.fn)::(r.a - 1,r.code)::FI t
def KF (P:Params):Frag:=FI jV++T6 P
def O6:FR:=⟨36,2,1,"LendError.__init__",0,29,209,7,3,30,31,32,33,34,215⟩
def HC (P:Params):Frag:=[(nat_lit 3,kd3 P),(nat_lit 29,sO "tuple" #[.int 0 208] 0),(nat_lit 35,O6.code),(nat_lit 36,O6.fn),(nat_lit 38,TR P),(nat_lit 39,c39),(nat_lit 51,TS P),(nat_lit 52,Yc),(nat_lit 63,TU P),(nat_lit 64,Yd),(nat_lit 75,TV P),(nat_lit 76,Ye)]
noncomputable abbrev nZ:List (Addr × Addr):=[(457,455),(464,460),(471,467),(514,512),(521,517),(528,524)]
structure Wd where
 w:World
 b:Addr
 o:Obj
def Wd.K (z:Wd):Frag:=KF z.w.params++[(z.b,z.o)]
def Wd.Claim (z:Wd):Prop:=∀(script:List Int) (vs:Array Value) (n:Nat) (base:Heap) (s:Shared) (R:Result->Shared->Prop) (p:Program) (loose:List Str) (kL:ExcName->Option Value) (mg mb:Str->Option Value),
 script.length<1000->z.o.cls=.type "list"->z.o.data=.seq vs n->IntsAre vs.toList script->z.K.lookup z.b=some z.o->z.K.In base->Top p loose kL mg mb base->(∀b o,base.get? b=some o->s.heap.get? b=some o)->base.objs.size<=s.heap.objs.size->
 (∀p∈tabNews nZ,s.heap.get? p.1=some p.2/\base.get? p.1=none)->
 (∀h' fb,(∀b o,base.get? b=some o->h'.get? b=some o)->(∀q∈nZ,GrownAt q.2 h')->R (.ok<|.ret<|.bool true) {s with heap:=h',toks:=fb})->
 codeAny (model Mt.prog z.w) callerA (.call (.ref 529) ⟨[.ref z.b],[]⟩) R s
theorem Qi:Nonempty Wd:=⟨⟨⟨λ_ _=>0,{strHash:=λ_=>0,shareClass:=λ_=>0,mergeTok:=id,idOf:=λ_=>0,idOfShared:=λ_ _=>0,followText:=λ_=>false,idOfImm:=λ_=>0}⟩,0,default⟩⟩
noncomputable def z0:Wd:=@Classical.epsilon Wd Qi λz=>¬z.Claim
noncomputable def w:World:=z0.w
noncomputable def prog:Program:=Mt.prog
noncomputable def K:Frag:=z0.K
theorem FJ (h:z0.Claim)(z:Wd):z.Claim:=Classical.byContradiction λn=>Classical.epsilon_spec (p:=λz:Wd=>¬z.Claim) ⟨z,n⟩ h
section
set_option tactic.hygienic true
theorem ws:PySem.Challenge.rw_sa0448_01.wellSaid=true:=by
 rw[PySem.W.Fast.te9446332074065402090]
 iterate 33 refine look_both ?_ (by kernel_rfl)
 refine look_both (look_both ?_ ?_) ?_<;>as_aux_lemma=>kernel_rfl
end
section
set_option tactic.hygienic true
noncomputable def q0:Program:={pw with main:={pw.main with body:=(pw.main.body.drop<|pw.main.body.length - 1)}}
noncomputable def yr:List Str:=pw.boundNames.filter λn=>n != ("law":Str)
def asF:List Addr:=(FI jV).map (·.1)++[3,29,38,39,51,52,63,64,75,76,79,138,139,144,162,163,165,202,203,235,236,295,338,366,367,393,394,395,396,397]
def hook:Hook:=kmHook KF asF (λP=>by kernel_rfl)<|nZ.map (·.2)
theorem Mu {w:World}{h:Heap}(aaJ:hook.says w h):TabsAt nZ h:=by
 have X:(KF w.params).In h:=km_in_of aaJ;have t:=km_tabs_of aaJ;have c:∀q∈nZ,CodeHd h q.1 q.2:=by
  intro q hq;have:(nZ.all λq=>codeHdIn (KF w.params) q.1 q.2)=true:=by kernel_rfl
  exact codeHd_of_K X<|gH.mp this q hq
 exact λq hq=>⟨c q hq,t q.2<|cD hq⟩
end
section
set_option tactic.hygienic true
section
variable {p:Program} {w:World} {FK n aaL:Nat} {ann:Option Value} {gY dW:Shared} {s':SharedT} {life:Life} {t':BT}
def Mv (p:Program)(w:World)(FK:Nat)(ann:Option Value):Nat->SharedT->Thread->Option SharedT
 | 0,_,_=>none
 |n+1,s,t=>match through t with
  |true=>some s
  |false=>match Fast.tw6613529449190102663 FK ann t with
   |false=>none
   |true=>match Fast.tw10156331382660048174 (Fast.tw11892475500146522536 Fast.tw14364793385576792824) p w s t with
    |some x=>Mv p w FK ann n x.1 x.2
    |none=>none
theorem Mw:∀{s:SharedT} {t:Thread},Mv p w FK ann n s t=some s'->topRun treeTable p w FK ann n s.abs t=some s'.abs:=by
 induction n with
 |zero=>intro s t h;cases h
 |succ n ih=>
  intro s t h;unfold Mv at h;rw[<-Fast.te6613529449190102663,<-Fast.te10156331382660048174,<-Fast.te11892475500146522536,<-Fast.te14364793385576792824] at h;unfold topRun;cases he:through t<;>rw[he] at h
  ·cases hk:stepOk FK ann t<;>rw[hk] at h
   ·cases h
   ·cases hs:stepT (denote treeTable) p w s t<;>rw[hs] at h
    ·cases h
    ·rw[stepT_spec hs];exact ih h
  ·cases h;rfl
noncomputable def Xm:List Obj->Nat->BT->Option BT
 | [],_,t=>some t
 |o::r,k,t=>match ((t.ins k o).get k).isSome with
  |true=>Xm r (k+1)<|t.ins k o
  |false=>none
theorem Qj {l:List Obj}:∀{k:Nat} {t:BT},Xm l k t=some t'->absHeap t' (k+l.length) life=⟨(absHeap t k life).objs++l.toArray,life⟩:=by
 induction l with
 |nil=>intro k t h;cases h;simp[absHeap]
 |cons o r ih=>
  intro k t h;unfold Xm at h;cases g:((t.ins k o).get k).isSome<;>rw[g] at h
  ·cases h
  ·have e:=ih h;rw[absHeap_ins g] at e;rw[dI,Nat.add_comm r.length,<-Nat.add_assoc,e];simp[Heap.push]
def HN (p:Program)(w:World)(aaL:Nat)(s:Shared):Option Shared:=(Xm s.heap.objs.toList 0 .nil).bind λt=>(Mv p w s.heap.objs.size (s.heap.nsMap mainGlobals "__annotations__") aaL ⟨t,s.heap.objs.size,s.heap.life,s.gens,s.drawn,s.toks,s.os⟩ (topStub p)).map SharedT.abs
theorem Mx (h:HN p w aaL gY=some dW):topRun treeTable p w gY.heap.objs.size (gY.heap.nsMap mainGlobals "__annotations__") aaL gY (topStub p)=some dW:=by
 obtain⟨t,e1,h⟩:=Option.bind_eq_some_iff.mp h;obtain⟨s,e2,rfl⟩:=Option.map_eq_some_iff.mp h;have e3:=Mw e2;have e4:=Qj (life:=gY.heap.life) e1;rw[Nat.zero_add,p8] at e4;rw[show SharedT.abs ⟨t,gY.heap.objs.size,gY.heap.life,gY.gens,gY.drawn,gY.toks,gY.os⟩=gY from by unfold SharedT.abs;rw[e4];simp[absHeap,BT.list]] at e3;exact e3
noncomputable def qj (p:Program)(s:Shared)(R:Option Shared):Option Shared:=match s.heap.isNs mainGlobals&&s.gens.size==0 with
 |true=>R.bind λx=>match staticsOk (importedModules p.main.body) s.heap x.heap&&namesBound p x.heap&&gensDone x&&laidKept s.heap x.heap with
  |true=>some x
  |false=>none
 |false=>none
theorem My {α:Type}{F:Shared->α}{G:World->α}(h:∀w,((fencedOpening treeTable p w aaL).bind λs=>qj p s<|HN p w aaL s).map F=some (G w))(w:World):(openEnds treeTable p w aaL).map F=some (G w):=by
 rw[<-h w];have h:=h w;unfold openEnds;cases q:fencedOpening treeTable p w aaL with
 |none=>rfl
 |some s=>
  rw[q] at h;show Option.map F (qj p s (topRun treeTable p w s.heap.objs.size (s.heap.nsMap mainGlobals "__annotations__") aaL s (topStub p)))=Option.map F (qj p s (HN p w aaL s));cases e:HN p w aaL s with
  |some x=>rw[Mx e]
  |none=>
   have h:Option.map F (qj p s<|HN p w aaL s)=some (G w):=h;rw[e] at h;unfold qj at h;split at h<;>cases h
end
theorem T7:LeftO Mt.row.toRowW.prog q0 yr (λ_=>true) hook.obs hook.val 8000:=My λw=>by
 rw[Fast.te14364793385576792824,Fast.te4187177175401517315];kernel_rfl
end
theorem aap {d:DefRec}{kwd:List (Str × Expr)}(hd:(d,kwd)=(defOf q0 Mt.row.name).get (by rfl))(walk:WalkO q0 yr (λM M=>True) hook.says Mt.row.toRowW d kwd λf vs=>PySem.call f vs):Mt.Holds:=by
 refine holds_law ws λaa0=>?_;refine holds_open (r:=Mt.row) (q:=q0) (loose:=yr) (XP:=λM M=>True) (YP:=hook.says) (d:=d) (kwd:=kwd) T7 hook.of hook.keeps (λM M=>trivial) (λM M M M M=>trivial) ?c1 ?c2 ?c3 (λs M=>recFacts_nil rfl) ?c4 aa0 ?c5 ⟨rfl,rfl,rfl,rfl,rfl,by decide+kernel⟩ ?c6 walk
 case c1=>cases hd;rfl
 case c2=>cases hd;rfl
 case c3=>cases hd;rfl
 case c4=>rfl
 case c5=>decide+kernel
 case c6=>exact⟨[.list []],by decide+kernel,by decide+kernel⟩
abbrev dz:=Value->Shared->Prop
abbrev ys:=Flow->Shared->Prop
abbrev Ac:=Unit->Shared->Prop
abbrev lW:=Str->Option Value
abbrev wn:=List<|Str × Addr
abbrev db:=List Str
noncomputable abbrev w9:List PySem.Value:=[PySem.Value.type "Exception",PySem.Value.type "BaseException",PySem.Value.type "object"]
section
variable {prog:Program} {w:World} {A:Around} {aaK:Model} {E:dz} {h:Heap} {g:Array GenState} {d:Drawn} {t:Nat} {os:OsState} {K:Frag}
variable {nm q:Str} {C D aaL:Addr} {bs:List Value} {Ec:Bool} {sn:db} {sub:List Value} {ab:Bool} {col:Option Bool} {dd:Option Addr} {k0 k1 k2 k3 k5:Option Value}
variable {rest:List Value}
theorem wt {Q:Ac}(hC:h.get? C=some (excClassObj nm q C aaL bs (.ref D::w9) Ec sn sub ab col dd k0 k1 k2 k3 k5 "Exception.__new__"))
  (hq:Q () ⟨h,g,d,t,os⟩):wpAny aaK A (checkBuiltinCall "Exception.__new__" ⟨.ref C::rest,[]⟩) Q E ⟨h,g,d,t,os⟩:=by
 have F:=z7;have aax:=F.noStar;simp only[checkBuiltinCall,F.newKind,F.newSplit,F.newRow]
 repeat (first | refine l7 hC ?_ | (refine wpAny_isSubtype_exc hC ?_;rw[(by simp:(Value.ref C::.ref D::w9).contains (.type "Exception")=true)]) | refine wpAny_staticBase_exc hC ?_ | refine wpAny_madeBy_exc hC ?_ | simp only[bne_self_eq_false,Bool.false_eq_true,if_false] | wp_step)
 exact hq
theorem Mz {R:Result->Shared->Prop}(hC:h.get? C=some (excClassObj nm q C aaL bs (.ref D::w9) Ec sn sub ab col dd k0 k1 k2 k3 k5 "Exception.__new__"))
  (hq:R (.ok (.ret (.ref (h.objs.size+1)))) ⟨(h.push {cls:=.type "tuple",data:=.seq rest.toArray}).push
   {cls:=.ref C,data:=.fields #[.ref h.objs.size,.none,.none,.none,.bool false,.none]},g,d,t,os⟩) (FA:rest.length<=sizeLine):
  codeAny (model prog w) A (.builtin "Exception.__new__" ⟨.ref C::rest,[]⟩) R ⟨h,g,d,t,os⟩:=by
 have F:=z7;have aay:=F.ends;have hcA:(Value.ref C::.ref D::w9).contains (.type "AttributeError")=false:=by simp
 have hcN:(Value.ref C::.ref D::w9).contains (.type "NameError")=false:=by simp
 refine codeAny_builtinAt F.entry ?_;unfold Builtin.«BaseException.__new__»;refine PySem.wpAt_bind ?_;show PySem.wpAt _ _ _ (stack >>= _) _ _ _;refine PySem.wpAt_bind<|PySem.wpAt_stack λp below=>PySem.wpAt_of_wpAny ?_
 wp_walk
 refine PySem.wpAt_of_wpAny ?_;rw[F.owner]
 repeat (first | with_reducible refine wpAny_madeHere_exc F.canon hC ?_ | with_reducible refine l7 hC ?_ | (with_reducible refine wpAny_isSubtype_exc hC ?_;first | rw[(by simp:(Value.ref C::.ref D::w9).contains (.type "Exception")=true)] | rw[hcA] | rw[hcN]) | wp_step)
 show R _ _;rw[Heap.size_push];exact hq
theorem wu {fI:Addr}{oI:Obj}{Q:Fin->Shared->Prop}(X:K.In h)
  (hC:h.get? C=some (excClassObj nm q C aaL bs (.ref D::w9) Ec sn sub ab col dd k0 k1 k2 k3 k5 "Exception.__new__")) (hi:findIn K (.ref C) "__init__"=some (some (.ref fI)))
  (hfI:h.get? fI=some oI) (Mc:oI.cls=.type "function")
  (hq:∀h' e,Heap.MadeExcOf h h' e (.ref C) rest->
   wpAny (model prog w) A (call (.ref fI) (.ref e::rest)) (λr s'=>r=.none/\Q (.done<|.ret<|.ref e) s') E ⟨h',g,d,t,os⟩) (FA:rest.length<=sizeLine):
  wpAny (model prog w) A (Builtin.«type.__call__» ⟨.ref C::rest,[]⟩) Q E ⟨h,g,d,t,os⟩:=by
 repeat (first | with_reducible refine l7 hC ?_ | with_reducible refine wpAny_madeBy_exc hC ?_ | wp_step)
 refine codeAny_call_builtin_code (Code.quiet_builtin _ z7.quiet)<|wt hC ?_
 refine Mz hC ?_ FA;show wpAny _ _ _ _ _ _;have kp:∀b o,h.get? b=some o->((h.push {cls:=.type "tuple",data:=.seq rest.toArray}).push {cls:=.ref C,data:=.fields #[.ref h.objs.size,.none,.none,.none,.bool false,.none]}).get? b=some o:=λb o e=>lj _ (lj _ e);have WG:((h.push {cls:=.type "tuple",data:=.seq rest.toArray}).push
   {cls:=.ref C,data:=.fields #[.ref h.objs.size,.none,.none,.none,.bool false,.none]}).get? (h.objs.size+1)=some
   {cls:=.ref C,data:=.fields #[.ref h.objs.size,.none,.none,.none,.bool false,.none]}:=by heap_get
 have hcC:(Value.ref C::.ref D::w9).contains (.ref C)=true:=by simp
 unfold isInstance
 repeat (first | with_reducible refine l7 WG ?_ | (with_reducible refine wpAny_isSubtype_exc (kp _ _ hC) ?_;rw[hcC]) | wp_step)
 show wpAny _ _ (typeLookup (.ref C) _) _ _ _;refine looks_findIn (X.keeps kp:K.In _) hi _ _ _ _ (λM M e=>e)<|dJ<|aw ?_
 unfold bindSpecial;refine aw<|wpAny_typeOf ⟨_,kp _ _ hfI,Mc⟩ ?_
 rw[if_pos<|by decide];refine aW<|aw<|cE (hq _ (h.objs.size+1) ⟨kp,Heap.get?_none_of_le<|ly _,h.objs.size,WG,Heap.get?_none_of_le<|ba _,?_⟩) (λr s' hr=>?_) λM M x=>x
 ·exact lj _<|Heap.get?_push_at rfl rfl
 ·obtain⟨rfl,hQ⟩:=hr
  wp_walk
  exact hQ
theorem HO {fI:Addr}{oI:Obj}{Q:dz}(X:K.In h)
  (hC:h.get? C=some (excClassObj nm q C aaL bs (.ref D::w9) Ec sn sub ab col dd k0 k1 k2 k3 k5 "Exception.__new__")) (hi:findIn K (.ref C) "__init__"=some (some (.ref fI)))
  (hfI:h.get? fI=some oI) (Mc:oI.cls=.type "function")
  (hq:∀h' e,Heap.MadeExcOf h h' e (.ref C) rest->
   wpAny (model prog w) (A.under (.builtin "type.__call__" ⟨.ref C::rest,[]⟩)) (call (.ref fI) (.ref e::rest)) (λr s'=>r=.none/\Q (.ref e) s') E ⟨h',g,d,t,os⟩) (FA:rest.length<=sizeLine):
  wpAny (model prog w) A (call (.ref C) rest) Q E ⟨h,g,d,t,os⟩:=by
 have f1:=tc_lookup;have f2:=tc_bind<|.ref C
 have hT:(⟨h,g,d,t,os⟩:Shared).TypeIs (.ref C) "type":=⟨_,hC,rfl⟩;refine wpAny_call<|codeAny_of_tree ?_
 show wpAny _ _ (callAny (.ref C) _) _ _ _
 repeat (any_goals (first | assumption | with_reducible refine l7 hC ?_ | wp_step))
 refine⟨rfl,?_⟩;refine codeAny_call_builtin_at (Code.quiet_builtin _<|by kernel_rfl) entry_typeCall<|wpAny_check_type_call_sub hC<|wu X hC hi hfI Mc (λh' e hm=>?_) FA
 exact hq h' e hm
end
section
open PySem.Builtin PySem.Builtin.ObjectAttr
section
variable {prog:Program} {w:World} {A:Around} {aaK:Model} {E:dz} {h:Heap} {g:Array GenState} {d:Drawn} {t:Nat} {os:OsState} {K:Frag}
variable {nm q:Str} {C D aaL:Addr} {bs:List Value} {Ec:Bool} {sn:db} {sub:List Value} {ab:Bool} {col:Option Bool} {dd:Option Addr} {k0 k1 k2 k3 k5:Option Value}
theorem Cy {s:Shared}{h₀:Heap}{L:Addr}{m:lW}{pl:Sem Bool}{Q:Value × List Value->Shared->Prop}(F:Fr h₀ L s.heap m)(yt:K.In h₀)(hq:Q (.builtin "Exception.__init__",[]) {s with toks:=s.toks+1}):wpAny (model prog w) A (getMethod (.type "Exception") "__init__" pl) Q E s:=by
 refine method_type (v:=.builtin "Exception.__init__") (K:=[]) (h₀:=h₀) F (λM M e=>nomatch e) (by kernel_rfl) (by kernel_rfl) (by kernel_rfl) (by kernel_rfl) hq
theorem uL {e:Addr}{oe:Obj}{rest:List Value}{Q:Ac}
  (hC:h.get? C=some (excClassObj nm q C aaL bs (.ref D::w9) Ec sn sub ab col dd k0 k1 k2 k3 k5 "Exception.__new__")) (he:h.get? e=some oe) (wY:oe.cls=.ref C) (hq:Q () ⟨h,g,d,t,os⟩):
  wpAny aaK A (checkBuiltinCall "Exception.__init__" ⟨.ref e::rest,[]⟩) Q E ⟨h,g,d,t,os⟩:=by
 have F:=z7;have aa1:=F.noStar;simp only[checkBuiltinCall,F.initKind,F.initSplit,F.initRow]
 repeat (first | (with_reducible refine l7 he ?_;rw[wY]) | with_reducible refine l7 hC ?_ | (with_reducible refine wpAny_isSubtype_exc hC ?_;rw[(by simp:(Value.ref C::.ref D::w9).contains (.type "Exception")=true)]) | wp_step)
 refine wpAny_onRaise ?_;rw[show∀(a b:String) (n:Nat),Bind.check ⟨.positional,"*","Exception",.self,[⟨"args",.varPos,false⟩]⟩ a b n (List.map (λx=>x.fst) ({pos:=Value.ref e::rest}:Args).kw)=pure () from
  λa b n=>check_star_args _ _ _ _ _ _]
 exact aW hq
theorem HP {e t0:Addr}{m:Value}{Q:dz}
  (hC:h.get? C=some (excClassObj nm q C aaL bs (.ref D::w9) Ec sn sub ab col dd k0 k1 k2 k3 k5 "Exception.__new__")) (he:h.get? e=some {cls:=.ref C,data:=.fields #[.ref t0,.none,.none,.none,.bool false,.none]})
  (hq:∀h' t',(∀b o,b≠e->h.get? b=some o->h'.get? b=some o)->h'.get? e=some {cls:=.ref C,data:=.fields #[.ref t',.none,.none,.none,.bool false,.none]}->Q .none ⟨h',g,d,t,os⟩):
  wpAny (model prog w) A (call (.builtin "Exception.__init__") [.ref e,m]) Q E ⟨h,g,d,t,os⟩:=by
 have F:=z7;refine wpAny_call<|codeAny_call_builtin F.init.plain F.initEntry<|uL hC he rfl ?_
 wp_walk
 show Q _ _;refine hq _ h.objs.size (λb o hb e'=>?_) ?_
 ·rw[Heap.get?_update_other _ _ λz=>hb z.symm];exact lj _ e'
 ·rw[Heap.get?_update_self _ (lj _ he) rfl];rfl
variable {x:Addr} {v:Value}
theorem yu {WH:Value}{o:Obj}{Q:Ac}
  (hC:h.get? C=some (excClassObj nm q C aaL bs (.ref D::w9) true sn sub ab col dd k0 k1 k2 k3 k5 "Exception.__new__")) (hx:h.get? x=some o) (hc:o.cls=.ref C) (hq:Q () ⟨h,g,d,t,os⟩):
  wpAny aaK A (checkBuiltinCall "object.__setattr__" ⟨[.ref x,WH,v],[]⟩) Q E ⟨h,g,d,t,os⟩:=by
 have SF:=PySem.F.store_Exception;simp only[checkBuiltinCall,SF.kind,SF.split];refine aw ?_;unfold isInstance
 repeat (first | (with_reducible refine l7 hx ?_;rw[hc]) | (with_reducible refine wpAny_isSubtype_exc hC ?_;rw[(by simp:(Value.ref C::.ref D::w9).contains (.type "object")=true)]) | wp_step)
 all_goals exact hq
noncomputable abbrev qk (C:Addr)(t:Value)(d:Option Addr):Obj:={cls:=.ref C,dict:=d,data:=.fields #[t,.none,.none,.none,.bool false,.none]}
variable {name:Str}
theorem Cz {a0:Value}{tk:Tok}{Q:Fin->Shared->Prop}(X:K.In h)
  (hC:h.get? C=some (excClassObj nm q C aaL bs (.ref D::w9) true sn sub ab col dd k0 k1 k2 k3 k5 "Exception.__new__")) (SK:findIn K (.ref C) name=some none)
  (hx:h.get? x=some (qk C a0 none))
  (hq:∀h' fb,h'.get? x=some (qk C a0<|some h.objs.size)->h'.Ns1 h.objs.size (λy=>if y=name then some v else none)->
   (∀b o,b≠x->h.get? b=some o->h'.get? b=some o)->Q (.done<|.ret .none) ⟨h',g,d,fb,os⟩):
  wpAny (model prog w) A (Builtin.«object.__setattr__» ⟨[.ref x,.str name tk,v],[]⟩) Q E ⟨h,g,d,t,os⟩:=by
 have LK:=PySem.F.store_Exception.passes<|.ref x
 obtain⟨o,ho⟩:∃o,o=qk C a0 none:=⟨_,rfl⟩;rw[<-ho] at hx;have hnc:∀c,o.data≠.cls c:=λc e=>by rw[ho] at e;cases e
 unfold Builtin.«object.__setattr__»
 repeat (first | rw[refuse_eq] | (rw[refuseLoop_ref,refuseLoop_ref,LK]) | (with_reducible refine l7 hx ?_;rw[(by rw[ho]:o.cls=.ref C)]) | with_reducible refine wpAny_mroOf_exc hC ?_ | ((with_reducible show wpAny _ _ (typeLookup _ _) _ _ _);refine looks_findIn X SK _ _ _ _ (λM M e=>e) ?_) | wp_step)
 rw[(by rw[ho]:o.dict=none),if_neg<|by simp[typeHasDict]];split
 ·rename_i LL
  cases LL
 split
 ·rename_i c LL
  exact absurd LL<|hnc c
 subst ho;have O7:(h.push {cls:=.type "dict",data:=.dict #[]}).get? x=some (qk C a0 none):=lj _ hx;have hxs:x≠h.objs.size:=i9<|gJ hx
 refine aw<|wpAny_alloc' ?_
 refine aw<|wpAny_update' O7 ?_
 refine aW ?_;have hgd:((h.push {cls:=.type "dict",data:=.dict #[]}).update x λo=>{cls:=o.cls,dict:=some h.objs.size,data:=o.data,slots:=o.slots}).get? h.objs.size
   =some {cls:=.type "dict",data:=.dict #[]}:=
  (Heap.get?_update_ne _ _ _ _ hxs.symm).trans (Heap.get?_push_at rfl rfl)
 have tZ:((h.push {cls:=.type "dict",data:=.dict #[]}).update x λo=>{cls:=o.cls,dict:=some h.objs.size,data:=o.data,slots:=o.slots}).Ns h.objs.size (λM=>none):=
  ⟨_,#[],_,hgd,rfl,λe he=>absurd he (by simp),λM=>rfl⟩
 show wpAny _ _ (storeInDict h.objs.size (.str name tk) name v) _ _ _;unfold storeInDict newKeyGuard;refine aw<|aW<|aw<|wpAny_nsSet1 (Heap.Ns1.of_empty tZ) λh' mt hs=>?_
 refine kR (mt.count<|Within.cons name v Within.nil) λoD esD epD SL hdD hcD=>?_;refine aw<|wpAny_lookBehind SL (by rw[hdD];exact pastItsLine_dict<|eo hcD (by rw[dI,List.length_nil,sizeLine_eq];omega)) ?_
 wp_walk
 refine hq h' _ ((hs.2 x hxs).trans<|Heap.get?_update_self _ O7 rfl) mt λb ob hbx hb=>?_;exact(hs.2 b<|i9<|gJ hb).trans ((Heap.get?_update_ne _ _ _ _ hbx).trans<|lj _ hb)
theorem CA {dx:Addr}{a0:Value}{mA:lW}{tk:Tok}{Q:Fin->Shared->Prop}{ns:db}(X:K.In h)
  (hC:h.get? C=some (excClassObj nm q C aaL bs (.ref D::w9) true sn sub ab col dd k0 k1 k2 k3 k5 "Exception.__new__")) (SK:findIn K (.ref C) name=some none)
  (hx:h.get? x=some (qk C a0<|some dx)) (dZ:dx≠x) (Cg:h.Ns1 dx mA)
  (hq:∀h' fb,h'.Ns1 dx (λy=>if y=name then some v else mA y)->(∀b o,b≠dx->h.get? b=some o->h'.get? b=some o)->Q (.done<|.ret .none) ⟨h',g,d,fb,os⟩) (hw:Within mA ns) (hsz:ns.length<=100):
  wpAny (model prog w) A (Builtin.«object.__setattr__» ⟨[.ref x,.str name tk,v],[]⟩) Q E ⟨h,g,d,t,os⟩:=by
 have LK:=PySem.F.store_Exception.passes<|.ref x
 obtain⟨o,ho⟩:∃o,o=qk C a0 (some dx):=⟨_,rfl⟩;rw[<-ho] at hx;unfold Builtin.«object.__setattr__»
 repeat (first | rw[refuse_eq] | (rw[refuseLoop_ref,refuseLoop_ref,LK]) | (with_reducible refine l7 hx ?_;rw[(by rw[ho]:o.cls=.ref C)]) | with_reducible refine wpAny_mroOf_exc hC ?_ | ((with_reducible show wpAny _ _ (typeLookup _ _) _ _ _);refine looks_findIn X SK _ _ _ _ (λM M e=>e) ?_) | wp_step)
 rw[(by rw[ho]:o.dict=some dx)];refine aW ?_;show wpAny _ _ (storeInDict dx (.str name tk) name v) _ _ _;unfold storeInDict newKeyGuard;refine aw<|aW<|aw<|wpAny_nsSet1 Cg λh' mt hs=>?_
 refine kR (mt.count<|Within.cons name v hw) λoD esD epD SL hdD hcD=>?_;refine aw<|wpAny_lookBehind SL (by rw[hdD];exact pastItsLine_dict<|eo hcD (by rw[dI,sizeLine_eq];omega)) ?_
 wp_walk
 exact hq h' _ mt λb ob hb e=>(hs.2 b hb).trans e
theorem sU {o:Obj}{Q:Ac}(X:K.In h)
  (hC:h.get? C=some (excClassObj nm q C aaL bs (.ref D::w9) true sn sub ab col dd k0 k1 k2 k3 k5 "Exception.__new__")) (hsa:findIn K (.ref C) "__setattr__"=some (some (.builtin "object.__setattr__")))
  (hx:h.get? x=some o) (hc:o.cls=.ref C)
  (hq:∀A tk fb,wpAny (model prog w) A (Builtin.«object.__setattr__» ⟨[.ref x,.str name tk,v],[]⟩) (λr s'=>r=.done (.ret .none)/\Q () s') E ⟨h,g,d,fb,os⟩):
  wpAny (model prog w) A (setAttr (.ref x) name v) Q E ⟨h,g,d,t,os⟩:=by
 have SF:=PySem.F.store_Exception;have f3:=SF.slot.bind<|.ref x
 unfold setAttr callSpecial? specialOf
 repeat (any_goals (first | assumption | (with_reducible refine l7 hx ?_;rw[hc]) | ((with_reducible show wpAny _ _ (typeLookup _ _) _ _ _);refine looks_findIn X hsa _ _ _ _ (λM M e=>e) ?_) | wp_step))
 refine codeAny_call_builtin SF.slot.plain SF.entry<|yu hC hx hc ?_
 refine cE (hq _ _ _) (λr s' h1=>?_) λM M x=>x;refine cR h1 λeA h2=>?_;subst eA
 repeat (any_goals (first | assumption | wp_step))
end
end
structure oH (K:Frag)(C:Addr):Prop where
 cls:∃nm q aaL bs D sn sub ab col dd k0 k1 k2 k3 k5,K.lookup C=some (excClassObj nm q C aaL bs (.ref D::w9) true sn sub ab col dd k0 k1 k2 k3 k5 "Exception.__new__")
 init:findIn K (.ref C) "__init__"=some (some (.ref 36))
 sa:findIn K (.ref C) "__setattr__"=some (some (.builtin "object.__setattr__"))
 m1:findIn K (.ref C) "message"=some none
 m2:findIn K (.ref C) "spot"=some none
section
variable {h₀ h h':Heap} {L e:Addr} {m:lW} {rest:List (Addr × Obj)}
theorem fr_but (F:Fr h₀ L h m)(k:∀b o,b≠e->h.get? b=some o->h'.get? b=some o)(hL:e≠L)(h0:h₀.get? e=none):Fr h₀ L h' m:=by
 refine rR F.ns λoL es ep e1 r=>⟨⟨oL,es,ep,k _ _ (gz hL) e1,r⟩,λb o q=>k b o (λz=>?_)<|F.keep b o q,F.above⟩;rw[z,h0] at q;cases q
theorem news_but (aaL:News h₀ L h rest)(hr:∀p∈rest,p.1≠e)(k:∀b o,b≠e->h.get? b=some o->h'.get? b=some o):News h₀ L h' rest:=
 λp hp=>⟨k _ _ (hr p hp) (aaL p hp).1,(aaL p hp).2⟩
end
section
variable {prog:Program} {w:World} {A:Around} {E:dz} {K:Frag} {s:Shared} {h₀:Heap} {L e C:Addr} {m:lW} {rest:List (Addr × Obj)} {t0:Addr} {v:Value}
theorem CB {Q:dz}(F:Fr h₀ L s.heap m)(X:K.In h₀)(aaL:News h₀ L s.heap ((e,qk C (.ref t0) none)::rest))(O:oH K C)(hr:∀p∈rest,p.1≠e)
  (hq:∀h' t',Fr h₀ L h' m->News h₀ L h' ((e,qk C (.ref t') none)::rest)->Q .none {s with heap:=h'}):
  wpAny (model prog w) A (call (.builtin "Exception.__init__") [.ref e,v]) Q E s:=by
 obtain⟨hp,g,d,tk,os⟩:=s;obtain⟨nm,q,NN,bs,D,sn,sub,ab,col,dd,k0,k1,k2,k3,k5,hC⟩:=O.cls;refine qV (aaL _<|.head _) λn1 n2 n3=>HP (X.keeps F.keep _ _ hC) n1 λh' t' k1 k2=>hq h' t' (fr_but F k1 n2 n3) λp hp=>?_;rcases aX.mp hp with rfl | hp
 ·exact⟨k2,n2,n3⟩
 ·exact news_but (λp hp=>aaL p<|.tail _ hp) hr k1 p hp
theorem CD {name:Str}{Q:Ac}(F:Fr h₀ L s.heap m)(X:K.In h₀)(aaL:News h₀ L s.heap ((e,qk C (.ref t0) none)::rest))(O:oH K C)(SK:findIn K (.ref C) name=some none)(hr:∀p∈rest,p.1≠e)
  (hq:∀h' fb dx od,Fr h₀ L h' m->News h₀ L h' ((e,qk C (.ref t0)<|some dx)::(dx,od)::rest)->dx≠e->(∀p∈rest,p.1≠dx)->(∀h2:Heap,h2.get? dx=some od->h2.Ns1 dx (λy=>if y=name then some v else none))->Q () {s with heap:=h',toks:=fb}):
  wpAny (model prog w) A (setAttr (.ref e) name v) Q E s:=by
 obtain⟨hp,g,d,tk,os⟩:=s;obtain⟨nm,q,NN,bs,D,sn,sub,ab,col,dd,k0,k1,k2,k3,k5,hC⟩:=O.cls;refine qV (aaL _<|.head _) λn1 n2 n3=>?_;have X':=X.keeps F.keep;refine sU X' (X' _ _ hC) O.sa n1 rfl λA tk fb=>Cz X' (X' _ _ hC) SK n1 λh' zQ k1 k2 k3=>⟨rfl,?_⟩;refine Mm k2 λod es ep o1 o2 o3 o4 o5=>?_;have hLs:L<hp.objs.size:=by obtain⟨oL,_,_,e1,_⟩:=F.ns;exact gJ e1
 have h0n:h₀.get? hp.objs.size=none:=by
  cases z:h₀.get? hp.objs.size with
  |none=>rfl
  |some o=>exact absurd (gJ<|F.keep _ _ z)<|sS _
 have hdr:∀p∈rest,p.1≠hp.objs.size:=λp wq=>i9<|gJ (aaL p<|.tail _ wq).1
 refine hq h' _ _ od (fr_but F k3 n2 n3) (λp wq=>?_) (gz<|i9<|gJ n1) hdr λh2 e2=>⟨od,es,ep,e2,o2,o3,o4,o5⟩;rcases aX.mp wq with rfl | wq
 ·exact⟨k1,n2,n3⟩
 ·rcases aX.mp wq with rfl | wq
  ·exact⟨o1,mO hLs,h0n⟩
  ·exact news_but (λp hp=>aaL p<|.tail _ hp) hr k3 p wq
theorem CE {name:Str}{dx:Addr}{od:Obj}{mA:lW}{ns:db}{Q:Ac}(F:Fr h₀ L s.heap m)(X:K.In h₀)(aaL:News h₀ L s.heap ((e,qk C (.ref t0)<|some dx)::(dx,od)::rest))(O:oH K C)(SK:findIn K (.ref C) name=some none)
  (dZ:dx≠e) (hr:∀p∈rest,p.1≠dx) (Cg:∀h2:Heap,h2.get? dx=some od->h2.Ns1 dx mA) (hw:Within mA ns) (hsz:ns.length<=100)
  (hq:∀h' fb Xw,Fr h₀ L h' m->News h₀ L h' ((e,qk C (.ref t0)<|some dx)::(dx,Xw)::rest)->Q () {s with heap:=h',toks:=fb}):
  wpAny (model prog w) A (setAttr (.ref e) name v) Q E s:=by
 obtain⟨hp,g,d,tk,os⟩:=s;obtain⟨nm,q,NN,bs,D,sn,sub,ab,col,dd,k0,k1,k2,k3,k5,hC⟩:=O.cls;refine qV (aaL _<|.head _) λn1 n2 n3=>qV (aaL _<|.tail _<|.head _) λd1 d2 d3=>?_;have X':=X.keeps F.keep;refine sU X' (X' _ _ hC) O.sa n1 rfl λA tk fb=>CA X' (X' _ _ hC) SK n1 dZ (Cg _ d1) (λh' zQ k2 k3=>⟨rfl,?_⟩) hw hsz;refine rR k2 λXw es ep o1 M=>hq h' _ Xw (fr_but F k3 d2 d3) λp wq=>?_;rcases aX.mp wq with rfl | wq
 ·exact⟨k3 _ _ (gz dZ) n1,n2,n3⟩
 ·rcases aX.mp wq with rfl | wq
  ·exact⟨o1,d2,d3⟩
  ·exact news_but (λp hp=>aaL p<|.tail _<|.tail _ hp) hr k3 p wq
end
section
variable {prog:Program} {w:World} {A₀ A:Around} {s:Shared} {base h₀:Heap} {outer:List Env} {L a:Addr} {m:lW} {news:List (Addr × Obj)} {K:Frag} {p:Program} {loose:db} {kL:ExcName->Option Value} {mg mb:lW}
  {R:Result->Shared->Prop} {name qual:Str} {params:Arguments} {body:List Stmt} {scope:Scope} {dV kV doc pm cdv ct oc:Value} {an od:Option Addr} {osl:Array (Option Value)} {f:Addr} {args:Args} {binds:List (Str × Value)} {cn:Str} {cs:Scope} {ccd:Value}
theorem code_defG {env:Env}(B:Below A₀ base outer h₀)(F:Fr h₀ L s.heap m)(yt:K.In h₀)(aaL:News h₀ L s.heap news)(T:Top p loose kL mg mb h₀)(hA:A.frames=some (env::outer))(hf:env.frame=some L)(Tn:env.scope.kind=.function)
  (ho:K.lookup f=some ⟨oc,od,.func<|fnOf name qual params body scope dV kV doc pm an cdv ct,osl⟩) (LL:codeIn K cdv qual=true) (LM:A.depth<recursionLimit)
  (qi:BindsTo s (fnOf name qual params body scope dV kV doc pm an cdv ct) args binds) (aa2:∀y∈binds,scope.names.lookup y.1=some .local)
  (h:∀g L' bA,(∀b o,s.heap.get? b=some o->b∉news.map (·.1)->g.get? b=some o)->Fr h₀ L g m->Fr g L' bA (λy=>binds.reverse.lookup y)->News g L' bA news->Below A base (env::outer) g->K.In g->Top p loose kL mg mb g->(∀p∈news,p.1<L')->
   wpAny (model prog w) (A.deeper<|envOf qual scope L' f cdv) (execs body<|envOf qual scope L' f cdv)
    (λfl s'=>LeaveK h₀ L m g R (match fl with | .ret v=>v | _=>.none) s')
    (λe s'=>wpAny (model prog w) (A.deeper<|envOf qual scope L' f cdv) (leaving (envOf qual scope L' f cdv) e) (λM rN=>R (.error e) rN) (λe' rN=>R (.error e') rN) s')
    {s with heap:=bA,toks:=s.toks+binds.length})
  (Md:scope.isCoroutine=false) (Ed:scope.isGenerator=false) (hk:scope.kind=.function)
  (WI:∀x∈scope.names,x.2≠.cell):codeAny (model prog w) A (.call (.ref f) args) R s:=by
 have X:=yt.keeps F.keep;refine yp (groundX (R:=R) B F aaL hA hf Tn) λFG BG st lv=>codeAny_call_def (fd:=fnOf name qual params body scope dV kV doc pm an cdv ct) (body:=body) (binds:=binds) LM (X _ _ ho) rfl (T.nolimit.keeps F.keep) (codeRec_of X LL) rfl qi WI aa2 (λbA Cg ji=>?_) Md Ed hk;exact cE (h _ s.heap.objs.size bA (λb o e nb=>hideAll_get _ e nb) FG ⟨Cg,λb o e=>ji b o<|of_hideAll _ e,qU<|hideAll_size _ _⟩
  (λp hp=>⟨ji _ _ (aaL p hp).1,i9<|gJ (aaL p hp).1,hideAll_none _<|cD hp⟩) BG (yt.keeps st) (T.keeps st) (λp hp=>gJ (aaL p hp).1)) (λfl s' hl=>lv _ _ hl) λM M y=>y
end
structure yv (h h':Heap)(e:Addr)(cls:Value):Prop where
 keeps:∀b o,h.get? b=some o->h'.get? b=some o
 new:h.get? e=none
 there:∃ob t,h'.get? e=some ob/\ob.cls=cls/\ob.data=.fields #[t,.none,.none,.none,.bool false,.none]
section
variable {aaK:Model} {A:Around} {E:dz} {h:Heap} {L a e:Addr} {m:lW} {Q:Ac}
end
section
local macro_rules | `(tactic| k_all) => `(tactic| assumption)
theorem FL (w:World){p:Program}{loose:db}{kL:ExcName->Option Value}{mg mb:lW}{A:Around}{env:Env}{outer:List Env}{A₀:Around}{base h₀:Heap}{L:Addr}{m:lW}{s:Shared}{e t C:Addr}{x:Str}{t1 t2:Tok}{k:Int}{rest:List (Addr × Obj)}
  {R:Result->Shared->Prop} (B:Below A₀ base outer h₀) (F:Fr h₀ L s.heap m) (X:(HC w.params).In h₀) (aaL:News h₀ L s.heap ((e,qk C (.ref t) none)::rest)) (T:Top p loose kL mg mb h₀) (hr:∀p∈rest,p.1≠e)
  (hA:A.frames=some (env::outer)) (hf:env.frame=some L) (Tn:env.scope.kind=.function) (Xx:A.depth<recursionLimit) (O:oH (HC w.params) C)
  (h:∀h' fb t' dx od,(∀b o,s.heap.get? b=some o->b≠e->(∀p∈rest,b≠p.1)->h'.get? b=some o)->Fr h₀ L h' m->News h₀ L h' ((e,qk C (.ref t')<|some dx)::(dx,od)::rest)->R (.ok<|.ret .none) {s with heap:=h',toks:=fb}):
  codeAny (model PySem.Challenge.rw_sa0448_01.prog w) A (.call (.ref 36) ⟨[.ref e,.str x t1,.int k t2],[]⟩) R s:=by
 revert X O
 k_fill
 intro X O
 k_dflt (refine' code_defG ?k1 ?k2 ?k3 ?k4 ?k5 ?kA ?kF ?kK ?k6 ?k7 ?k8 ?k9 ?kB ?_ ?c2 ?c3 ?c4 ?c5;(case kA=>assumption);(case kF=>assumption);(case kK=>assumption);(case k1=>k_asm);(case k2=>k_asm);(case k3=>k_asm);(case k4=>k_asm);(case k5=>k_asm);(case k6=>k_is);(case k7=>k_is);(case k8=>assumption);(case k9=>first | exact BindsTo.of_eq rfl | exact binds_K (by k_in) rfl (by k_is) rfl rfl rfl);(case c5=>decide);(case kB=>exact locs rfl);(case c2=>exact rfl);(case c3=>exact rfl);(case c4=>exact rfl);k_whole;intro g' L' h' HG FG' F' N' B' X' T' LT;clear LT;(try dsimp only);(try k_fold))
 repeat' (first | (k_unfold;(try dsimp only)) | (k_end;wrow_close) | walk1 | (k_here;k_dflt (refine' Cy (by k_asm) (by k_asm) ?_;k_whole)) | (k_here;k_dflt (refine' CB (by k_asm) (by k_asm) (by k_asm) ‹_› ‹_› ?_;k_whole);intro h' t' F' N') | (k_here;k_dflt (first | (refine' CD (by k_asm) (by k_asm) (by k_asm) ‹_› (oH.m1 ‹_›) ‹_› ?_;k_whole;intro h' fb dx od F' N' dZ hr2 Cg) | (refine' CE (by k_asm) (by k_asm) (by k_asm) ‹_› (oH.m2 ‹_›) ‹_› ‹_› ‹_› (by within_ways) (by decide) ?_;k_whole;intro h' fb Xw F' N'))) | (dsimp only;walk1) | (leave1;walk_say "STEP leave1";try dsimp only) | fail "no step")
 rename Fr g' _ _ _=>FZ;exact h _ _ _ _ _ (λb o e nb nr=>FZ.keep _ _ (HG _ _ e (by
  intro hm;refine aZ (aX.mp hm) (λz=>?_) λz=>?_
  ·exact nb z
  ·refine aJ (bX.mp z) λp hp z=>?_;exact nr p hp z.symm))) ‹_› ‹_›
end
section
variable {w:World} {A A₀:Around} {E:dz} {s:Shared} {base h₀:Heap} {outer:List Env} {L e C:Addr} {m:lW} {env:Env} {p:Program} {loose:db} {kL:ExcName->Option Value} {mg mb:lW}
 {x:Str} {t1 t2:Tok} {k:Int}
theorem HQ {Q:dz}(B:Below A₀ base outer h₀)(F:Fr h₀ L s.heap m)(X:(HC w.params).In h₀)(T:Top p loose kL mg mb h₀)
  (hA:(A.under (.builtin "type.__call__" ⟨.ref C::[.str x t1,.int k t2],[]⟩)).frames=some (env::outer)) (hf:env.frame=some L) (Tn:env.scope.kind=.function)
  (Xx:(A.under (.builtin "type.__call__" ⟨.ref C::[.str x t1,.int k t2],[]⟩)).depth<recursionLimit) (O:oH (HC w.params) C)
  (h36:∃o,(HC w.params).lookup 36=some o/\o.cls=.type "function")
  (h:∀h' fb e,yv s.heap h' e (.ref C)->Q (.ref e) {s with heap:=h',toks:=fb}):
  wpAny (model PySem.Challenge.rw_sa0448_01.prog w) A (call (.ref C) [.str x t1,.int k t2]) Q E s:=by
 obtain⟨hp,g,d,tk,os⟩:=s;obtain⟨nm,q,NN,bs,D,sn,sub,ab,col,dd,k0,k1,k2,k3,k5,hC⟩:=O.cls;obtain⟨o36,aa3,aa4⟩:=h36;have X':=X.keeps F.keep;refine HO X' (X' _ _ hC) O.init (X' _ _ aa3) aa4 (λh' e hm=>?_) (by size_fits);obtain⟨t,he,ht0,ht1⟩:=hm.there;have F1:Fr h₀ L h' m:=by
  obtain⟨oL,es,ep,e1,r⟩:=F.ns;exact⟨⟨oL,es,ep,hm.keeps _ _ e1,r⟩,λb o q=>hm.keeps _ _<|F.keep b o q,F.above⟩
 have hLe:e≠L:=λz=>by
  obtain⟨oL,es,ep,e1,r⟩:=F.ns;have:=hm.new;rw[z,e1] at this;cases this
 have h0e:h₀.get? e=none:=by
  cases z:h₀.get? e with
  |none=>rfl
  |some o=>have:=hm.new;rw[F.keep _ _ z] at this;cases this
 have N1:News h₀ L h' ((e,qk C (.ref t) none)::[]):=λp hp=>by
  rcases aX.mp hp with rfl | hp
  ·exact⟨he,hLe,h0e⟩
  ·cases hp
 refine wpAny_call<|codeAny_mono (FL w (e:=e) (rest:=[]) (R:=λr s'=>r=.ok (.ret .none)/\Q (.ref e) s') B F1 X N1 T (λp hp=>nomatch hp) hA hf Tn Xx O ?_) λr s' hr=>?_
 ·intro h2 tk2 t' dx od kp F2 N2;refine⟨rfl,h h2 tk2 e ⟨λb o eb=>kp _ _ (hm.keeps _ _ eb) (λz=>?_) (λp hp=>nomatch hp),hm.new,?_⟩⟩
  ·have:=hm.new;rw[<-z,eb] at this;cases this
  ·exact⟨_,.ref t',(N2 _<|.head _).1,rfl,rfl⟩
 ·obtain⟨rfl,hr⟩:=hr;exact⟨rfl,hr⟩
end
theorem Yj (w:World):∃o,(HC w.params).lookup 36=some o/\o.cls=.type "function":=⟨_,rfl,rfl⟩
theorem MA (w:World):oH (HC w.params) 52:=⟨⟨_,_,_,_,_,_,_,_,_,_,_,_,_,_,_,rfl⟩,by kernel_rfl,by kernel_rfl,by kernel_rfl,by kernel_rfl⟩
theorem MB (w:World):oH (HC w.params) 64:=⟨⟨_,_,_,_,_,_,_,_,_,_,_,_,_,_,_,rfl⟩,by kernel_rfl,by kernel_rfl,by kernel_rfl,by kernel_rfl⟩
theorem MC (w:World):oH (HC w.params) 76:=⟨⟨_,_,_,_,_,_,_,_,_,_,_,_,_,_,_,rfl⟩,by kernel_rfl,by kernel_rfl,by kernel_rfl,by kernel_rfl⟩
local macro_rules | `(tactic| lk) => `(tactic| first | kernel_rfl | decide)

inductive V where
 |none
 |bool (b:Bool)
 |int (i:Int)
 |str (s:Str)
 |U (l:List V)
 |gl (l:List V)
 |rng (a b:Int)
 |ref (i:Nat)
inductive ao where
 |list (l:List V)
 |dict (l:List (Str × V))
 |dictT (l:List (db × V))
 |inst (C:Nat) (d:Nat)
  |dictX (l:List (Str × V)) (k:Str)
noncomputable abbrev af:=List ao
inductive Res (α:Type) where
 |ok (a:α) (Y:af)
 |exc (C:Nat) (Y:af)
 |stuck
noncomputable def Res.bind {α β:Type}(r:Res α)(f:α->af->Res β):Res β:=match r with
 | .ok a Y=>f a Y
 | .exc C Y=>.exc C Y
 | .stuck=>.stuck
inductive Bi where
 |len | list | tuple | sorted | str | int | range | max
 deriving DecidableEq
inductive Bm where
 |rfind | startswith | split | join | append | pop | get
 deriving DecidableEq
inductive X where
 |l (i:Nat)
 |c (v:V)
 |U (l:List X)
 |s (l:List X)
 |dct (ks:db) (l:List X)
 |m (op:CmpOp) (a b:X)
 |and (l:List X)
 |or (l:List X)
 |not (a:X)
 |ite (c a b:X)
 |bin (op:Operator) (a b:X)
 |i (a i:X)
 |slcTo (a hi:X)
 |slcFrom (a lo:X)
 |attr (a:X) (n:Str)
 |call (f:Nat) (l:List X)
 |new (C:Nat) (l:List X)
 |bI (a:X) (n:Str) (l:List X)
 |bi (b:Bi) (l:List X)
 |bm (a:X) (b:Bm) (l:List X)
 |comp (fr:List (Option Nat)) (ts:List Nat) (it:X) (cond:List X) (elt:X)
 |comp2 (fr:List (Option Nat)) (ts:List Nat) (it:X) (qP:List Nat) (qQ:X) (elt:X)
 |word (fr:List (Option Nat)) (a:X)
inductive T where
 |l (i:Nat)
 |U (l:List T)
 |attr (a:X) (n:Str)
 |sub (a i:X)
inductive S where
 |ex (a:X)
 |set (t:T) (a:X)
 |ret (a:X)
 |ite (c:X) (a b:List S)
 |whl (c:X) (a:List S)
 |for (t:T) (it:X) (a:List S)
 |raise (C:Nat) (a b:X)
noncomputable abbrev Loc:=List<|Option V
noncomputable abbrev X.xs (x:Str):X:=.c<|.str x
noncomputable abbrev X.xi (i:Int):X:=.c<|.int i
abbrev iP:=List<|Str × V
abbrev mK:=List<|Nat × ao
abbrev aH:=List V
abbrev j9:=Option V
abbrev ai:Option V:=none
noncomputable abbrev zB (a:Array Nat):Str:=⟨a⟩
abbrev wv:=zB #[114,101,103,105,111,110,95,116,111,108,100]
abbrev FM:=zB #[116,121,112,101,95,111,102]
abbrev CF:=zB #[116,114,97,105,116,95,111,102]
abbrev Ae:=zB #[98,111,117,110,100,115,95,111,102]
abbrev HR:=zB #[106,111,105,110,101,100]
abbrev Af:=zB #[112,97,114,101,110,116,95,111,102]
abbrev Ag:=zB #[105,115,95,119,105,116,104,105,110]
abbrev Ah:=zB #[95,108,97,119,95,112,111,111,108]
abbrev Ai:=zB #[95,108,97,119,95,116,97,107,101]
abbrev CG:=zB #[95,108,97,119,95,111,110,101]
abbrev wx:=zB #[95,108,97,119,95,106,111,105,110,101,100]
abbrev yw:=zB #[95,108,97,119,95,112,97,114,116,115]
abbrev FN:=zB #[95,108,97,119,95,102,110]
abbrev Aj:=zB #[95,108,97,119,95,115,101,101,115]
abbrev tM:=zB #[95,108,97,119,95,119,97,121,95,115,101,101,110]
abbrev CI:=zB #[95,108,97,119,95,117,115,101]
abbrev yx:=zB #[95,108,97,119,95,105,116,101,109,115]
abbrev Yk:=zB #[95,108,97,119,95,112,117,98,108,105,99,115,95,114,105,103,104,116]
abbrev Yl:=zB #[95,108,97,119,95,112,108,97,105,110,95,114,105,103,104,116]
abbrev Ym:=zB #[95,108,97,119,95,99,104,97,105,110,95,114,105,103,104,116]
abbrev yy:=zB #[95,108,97,119,95,119,111,114,108,100]
abbrev Ak:=zB #[95,108,97,119,95,112,97,116,104]
abbrev wz:=zB #[95,108,97,119,95,114,101,103,105,111,110]
abbrev CJ:=zB #[95,108,97,119,95,97,108,108]
abbrev Al:=zB #[95,108,97,119,95,116,121,112,101]
abbrev yz:=zB #[95,108,97,119,95,98,111,117,110,100]
abbrev Yn:=zB #[95,108,97,119,95,98,111,117,110,100,115,95,114,105,103,104,116]
abbrev Yo:=zB #[95,108,97,119,95,102,105,120,101,100,95,114,105,103,104,116]
abbrev T8:=zB #[108,97,119]
abbrev Am:=zB #[76,101,110,100,69,114,114,111,114]
abbrev An:=zB #[78,97,109,101,70,97,117,108,116]
abbrev Yp:=zB #[86,105,115,105,98,105,108,105,116,121,70,97,117,108,116]
abbrev Ao:=zB #[84,121,112,101,70,97,117,108,116]
abbrev HS:=zB #[82,101,97,100,101,114]
abbrev T9:=zB #[85,115,101]
abbrev MD:=zB #[84,97,98,108,101]
abbrev FO:=zB #[77,111,100,117,108,101,115]
abbrev Ap:=zB #[73,78,84,95,75,73,78,68,83]
abbrev mv:=zB #[105,56]
abbrev iz:=zB #[105,49,54]
abbrev iA:=zB #[105,51,50]
abbrev iB:=zB #[105,54,52]
abbrev fM:=zB #[117,56]
abbrev gf:=zB #[117,49,54]
abbrev iC:=zB #[117,51,50]
abbrev iD:=zB #[117,54,52]
abbrev dM:=zB #[117,115,105,122,101]
abbrev tN:=zB #[77,79,83,84,95,69,76,69,77,69,78,84,83]
abbrev tO:=zB #[80,82,69,76,85,68,69,95,78,65,77,69,83]
abbrev Em:=zB #[67,108,111,110,101]
abbrev HT:=zB #[67,111,112,121]
abbrev xd:=zB #[68,101,102,97,117,108,116]
abbrev HU:=zB #[68,114,111,112]
abbrev O8:=zB #[69,114,114]
abbrev HV:=zB #[78,111,110,101]
abbrev Ua:=zB #[79,107]
abbrev Aq:=zB #[79,112,116,105,111,110]
abbrev Ar:=zB #[82,97,110,103,101,56]
abbrev As:=zB #[82,101,115,117,108,116]
abbrev yA:=zB #[83,111,109,101]
abbrev HW:=zB #[86,101,99,56]
abbrev xf:=zB #[115,119,97,112,112,101,100]
abbrev At:=zB #[77,79,83,84,95,85,83,69,83]
abbrev Ql:=zB #[87,65,89,83]
abbrev aR:=zB #[99,114,97,116,101]
abbrev dN:=zB #[115,101,108,102]
abbrev df:=zB #[115,117,112,101,114]
abbrev wA:=zB #[80,76,65,73,78,95,78,65,77,69,83]
abbrev ff:=zB #[98,111,111,108]
abbrev cY:=zB #[66,111,120]
abbrev Au:=zB #[95,108,97,119,95,110,111,110,101]
abbrev wB:=zB #[95,108,97,119,95,112,108,97,99,101,115]
abbrev z_:=zB #[]
abbrev dK:=zB #[97]
abbrev aQ:=zB #[97,58,58,98]
abbrev yB:=zB #[95,108,97,119,95,112,108,97,105,110]
abbrev Uc:=zB #[108,101,110]
abbrev Qm:=zB #[108,105,115,116]
abbrev fE:=zB #[116,117,112,108,101]
abbrev HX:=zB #[115,111,114,116,101,100]
abbrev Ud:=zB #[115,116,114]
abbrev qa:=zB #[105,110,116]
abbrev ME:=zB #[114,97,110,103,101]
abbrev Ue:=zB #[109,97,120]
abbrev ql:=zB #[98,97,114,101]
abbrev ub:=zB #[98,101,103,105,110]
abbrev mP:=zB #[99,97,110,95,115,101,101]
abbrev HY:=zB #[99,104,101,99,107,101,100,95,112,117,98,108,105,99,115]
abbrev oJ:=zB #[99,104,101,99,107,101,100,95,117,115,101,115]
abbrev mQ:=zB #[100,101,99,108,97,114,101]
abbrev gK:=zB #[100,101,99,108,97,114,101,95,116,121,112,101]
abbrev uc:=zB #[101,110,116,101,114]
abbrev oK:=zB #[101,110,116,101,114,95,117,115,101]
abbrev jF:=zB #[101,110,116,101,114,95,118,97,114,105,97,110,116,115]
abbrev lz:=zB #[102,105,110,100]
abbrev qb:=zB #[102,105,110,100,95,112,114,101,102,105,120]
abbrev uM:=zB #[102,111,108,108,111,119]
abbrev nl:=zB #[105,115,95,116,97,107,101,110]
abbrev qm:=zB #[108,111,111,107]
abbrev iE:=zB #[109,97,121,95,116,101,108,108,95,111,110]
abbrev nq:=zB #[110,97,109,101,100]
abbrev mw:=zB #[112,97,116,104]
abbrev jG:=zB #[114,101,97,100]
abbrev qW:=zB #[115,105,110,103,108,101]
abbrev pD:=zB #[115,112,97,99,101]
abbrev nt:=zB #[115,116,101,112]
abbrev rT:=zB #[117,110,107,110,111,119,110]
abbrev uO:=zB #[119,97,108,107]
abbrev MF:=zB #[114,102,105,110,100]
abbrev yC:=zB #[115,116,97,114,116,115,119,105,116,104]
abbrev MG:=zB #[115,112,108,105,116]
abbrev Qn:=zB #[106,111,105,110]
abbrev HZ:=zB #[97,112,112,101,110,100]
abbrev Uf:=zB #[112,111,112]
abbrev Ug:=zB #[103,101,116]
abbrev Av:=zB #[95,108,97,119,95,119,111,114,100]
abbrev gZ:=zB #[109,111,100,117,108,101,115]
abbrev lA:=zB #[109,111,100,117,108,101]
abbrev bw:=zB #[103,101,110,101,114,105,99,115]
abbrev ja:=zB #[115,101,108,102,95,116,121,112,101]
abbrev ud:=zB #[102,114,101,115,104]
abbrev jj:=zB #[110,97,109,101,115]
abbrev ka:=zB #[105,115,95,112,117,98]
abbrev mx:=zB #[115,112,111,116]
abbrev gA:=zB #[116,121,112,101,115]
abbrev gL:=zB #[118,97,108,117,101,115]
abbrev gM:=zB #[117,115,101,115]
abbrev dR:=zB #[107,105,110,100,115]
abbrev dF:=zB #[112,117,98,108,105,99,115]
abbrev dO:=zB #[116,97,98,108,101,115]
abbrev kS:=zB #[105,116,101,109,115]
abbrev jH:=zB #[107,101,112,116]
abbrev qo:=zB #[39,95]
abbrev Yq:=zB #[110,111,32,114,101,103,105,111,110,32,105,115,32,110,97,109,101,100,32]
abbrev qX:=zB #[114,101,102]
abbrev kT:=zB #[97,114,114,97,121]
abbrev Yr:=zB #[116,111,111,32,109,97,110,121,32,101,108,101,109,101,110,116,115]
abbrev En:=zB #[110,101,118,101,114]
abbrev Uh:=zB #[119,104,97,116,32,115,116,97,110,100,115,32,98,101,116,119,101,101,110,32,60,32,97,110,100,32,62,32,98,101,108,111,110,103,115,32,116,111,32,116,104,101,32,108,97,115,116,32,110,97,109,101]
abbrev uP:=zB #[83,101,108,102]
abbrev MH:=zB #[112,97,114,97,109]
abbrev Ia:=zB #[97,32,98,111,120,32,105,115,32,111,102,32,111,110,101,32,116,121,112,101]
abbrev qc:=zB #[98,111,120]
abbrev Ui:=zB #[32,104,97,115,32,110,111,32,103,101,110,101,114,105,99,115]
abbrev aC:=zB #[116,121,112,101]
abbrev bo:=zB #[115,116,114,117,99,116]
abbrev da:=zB #[101,110,117,109]
abbrev wC:=zB #[32,105,115,32,110,111,32,116,121,112,101]
abbrev Uj:=zB #[32,104,97,115,32,97,110,111,116,104,101,114,32,110,117,109,98,101,114,32,111,102,32,114,101,103,105,111,110,115]
abbrev Uk:=zB #[32,104,97,115,32,97,110,111,116,104,101,114,32,110,117,109,98,101,114,32,111,102,32,116,121,112,101,115]
abbrev lB:=zB #[97,100,116]
abbrev Ul:=zB #[97,32,116,114,97,105,116,32,104,97,115,32,110,111,32,114,101,103,105,111,110,115,32,104,101,114,101]
abbrev iQ:=zB #[116,114,97,105,116]
abbrev uQ:=zB #[32,105,115,32,110,111,32,116,114,97,105,116]
abbrev O9:=zB #[110,111,32,114,101,103,105,111,110,32,99,97,110,32,98,101,32,110,97,109,101,100,32]
abbrev oM:=zB #[116,104,101,32,103,101,110,101,114,105,99,32]
abbrev Pa:=zB #[32,105,115,32,116,111,108,100,32,116,119,105,99,101,44,32,111,114,32,105,115,32,97,110,111,116,104,101,114,32,116,121,112,101]
abbrev Eo:=zB #[97,32,98,111,117,110,100,32,105,115,32,97,32,116,114,97,105,116,32,119,105,116,104,111,117,116,32,97,114,103,117,109,101,110,116,115]
abbrev sV:=zB #[58,58]
abbrev bY:=zB #[109,111,100]
abbrev sW:=zB #[117,115,101]
abbrev g6:=zB #[118,97,108,117,101]
abbrev jh:=zB #[102,110]
abbrev Ep:=zB #[99,111,110,115,116]
abbrev l9:=zB #[116,104,101,32,110,97,109,101,32]
abbrev Pb:=zB #[32,105,115,32,116,104,97,116,32,111,102,32,97,32,112,108,97,105,110,32,116,121,112,101]
abbrev jI:=zB #[32,105,115,32,116,111,108,100,32,116,119,105,99,101]
abbrev uR:=zB #[116,104,101,32,118,97,114,105,97,110,116,32]
abbrev cz:=zB #[118,97,114,105,97,110,116]
abbrev Ib:=zB #[110,111,116,104,105,110,103,32,105,115,32,110,97,109,101,100,32]
abbrev Um:=zB #[97,32,112,97,116,104,32,119,105,116,104,111,117,116,32,97,32,110,97,109,101]
abbrev Un:=zB #[116,104,101,114,101,32,105,115,32,110,111,116,104,105,110,103,32,97,98,111,118,101,32,116,104,101,32,114,111,111,116]
abbrev Er:=zB #[32,105,115,32,110,111,116,32,115,101,101,110,32,104,101,114,101]
abbrev wD:=zB #[116,104,101,32,117,115,101,32,111,102,32]
abbrev Uo:=zB #[117,115,101,115,32,119,105,116,104,111,117,116,32,97,110,32,101,110,100,44,32,111,114,32,116,111,111,32,109,97,110,121,32,111,102,32,116,104,101,109,58,32]
abbrev yD:=zB #[119,104,97,116,32]
abbrev Ic:=zB #[32,116,101,108,108,115,32,116,111,32,97,108,108,32,105,115,32,110,111,116,32,115,101,101,110,32,98,121,32,97,108,108]
abbrev dX:=zB #[102]
abbrev cB:=zB #[83]
abbrev eN:=zB #[69]
abbrev Qo:=zB #[86]
abbrev nu:=zB #[117,110,105,116]
abbrev Cq:=zB #[98]
abbrev Xn:=zB #[117]
abbrev lC:=zB #[104,105,100,100,101,110]
abbrev yE:=zB #[66,111,120,101,115]
abbrev CK:=zB #[105,49,50,56]
abbrev Xo:=zB #[103]
abbrev aI:=zB #[110,97,109,101]
abbrev Ys:=zB #[97,48]
abbrev mR:=zB #[71]
abbrev fT:=zB #[39,97]
abbrev my:=zB #[84]
abbrev cF:=zB #[84,114]
abbrev jk:=zB #[70,101,119]
abbrev Id:=zB #[85]
abbrev uS:=zB #[109]
abbrev pE:=zB #[39,115,116,97,116,105,99]
abbrev rU:=zB #[39,98]
abbrev kc:=zB #[39,95,49]
abbrev ke:=zB #[39,95,97]
abbrev gh:=zB #[109,58,58,84,114]
abbrev tP:=zB #[78,111]
abbrev MI:=zB #[97,58,58,102]
structure Tbl where
 init:Nat->Option Nat
 bI:Nat->Str->Option Nat
 attrs:Nat->Str->Bool
noncomputable def Aw:List (Nat × Nat):=[(139,100),(203,200),(236,221),(367,254)]
def meths:List (Nat × List (Str × Nat)):=[(139,[⟨jG,105⟩,⟨rT,112⟩,⟨mw,117⟩,⟨qW,124⟩,⟨ql,131⟩,⟨nq,136⟩]),(203,[]),(236,[⟨pD,228⟩,⟨nl,233⟩]),(367,[⟨uc,261⟩,⟨mQ,268⟩,⟨gK,273⟩,⟨jF,280⟩,⟨oK,287⟩,⟨mP,294⟩,⟨lz,302⟩,⟨uO,309⟩,⟨ub,316⟩,⟨nt,323⟩,⟨qm,330⟩,⟨uM,337⟩,⟨qb,345⟩,⟨oJ,352⟩,⟨HY,359⟩,⟨iE,364⟩])]
def yF:List (Nat × db):=[(139,[gZ,lA,bw,ja,ud]),(203,[jj,ka,mx]),(236,[gA,gL,gM]),(367,[dR,dF,dO,bw,kS,jH])]
noncomputable def uT:Tbl:=⟨λC=>Aw.lookup C,λC n=>(meths.lookup C).bind λl=>l.lookup n,λC n=>((yF.lookup C).getD []).contains n⟩
noncomputable def V.Qp:V->Bool
 | .bool b=>b
 |_=>false
noncomputable def V.Qq:V->Int
 | .int i=>i
 | .rng a _=>a
 |_=>0
noncomputable def V.Yt:V->Int
 | .rng _ b=>b
 |_=>0
noncomputable def V.Yu:V->Str
 | .str s=>s
 |_=>⟨#[]⟩
noncomputable def V.Up:V->aH
 | .U l=>l
 | .gl l=>l
 |_=>[]
noncomputable def V.Uq:V->Nat
 | .ref i=>i
 |_=>0
mutual
noncomputable def V.beq:V->V->Bool
 | .none,y=>y.ctorIdx==0
 | .bool a,y=>y.ctorIdx==1&&a==y.Qp
 | .int a,y=>y.ctorIdx==2&&a==y.Qq
 | .str a,y=>y.ctorIdx==3&&a==y.Yu
 | .U a,y=>y.ctorIdx==4&&V.qY a y.Up
 | .gl a,y=>y.ctorIdx==5&&V.qY a y.Up
 | .rng a b,y=>y.ctorIdx==6&&(a==y.Qq&&b==y.Yt)
 | .ref a,y=>y.ctorIdx==7&&a==y.Uq
noncomputable def V.qY:List V->List V->Bool
 | [],y=>y.isEmpty
 |a::r,y=>!y.isEmpty&&(V.beq a (y.headD .none)&&V.qY r y.tail)
end
noncomputable def wo (Y:af)(i:Nat):Option (aH):=match Y[i]? with
 |some (.list l)=>some l
 |_=>none
noncomputable def Pc (Y:af)(i:Nat):Option (iP):=match Y[i]? with
 |some (.dict l)=>some l
 |_=>none
noncomputable def qp {α β:Type}(f:α->Option β):List α->Option (List β)
 | []=>some []
 |v::r=>(f v).bind λd=>(qp f r).map λl=>d::l
def dL (Y:af):Nat->V->Option PyData
 | 0,_=>none
 |n+1,v=>match v with
  | .none=>some .none
  | .bool b=>some<|.bool b
  | .int i=>some<|.int i
  | .str s=>some<|.str s
  | .U l=>(qp (dL Y n) l).map .tuple
  | .gl l=>(qp (dL Y n) l).map .list
  | .rng _ _=>none
  | .ref i=>(wo Y i).bind λl=>(qp (dL Y n) l).map .list
def kC (Y:af):V->Option (Bool × aH)
 | .U l=>some (true,l)
 | .gl l=>some (false,l)
 | .ref i=>(wo Y i).map λl=>(false,l)
 |_=>none
def wE (Y:af)(a b:V):Option Bool:=(kC Y a).bind λx=>(kC Y b).bind λy=>if x.1==y.1&&!(x.2.isEmpty==y.2.isEmpty) then some false else none
def yG (Y:af)(a b:V):Option Bool:=(dL Y 12 a).bind λx=>(dL Y 12 b).bind λy=>if SeqAt.shaped x&&SeqAt.shaped y then some (PyData.eqv x y) else none
noncomputable def Ur (Y:af)(a b:V):Option Bool:=match a with
 | .ref i=>match b with
  | .str _=>match Y[i]? with
   |some (.inst _ _)=>some false
   |_=>none
  |_=>none
 |_=>none
noncomputable def Us (a b:V):Option Bool:=match a with
 | .str s=>match b with
  | .str t=>some<|decide (s=t)
  |_=>none
 |_=>none
noncomputable def L6 (a b:Option Bool):Option Bool:=match a with
 |some r=>some r
 |none=>b
def Pd (Y:af)(a b:V):Option Bool:=L6 (Us a b)<|L6 (wE Y a b)<|L6 (Ur Y a b)<|yG Y a b
noncomputable def br (_σ:af):V->Option Bool
 | .none=>some false
 | .bool b=>some b
 | .int i=>some<|i != 0
 |_=>none
def cI (Y:af):V->Option (aH)
 | .U l=>some l
 | .gl l=>some l
 | .ref i=>wo Y i
 | .rng a b=>if -10000<=a/\a<=10000/\-10000<=b/\b<=10000 then some ((List.range (b - a).toNat).map λ(k:Nat)=>.int (a+(k:Int))) else none
 |_=>none
def same (Y:af)(v:V)(l:aH):Bool:=match v with
 | .ref i=>match wo Y i with
  |some l'=>V.qY l' l
  |none=>false
 |_=>true
noncomputable def eU:List V->Option (db)
 | []=>some []
 |v::r=>match v with
  | .str s=>(eU r).map λl=>s::l
  |_=>none
def Ax (Y:af)(x c:V):Option Bool:=(dL Y 12 c).bind λcc=>(dL Y 12 x).bind λd=>match cc with
 | .tuple xs=>if PyData.canLayAll0 xs&&d.canLay0&&decide (d.depth<=64) then some (xs.any λy=>PyData.eqv y d) else none
 | .list xs=>if PyData.canLayAll0 xs&&d.canLay0&&decide (d.depth<=64) then some (xs.any λy=>PyData.eqv y d) else none
 |_=>none
noncomputable def jy (s:Str):List Str->Bool
 | []=>false
 |t::r=>decide (t=s)||jy s r
def FP (Y:af)(x c:V):Option Bool:=match x with
 | .str s=>(kC Y c).bind λl=>(eU l.2).map λts=>jy s ts
 |_=>none
def Th (Y:af)(x c:V):Option Bool:=L6 (FP Y x c)<|Ax Y x c
noncomputable def aM {α:Type}[DecidableEq α](l:List (α × V))(k:α):j9:=(l.find? λp=>p.1=k).map (·.2)
noncomputable def rV {α:Type}[DecidableEq α](l:List (α × V))(k:α)(v:V):List (α × V):=
 if l.any λp=>p.1=k then l.map λp=>if p.1=k then (p.1,v) else p else l++[(k,v)]
noncomputable def yH {α:Type}(Y:af)(j:Nat)(f:ao->Option α):Option α:=match Y[j]? with
 |some c=>f c
 |none=>none
noncomputable def Ut {α:Type}(v:V)(f:Str->Option α):Option α:=match v with
 | .str s=>f s
 |_=>none
noncomputable def qq {α:Type}(v:V)(f:Int->Option α):Option α:=match v with
 | .int i=>f i
 |_=>none
noncomputable def MJ {α:Type}(v:V)(f:List V->Option α):Option α:=match v with
 | .U l=>f l
 |_=>none
def Yv (a:V)(l:iP):Option Bool:=L6 (Ut a λs=>some (aM l s).isSome)<|MJ a λks=>if l.isEmpty then (eU ks).map λM=>false else none
def Yw (a:V)(l:List (db × V)):Option Bool:=MJ a λks=>(eU ks).map λks=>(aM l ks).isSome
def inC (Y:af)(a b:V)(c:ao):Option Bool:=match c with
 | .list _=>Th Y a b
 | .dict l=>Yv a l
 | .dictT l=>Yw a l
 |_=>none
def isIn (Y:af)(a b:V):Option Bool:=match b with
 | .U _=>Th Y a b
 | .gl _=>Th Y a b
 | .ref i=>yH Y i<|inC Y a b
 |_=>none
noncomputable def Qr (a b:V):Option Bool:=match b with
 | .none=>some (a.ctorIdx==0)
 |_=>none
def cS (Y:af)(op:CmpOp)(a b:V):Option Bool:=match op with
 | .Eq=>Pd Y a b
 | .NotEq=>(Pd Y a b).map λb=>!b
 | .Is=>Qr a b
 | .IsNot=>(Qr a b).map λb=>!b
 | .Lt=>qq a λi=>qq b λj=>some<|decide (i<j)
 | .LtE=>qq a λi=>qq b λj=>some<|decide (i<=j)
 | .Gt=>qq a λi=>qq b λj=>some<|decide (j<i)
 | .GtE=>qq a λi=>qq b λj=>some<|decide (j<=i)
 | .In=>isIn Y a b
 | .NotIn=>(isIn Y a b).map λb=>!b
noncomputable def fK (i:Int):Bool:=decide (-4294967296<i)&&decide (i<4294967296)
def Xp (l:aH)(i:Int):j9:=if fK i then (seqIndex? i l.length).bind λj=>l[j]? else none
def CL (l:aH)(i:Int):j9:=if fK i&&decide (0<=i) then l[i.toNat]? else none
def Uu (i:V)(c:ao):j9:=match c with
 | .list l=>qq i<|CL l
 | .dict l=>Ut i<|aM l
 | .dictT l=>MJ i λks=>(eU ks).bind<|aM l
 |_=>none
def cq (Y:af)(a i:V):j9:=match a with
 | .U l=>qq i<|Xp l
 | .gl l=>qq i<|CL l
 | .ref j=>yH Y j<|Uu i
 |_=>none
noncomputable def fL {α β:Type}(o:Option α)(g:α->Res β):Res β:=match o with
 |some r=>g r
 |none=>.stuck
def dg (r:Res V):Res Bool:=r.bind λv Y=>fL (br Y v) λb=>.ok b Y
noncomputable def alloc (Y:af)(c:ao):Res V:=.ok (.ref Y.length) (Y++[c])
noncomputable def qZ (vs:aH)(f:V->Res V):Res V:=match vs with
 | []=>.stuck
 |v::r=>match r with
  | []=>f v
  |_::_=>.stuck
noncomputable def ot (v:V)(f:Int->Res V):Res V:=match v with
 | .int i=>f i
 |_=>.stuck
noncomputable def Xq (v:V)(f:Bool->Res V):Res V:=match v with
 | .bool i=>f i
 |_=>.stuck
noncomputable def Ie (v:V)(f:Nat->Res V):Res V:=match v with
 | .ref i=>f i
 |_=>.stuck
def Xr (vs:aH)(f:V->V->Res V):Res V:=match vs with
 | []=>.stuck
 |v::r=>qZ r<|f v
def onSeq (Y:af)(v:V)(f:Bool->List V->Res V):Res V:=fL (kC Y v) λkl=>if kl.2.length<10000 then f kl.1 kl.2 else .stuck
def qr (Y:af)(i:Nat)(f:List (Str × V)->Res V):Res V:=fL (Pc Y i) f
noncomputable def zU (v:V)(f:Str->Res V):Res V:=match v with
 | .str i=>f i
 |_=>.stuck
noncomputable def Ti (v:V)(f:List V->Res V):Res V:=match v with
 | .U i=>f i
 |_=>.stuck
def qu (Y:af)(i:Nat)(f:List V->Res V):Res V:=fL (wo Y i) f
def jJ.listOf (Y:af):V->Option (aH)
 | .gl l=>some l
 | .ref i=>wo Y i
 |_=>none
def Ig (Y:af)(a b:V):Res V:=fL (jJ.listOf Y a) λl=>fL (jJ.listOf Y b) λr=>if l.length+r.length<100000 then alloc Y (.list (l++r)) else .stuck
def jJ (Y:af)(op:Operator)(a b:V):Res V:=match op with
 | .Add=>match a with
  | .int i=>ot b λj=>.ok (.int (i+j)) Y
  | .str s=>zU b λt=>if s.length+t.length<100000 then .ok (.str (s++t)) Y else .stuck
  | .U l=>Ti b λr=>if l.length+r.length<100000 then .ok (.U (l++r)) Y else .stuck
  |x=>Ig Y x b
 | .Sub=>ot a λi=>ot b λj=>.ok (.int<|i - j) Y
 | .Mult=>match a with
  | .int i=>ot b λj=>if fK i||fK j then .ok (.int<|i * j) Y else .stuck
  | .U l=>ot b λj=>if l.length=1/\(j=0∨j=1∨j=2) then .ok (.U<|if j=0 then [] else if j=1 then l else l++l) Y else .stuck
  |_=>.stuck
 | .Mod=>ot a λi=>ot b λj=>if 0<j then .ok (.int<|i.fmod j) Y else .stuck
 | .FloorDiv=>ot a λi=>ot b λj=>if 0<j/\j<1000000 then .ok (.int<|i.fdiv j) Y else .stuck
 | .Pow=>ot a λi=>ot b λj=>if 0<=j/\j<200/\0<=i/\i<20 then .ok (.int<|i ^ j.toNat) Y else .stuck
 |_=>.stuck
def rW (Y:af)(a h:V):Res V:=ot h λk=>match a with
 | .U l=>if k= -1/\l.length<10000 then .ok (.U l.dropLast) Y else .stuck
 | .str s=>if s.length<10000 then .ok (.str<|Txt.slice s none<|some k) Y else .stuck
 | .ref i=>fL (wo Y i) λl=>if k= -1/\l.length<10000 then alloc Y (.list l.dropLast) else .stuck
 |_=>.stuck
def oN (Y:af)(a h:V):Res V:=ot h λk=>Ie a λi=>fL (wo Y i) λl=>if 0<=k/\k<=l.length/\l.length<10000 then alloc Y (.list<|l.drop k.toNat) else .stuck
structure Qs where
 C:Nat
 d:Nat
 l:iP
 k:Option Str
def Yx (C d:Nat)(c:ao):Option Qs:=match c with
 | .dict l=>some ⟨C,d,l,none⟩
 | .dictX l k=>if (aM l k).isSome then none else some ⟨C,d,l,some k⟩
 |_=>none
def Yy (Y:af)(c:ao):Option Qs:=match c with
 | .inst C d=>yH Y d<|Yx C d
 |_=>none
def oO (Y:af)(a:V):Option Qs:=match a with
 | .ref i=>yH Y i<|Yy Y
 |_=>none
def uU (Y:af)(a:V)(n:Str):Option Qs:=(oO Y a).bind λaaM=>if aaM.k=some n then none else some aaM
def kf (Y:af)(a:V)(n:Str):j9:=(uU Y a n).bind λaaM=>aM aaM.l n
def MK (Y:af)(n:Str)(v:V)(aaM:Qs):Option af:=match aaM.k with
 |some k=>if n=k then some Y else none
 |none=>some<|Y.set aaM.d<|.dict<|rV aaM.l n v
def jl (Y:af)(a:V)(n:Str)(v:V):Option af:=(oO Y a).bind<|MK Y n v
noncomputable def Uv (Y:af)(j:Nat)(v:V)(l:aH)(k:Int):Option af:=if 0<=k/\k<l.length/\l.length<10000 then some (Y.set j<|.list<|l.set k.toNat v) else none
def Uw (Y:af)(j:Nat)(v:V)(l:iP)(s:Str):Option af:=if l.length<10000 then some (Y.set j<|.dict<|rV l s v) else none
def Ux (Y:af)(j:Nat)(v:V)(l:iP)(ks:aH):Option af:=if l.isEmpty then (eU ks).map λks=>Y.set j (.dictT [(ks,v)]) else none
def Uy (Y:af)(j:Nat)(v:V)(l:List (db × V))(ks:aH):Option af:=if l.length<10000 then (eU ks).map λks=>Y.set j (.dictT<|rV l ks v) else none
def Uz (Y:af)(j:Nat)(i v:V)(l:iP):Option af:=match i with
 | .str s=>Uw Y j v l s
 | .U ks=>Ux Y j v l ks
 |_=>none
def setC (Y:af)(j:Nat)(i v:V)(c:ao):Option af:=match c with
 | .list l=>qq i<|Uv Y j v l
 | .dict l=>Uz Y j i v l
 | .dictT l=>MJ i<|Uy Y j v l
 |_=>none
def jm (Y:af)(a i v:V):Option af:=match a with
 | .ref j=>yH Y j<|setC Y j i v
 |_=>none
noncomputable def wF (x:Str):List Str->db
 | []=>[x]
 |y::r=>if decide (y.cps.toList<x.cps.toList) then y::wF x r else x::y::r
def mS (l:db):db:=l.foldr wF []
noncomputable def UA (x:V):Bool:=match x with
 | .str _=>true
 |_=>false
def Qt (Y:af)(x:V):Bool:=match x with
 | .ref i=>(wo Y i).isSome
 |_=>false
def Yz (Y:af)(x:V):Bool:=match x with
 | .ref i=>(Pc Y i).isSome
 |_=>false
def Pe (Y:af)(a:V)(m:Bm)(vs:aH):Res V:=match m with
 | .rfind=>zU a λs=>qZ vs λv=>zU v λt=>.ok (.int<|Txt.rfind s t) Y
 | .startswith=>zU a λs=>qZ vs λv=>zU v λt=>.ok (.bool<|Txt.startswith s t) Y
 | .split=>zU a λs=>qZ vs λv=>zU v λt=>if s.length<1000&&!(t.length==0) then alloc Y (.list<|(Txt.split s t).map .str) else .stuck
 | .join=>zU a λs=>qZ vs λv=>Ti v λl=>fL (eU l) λl=>if (l.map (·.length)).sum+l.length * s.length<=16777216 then .ok (.str<|Txt.join s l) Y else .stuck
 | .append=>Ie a λi=>qZ vs λv=>qu Y i λl=>if l.length<10000 then .ok .none (Y.set i<|.list (l++[v])) else .stuck
 | .pop=>match vs with
  | []=>Ie a λi=>qu Y i λl=>if l.length<10000 then fL l.getLast? λv=>.ok v (Y.set i<|.list l.dropLast) else .stuck
  |_::_=>.stuck
 | .get=>Ie a λi=>qZ vs λv=>zU v λk=>qr Y i λl=>.ok ((aM l k).getD .none) Y
def FQ (Y:af)(x:V)(m:Bm):Bool:=match m with
 | .append=>Qt Y x
 | .pop=>Qt Y x
 | .get=>Yz Y x
 |_=>UA x
def wp (Y:af)(b:Bi)(vs:aH):Res V:=match b with
 | .len=>qZ vs λv=>onSeq Y v λM l=>.ok (.int l.length) Y
 | .list=>qZ vs λv=>onSeq Y v λM l=>alloc Y<|.list l
 | .tuple=>qZ vs λv=>onSeq Y v λM l=>.ok (.U l) Y
 | .int=>qZ vs λv=>Xq v λb=>.ok (.int<|if b then 1 else 0) Y
 | .str=>qZ vs λv=>ot v λi=>if fK i then .ok (.str<|Str.ofString<|toString i) Y else .stuck
 | .max=>Xr vs λx y=>ot x λa=>ot y λb=>.ok (.int<|if a<b then b else a) Y
 | .sorted=>qZ vs λv=>Ie v λi=>qr Y i λl=>if l.length<64 then alloc Y (.list<|(mS<|l.map (·.1)).map .str) else .stuck
 | .range=>match vs with
  | []=>.stuck
  |x::r=>match r with
   | []=>ot x λn=>.ok (.rng 0 n) Y
   |y::_=>ot x λa=>qZ r λy=>ot y λn=>.ok (.rng a n) Y
abbrev av:=Nat->List V->af->Res V
def dh (Y:af)(x:V)(n:Str):Bool:=match oO Y x with
 |some aaM=>uT.attrs aaM.C n&&decide (aaM.l.length<499)
 |none=>false
def fg (Y:af)(x:V)(n:Str):Option Nat:=(uU Y x n).bind λaaM=>if (aM aaM.l n).isSome then none else uT.bI aaM.C n
noncomputable def eJ (fr:List (Option Nat))(N:Loc):Loc:=fr.map λj=>match j with
 |some j=>(N[j]?).join
 |none=>none
noncomputable def dP:List Nat->List V->Loc->Option Loc
 | [],[],N=>some N
 |i::r,v::t,N=>match N[i]? with
  |some none=>dP r t<|N.set i<|some v
  |_=>none
 |_,_,_=>none
def dA (Y:af)(ts:List Nat)(v:V)(N:Loc):Option Loc:=if ts.length=1 then dP ts [v] N else (kC Y v).bind λl=>dP ts l.2 N
def dr (f:V->List V->af->Res (aH))(src:V)(all:aH):List V->List V->af->Res (aH)
 | [],acc,Y=>.ok acc Y
 |v::r,acc,Y=>(f v acc Y).bind λacc Y=>if same Y src all then dr f src all r acc Y else .stuck
noncomputable def ma (v:V)(acc:aH)(Y:af):Res (aH):=if acc.length<10000 then .ok (acc++[v]) Y else .stuck
noncomputable def q5:Res V->Res V
 | .ok v Y=>.ok v Y
 | .exc C Y=>if C=64 then .ok (.str (Str.ofString "hidden")) Y else if C=52 then .ok (.str (Str.ofString "name")) Y else if C=76 then .ok (.str (Str.ofString "type")) Y else .stuck
 | .stuck=>.stuck
mutual
noncomputable def aV (O:av):X->Loc->af->Res V
 | .l i,N,Y=>match N[i]? with
  |some (some v)=>.ok v Y
  |_=>.stuck
 | .c v,_,Y=>.ok v Y
 | .U l,N,Y=>(ou O l N Y).bind λvs Y=>.ok (.U vs) Y
 | .s l,N,Y=>(ou O l N Y).bind λvs Y=>alloc Y<|.list vs
 | .dct ks l,N,Y=>(ou O l N Y).bind λvs Y=>alloc Y<|.dict<|ks.zip vs
 | .m op a b,N,Y=>(aV O a N Y).bind λx Y=>(aV O b N Y).bind λy Y=>fL (cS Y op x y) λb=>.ok (.bool b) Y
 | .and l,N,Y=>n0 O l N Y
 | .or l,N,Y=>uV O l N Y
 | .not a,N,Y=>(dg<|aV O a N Y).bind λb Y=>.ok (.bool !b) Y
 | .ite c a b,N,Y=>(dg<|aV O c N Y).bind λt Y=>cond t (aV O a N Y)<|aV O b N Y
 | .bin op a b,N,Y=>(aV O a N Y).bind λx Y=>(aV O b N Y).bind λy Y=>jJ Y op x y
 | .i a i,N,Y=>(aV O a N Y).bind λx Y=>(aV O i N Y).bind λy Y=>fL (cq Y x y) λv=>.ok v Y
 | .slcTo a h,N,Y=>(aV O a N Y).bind λx Y=>(aV O h N Y).bind λy Y=>rW Y x y
 | .slcFrom a h,N,Y=>(aV O a N Y).bind λx Y=>(aV O h N Y).bind λy Y=>oN Y x y
 | .attr a n,N,Y=>(aV O a N Y).bind λx Y=>if dh Y x n then fL (kf Y x n) λv=>.ok v Y else .stuck
 | .call f l,N,Y=>(ou O l N Y).bind λvs Y=>O f vs Y
 | .new C l,N,Y=>fL (uT.init C) λf=>(ou O l N Y).bind λvs Y=>(O f (.ref (Y.length+1)::vs)<|Y++[.dict [],.inst C Y.length]).bind λr Y'=>match r with
   | .none=>.ok (.ref (Y.length+1)) Y'
   |_=>.stuck
 | .bI a n l,N,Y=>(aV O a N Y).bind λx Y=>fL (fg Y x n) λf=>(ou O l N Y).bind λvs Y=>O f (x::vs) Y
 | .bi b l,N,Y=>(ou O l N Y).bind λvs Y=>wp Y b vs
 | .bm a m l,N,Y=>(aV O a N Y).bind λx Y=>if FQ Y x m then (ou O l N Y).bind λvs Y=>Pe Y x m vs else .stuck
 | .comp fr ts it cd elt,N,Y=>(aV O it N Y).bind λsrc Y=>fL (cI Y src) λall=>(dr (λv acc Y=>fL (dA Y ts v<|eJ fr N) λloc'=>
   (jK O cd loc' Y).bind λb Y=>cond b ((aV O elt loc' Y).bind λv Y=>ma v acc Y)<|.ok acc Y) src all all [] Y).bind λvs Y=>alloc Y<|.list vs
 | .comp2 fr ts it qP qQ elt,N,Y=>(aV O it N Y).bind λsrc Y=>fL (cI Y src) λall=>(dr (λv acc Y=>fL (dA Y ts v<|eJ fr N) λloc'=>
   (aV O qQ loc' Y).bind λwk Y=>fL (cI Y wk) λall2=>dr (λv acc Y=>fL (dA Y qP v loc') λwl=>(aV O elt wl Y).bind λv Y=>ma v acc Y) wk all2 all2 acc Y) src all all [] Y).bind λvs Y=>alloc Y<|.list vs
 | .word fr a,N,Y=>q5<|aV O a (eJ fr N) Y
noncomputable def ou (O:av):List X->Loc->af->Res (aH)
 | [],_,Y=>.ok [] Y
 |a::r,N,Y=>(aV O a N Y).bind λv Y=>(ou O r N Y).bind λvs Y=>.ok (v::vs) Y
noncomputable def n0 (O:av):List X->Loc->af->Res V
 | [],_,_=>.stuck
 |a::r,N,Y=>(aV O a N Y).bind λv Y=>match r with
  | []=>.ok v Y
  |_::_=>fL (br Y v) λt=>cond t (n0 O r N Y)<|.ok v Y
noncomputable def uV (O:av):List X->Loc->af->Res V
 | [],_,_=>.stuck
 |a::r,N,Y=>(aV O a N Y).bind λv Y=>match r with
  | []=>.ok v Y
  |_::_=>fL (br Y v) λt=>cond t (.ok v Y)<|uV O r N Y
noncomputable def jK (O:av):List X->Loc->af->Res Bool
 | [],_,Y=>.ok true Y
 |a::r,N,Y=>(dg<|aV O a N Y).bind λt Y=>cond t (jK O r N Y)<|.ok false Y
end
mutual
noncomputable def ue (O:av):T->V->Loc->af->Res Loc
 | .l i,v,N,Y=>.ok (N.set i<|some v) Y
 | .U ts,v,N,Y=>fL (kC Y v) λl=>if l.2.length=ts.length then rX O ts l.2 N Y else .stuck
 | .attr a n,v,N,Y=>(aV O a N Y).bind λx Y=>if dh Y x n then fL (jl Y x n v) λY=>.ok N Y else .stuck
 | .sub a i,v,N,Y=>(aV O a N Y).bind λx Y=>(aV O i N Y).bind λy Y=>fL (jm Y x y v) λY=>.ok N Y
noncomputable def rX (O:av):List T->List V->Loc->af->Res Loc
 | [],[],N,Y=>.ok N Y
 |t::ts,v::vs,N,Y=>(ue O t v N Y).bind λN Y=>rX O ts vs N Y
 |_,_,_,_=>.stuck
end
abbrev fA:=j9 × Loc
noncomputable def CM (C:Nat)(x y:V)(Y:af):Res fA:=match x with
 | .str _=>match y with
  | .int _=>.exc C Y
  |_=>.stuck
 |_=>.stuck
noncomputable def Ih (f:fA)(Y:af)(r:Res fA):Res fA:=match f.1 with
 |some _=>.ok f Y
 |none=>r
def jL (test:Loc->af->Res Bool)(body:Loc->af->Res fA):Nat->Loc->af->Res fA
 | 0,_,_=>.stuck
 |n+1,N,Y=>(test N Y).bind λb Y=>cond b ((body N Y).bind λf Y=>Ih f Y<|jL test body n f.2 Y)<|.ok (none,N) Y
def jz (step:V->Loc->af->Res fA)(src:V)(all:aH):List V->Loc->af->Res fA
 | [],N,Y=>.ok (none,N) Y
 |v::r,N,Y=>(step v N Y).bind λf Y=>Ih f Y<|if same Y src all then jz step src all r f.2 Y else .stuck
mutual
noncomputable def oy (O:av)(W:Nat):S->Loc->af->Res fA
 | .ex a,N,Y=>(aV O a N Y).bind λv Y=>match v with
  | .none=>.ok (none,N) Y
  |_=>.stuck
 | .set t a,N,Y=>(aV O a N Y).bind λv Y=>(ue O t v N Y).bind λN Y=>.ok (none,N) Y
 | .ret a,N,Y=>(aV O a N Y).bind λv Y=>.ok (some v,N) Y
 | .ite c a b,N,Y=>(dg<|aV O c N Y).bind λt Y=>cond t (b9 O W a N Y)<|b9 O W b N Y
 | .whl c a,N,Y=>jL (λN Y=>dg<|aV O c N Y) (λN Y=>b9 O W a N Y) W N Y
 | .for t it a,N,Y=>(aV O it N Y).bind λsrc Y=>fL (cI Y src) λall=>jz (λv N Y=>(ue O t v N Y).bind λN Y=>b9 O W a N Y) src all all N Y
 | .raise C a b,N,Y=>(aV O a N Y).bind λx Y=>(aV O b N Y).bind λy Y=>CM C x y Y
noncomputable def b9 (O:av)(W:Nat):List S->Loc->af->Res fA
 | [],N,Y=>.ok (none,N) Y
 |s::r,N,Y=>(oy O W s N Y).bind λf Y=>Ih f Y<|b9 O W r f.2 Y
end
structure g7 where
 slots:Nat
 ps:List Nat
 dflt:aH
 body:List S
def kD (slots:Nat):List Nat->List V->Option Loc
 |ps,vs=>dP ps vs<|List.replicate slots none
structure Text where
 fn:Nat->Option g7
 wh:Nat
def bn (tx:Text)(O:av)(f:Nat)(vs:aH)(Y:af):Res V:=fL (tx.fn f) λi=>if vs.length<=i.ps.length/\i.ps.length<=vs.length+i.dflt.length then
   fL (kD i.slots i.ps<|vs++i.dflt.drop (vs.length+i.dflt.length - i.ps.length)) λN=>(b9 O tx.wh i.body N Y).bind λr Y=>.ok (r.1.getD .none) Y
  else .stuck
def run (tx:Text):Nat->av
 | 0=>λM M M=>.stuck
 |n+1=>bn tx<|run tx n
structure Gx where
 fn:Str->Option Nat
 cls:Str->Option Nat
 val:Str->j9
 bi:Str->Option Bi
 um:Str->Bool
 bm:Str->Option Bm
 word:Str
noncomputable abbrev Ns:=List<|Str × NameKind
noncomputable def q6:NameKind->Bool
 | .local=>true
 | .cell=>true
 | .free=>true
 |_=>false
def slotAt (x:Str):Ns->Option Nat
 | []=>none
 |p::r=>if p.1==x then (if q6 p.2 then some 0 else none) else (slotAt x r).map (· +1)
noncomputable def nv (x:Str):Bool:=!(x==("__debug__":Str))&&!(x==("__classdict__":Str))&&!(x==("__name__":Str))
def fh (ns:Ns)(x:Str):Option Nat:=if nv x then slotAt x ns else none
def jb (ns:Ns)(x:Str):Bool:=nv x&&ns.lookup x==some .globalImplicit
noncomputable def CN:Const->j9
 | .none=>some .none
 | .bool b=>some<|.bool b
 | .int i=>some<|.int i
 | .str s=>some<|.str s
 |_=>none
def di (ns:Ns)(inner:Ns):List (Option Nat):=inner.map λp=>if p.2==.free then fh ns p.1 else none
noncomputable def gV (ns:Ns)(i:Nat):Option NameKind:=(ns[i]?).map (·.2)
structure Pt where
 l:List Expr:=[]
 ops:List CmpOp:=[]
 op:Option Operator:=none
 bop:Option BoolOp:=none
 uop:Option UnaryOp:=none
 nm:Str:=default
 k:Option Const:=none
 ks:List (Option Expr):=[]
 gs:List Comprehension:=[]
 sc:Scope:=default
 bare:Bool:=false
 line:Nat:=0
noncomputable def CO (lo hi st:Option Expr):List Expr:=if st.isSome then [] else lo.toList++hi.toList
noncomputable def pt:Expr->Pt
 | .BoolOp op l _=>{l,bop:=some op}
 | .BinOp a op b _=>{l:=[a,b],op:=some op}
 | .UnaryOp op a _=>{l:=[a],uop:=some op}
 | .Lambda a e sc _=>{l:=[e],sc,bare:=a.posonlyargs.isEmpty&&a.args.isEmpty&&a.vararg.isNone&&a.kwonlyargs.isEmpty&&a.kw_defaults.isEmpty&&a.kwarg.isNone&&a.defaults.isEmpty}
 | .IfExp c a b _=>{l:=[c,a,b]}
 | .Dict ks l _=>{l,ks}
 | .ListComp e gs sc _=>{l:=[e],gs,sc}
 | .Compare a ops l _=>{l:=a::l,ops}
 | .Call f l kw p=>{l:=f::l,bare:=kw.isEmpty,line:=p.line}
 | .Constant k _ _=>{k:=some k}
 | .Attribute a nm p=>{l:=[a],nm,line:=p.endLine}
 | .Subscript a i _=>{l:=[a,i]}
 | .Name nm _=>{nm}
 | .List l _=>{l}
 | .Tuple l _ _=>{l}
 | .Slice lo hi st _=>{l:=CO lo hi st,bare:=lo.isSome}
 |_=>{}
noncomputable def L7:Expr:=.Constant .none 0 default
def iG (e:Expr)(i:Nat):Expr:=((pt e).l[i]?).getD L7
def mz (ns:Ns)(e:Expr):Option Nat:=if e.ctorIdx==23 then (match fh ns (pt e).nm with
  |some i=>if gV ns i==some .local then some i else none
  |none=>none) else none
def lD (ns:Ns):List Expr->Option (List Nat)
 | []=>some []
 |e::r=>match mz ns e with
  |some i=>(lD ns r).map (i::·)
  |none=>none
def f0 (ns:Ns)(e:Expr):Option (List Nat):=if e.ctorIdx==23 then (mz ns e).map λi=>[i] else if e.ctorIdx==25&&decide (2<=(pt e).l.length) then lD ns (pt e).l else none
def keyOk (s:Str)(e:Option Expr):Bool:=match e with
 |some e=>e.ctorIdx==19&&decide ((pt e).k=some (.str s))
 |none=>false
def keysOk:List Str->List (Option Expr)->Bool
 | [],l=>l.isEmpty
 |s::r,l=>match l with
  |e::t=>keyOk s e&&keysOk r t
  | []=>false
def kE (e:Expr):Bool:=!(e.ctorIdx==16&&(pt e).bare&&decide ((pt e).l.length=1)&&(iG e 0).ctorIdx==23)
noncomputable def Qu (ns:Ns):Bool:=decide (ns.map (·.1)).Nodup
def CP (ns:Ns)(x:Str):Bool:=match fh ns x with
 |some j=>gV ns j==some .cell||gV ns j==some .free
 |none=>false
def d9 (ns:Ns)(sc:Scope):Bool:=sc.kind==.function&&Qu sc.names&&sc.names.all (λp=>p.2 != .cell)&&sc.names.all λp=>p.2 != .free||CP ns p.1
def ML (gx:Gx)(e:Expr)(ns:Ns):j9:=
 if e.ctorIdx==19 then (pt e).k.bind CN
 else if e.ctorIdx==23 then (if (fh ns (pt e).nm).isNone&&jb ns (pt e).nm then gx.val (pt e).nm else none)
 else if e.ctorIdx==3&&(pt e).uop==some .USub&&(iG e 0).ctorIdx==19 then (match (pt<|iG e 0).k with
  |some (.int i)=>some<|.int (-i)
  |_=>none)
 else none
noncomputable def sX (e:Expr):Bool:=!(e.ctorIdx==7)
noncomputable def UC (g:Comprehension):Bool:=g.is_async==0
def Pf:Comprehension:=⟨L7,L7,[],0⟩
mutual
noncomputable def bV (gx:Gx):X->Bool->Expr->Ns->Bool
 | .l i,_,e,ns=>e.ctorIdx==23&&decide (fh ns (pt e).nm=some i)
 | .c v,_,e,ns=>match ML gx e ns with
  |some u=>V.beq u v
  |none=>false
 | .U l,wd,e,ns=>e.ctorIdx==25&&(decide ((pt e).l.length<1000)&&lE gx l wd (pt e).l ns)
 | .s l,wd,e,ns=>e.ctorIdx==24&&(decide ((pt e).l.length<1000)&&lE gx l wd (pt e).l ns)
 | .dct ks l,wd,e,ns=>e.ctorIdx==6&&(keysOk ks (pt e).ks&&(decide (ks.length=(pt e).l.length/\ks.length<=15/\ks.Nodup)&&lE gx l wd (pt e).l ns))
 | .m op a b,wd,e,ns=>e.ctorIdx==15&&(decide ((pt e).ops=[op]/\(pt e).l.length=2)&&(!behindInMarks op (iG e 1)&&(bV gx a wd (iG e 0) ns&&bV gx b wd (iG e 1) ns)))
 | .and l,wd,e,ns=>e.ctorIdx==0&&(decide ((pt e).bop=some .And)&&lE gx l wd (pt e).l ns)
 | .or l,wd,e,ns=>e.ctorIdx==0&&(decide ((pt e).bop=some .Or)&&lE gx l wd (pt e).l ns)
 | .not a,wd,e,ns=>e.ctorIdx==3&&(decide ((pt e).uop=some .Not)&&bV gx a wd (iG e 0) ns)
 | .ite c a b,wd,e,ns=>e.ctorIdx==5&&(bV gx c wd (iG e 0) ns&&(bV gx a wd (iG e 1) ns&&bV gx b wd (iG e 2) ns))
 | .bin op a b,wd,e,ns=>e.ctorIdx==2&&(decide ((pt e).op=some op)&&(bV gx a wd (iG e 0) ns&&bV gx b wd (iG e 1) ns))
 | .i a i,wd,e,ns=>e.ctorIdx==21&&(!((iG e 1).ctorIdx==26)&&(bV gx a wd (iG e 0) ns&&bV gx i wd (iG e 1) ns))
 | .slcTo a i,wd,e,ns=>e.ctorIdx==21&&((iG e 1).ctorIdx==26&&(decide ((pt<|iG e 1).bare=false/\(pt<|iG e 1).l.length=1)&&(bV gx a wd (iG e 0) ns&&bV gx i wd (iG (iG e 1) 0) ns)))
 | .slcFrom a i,wd,e,ns=>e.ctorIdx==21&&((iG e 1).ctorIdx==26&&(decide ((pt<|iG e 1).bare=true/\(pt<|iG e 1).l.length=1)&&(bV gx a wd (iG e 0) ns&&bV gx i wd (iG (iG e 1) 0) ns)))
 | .attr a n,wd,e,ns=>e.ctorIdx==20&&(decide ((pt e).nm=n)&&(kE (iG e 0)&&bV gx a wd (iG e 0) ns))
 | .call f l,wd,e,ns=>Ay e ns&&(decide (gx.fn (pt<|iG e 0).nm=some f)&&lE gx l wd (pt e).l.tail ns)
 | .new C l,wd,e,ns=>Ay e ns&&(decide (gx.cls (pt<|iG e 0).nm=some C)&&lE gx l wd (pt e).l.tail ns)
 | .bi b l,wd,e,ns=>Ay e ns&&(decide (gx.bi (pt<|iG e 0).nm=some b)&&lE gx l wd (pt e).l.tail ns)
 | .bI a n l,wd,e,ns=>MM e&&(decide ((pt<|iG e 0).nm=n)&&(bV gx a wd (iG (iG e 0) 0) ns&&lE gx l wd (pt e).l.tail ns))
 | .bm a m l,wd,e,ns=>MM e&&(decide (gx.bm (pt<|iG e 0).nm=some m)&&(bV gx a wd (iG (iG e 0) 0) ns&&lE gx l wd (pt e).l.tail ns))
 | .comp fr ts it cond elt,wd,e,ns=>e.ctorIdx==8&&(decide ((pt e).gs.length=1)&&(UD ((pt e).gs.headD Pf) fr ts ns (pt e).sc&&(bV gx it wd ((pt e).gs.headD Pf).iter ns&&(lE gx cond wd ((pt e).gs.headD Pf).ifs (pt e).sc.names&&bV gx elt wd (iG e 0) (pt e).sc.names))))
 | .comp2 fr ts it qP qQ elt,wd,e,ns=>e.ctorIdx==8&&(decide ((pt e).gs.length=2)&&(UD ((pt e).gs.headD Pf) fr ts ns (pt e).sc&&(UE ((pt e).gs.headD Pf) ((pt e).gs.tail.headD Pf) qP (pt e).sc.names&&(bV gx it wd ((pt e).gs.headD Pf).iter ns&&(bV gx qQ wd ((pt e).gs.tail.headD Pf).iter (pt e).sc.names&&bV gx elt wd (iG e 0) (pt e).sc.names)))))
 | .word fr a,wd,e,ns=>wd&&(Ay e ns&&(decide ((pt e).l.length=2/\(pt<|iG e 0).nm=gx.word)&&(Qv (iG e 1) fr ns&&bV gx a false (iG (iG e 1) 0) (pt<|iG e 1).sc.names)))
noncomputable def lE (gx:Gx):List X->Bool->List Expr->Ns->Bool
 | [],_,l,_=>l.isEmpty
 |a::r,wd,l,ns=>!l.isEmpty&&(bV gx a wd (l.headD L7) ns&&lE gx r wd l.tail ns)
noncomputable def Ay (e:Expr)(ns:Ns):Bool:=e.ctorIdx==16&&((iG e 0).ctorIdx==23&&((pt e).bare&&jb ns (pt<|iG e 0).nm))
noncomputable def MM (e:Expr):Bool:=e.ctorIdx==16&&((iG e 0).ctorIdx==20&&((pt e).bare&&(kE (iG (iG e 0) 0)&&(decide ((pt e).l.length<31)&&(pt<|iG e 0).line==(pt e).line))))
noncomputable def UD (g:Comprehension)(fr:List (Option Nat))(ts:List Nat)(ns:Ns)(sc:Scope):Bool:=d9 ns sc&&(UC g&&(sX g.iter&&decide (fr=di ns sc.names/\f0 sc.names g.target=some ts)))
noncomputable def UE (g g2:Comprehension)(qP:List Nat)(ns:Ns):Bool:=UC g2&&(sX g2.iter&&(g.ifs.isEmpty&&(g2.ifs.isEmpty&&decide (f0 ns g2.target=some qP))))
noncomputable def Qv (e:Expr)(fr:List (Option Nat))(ns:Ns):Bool:=e.ctorIdx==4&&((pt e).bare&&(d9 ns (pt e).sc&&(!(pt e).sc.isCoroutine&&(!(pt e).sc.isGenerator&&decide (fr=di ns (pt e).sc.names)))))
end
def qd (ns:Ns)(x:Str):Option Nat:=match fh ns x with
 |some i=>if gV ns i==some .local||gV ns i==some .cell then some i else none
 |none=>none
def uW (e:Expr):Bool:=!(e.ctorIdx==25)||((pt e).l.all (foldedForSure 8)||!((pt e).l.all<|constantsAlone 8))
noncomputable def pF (e:Expr):Bool:=!(e.ctorIdx==8)&&(!(e.ctorIdx==9)&&!(e.ctorIdx==10))
mutual
noncomputable def tQ (gx:Gx):T->Bool->Expr->Ns->Bool
 | .l i,_,e,ns=>e.ctorIdx==23&&decide (qd ns (pt e).nm=some i)
 | .U l,wd,e,ns=>e.ctorIdx==25&&Az gx l wd (pt e).l ns
 | .attr a n,wd,e,ns=>e.ctorIdx==20&&(decide ((pt e).nm=n)&&bV gx a wd (iG e 0) ns)
 | .sub a i,wd,e,ns=>e.ctorIdx==21&&(bV gx a wd (iG e 0) ns&&bV gx i wd (iG e 1) ns)
noncomputable def Az (gx:Gx):List T->Bool->List Expr->Ns->Bool
 | [],_,l,_=>l.isEmpty
 |a::r,wd,l,ns=>!l.isEmpty&&(tQ gx a wd (l.headD L7) ns&&Az gx r wd l.tail ns)
end
structure Ps where
 es:List Expr:=[]
 b1:List Stmt:=[]
 b2:List Stmt:=[]
noncomputable def ps:Stmt->Ps
 | .Return v _=>{es:=v.toList}
 | .Assign ts v _=>{es:=v::ts}
 | .For t it a b _=>{es:=[t,it],b1:=a,b2:=b}
 | .While c a b _=>{es:=[c],b1:=a,b2:=b}
 | .If c a b _=>{es:=[c],b1:=a,b2:=b}
 | .Raise x y _=>{es:=if y.isSome then [] else x.toList}
 | .Expr e _=>{es:=[e]}
 |_=>{}
def ex (s:Stmt)(i:Nat):Expr:=((ps s).es[i]?).getD L7
noncomputable def yI:X->Bool
 | .comp _ _ _ _ _=>true
 | .comp2 _ _ _ _ _ _=>true
 |_=>false
mutual
noncomputable def wG (gx:Gx):S->Bool->Stmt->Ns->Bool
 | .ex a,wd,s,ns=>s.ctorIdx==24&&(pF (ex s 0)&&bV gx a wd (ex s 0) ns)
 | .set t a,wd,s,ns=>s.ctorIdx==5&&(decide ((ps s).es.length=2)&&(uW (ex s 0)&&((pF (ex s 0)||(yI a&&t.ctorIdx==0))&&(tQ gx t wd (ex s 1) ns&&bV gx a wd (ex s 0) ns))))
 | .ret a,wd,s,ns=>s.ctorIdx==3&&(decide ((ps s).es.length=1)&&bV gx a wd (ex s 0) ns)
 | .ite c a b,wd,s,ns=>s.ctorIdx==12&&(bV gx c wd (ex s 0) ns&&(rY gx a wd (ps s).b1 ns&&rY gx b wd (ps s).b2 ns))
 | .whl c a,wd,s,ns=>s.ctorIdx==11&&((ps s).b2.isEmpty&&(bV gx c wd (ex s 0) ns&&rY gx a wd (ps s).b1 ns))
 | .for t it a,wd,s,ns=>s.ctorIdx==9&&((ps s).b2.isEmpty&&(sX (ex s 1)&&(tQ gx t wd (ex s 0) ns&&(bV gx it wd (ex s 1) ns&&rY gx a wd (ps s).b1 ns))))
 | .raise C a b,wd,s,ns=>s.ctorIdx==16&&(decide ((ps s).es.length=1/\(pt<|ex s 0).l.length=3)&&(Ay (ex s 0) ns&&(decide (gx.cls (pt<|iG (ex s 0) 0).nm=some C)&&((C==52||C==64||C==76)&&(bV gx a wd (iG (ex s 0) 1) ns&&bV gx b wd (iG (ex s 0) 2) ns)))))
noncomputable def rY (gx:Gx):List S->Bool->List Stmt->Ns->Bool
 | [],_,l,_=>l.isEmpty
 |a::r,wd,l,ns=>match l with
  |s::t=>wG gx a wd s ns&&rY gx r wd t ns
  | []=>false
end
theorem b1 {a b:Bool}(h:(a&&b)=true):a=true:=(ln _ _▸h:_/\_).1
theorem b2 {a b:Bool}(h:(a&&b)=true):b=true:=(ln _ _▸h:_/\_).2
theorem nn {a:Bool}(h:(!a)=true):a=false:=by cases a;rfl;cases h
theorem ix {a b:Nat}(h:(a==b)=true):a=b:=eq_of_beq h
theorem od {p:Prop}[Decidable p](h:decide p=true):p:=l8 h
theorem gF {α:Type}{l:List α}(h:l.isEmpty=true):l=[]:=List.isEmpty_iff.mp h
theorem nX {α:Type}{l:List α}(h:(!l.isEmpty)=true)(d:α):l=l.headD d::l.tail:=by
 cases l with
 |nil=>cases h
 |cons _ _=>rfl
theorem pG {e:Expr}(h:e.ctorIdx=23):∃nm p,e=.Name nm p:=@Expr.Name.elim (λe=>∃nm p,e=.Name nm p) e h λnm p=>⟨nm,p,rfl⟩
theorem Ii {s:Str}{e:Option Expr}(h:keyOk s e=true):∃j p,e=some (.Constant (.str s) j p):=by
 cases e with
 |none=>cases h
 |some e=>exact @Expr.Constant.elim (λe=>keyOk s (some e)=true->∃j p,some e=some (.Constant (.str s) j p)) e (ix<|b1 h) (λk j p h=>by
   have h:((19:Nat)==19&&decide (some k=some (.str s)))=true:=h;have h:some k=some (.str s):=od<|b2 h
   cases h;exact⟨j,p,rfl⟩) h
theorem sY {s:Str}{r:db}{e:Option Expr}{t:List (Option Expr)}(h:keysOk (s::r) (e::t)=true):(∃j p,e=some (.Constant (.str s) j p))/\keysOk r t=true:=
 have h:=h
 ⟨Ii<|b1 h,b2 h⟩
theorem pH {ns:Ns}{e:Expr}{i:Nat}(h:mz ns e=some i):∃nm p,e=.Name nm p/\fh ns nm=some i/\(gV ns i==some .local)=true:=by
 unfold mz at h;by_cases hc:(e.ctorIdx==23)=true
 ·rw[if_pos hc] at h;refine kQ (pG<|ix hc) λnm p eA=>?_;subst eA;cases q:fh ns nm with
  |none=>rw[show(pt<|.Name nm p).nm=nm from rfl,q] at h;cases h
  |some j=>
   rw[show(pt<|.Name nm p).nm=nm from rfl,q] at h;by_cases hk:(gV ns j==some .local)=true
   ·have h:(if (gV ns j==some .local)=true then some j else none)=some i:=h;rw[if_pos hk] at h;cases h;exact fc nm p rfl q hk
   ·have h:(if (gV ns j==some .local)=true then some j else none)=some i:=h;rw[if_neg hk] at h;cases h
 ·rw[if_neg hc] at h;cases h
theorem oP {ns:Ns}{e:Expr}{r:List Expr}{ts:List Nat}(h:lD ns (e::r)=some ts):∃i t,mz ns e=some i/\lD ns r=some t/\ts=i::t:=by
 unfold lD at h;cases q:mz ns e with
 |none=>rw[q] at h;cases h
 |some i=>
  rw[q] at h;refine aJ (Option.map_eq_some_iff.mp h) λt e mT=>?_;subst mT;exact fc i t rfl e rfl
theorem CQ {ns:Ns}{e:Expr}{ts:List Nat}(h:f0 ns e=some ts):(∃i,mz ns e=some i/\ts=[i])∨∃l k p,e=.Tuple l k p/\2<=l.length/\lD ns l=some ts:=by
 unfold f0 at h;by_cases hc:(e.ctorIdx==23)=true
 ·rw[if_pos hc] at h;refine aJ (Option.map_eq_some_iff.mp h) λi e uX=>?_;subst uX;exact .inl<|bF i e rfl
 ·rw[if_neg hc] at h;by_cases h2:(e.ctorIdx==25&&decide (2<=(pt e).l.length))=true
  ·rw[if_pos h2] at h;exact @Expr.Tuple.elim (λe=>lD ns (pt e).l=some ts->2<=(pt e).l.length->(∃i,mz ns e=some i/\ts=[i])∨∃l k p,e=.Tuple l k p/\2<=l.length/\lD ns l=some ts) e (ix<|b1 h2) (λl k p a b=>.inr ⟨l,k,p,rfl,b,a⟩) h<|od<|b2 h2
  ·rw[if_neg h2] at h;cases h
theorem CR {ns:Ns}{x:Str}{i:Nat}(h:qd ns x=some i):fh ns x=some i/\(gV ns i==some .local||gV ns i==some .cell)=true:=by
 unfold qd at h;cases q:fh ns x with
 |none=>rw[q] at h;cases h
 |some j=>
  rw[q] at h;have h:(if (gV ns j==some .local||gV ns j==some .cell)=true then some j else none)=some i:=h;by_cases hk:(gV ns j==some .local||gV ns j==some .cell)=true
  ·rw[if_pos hk] at h;cases h;exact⟨rfl,hk⟩
  ·rw[if_neg hk] at h;cases h
theorem MN {a b:Bool}(h:(a||b)=true):a=true∨b=true:=by
 cases a
 ·exact .inr h
 ·exact .inl rfl
def UF:List (Str × Nat):=[(wv,86),(FM,151),(CF,156),(Ae,161),(HR,172),(Af,179),(Ag,186),(Ah,378),(Ai,385),(CG,392),(wx,404),(yw,411),(FN,425),(Aj,432),(tM,439),(CI,446),(yx,453),(Yk,458),(Yl,465),(Ym,472),(yy,479),(Ak,486),(wz,493),(CJ,498),(Al,503),(yz,510),(Yn,515),(Yo,522),(T8,529)]
def Pg:List (Str × Nat):=[(Am,39),(An,52),(Yp,64),(Ao,76),(HS,139),(T9,203),(MD,236),(FO,367)]
def Ph:iP:=[(Ap,(.U [.str mv,.str iz,.str iA,.str iB,.str fM,.str gf,.str iC,.str iD,.str dM])),(tN,(.int 10000)),(tO,(.U [.str Em,.str HT,.str xd,.str HU,.str O8,.str HV,.str Ua,.str Aq,.str Ar,.str As,.str yA,.str HW,.str xf])),(At,(.int 30)),(Ql,(.U [.str aR,.str dN,.str df])),(wA,(.U [.str mv,.str iz,.str iA,.str iB,.str fM,.str gf,.str iC,.str iD,.str dM,.str ff,.str cY])),(Au,(.U [.U [],.U []])),(wB,(.gl [.str z_,.str dK,.str aQ])),(yB,(.gl [.str mv,.str iz,.str iA,.str iB,.str fM,.str gf,.str iC,.str iD,.str dM,.str ff,.str cY]))]
def UG:List (Str × Bi):=[(Uc,.len),(Qm,.list),(fE,.tuple),(HX,.sorted),(Ud,.str),(qa,.int),(ME,.range),(Ue,.max)]
def umn:db:=[ql,ub,mP,HY,oJ,mQ,gK,uc,oK,jF,lz,qb,uM,nl,qm,iE,nq,mw,jG,qW,pD,nt,rT,uO]
def YA:List (Str × Bm):=[⟨MF,.rfind⟩,⟨yC,.startswith⟩,⟨MG,.split⟩,⟨Qn,.join⟩,⟨HZ,.append⟩,⟨Uf,.pop⟩,⟨Ug,.get⟩]
def gx:Gx:=⟨λx=>UF.lookup x,λx=>Pg.lookup x,λx=>Ph.lookup x,λx=>UG.lookup x,λx=>umn.contains x,λx=>YA.lookup x,Av⟩
def f86:g7:=⟨3,[0,1],[],[.ite (.or [.m .Is (.l 0)<|.c .none,.m .Eq (.l 0)<|.xs qo]) [.ret<|.c .none] [],.ite (.m .Eq (.slcTo (.l 0)<|.xi 2)<|.xs qo) [.raise 52 (.bin .Add (.xs Yq)<|.l 0)<|.l 1] [],.ret<|.l 0]⟩
def Qw:g7:=⟨6,[0,1,2,3,4,5],[],[.set (.attr (.l 0) gZ)<|.l 1,.set (.attr (.l 0) lA)<|.l 2,.set (.attr (.l 0) bw)<|.l 3,.set (.attr (.l 0) ja)<|.l 4,.set (.attr (.l 0) ud)<|.l 5]⟩
def CS:g7:=⟨8,[0,1],[],[.set (.U [.l 2,.l 3])<|.U [.i (.l 1)<|.xi 0,.i (.l 1)<|.xi 1],.ite (.m .Eq (.l 2)<|.xs mw) [.ret<|.bI (.l 0) mw [.l 3,.i (.l 1)<|.xi 2]] [],.ite (.m .Eq (.l 2)<|.xs qX) [.ret<|.U [.xs qX,.call 86 [.i (.l 1)<|.xi 2,.l 3],.i (.l 1)<|.xi 3,.bI (.l 0) jG [.i (.l 1)<|.xi 4]]] [],.ite (.m .Eq (.l 2)<|.xs fE) [.ret<|.U [.xs fE,.bi .tuple [.comp [none,none,some 0] [1] (.i (.l 1)<|.xi 2) []<|.bI (.l 2) jG [.l 1]]]] [],.ite (.m .Eq (.l 2)<|.xs kT) [.ite (.m .Gt (.i (.l 1)<|.xi 3)<|.xi 10000) [.raise 76 (.xs Yr)<|.l 3] [],.ret<|.U [.xs kT,.bI (.l 0) jG [.i (.l 1)<|.xi 2],.i (.l 1)<|.xi 3]] [],.ite (.m .Eq (.l 2)<|.xs En) [.ret<|.U [.xs En]] [],.ret<|.bI (.l 0) rT []]⟩
def CT:g7:=⟨9,[0,1,2],[],[.set (.l 4)<|.bi .tuple [.comp [none,none] [1] (.l 2) []<|.i (.l 1)<|.xi 0],.ite (.m .Eq (.bi .len [.l 2])<|.xi 1) [.set (.l 5)<|.bI (.l 0) qW [.l 1,.i (.l 2)<|.xi 0],.ite (.m .IsNot (.l 5)<|.c .none) [.ret<|.l 5] []] [],.for (.l 3) (.slcTo (.l 2)<|.xi (-1)) [.ite (.or [.m .NotEq (.i (.l 3)<|.xi 1)<|.U [],.m .NotEq (.i (.l 3)<|.xi 2)<|.U []]) [.raise 76 (.xs Uh)<|.l 1] []],.ret<|.bI (.l 0) nq [.l 1,.l 4,.i (.l 2)<|.xi (-1)]]⟩
def AA:g7:=⟨9,[0,1,2],[],[.set (.U [.l 3,.l 4,.l 5])<|.l 2,.ite (.and [.m .In (.l 3)<|.attr (.l 0) bw,.m .NotEq (.l 3)<|.xs uP]) [.ret<|.bI (.l 0) ql [.l 1,.l 2,.U [.xs MH,.l 3]]] [],.ite (.and [.m .Eq (.l 3)<|.xs uP,.m .IsNot (.attr (.l 0) ja)<|.c .none]) [.ret<|.bI (.l 0) ql [.l 1,.l 2,.attr (.l 0) ja]] [],.ite (.m .In (.l 3)<|.c<|.U [.str mv,.str iz,.str iA,.str iB,.str fM,.str gf,.str iC,.str iD,.str dM]) [.ret<|.bI (.l 0) ql [.l 1,.l 2,.U [.xs qa,.l 3]]] [],.ite (.m .Eq (.l 3)<|.xs ff) [.ret<|.bI (.l 0) ql [.l 1,.l 2,.U [.xs ff]]] [],.ite (.m .NotEq (.l 3)<|.xs cY) [.ret<|.c .none] [],.ite (.or [.m .NotEq (.l 4)<|.U [],.m .NotEq (.bi .len [.l 5])<|.xi 1]) [.raise 76 (.xs Ia)<|.l 1] [],.ret<|.U [.xs qc,.bI (.l 0) jG [.i (.l 5)<|.xi 0]]]⟩
def UH:g7:=⟨5,[0,1,2,3],[],[.ite (.or [.m .NotEq (.i (.l 2)<|.xi 1)<|.U [],.m .NotEq (.i (.l 2)<|.xi 2)<|.U []]) [.raise 76 (.bin .Add (.i (.l 2)<|.xi 0)<|.xs Ui)<|.l 1] [],.ret<|.l 3]⟩
def FS:g7:=⟨11,[0,1,2,3],[],[.set (.l 4)<|.bI (.attr (.l 0) gZ) lz [.attr (.l 0) lA,.l 2,.xs aC,.l 1],.ite (.m .NotIn (.i (.attr (.attr (.l 0) gZ) dR)<|.l 4)<|.U [.xs bo,.xs da]) [.raise 76 (.bin .Add (.l 4)<|.xs wC)<|.l 1] [],.set (.U [.l 5,.l 6])<|.i (.attr (.attr (.l 0) gZ) bw)<|.l 4,.ite (.and [.m .NotEq (.i (.l 3)<|.xi 1)<|.U [],.m .NotEq (.bi .len [.i (.l 3)<|.xi 1])<|.bi .len [.l 5]]) [.raise 76 (.bin .Add (.l 4)<|.xs Uj)<|.l 1] [],.ite (.m .NotEq (.bi .len [.i (.l 3)<|.xi 2])<|.bi .len [.l 6]) [.raise 76 (.bin .Add (.l 4)<|.xs Uk)<|.l 1] [],.set (.l 7)<|.ite (.m .NotEq (.i (.l 3)<|.xi 1)<|.U []) (.bi .tuple [.comp [none,none,none,some 1] [1] (.i (.l 3)<|.xi 1) []<|.call 86 [.l 1,.l 3]])<|.bin .Mult (.U [.c .none])<|.bi .len [.l 5],.ret<|.U [.xs lB,.l 4,.l 7,.bi .tuple [.comp [none,none,some 0] [1] (.i (.l 3)<|.xi 2) []<|.bI (.l 2) jG [.l 1]]]]⟩
def UI:g7:=⟨7,[0,1,2,3,4,5],[.none],[.ret<|.bI (.new 139 [.l 0,.l 1,.l 2,.l 3,.l 5]) jG [.l 4]]⟩
def YB:g7:=⟨8,[0,1,2,3],[],[.ite (.m .NotEq (.comp [none,none] [1] (.slcTo (.l 2)<|.xi (-1)) [.or [.m .NotEq (.i (.l 1)<|.xi 1)<|.U [],.m .NotEq (.i (.l 1)<|.xi 2)<|.U []]]<|.l 1)<|.s []) [.raise 76 (.xs Uh)<|.l 3] [],.ite (.m .NotEq (.i (.i (.l 2)<|.xi (-1))<|.xi 1)<|.U []) [.raise 52 (.xs Ul)<|.l 3] [],.set (.l 4)<|.bI (.l 0) lz [.l 1,.bi .tuple [.comp [none,none] [1] (.l 2) []<|.i (.l 1)<|.xi 0],.xs aC,.l 3],.ite (.m .NotEq (.i (.attr (.l 0) dR)<|.l 4)<|.xs iQ) [.raise 52 (.bin .Add (.l 4)<|.xs uQ)<|.l 3] [],.ret<|.l 4]⟩
def Qx:g7:=⟨15,[0,1,2,3],[],[.set (.l 4)<|.s [],.for (.l 5) (.i (.l 2)<|.xi 0) [.ite (.m .Eq (.slcTo (.l 5)<|.xi 2)<|.xs qo) [.raise 52 (.bin .Add (.xs O9)<|.l 5)<|.l 3] []],.for (.U [.l 6,.l 7]) (.i (.l 2)<|.xi 1) [.ite (.or [.m .In (.l 6)<|.comp [none,none] [1] (.l 4) []<|.i (.l 1)<|.xi 0,.m .In (.l 6)<|.c<|.U [.str mv,.str iz,.str iA,.str iB,.str fM,.str gf,.str iC,.str iD,.str dM],.m .In (.l 6)<|.U [.xs uP,.xs ff,.xs cY]]) [.raise 52 (.bin .Add (.bin .Add (.xs oM)<|.l 6)<|.xs Pa)<|.l 3] [],.set (.l 8)<|.s [],.for (.l 9) (.l 7) [.ite (.or [.m .NotEq (.i (.i (.l 9)<|.xi (-1))<|.xi 1)<|.U [],.m .NotEq (.i (.i (.l 9)<|.xi (-1))<|.xi 2)<|.U []]) [.raise 52 (.xs Eo)<|.l 3] [],.set (.l 10)<|.call 156 [.l 0,.l 1,.l 9,.l 3],.ite (.m .NotEq (.i (.i (.attr (.l 0) bw)<|.l 10)<|.xi 1)<|.U []) [.raise 52 (.xs Eo)<|.l 3] [],.ex<|.bm (.l 8) .append [.l 10]],.ex<|.bm (.l 4) .append [.U [.l 6,.bi .tuple [.l 8]]]],.ret<|.l 4]⟩
def YC:g7:=⟨2,[0,1],[],[.ret<|.ite (.m .Eq (.l 0)<|.xs z_) (.l 1)<|.bin .Add (.bin .Add (.l 0)<|.xs sV)<|.l 1]⟩
def YD:g7:=⟨2,[0],[],[.set (.l 1)<|.bm (.l 0) .rfind [.xs sV],.ret<|.ite (.m .Lt (.l 1)<|.xi 0) (.xs z_)<|.slcTo (.l 0)<|.l 1]⟩
def YE:g7:=⟨2,[0,1],[],[.ret<|.or [.m .Eq (.l 1)<|.xs z_,.m .Eq (.l 0)<|.l 1,.bm (.l 0) .startswith [.bin .Add (.l 1)<|.xs sV]]]⟩
def UJ:g7:=⟨4,[0,1,2,3],[],[.set (.attr (.l 0) jj)<|.l 1,.set (.attr (.l 0) ka)<|.l 2,.set (.attr (.l 0) mx)<|.l 3]⟩
def UK:g7:=⟨1,[0],[],[.set (.attr (.l 0) gA)<|.dct [] [],.set (.attr (.l 0) gL)<|.dct [] [],.set (.attr (.l 0) gM)<|.dct [] []]⟩
def Qy:g7:=⟨2,[0,1],[],[.ret<|.ite (.m .Eq (.l 1)<|.xs aC) (.attr (.l 0) gA)<|.attr (.l 0) gL]⟩
def UL:g7:=⟨3,[0,1,2],[],[.ret<|.or [.m .In (.l 1)<|.attr (.l 0) gM,.m .NotEq (.comp [none,none,some 1,some 0] [1] (.l 2) [.m .In (.l 2)<|.bI (.l 3) pD [.l 1]]<|.l 1)<|.s []]]⟩
def Qz:g7:=⟨9,[0,1],[],[.set (.attr (.l 0) dR)<|.dct [z_] [.xs bY],.set (.attr (.l 0) dF)<|.dct [z_] [.c<|.bool true],.set (.attr (.l 0) dO)<|.dct [z_] [.new 236 []],.set (.attr (.l 0) bw)<|.dct [] [],.set (.attr (.l 0) kS)<|.dct [] [],.set (.attr (.l 0) jH)<|.dct [] [],.set (.l 2)<|.s [.U [.xs z_,.bi .list [.l 1]]],.whl (.m .NotEq (.l 2)<|.s []) [.set (.U [.l 3,.l 4])<|.bm (.l 2) .pop [],.for (.l 5) (.l 4) [.ite (.m .Eq (.i (.l 5)<|.xi 0)<|.xs bY) [.ex<|.bm (.l 2) .append [.U [.call 172 [.l 3,.i (.l 5)<|.xi 2],.bi .list [.i (.l 5)<|.xi 3]]]] [],.ex<|.bI (.l 0) uc [.l 3,.l 5]]]]⟩
def FT:g7:=⟨8,[0,1,2],[],[.set (.U [.l 3,.l 4])<|.U [.i (.l 2)<|.xi 0,.i (.l 2)<|.xi 1],.ite (.m .Eq (.l 3)<|.xs sW) [.ex<|.bI (.l 0) oK [.l 1,.l 2]] [.ite (.m .Eq (.l 3)<|.xs bY) [.ex<|.bI (.l 0) mQ [.l 1,.i (.l 2)<|.xi 2,.l 3,.U [.xs aC],.i (.l 2)<|.xi 4,.l 4],.set (.sub (.attr (.l 0) dO)<|.call 172 [.l 1,.i (.l 2)<|.xi 2])<|.new 236 []] [.ite (.m .Eq (.l 3)<|.xs bo) [.set (.l 5)<|.ite (.m .Eq (.i (.l 2)<|.xi 4)<|.xs nq) (.U [.xs aC])<|.U [.xs aC,.xs g6],.ex<|.bI (.l 0) gK [.l 1,.l 2,.l 5,.i (.l 2)<|.xi 6]] [.ite (.m .Eq (.l 3)<|.xs da) [.ex<|.bI (.l 0) gK [.l 1,.l 2,.U [.xs aC],.i (.l 2)<|.xi 5],.ex<|.bI (.l 0) jF [.call 172 [.l 1,.i (.l 2)<|.xi 2],.l 2]] [.ite (.m .Eq (.l 3)<|.xs iQ) [.ex<|.bI (.l 0) gK [.l 1,.l 2,.U [.xs aC],.i (.l 2)<|.xi 5]] [.ite (.m .In (.l 3)<|.U [.xs jh,.xs Ep]) [.ex<|.bI (.l 0) mQ [.l 1,.i (.l 2)<|.xi 2,.l 3,.U [.xs g6],.ite (.m .Eq (.l 3)<|.xs jh) (.i (.l 2)<|.xi 8)<|.i (.l 2)<|.xi 5,.l 4],.set (.sub (.attr (.l 0) kS)<|.call 172 [.l 1,.i (.l 2)<|.xi 2])<|.l 2] []]]]]]]⟩
def MO:g7:=⟨13,[0,1,2,3,4,5,6],[],[.set (.U [.l 7,.l 8])<|.U [.i (.attr (.l 0) dO)<|.l 1,.call 172 [.l 1,.l 2]],.ite (.and [.m .In (.xs aC)<|.l 4,.m .In (.l 2)<|.c<|.U [.str mv,.str iz,.str iA,.str iB,.str fM,.str gf,.str iC,.str iD,.str dM,.str ff,.str cY]]) [.raise 52 (.bin .Add (.bin .Add (.xs l9)<|.l 2)<|.xs Pb)<|.l 6] [],.ite (.or [.bI (.l 7) nl [.l 2,.l 4],.m .In (.l 8)<|.attr (.l 0) dR]) [.raise 52 (.bin .Add (.bin .Add (.xs l9)<|.l 2)<|.xs jI)<|.l 6] [],.for (.l 9) (.l 4) [.set (.sub (.bI (.l 7) pD [.l 9])<|.l 2)<|.l 8],.set (.sub (.attr (.l 0) dR)<|.l 8)<|.l 3,.set (.sub (.attr (.l 0) dF)<|.l 8)<|.l 5]⟩
def QA:g7:=⟨10,[0,1,2,3,4],[],[.ex<|.bI (.l 0) mQ [.l 1,.i (.l 2)<|.xi 2,.i (.l 2)<|.xi 0,.l 3,.l 4,.i (.l 2)<|.xi 1],.set (.l 5)<|.call 172 [.l 1,.i (.l 2)<|.xi 2],.set (.U [.l 6,.l 7])<|.i (.l 2)<|.xi 3,.set (.sub (.attr (.l 0) bw)<|.l 5)<|.U [.bi .tuple [.l 6],.bi .tuple [.comp [none,none] [1] (.l 7) []<|.i (.l 1)<|.xi 0]],.set (.sub (.attr (.l 0) kS)<|.l 5)<|.l 2]⟩
def UM:g7:=⟨6,[0,1,2],[],[.for (.l 3) (.i (.l 2)<|.xi 4) [.ite (.m .In (.call 172 [.l 1,.i (.l 3)<|.xi 0])<|.attr (.l 0) dR) [.raise 52 (.bin .Add (.bin .Add (.xs uR)<|.i (.l 3)<|.xi 0)<|.xs jI)<|.i (.l 2)<|.xi 1] [],.set (.sub (.attr (.l 0) dR)<|.call 172 [.l 1,.i (.l 3)<|.xi 0])<|.xs cz]]⟩
def UN:g7:=⟨14,[0,1,2],[],[.set (.U [.l 3,.l 4,.l 5,.l 6])<|.U [.i (.l 2)<|.xi 1,.i (.l 2)<|.xi 2,.i (.l 2)<|.xi 3,.i (.l 2)<|.xi 4],.set (.l 7)<|.ite (.m .Is (.l 5)<|.c .none) (.i (.l 4)<|.xi (-1))<|.l 5,.set (.l 8)<|.i (.attr (.l 0) dO)<|.l 1,.ite (.m .In (.l 7)<|.c<|.U [.str mv,.str iz,.str iA,.str iB,.str fM,.str gf,.str iC,.str iD,.str dM,.str ff,.str cY]) [.raise 52 (.bin .Add (.bin .Add (.xs l9)<|.l 7)<|.xs Pb)<|.l 3] [],.ite (.or [.m .In (.l 7)<|.c<|.U [.str aR,.str dN,.str df],.bI (.l 8) nl [.l 7,.U [.xs aC,.xs g6]]]) [.raise 52 (.bin .Add (.bin .Add (.xs l9)<|.l 7)<|.xs jI)<|.l 3] [],.set (.sub (.attr (.l 8) gM)<|.l 7)<|.new 203 [.bi .tuple [.l 4],.l 6,.l 3]]⟩
noncomputable def UO:g7:=⟨5,[0,1,2,3],[],[.ret<|.or [.l 3,.call 186 [.l 1,.l 2]]]⟩
def FU:g7:=⟨6,[0,1,2,3,4],[.int 0],[.set (.attr (.l 0) jH)<|.dct [] [],.ret<|.bI (.l 0) uO [.l 1,.bi .tuple [.l 2],.l 3,.l 4,.s []]]⟩
def QC:g7:=⟨12,[0,1,2,3,4,5],[],[.set (.U [.l 6,.l 7])<|.bI (.l 0) ub [.l 1,.l 2,.l 4],.whl (.m .Lt (.l 7)<|.bi .len [.l 2]) [.set (.l 8)<|.ite (.m .Eq (.bin .Add (.l 7)<|.xi 1)<|.bi .len [.l 2]) (.l 3)<|.xs aC,.set (.l 9)<|.bI (.l 0) nt [.l 1,.l 6,.i (.l 2)<|.l 7,.l 8,.l 4,.l 5],.ite (.m .Is (.l 9)<|.c .none) [.raise 52 (.bin .Add (.xs Ib)<|.bm (.xs sV) .join [.l 2])<|.l 4] [],.set (.U [.l 6,.l 7])<|.U [.l 9,.bin .Add (.l 7)<|.xi 1]],.ite (.or [.m .Is (.l 6)<|.c .none,.and [.m .Eq (.l 3)<|.xs g6,.m .Eq (.i (.attr (.l 0) dR)<|.l 6)<|.xs bY]]) [.raise 52 (.bin .Add (.xs Ib)<|.bm (.xs sV) .join [.l 2])<|.l 4] [],.ret<|.l 6]⟩
def UP:g7:=⟨10,[0,1,2,3],[],[.ite (.m .Eq (.l 2)<|.U []) [.raise 52 (.xs Um)<|.l 3] [],.ite (.m .Eq (.i (.l 2)<|.xi 0)<|.xs aR) [.ret<|.U [.xs z_,.xi 1]] [],.ite (.m .NotIn (.i (.l 2)<|.xi 0)<|.c<|.U [.str aR,.str dN,.str df]) [.ret<|.U [.c .none,.xi 0]] [],.set (.U [.l 4,.l 5])<|.U [.l 1,.ite (.m .Eq (.i (.l 2)<|.xi 0)<|.xs dN) (.xi 1)<|.xi 0],.whl (.and [.m .Lt (.l 5)<|.bi .len [.l 2],.m .Eq (.i (.l 2)<|.l 5)<|.xs df]) [.ite (.m .Eq (.l 4)<|.xs z_) [.raise 52 (.xs Un)<|.l 3] [],.set (.U [.l 4,.l 5])<|.U [.call 179 [.l 4],.bin .Add (.l 5)<|.xi 1]],.ret<|.U [.l 4,.l 5]]⟩
def UQ:g7:=⟨9,[0,1,2,3,4,5,6],[],[.ite (.m .IsNot (.l 2)<|.c .none) [.ret<|.bI (.l 0) qm [.l 1,.l 2,.l 3,.l 4,.l 5,.l 6]] [],.set (.l 7)<|.bI (.l 0) qm [.l 1,.l 1,.l 3,.l 4,.l 5,.l 6],.ite (.and [.m .Is (.l 7)<|.c .none,.m .In (.l 3)<|.c<|.U [.str Em,.str HT,.str xd,.str HU,.str O8,.str HV,.str Ua,.str Aq,.str Ar,.str As,.str yA,.str HW,.str xf]]) [.set (.l 7)<|.bI (.l 0) qm [.l 1,.xs z_,.l 3,.l 4,.l 5,.l 6]] [],.ret<|.l 7]⟩
def MP:g7:=⟨12,[0,1,2,3,4,5,6],[],[.ite (.m .Eq (.i (.attr (.l 0) dR)<|.l 2)<|.xs da) [.set (.l 7)<|.call 172 [.l 2,.l 3],.ret<|.ite (.m .Eq (.bm (.attr (.l 0) dR) .get [.l 7])<|.xs cz) (.l 7)<|.c .none] [],.ite (.m .NotEq (.i (.attr (.l 0) dR)<|.l 2)<|.xs bY) [.ret<|.c .none] [],.set (.l 8)<|.i (.attr (.l 0) dO)<|.l 2,.set (.l 7)<|.bm (.bI (.l 8) pD [.l 4]) .get [.l 3],.ite (.m .IsNot (.l 7)<|.c .none) [.ite (.not<|.bI (.l 0) mP [.l 1,.l 2,.i (.attr (.l 0) dF)<|.l 7]) [.raise 64 (.bin .Add (.l 7)<|.xs Er)<|.l 5] [],.ret<|.l 7] [],.set (.l 9)<|.bm (.attr (.l 8) gM) .get [.l 3],.ite (.m .Is (.l 9)<|.c .none) [.ret<|.c .none] [],.ite (.not<|.bI (.l 0) mP [.l 1,.l 2,.attr (.l 9) ka]) [.raise 64 (.bin .Add (.bin .Add (.xs wD)<|.l 3)<|.xs Er)<|.l 5] [],.ret<|.bI (.l 0) uM [.l 2,.l 3,.l 9,.l 4,.l 6]]⟩
def YF:g7:=⟨10,[0,1,2,3,4,5],[],[.ite (.m .In (.U [.l 1,.l 2,.l 4])<|.attr (.l 0) jH) [.ret<|.i (.attr (.l 0) jH)<|.U [.l 1,.l 2,.l 4]] [],.ite (.or [.m .In (.U [.l 1,.l 2])<|.l 5,.m .GtE (.bi .len [.l 5])<|.xi 30]) [.raise 52 (.bin .Add (.xs Uo)<|.l 2)<|.attr (.l 3) mx] [],.set (.l 6)<|.bI (.l 0) uO [.l 1,.attr (.l 3) jj,.l 4,.attr (.l 3) mx,.bin .Add (.l 5)<|.s [.U [.l 1,.l 2]]],.set (.sub (.attr (.l 0) jH)<|.U [.l 1,.l 2,.l 4])<|.l 6,.ret<|.l 6]⟩
def QD:g7:=⟨7,[0],[],[.for (.l 1) (.bi .sorted [.attr (.l 0) dO]) [.set (.l 2)<|.i (.attr (.l 0) dO)<|.l 1,.for (.l 3) (.bi .sorted [.attr (.l 2) gM]) [.set (.l 4)<|.i (.attr (.l 2) gM)<|.l 3,.ite (.and [.attr (.l 4) ka,.not<|.bI (.l 0) iE [.l 1,.l 4]]) [.raise 64 (.bin .Add (.bin .Add (.xs yD)<|.l 3)<|.xs Ic)<|.attr (.l 4) mx] []]]]⟩
def qv:g7:=⟨9,[0,1,2],[],[.set (.l 3)<|.i (.attr (.l 2) jj)<|.xi (-1),.ite (.m .In (.l 3)<|.c<|.U [.str aR,.str dN,.str df]) [.ret<|.i (.attr (.l 0) dF)<|.bI (.l 0) lz [.l 1,.attr (.l 2) jj,.xs aC,.attr (.l 2) mx]] [],.set (.l 4)<|.ite (.m .Eq (.bi .len [.attr (.l 2) jj])<|.xi 1) (.l 1)<|.bI (.l 0) lz [.l 1,.slcTo (.attr (.l 2) jj)<|.xi (-1),.xs aC,.attr (.l 2) mx],.ite (.m .Eq (.i (.attr (.l 0) dR)<|.l 4)<|.xs da) [.ret<|.i (.attr (.l 0) dF)<|.l 4] [],.set (.l 5)<|.i (.attr (.l 0) dO)<|.l 4,.set (.l 6)<|.comp [none,none,some 3,some 0] [1] (.U [.attr (.l 5) gA,.attr (.l 5) gL]) [.m .In (.l 2)<|.l 1]<|.i (.attr (.l 3) dF)<|.i (.l 1)<|.l 2,.ite (.m .In (.l 3)<|.attr (.l 5) gM) [.ex<|.bm (.l 6) .append [.attr (.i (.attr (.l 5) gM)<|.l 3) ka]] [],.ret<|.or [.m .Eq (.l 6)<|.s [],.m .In (.c<|.bool true)<|.l 6]]⟩
noncomputable def QE:g7:=⟨8,[0,1],[],[.set (.l 2)<|.ite (.m .Lt (.l 1)<|.bi .len [.l 0]) (.i (.l 0)<|.l 1)<|.xi 0,.set (.l 3)<|.bi .max [.l 2,.bin .Sub (.xi (-1))<|.l 2],.set (.l 4)<|.bin .Mod (.bin .Mult (.bin .Add (.bin .Add (.bin .Add (.bin .Mod (.l 3)<|.xi 2147483629)<|.bin .Mult (.bin .Mult (.xi 7919)<|.l 1)<|.l 1)<|.bin .Mult (.xi 31)<|.l 1)<|.xi 17)<|.xi 48271)<|.xi 2147483647,.ret<|.s [.bin .Mult (.l 3)<|.bi .int [.m .GtE (.l 3)<|.bin .Pow (.xi 10)<|.xi 18],.l 4]]⟩
noncomputable def YG:g7:=⟨3,[0,1],[],[.ite (.m .Gt (.i (.l 0)<|.xi 0)<|.xi 0) [.set (.l 2)<|.bin .Mod (.i (.l 0)<|.xi 0)<|.l 1,.set (.sub (.l 0)<|.xi 0)<|.bin .FloorDiv (.i (.l 0)<|.xi 0)<|.l 1,.ret<|.l 2] [],.set (.sub (.l 0)<|.xi 1)<|.bin .Mod (.bin .Add (.bin .Mult (.i (.l 0)<|.xi 1)<|.xi 39373)<|.xi 7)<|.xi 2147483647,.ret<|.bin .Mod (.bin .FloorDiv (.bin .Mod (.bin .Mult (.i (.l 0)<|.xi 1)<|.i (.l 0)<|.xi 1)<|.xi 2147483629)<|.xi 32)<|.l 1]⟩
noncomputable def YH:g7:=⟨4,[0,1],[],[.ret<|.i (.l 1)<|.call 385 [.l 0,.bi .len [.l 1]]]⟩
def YI:g7:=⟨2,[0,1],[],[.ret<|.ite (.m .Eq (.l 0)<|.xs z_) (.l 1)<|.bin .Add (.bin .Add (.l 0)<|.xs sV)<|.l 1]⟩
def QF:g7:=⟨2,[0],[],[.ret<|.ite (.m .NotEq (.l 0)<|.xs z_) (.bi .tuple [.bm (.l 0) .split [.xs sV]])<|.U []]⟩
def YJ:g7:=⟨3,[0,1],[],[.ret<|.U [.xs jh,.xi 0,.l 0,.c<|.U [.U [],.U []],.c .none,.U [],.c .none,.c .none,.l 1]]⟩
def YK:g7:=⟨2,[0,1],[],[.ret<|.or [.m .Eq (.l 1)<|.xs z_,.m .Eq (.l 0)<|.l 1,.and [.m .Eq (.l 1)<|.xs dK,.m .Eq (.l 0)<|.xs aQ]]]⟩
def MQ:g7:=⟨4,[0,1,2],[],[.ret<|.or [.m .NotEq (.l 2)<|.xs aQ,.i (.l 0)<|.xs aQ,.call 432 [.l 1,.xs dK]]]⟩
def oQ:g7:=⟨17,[0,1,2],[],[.set (.U [.l 3,.l 4,.l 5])<|.U [.call 392 [.l 0,.c<|.gl [.str z_,.str dK,.str aQ]],.call 385 [.l 0,.xi 8],.call 392 [.l 0,.c<|.gl [.str z_,.str dK,.str aQ]]],.set (.U [.l 6,.l 7])<|.U [.bin .Add (.U [.xs aR])<|.call 411 [.l 5],.call 392 [.l 0,.s [.xs dX,.xs cB,.xs eN]]],.set (.l 8)<|.call 439 [.l 1,.l 3,.l 5],.ite (.m .Lt (.l 4)<|.xi 2) [.ret<|.s [.l 3,.bin .Add (.l 6)<|.U [.l 7],.and [.l 8,.i (.l 1)<|.call 404 [.l 5,.l 7]]]] [],.ite (.m .Eq (.l 4)<|.xi 2) [.ret<|.s [.l 3,.bin .Add (.l 6)<|.U [.xs eN,.xs Qo],.and [.l 8,.i (.l 1)<|.call 404 [.l 5,.xs eN]]]] [],.ite (.m .Eq (.l 4)<|.xi 3) [.ret<|.s [.l 3,.U [.l 7],.i (.l 1)<|.call 404 [.l 3,.l 7]]] [],.ite (.m .Eq (.l 4)<|.xi 4) [.ret<|.s [.l 3,.U [.xs yA],.c<|.bool true]] [],.ite (.and [.m .Eq (.l 4)<|.xi 5,.m .NotEq (.l 2)<|.s []]) [.set (.l 9)<|.call 392 [.l 0,.l 2],.set (.l 10)<|.and [.call 439 [.l 1,.l 3,.i (.l 9)<|.xi 0],.i (.l 9)<|.xi 3],.ret<|.s [.l 3,.bin .Add (.bin .Add (.U [.xs aR])<|.call 411 [.i (.l 9)<|.xi 0])<|.U [.i (.l 9)<|.xi 2],.l 10]] [],.ite (.and [.m .Eq (.l 4)<|.xi 6,.m .NotEq (.l 3)<|.xs z_]) [.ret<|.s [.l 3,.U [.xs df],.or [.m .Eq (.l 3)<|.xs dK,.i (.l 1)<|.xs dK]]] [],.ite (.m .Eq (.l 5)<|.xs z_) [.ret<|.ite (.m .Eq (.l 3)<|.xs z_) (.s [.l 3,.call 392 [.l 0,.s [.U [.xs aR],.U [.xs dN]]],.c<|.bool true])<|.s [.l 3,.U [.xs aR],.c<|.bool true]] [],.ret<|.s [.l 3,.l 6,.and [.or [.m .Eq (.l 5)<|.xs dK,.i (.l 1)<|.xs aQ],.i (.l 1)<|.l 5]]]⟩
def FV:g7:=⟨16,[0,1,2],[],[.set (.l 3)<|.s [.call 425 [.xs dX,.i (.l 1)<|.call 404 [.l 0,.xs dX]]],.ex<|.bm (.l 3) .append [.U [.xs bo,.xi 0,.xs cB,.c<|.U [.U [],.U []],.xs nu,.U [],.i (.l 1)<|.call 404 [.l 0,.xs cB]]],.ex<|.bm (.l 3) .append [.U [.xs da,.xi 0,.xs eN,.c<|.U [.U [],.U []],.U [.U [.xs Qo,.xs nu,.U []]],.i (.l 1)<|.call 404 [.l 0,.xs eN]]],.set (.l 4)<|.bm (.dct [z_,dK] [.xs dK,.xs Cq]) .get [.l 0],.ite (.m .IsNot (.l 4)<|.c .none) [.set (.l 5)<|.call 404 [.l 0,.l 4],.ex<|.bm (.l 3) .append [.U [.xs bY,.xi 0,.l 4,.bi .tuple [.call 453 [.l 5,.l 1,.l 2]],.i (.l 1)<|.l 5]]] [],.for (.U [.l 6,.l 7,.l 8,.l 9,.l 10]) (.l 2) [.ite (.m .Eq (.l 6)<|.l 0) [.ex<|.bm (.l 3) .append [.U [.xs sW,.xi 0,.l 7,.l 8,.l 9]]] []],.ret<|.l 3]⟩
def Ij:g7:=⟨15,[0],[],[.set (.U [.l 8,.l 7])<|.U [.dct [] [],.s []],.for (.l 1) (.bin .Add (.s [.xs dK,.xs aQ])<|.comp2 [none,none,none,none] [1] (.c<|.gl [.str z_,.str dK,.str aQ]) [2] (.s [.xs dX,.xs cB,.xs eN])<|.call 404 [.l 1,.l 2]) [.set (.sub (.l 8)<|.l 1)<|.m .Gt (.call 385 [.l 0,.xi 3])<|.xi 0],.for (.l 2) (.bi .range [.bin .Add (.xi 1)<|.call 385 [.l 0,.xi 6]]) [.set (.U [.l 3,.l 4,.l 5])<|.call 446 [.l 0,.l 8,.l 7],.ex<|.bm (.l 7) .append [.U [.l 3,.l 4,.bin .Add (.xs Xn)<|.bi .str [.l 2],.m .Gt (.call 385 [.l 0,.xi 3])<|.xi 0,.l 5]]],.set (.l 6)<|.ite (.m .NotEq (.comp [none,none] [1] (.l 7) [.and [.i (.l 1)<|.xi 3,.not<|.i (.l 1)<|.xi 4]]<|.l 1)<|.s []) (.xs lC)<|.c .none,.ret<|.m .Eq (.word [some 7,some 8,none,none]<|.bI (.new 367 [.call 453 [.xs z_,.l 1,.l 0]]) HY [])<|.l 6]⟩
def QG:g7:=⟨12,[0],[],[.set (.U [.l 1,.l 2])<|.U [.call 392 [.l 0,.bin .Add (.c<|.gl [.str mv,.str iz,.str iA,.str iB,.str fM,.str gf,.str iC,.str iD,.str dM,.str ff,.str cY])<|.s [.xs yE,.xs CK]],.call 385 [.l 0,.xi 7]],.set (.l 5)<|.i (.s [.U [.xs bo,.xi 0,.l 1,.c<|.U [.U [],.U []],.xs nq,.U [],.c<|.bool true],.U [.xs da,.xi 0,.l 1,.c<|.U [.U [],.U []],.U [.U [.xs Qo,.xs nu,.U []]],.c<|.bool true],.U [.xs iQ,.xi 0,.l 1,.c<|.U [.U [],.U []],.U [],.c<|.bool true],.U [.xs bY,.xi 0,.l 1,.U [],.c<|.bool true],.U [.xs sW,.xi 0,.U [.xs aR,.xs Xo],.l 1,.c<|.bool true],.call 425 [.l 1,.c<|.bool true],.U [.xs Ep,.xi 0,.l 1,.U [.xs fE,.xi 0,.U []],.U [.xs fE,.xi 0,.U []],.c<|.bool true]])<|.l 2,.set (.l 3)<|.ite (.and [.m .Lt (.l 2)<|.xi 5,.m .In (.l 1)<|.c<|.gl [.str mv,.str iz,.str iA,.str iB,.str fM,.str gf,.str iC,.str iD,.str dM,.str ff,.str cY]]) (.xs aI)<|.c .none,.set (.l 4)<|.word [some 5,none,none]<|.new 367 [.s [.call 425 [.xs Xo,.c<|.bool true],.l 0]],.ret<|.ite (.m .Eq (.l 3)<|.xs aI) (.m .Eq (.l 4)<|.xs aI)<|.m .NotEq (.l 4)<|.xs aI]⟩
def YL:g7:=⟨12,[0],[],[.set (.l 1)<|.s [.call 425 [.xs dX,.c<|.bool true],.U [.xs sW,.xi 0,.U [.xs aR],.xs Ys,.c<|.bool true]],.for (.l 2) (.bi .range [.xi 1,.l 0]) [.ex<|.bm (.l 1) .append [.U [.xs sW,.xi 0,.bin .Mult (.U [.bin .Add (.xs dK)<|.bi .str [.bin .Sub (.l 2)<|.xi 1]])<|.xi 2,.bin .Add (.xs dK)<|.bi .str [.l 2],.c<|.bool true]]],.set (.U [.l 6,.l 5])<|.U [.new 367 [.l 1],.bin .Add (.xs dK)<|.bi .str [.bin .Sub (.l 0)<|.xi 1]],.set (.l 3)<|.word [some 5,some 6]<|.bI (.l 1) lz [.xs z_,.U [.l 0],.xs aC],.set (.l 4)<|.s [.l 3,.word [some 5,some 6]<|.bI (.l 1) lz [.xs z_,.U [.l 0,.xs dX],.xs g6]],.ret<|.m .Eq (.l 4)<|.ite (.m .LtE (.l 0)<|.xi 30) (.s [.xs z_,.xs dX])<|.s [.xs aI,.xs aI]]⟩
def YM:g7:=⟨3,[],[],[.set (.l 0)<|.s [.U [.xs bo,.xi 0,.xs cB,.c<|.U [.U [],.U []],.xs nu,.U [],.c<|.bool true]],.ex<|.bm (.l 0) .append [.U [.xs bo,.xi 0,.xs mR,.U [.U [.xs fT],.U [.U [.xs my,.U []]]],.xs nu,.U [],.c<|.bool true]],.set (.l 0)<|.bin .Add (.l 0)<|.s [.U [.xs iQ,.xi 0,.xs cF,.c<|.U [.U [],.U []],.U [],.c<|.bool true],.U [.xs iQ,.xi 0,.xs jk,.U [.U [],.U [.U [.xs Id,.U []]]],.U [],.c<|.bool true]],.ret<|.new 367 [.bin .Add (.l 0)<|.s [.U [.xs bY,.xi 0,.xs uS,.U [.U [.xs iQ,.xi 0,.xs cF,.c<|.U [.U [],.U []],.U [],.c<|.bool true]],.c<|.bool true]]]]⟩
def YN:g7:=⟨3,[0,1,2],[],[.ret<|.U [.xs mw,.xi 0,.U [.U [.l 0,.l 1,.l 2]]]]⟩
def UR:g7:=⟨3,[0],[],[.set (.l 1)<|.call 392 [.l 0,.s [.c .none,.xs fT,.xs pE,.xs qo,.xs rU,.xs qo,.xs fT,.xs kc,.xs ke]],.ret<|.s [.l 1,.ite (.m .In (.l 1)<|.s [.xs kc,.xs ke]) (.xs aI)<|.ite (.m .Eq (.l 1)<|.xs qo) (.c .none)<|.l 1]]⟩
def Ik:g7:=⟨3,[0],[],[.set (.l 1)<|.comp [none,none,none] [1,2] (.l 0) [.m .In (.l 2)<|.s [.xs aI,.xs aC]]<|.l 2,.ret<|.ite (.m .NotEq (.l 1)<|.s []) (.i (.l 1)<|.xi 0)<|.bi .tuple [.comp [none,none,none] [1,2] (.l 0) []<|.l 2]]⟩
def FW:g7:=⟨23,[0,1],[],[.set (.l 2)<|.ite (.m .Gt (.l 1)<|.xi 0) (.call 385 [.l 0,.xi 7])<|.call 385 [.l 0,.xi 2],.ite (.m .Eq (.l 2)<|.xi 0) [.ret<|.s [.call 486 [.xs fM,.U [],.U []],.U [.xs qa,.xs fM]]] [],.ite (.m .Eq (.l 2)<|.xi 1) [.ret<|.s [.call 486 [.xs cB,.U [],.U []],.U [.xs lB,.xs cB,.U [],.U []]]] [],.set (.l 3)<|.call 503 [.l 0,.bin .Sub (.l 1)<|.xi 1],.ite (.m .Eq (.l 2)<|.xi 2) [.set (.U [.l 4,.l 5])<|.U [.call 493 [.l 0],.m .Eq (.call 385 [.l 0,.xi 2])<|.xi 0],.set (.l 6)<|.ite (.m .In (.i (.l 3)<|.xi 1)<|.s [.xs aI,.xs aC]) (.i (.l 3)<|.xi 1)<|.U [.xs qX,.i (.l 4)<|.xi 1,.l 5,.i (.l 3)<|.xi 1],.ret<|.s [.U [.xs qX,.xi 0,.i (.l 4)<|.xi 0,.l 5,.i (.l 3)<|.xi 0],.ite (.m .Eq (.i (.l 4)<|.xi 1)<|.xs aI) (.xs aI)<|.l 6]] [],.ite (.m .Eq (.l 2)<|.xi 3) [.set (.l 7)<|.call 392 [.l 0,.s [.xi 0,.xi 3,.xi 9999,.xi 10000,.xi 10001,.bin .Pow (.xi 2)<|.xi 64]],.set (.l 6)<|.ite (.m .In (.i (.l 3)<|.xi 1)<|.s [.xs aI,.xs aC]) (.i (.l 3)<|.xi 1)<|.U [.xs kT,.i (.l 3)<|.xi 1,.l 7],.ret<|.s [.U [.xs kT,.xi 0,.i (.l 3)<|.xi 0,.l 7],.ite (.m .Gt (.l 7)<|.xi 10000) (.xs aC)<|.l 6]] [],.set (.l 8)<|.bin .Add (.s [.l 3])<|.comp [none,none,none,some 0] [1] (.bi .range [.call 392 [.l 0,.s [.xi 0,.xi 0,.xi 0,.xi 1]]]) []<|.call 503 [.l 3,.xi 0],.set (.l 8)<|.slcFrom (.l 8)<|.call 392 [.l 0,.s [.xi 0,.xi 0,.xi 0,.xi 1]],.set (.l 9)<|.call 498 [.l 8],.ite (.m .Eq (.l 2)<|.xi 4) [.set (.l 6)<|.ite (.m .In (.l 9)<|.s [.xs aI,.xs aC]) (.l 9)<|.U [.xs fE,.l 9],.ret<|.s [.U [.xs fE,.xi 0,.bi .tuple [.comp [none,none] [1] (.l 8) []<|.i (.l 1)<|.xi 0]],.l 6]] [],.set (.l 10)<|.comp [none,none,none,some 0] [1] (.bi .range [.call 392 [.l 0,.s [.xi 0,.xi 1,.xi 1,.xi 2]]]) []<|.call 493 [.l 3],.set (.l 10)<|.comp [none,none] [1] (.l 10) [.m .IsNot (.i (.l 1)<|.xi 0)<|.c .none]<|.l 1,.set (.U [.l 11,.l 12])<|.U [.bi .tuple [.comp [none,none] [1] (.l 10) []<|.i (.l 1)<|.xi 0],.bi .tuple [.comp [none,none] [1] (.l 8) []<|.i (.l 1)<|.xi 0]],.ite (.m .Eq (.l 2)<|.xi 5) [.ite (.or [.m .NotEq (.l 11)<|.U [],.m .NotEq (.bi .len [.l 8])<|.xi 1]) [.ret<|.s [.call 486 [.xs cY,.l 11,.l 12],.xs aC]] [],.ret<|.s [.call 486 [.xs cY,.U [],.l 12],.ite (.m .In (.l 9)<|.s [.xs aI,.xs aC]) (.l 9)<|.U [.xs qc,.i (.l 9)<|.xi 0]]] [],.ite (.or [.m .Gt (.bi .len [.l 11])<|.xi 1,.m .NotEq (.bi .len [.l 8])<|.xi 1]) [.ret<|.s [.call 486 [.xs mR,.l 11,.l 12],.xs aC]] [],.set (.l 13)<|.ite (.m .NotEq (.l 11)<|.U []) (.comp [none,none] [1] (.l 10) []<|.i (.l 1)<|.xi 1)<|.s [.c .none],.ite (.m .Eq (.l 13)<|.s [.xs aI]) [.ret<|.s [.call 486 [.xs mR,.l 11,.l 12],.xs aI]] [],.ret<|.s [.call 486 [.xs mR,.l 11,.l 12],.ite (.m .In (.l 9)<|.s [.xs aI,.xs aC]) (.l 9)<|.U [.xs lB,.xs mR,.U [.i (.l 13)<|.xi 0],.l 9]]]⟩
def QH:g7:=⟨4,[0],[],[.set (.l 1)<|.call 486 [.xs fM,.U [],.U []],.ret<|.call 392 [.l 0,.s [.s [.U [.U [.xs cF,.U [],.U []]],.xs cF],.s [.U [.U [.xs uS,.U [],.U []],.U [.xs cF,.U [],.U []]],.xs gh],.s [.U [.U [.xs aR,.U [],.U []],.U [.xs cF,.U [],.U []]],.xs cF],.s [.U [.U [.xs cF,.U [],.U []]],.xs cF],.s [.U [.U [.xs jk,.U [],.U []]],.xs aI],.s [.U [.U [.xs jk,.U [],.U [.l 1]]],.xs aI],.s [.U [.U [.xs cF,.U [.xs fT],.U []]],.xs aI],.s [.U [.U [.xs uS,.U [],.U [.l 1]],.U [.xs cF,.U [],.U []]],.xs aC],.s [.U [.U [.xs uS,.U [.xs fT],.U []],.U [.xs cF,.U [],.U []]],.xs aC],.s [.U [.U [.xs uS,.U [],.U [.l 1]],.U [.xs cF,.U [],.U [.l 1]]],.xs aI],.s [.U [.U [.xs cB,.U [],.U []]],.xs aI],.s [.U [.U [.xs tP,.U [],.U []]],.xs aI],.s [.U [.U [.xs cF,.U [],.U []]],.xs cF]]]]⟩
def MR:g7:=⟨20,[0,1],[],[.set (.l 11)<|.call 392 [.l 0,.s [.U [],.U [.xs fT],.U [.xs fT,.xs rU],.U [.xs qo],.U [.xs fT,.xs kc],.U [.xs ke]]],.set (.l 2)<|.call 392 [.l 0,.s [.U [.xs my],.U [.xs my,.xs Id],.U [.xs my,.xs Id],.U [.xs my,.xs my],.U [.xs my,.xs gf],.U [.xs cY]]],.set (.U [.l 12,.l 3,.l 4])<|.U [.s [],.s [],.s []],.for (.l 5) (.l 2) [.set (.l 6)<|.comp [none,none,none,some 0] [1] (.bi .range [.call 385 [.l 0,.xi 3]]) []<|.call 510 [.l 3],.ex<|.bm (.l 12) .append [.U [.l 5,.bi .tuple [.comp [none,none] [1] (.l 6) []<|.i (.l 1)<|.xi 0]]],.set (.l 7)<|.call 498 [.l 6],.ex<|.bm (.l 3) .append [.U [.l 5,.l 7]],.set (.l 8)<|.or [.m .In (.l 5)<|.comp [none,none] [1] (.slcTo (.l 3)<|.xi (-1)) []<|.i (.l 1)<|.xi 0,.m .In (.l 5)<|.c<|.gl [.str mv,.str iz,.str iA,.str iB,.str fM,.str gf,.str iC,.str iD,.str dM,.str ff,.str cY]],.ex<|.bm (.l 4) .append [.ite (.l 8) (.xs aI)<|.ite (.m .In (.l 7)<|.s [.xs aI,.xs aC]) (.l 7)<|.xs z_]],.set (.l 9)<|.comp [none,none] [1] (.bin .Add (.s [.ite (.m .NotIn (.l 11)<|.s [.U [],.U [.xs fT],.U [.xs fT,.xs rU]]) (.xs aI)<|.xs z_])<|.l 4) [.m .NotEq (.l 1)<|.xs z_]<|.l 1,.set (.l 10)<|.word [some 1,some 11,some 12,none,none]<|.call 161 [.l 0,.xs z_,.U [.l 1,.bi .tuple [.l 2]],.xi 0],.ret<|.m .Eq (.l 10)<|.ite (.m .NotEq (.l 9)<|.s []) (.i (.l 9)<|.xi 0)<|.l 3]⟩
def YO:g7:=⟨7,[0],[],[.set (.l 1)<|.new 367 [.s [.U [.xs bY,.xi 0,.xs dK,.U [.call 425 [.xs dX,.c<|.bool false],.U [.xs sW,.xi 0,.U [.xs dN,.xs dX],.xs Xo,.c<|.bool true]],.c<|.bool true]]],.ite (.or [.m .NotEq (.word [some 1]<|.bI (.l 0) HY [])<|.xs lC,.m .NotEq (.bI (.l 1) lz [.xs z_,.U [.xs dK,.xs Xo],.xs g6])<|.xs MI]) [.ret<|.c<|.bool false] [],.ite (.m .NotEq (.word [some 0,none]<|.call 156 [.l 0,.xs z_,.U [.U [.xs cF,.U [.xs fT],.U []]],.xi 0])<|.xs aI) [.ret<|.c<|.bool false] [],.ret<|.m .Eq (.call 156 [.l 0,.xs z_,.U [.U [.xs uS,.U [],.U []],.U [.xs cF,.U [],.U [.call 486 [.xs fM,.U [],.U []]]]],.xi 0])<|.xs gh]⟩
def US:g7:=⟨17,[0],[],[.set (.U [.l 1,.l 4])<|.U [.call 378 [.l 0,.xi 0],.call 479 []],.ite (.or [.not<|.call 522 [.l 4],.not<|.call 472 [.xi 30],.not<|.call 472 [.xi 31]]) [.ret<|.c<|.bool false] [],.for (.l 2) (.bi .range [.xi 2]) [.ite (.or [.not<|.call 458 [.l 1],.not<|.call 465 [.l 1]]) [.ret<|.c<|.bool false] [],.set (.U [.l 5,.l 3])<|.call 503 [.l 1,.xi 3],.ite (.m .NotEq (.word [some 4,some 5,none]<|.call 151 [.l 0,.xs z_,.s [.xs my],.c .none,.l 1])<|.l 3) [.ret<|.c<|.bool false] [],.ite (.not<|.call 515 [.l 1,.l 4]) [.ret<|.c<|.bool false] []],.ret<|.call 472 [.call 392 [.l 1,.s [.xi 1,.xi 2,.xi 9,.xi 28,.xi 29]]]]⟩
inductive BT where
 |leaf (k:Nat) (i:g7)
 |node (k:Nat) (l r:BT)
noncomputable def BT.find:BT->Nat->Option g7
 | .leaf k i,f=>if Nat.beq f k then some i else none
 | .node k l r,f=>if Nat.blt f k then l.find f else r.find f
noncomputable def BT.list:BT->List (Nat × g7)
 | .leaf k i=>[(k,i)]
 | .node _ l r=>l.list++r.list
theorem BT.Il:∀{t:BT} {f:Nat} {i:g7},t.find f=some i->(f,i)∈t.list:=by
 intro t
 induction t with
 |leaf k j=>
  intro f i h;have h:(if Nat.beq f k=true then some j else none)=some i:=h;by_cases q:Nat.beq f k=true
  ·rw[if_pos q] at h;cases h;rw[Nat.eq_of_beq_eq_true q];exact .head _
  ·rw[if_neg q] at h;cases h
 |node k l r ihl LN=>
  intro f i h;have h:(if Nat.blt f k=true then l.find f else r.find f)=some i:=h;by_cases q:Nat.blt f k=true
  ·rw[if_pos q] at h;exact j5 _<|ihl h
  ·rw[if_neg q] at h;exact ll _<|LN h
def Im:BT:=.node 323 (.node 200 (.node 136 (.node 117 (.node 100 (.leaf 86 f86)<|.node 105 (.leaf 100 Qw)<|.leaf 105 CS)<|.node 124 (.leaf 117 CT)<|.node 131 (.leaf 124 AA)<|.leaf 131 UH)<|.node 161 (.node 151 (.leaf 136 FS)<|.node 156 (.leaf 151 UI)<|.leaf 156 YB)<|.node 179 (.node 172 (.leaf 161 Qx)<|.leaf 172 YC)<|.node 186 (.leaf 179 YD)<|.leaf 186 YE)<|.node 273 (.node 233 (.node 221 (.leaf 200 UJ)<|.node 228 (.leaf 221 UK)<|.leaf 228 Qy)<|.node 261 (.node 254 (.leaf 233 UL)<|.leaf 254 Qz)<|.node 268 (.leaf 261 FT)<|.leaf 268 MO)<|.node 294 (.node 280 (.leaf 273 QA)<|.node 287 (.leaf 280 UM)<|.leaf 287 UN)<|.node 309 (.node 302 (.leaf 294 UO)<|.leaf 302 FU)<|.node 316 (.leaf 309 QC)<|.leaf 316 UP)<|.node 446 (.node 385 (.node 359 (.node 330 (.leaf 323 UQ)<|.node 337 (.leaf 330 MP)<|.leaf 337 YF)<|.node 364 (.leaf 359 QD)<|.node 378 (.leaf 364 qv)<|.leaf 378 QE)<|.node 411 (.node 392 (.leaf 385 YG)<|.node 404 (.leaf 392 YH)<|.leaf 404 YI)<|.node 432 (.node 425 (.leaf 411 QF)<|.leaf 425 YJ)<|.node 439 (.leaf 432 YK)<|.leaf 439 MQ)<|.node 493 (.node 465 (.node 453 (.leaf 446 oQ)<|.node 458 (.leaf 453 FV)<|.leaf 458 Ij)<|.node 479 (.node 472 (.leaf 465 QG)<|.leaf 472 YL)<|.node 486 (.leaf 479 YM)<|.leaf 486 YN)<|.node 510 (.node 498 (.leaf 493 UR)<|.node 503 (.leaf 498 Ik)<|.leaf 503 FW)<|.node 522 (.node 515 (.leaf 510 QH)<|.leaf 515 MR)<|.node 529 (.leaf 522 YO)<|.leaf 529 US
noncomputable def tx:Text:=⟨Im.find,400⟩
section
noncomputable abbrev Led:=List<|Addr × Obj
noncomputable abbrev nw (x y:Int)(t u v:Tok):Obj:={cls:=.type "range",dict:=none,data:=.fields #[.int x t,.int y u,.int 1 v],slots:=#[]}
def jW (q:Str)(o:Obj):Prop:=∃vs t,o.data=.fields vs/\vs[1]?=some (.str q t)
def wH (o:Obj):Prop:=∃ps,o=tabObj ps/\TriplesOk ps.toList
variable {o:Obj}
theorem AB {q:Str}(h:jW q o):¬wH o:=λ⟨ps,e,ht⟩=>by
 refine gG h λvs t h1 h2=>?_;rw[e] at h1;have h3:ps.toList[1]?=some (.str q t):=by rw[Array.getElem?_toList,show ps=vs from Data.fields.inj h1];exact h2
 revert h3;generalize ps.toList=l at ht
 fun_induction TriplesOk l with
 |case1=>exact λh=>nomatch h
 |case2=>exact λh=>nomatch h
 |case3=>exact ht.elim
theorem q7 (h:wH o):o.cls=.none:=by obtain⟨ps,e,_⟩:=h;rw[e]
theorem q8 (h:wH o):∃ps,o.data=.fields ps:=by obtain⟨ps,e,_⟩:=h;rw[e];exact⟨_,rfl⟩
noncomputable def iH:List Nat:=[458,465,472,515,522,529]
noncomputable def tabOf (K:Frag)(f:Nat):Option (Addr × Str):=match K.lookup f with
 |some ⟨_,_,.func fd,_⟩=>(match fd.code with
  | .ref c=>(match K.lookup c with
   |some ⟨_,_,.fields vs,_⟩=>(match (vs[11]?:Option Value) with
    |some (.ref P)=>some (P,fd.qualname++".<locals>."++"<lambda>")
    |_=>none)
   |_=>none)
  |_=>none)
 |_=>none
def ii (K:Frag):List (Addr × Str):=iH.filterMap<|tabOf K
def TabsOk (ρ:List Addr)(Z:Led):Prop:=∀t∈ii K,∃ps,(t.1,tabObj ps)∈Z/\t.1∉ρ/\TriplesOk ps.toList/\
 ∀pos cv,codeAmong pos ps.toList=some cv->∃c oc,cv=.ref c/\(c,oc)∈Z/\c∉ρ/\jW t.2 oc
theorem TabsOk.mono {ρ bU:List Addr}{Z Z':Led}(h:TabsOk ρ Z)(f:∀a o,(a,o)∈Z->a∉ρ->(wH o∨∃q,jW q o)->(a,o)∈Z'/\a∉bU):TabsOk bU Z':=λt ht=>by
 refine uH (h t ht) λps h1 h2 h3 h4=>cR (f _ _ h1 h2<|.inl ⟨ps,rfl,h3⟩) λk1 k2=>oG ps k1 k2 h3 λpos cv e=>?_;exact tK (h4 pos cv e) λc oc e1 e2 e3 e4=>cR (f _ _ e2 e3<|.inr ⟨_,e4⟩) λk3 k4=>Cv c oc e1 k3 k4 e4
def CU (o:Obj):Prop:=(∀x y t u v,o≠nw x y t u v)/\¬wH o/\∀q,¬jW q o
theorem oR (h:∀vs,o.data≠.fields vs):CU o:=
 ⟨(λM M M M M e=>h _<|by rw[e]),(λt=>by obtain⟨ps,e⟩:=q8 t;exact h _ e),λM ⟨_,_,e,_⟩=>h _ e⟩
theorem g8 {Z:Led}{d:Addr}{o':Obj}(hn:(Z.map (·.1)).Nodup)(h1:(d,o)∈Z)(h2:(d,o')∈Z):o=o':=by
 refine aN (jA h1) λi hi=>aN (jA h2) λj hj=>?_;have e1:(Z.map (·.1))[i]?=some d:=by rw[gd,hi];rfl
 have e2:(Z.map (·.1))[j]?=some d:=by rw[gd,hj];rfl
 have FB:=(uF (bP.mp e1).1 hn).mp<|e1.trans e2.symm
 rw[FB,hj] at hi;cases hi;rfl
theorem CV {Z:Led}{d a:Addr}{o':Obj}(hn:(Z.map (·.1)).Nodup)(hm:(d,o)∈Z)(nr:CU o)(h:(a,o')∈Z)(k:wH o'∨∃q,jW q o'):a≠d:=λe=>by
 subst e;have:=g8 hn h hm;subst this;refine aZ k (λk=>?_) λUT=>?_
 ·exact nr.2.1 k
 ·exact aN UT λq k=>nr.2.2 q k
def Tj (Z:Led)(a:Addr)(o:Obj):Prop:=(a,o)∈Z∨K.lookup a=some o
mutual
inductive bH (ρ:List Addr)(Z:Led):Value->V->Prop
 |none:bH ρ Z .none .none
 |bool (b:Bool):bH ρ Z (.bool b) (.bool b)
 |int (i:Int) (t:Tok):bH ρ Z (.int i t) (.int i)
 |str (s:Str) (t:Tok):bH ρ Z (.str s t) (.str s)
 |U {a:Addr} {o:Obj} {vs:Array Value} {n:Nat} {l:aH}:Tj Z a o->a∉ρ->o.cls=.type "tuple"->o.data=.seq vs n->cr ρ Z vs.toList l->bH ρ Z (.ref a) (.U l)
 |gl {a:Addr} {o:Obj} {vs:Array Value} {n:Nat} {l:aH}:K.lookup a=some o->o.cls=.type "list"->o.data=.seq vs n->cr ρ Z vs.toList l->bH ρ Z (.ref a) (.gl l)
 |rng {a:Addr} {x y:Int} {t u v:Tok}:(a,nw x y t u v)∈Z->a∉ρ->bH ρ Z (.ref a) (.rng x y)
 |ref {i:Nat} {a:Addr}:ρ[i]?=some a->bH ρ Z (.ref a) (.ref i)
inductive cr (ρ:List Addr)(Z:Led):List Value->List V->Prop
 |nil:cr ρ Z [] []
 |cons {v:Value} {x:V} {vs:List Value} {l:aH}:bH ρ Z v x->cr ρ Z vs l->cr ρ Z (v::vs) (x::l)
end
inductive ky {α:Type}(ρ:List Addr)(Z:Led):List (α × Value)->List (α × V)->Prop
 |nil:ky ρ Z [] []
 |cons {k:α} {v:Value} {x:V} {r:List (α × Value)} {t:List (α × V)}:bH ρ Z v x->ky ρ Z r t->ky ρ Z ((k,v)::r) ((k,x)::t)
def oS (ρ:List Addr)(Z:Led)(ks:db)(a:Addr):Prop:=bH ρ Z (.ref a)<|.U<|ks.map .str
structure OwnCls (K:Frag)(C:Addr):Prop where
 get:∀nm,plainGet K C nm=true
 hasDict:hasDictIn K C=true
 set:findIn K (.ref C) "__setattr__"=some (some (.builtin "object.__setattr__"))
 plain:plainOver K C=true
 eq:findIn K (.ref C) "__eq__"=some (some (.builtin "object.__eq__"))
 ne:findIn K (.ref C) "__ne__"=some (some (.builtin "object.__ne__"))
 sub:subIn K (.type "str") (.ref C)=some false
 obj:subIn K (.ref C) (.type "object")=some true
inductive LsOk (ρ:List Addr)(Z:Led)(l:aH)(o:Obj):Prop
 |mk (vs:Array Value) (n:Nat) (e:o=listOf vs n) (i:cr ρ Z vs.toList l)
inductive YQ (ρ:List Addr)(Z:Led)(l:iP)(o:Obj):Prop
 |mk (kvs:List (Str × Value)) (h:o.IsDictOf (strKind prog w) kvs) (i:ky ρ Z kvs l)
inductive YR (ρ:List Addr)(Z:Led)(l:List (db × V))(o:Obj):Prop
 |mk (xs:List (db × Addr × Value)) (es:Array DictEntry) (ep:Nat) (h1:o.ExactDict) (h2:o.data=.dict es ep) (h3:es.toList=xs.map (entryOfKey (tupleKind (strKind prog w)))) (h4:(xs.map (·.1)).Nodup) (h5:∀x∈xs,oS ρ Z x.1 x.2.1) (h6:ky ρ Z (xs.map λx=>(x.1,x.2.2)) l)
inductive YS (ρ:List Addr)(C d:Nat)(o:Obj):Prop
 |mk (ad:Addr) (h:ρ[d]?=some ad) (e:o=instObj C ad) (ck:OwnCls K C)
inductive YT (ρ:List Addr)(Z:Led)(l:iP)(k:Str)(o:Obj):Prop
 |mk (u:Value) (kvs:List (Str × Value)) (h:o.IsDictOf (strKind prog w) (kvs++[(k,u)])) (i:ky ρ Z kvs l)
def cV (ρ:List Addr)(Z:Led)(c:ao)(o:Obj):Prop:=match c with
 | .list l=>LsOk ρ Z l o
 | .dict l=>YQ ρ Z l o
 | .dictT l=>YR ρ Z l o
 | .inst C d=>YS ρ C d o
 | .dictX l k=>YT ρ Z l k o
structure Rep (ρ:List Addr)(Z:Led)(Y:af):Prop where
 len:ρ.length=Y.length
 nd:ρ.Nodup
 ndZ:(Z.map (·.1)).Nodup
 apart:∀a∈ρ,K.lookup a=none
 big:∀a∈ρ,(a==sysModules)=false
 cell:∀(i:Nat) (a:Addr),ρ[i]?=some a->∃c o,Y[i]?=some c/\(a,o)∈Z/\cV ρ Z c o
 tabs:TabsOk ρ Z
structure Ext (cs:List Addr)(ρ:List Addr)(Z:Led)(bU:List Addr)(Z':Led):Prop where
 pre:∀(i:Nat) (a:Addr),ρ[i]?=some a->bU[i]?=some a
 keep:∀p∈Z,p.1∉ρ->p.1∉cs->¬wH p.2->p∈Z'
 adr:∀a∈Z.map (·.1),a∈Z'.map (·.1)
 new:∀a∈bU,a∈ρ∨a∉Z.map (·.1)
theorem bp {α:Type}{l:List α}{i:Nat}{a:α}(h:l[i]?=some a):a∈l:=f8 h
section
variable {cs ρ bU wI:List Addr} {Z Z' Z'':Led} {Y:af}
theorem Ext.refl:Ext cs ρ Z ρ Z:=⟨λM M h=>h,λM h M M M=>h,λM h=>h,λM h=>.inl h⟩
theorem Ext.trans (e:Ext cs ρ Z bU Z')(f:Ext cs bU Z' wI Z''):Ext cs ρ Z wI Z'' where
 pre:=λi a h=>f.pre i a<|e.pre i a h
 keep:=λp hp hn hc ht=>f.keep p (e.keep p hp hn hc ht) (λh=>(e.new _ h).elim hn λh=>h<|cD hp) hc ht
 adr:=λa h=>f.adr a<|e.adr a h
 new:=λa ha=>by
  refine aZ (f.new a ha) (λh=>?_) λh=>?_
  ·exact e.new a h
  ·exact .inr λhz=>h<|e.adr a hz
theorem Ext.weaken {cs':List Addr}(e:Ext cs ρ Z bU Z')(h:∀a∈cs,a∈cs'):Ext cs' ρ Z bU Z':=⟨e.pre,λp hp hn hc ht=>e.keep p hp hn (λx=>hc<|h _ x) ht,e.adr,e.new⟩
variable {a:Addr}
theorem Ext.old (e:Ext cs ρ Z bU Z')(hz:a∈Z.map (·.1))(hn:a∉ρ):a∉bU:=λh=>(e.new a h).elim hn λx=>x hz
def oU (cs:List Addr)(Z:Led):Prop:=∀p∈Z,p.1∈cs->(p.2.cls=.type "tuple"->∀vs n,p.2.data≠.seq vs n)/\∀x y t u v,p.2≠nw x y t u v
variable {u:Value}
theorem bH.xg (h:bH ρ Z u .none):u=.none:=by cases h;rfl
theorem bH.AC {b:Bool}(h:bH ρ Z u (.bool b)):u=.bool b:=by cases h;rfl
@[elab_as_elim] theorem bH.tR {C:Value->Prop}{u:Value}{i:Int}(h:bH ρ Z u (.int i))(f:∀t,C<|.int i t):C u:=by cases h;exact f _
@[elab_as_elim] theorem bH.qw {C:Value->Prop}{u:Value}{s:Str}(h:bH ρ Z u (.str s))(f:∀t,C<|.str s t):C u:=by cases h;exact f _
@[elab_as_elim] theorem bH.MS {C:Value->Prop}{u:Value}{l:aH}(h:bH ρ Z u (.U l))(f:∀{a:Addr} {o:Obj} {vs:Array Value} {n:Nat},Tj Z a o->a∉ρ->o.cls=.type "tuple"->o.data=.seq vs n->cr ρ Z vs.toList l->C (.ref a)):C u:=by
 cases h with | U h1 h2 h3 h4 h5=>exact f h1 h2 h3 h4 h5
@[elab_as_elim] theorem bH.YU {C:Value->Prop}{u:Value}{l:aH}(h:bH ρ Z u (.gl l))(f:∀{a:Addr} {o:Obj} {vs:Array Value} {n:Nat},K.lookup a=some o->o.cls=.type "list"->o.data=.seq vs n->cr ρ Z vs.toList l->C (.ref a)):C u:=by
 cases h with | gl h1 h3 h4 h5=>exact f h1 h3 h4 h5
@[elab_as_elim] theorem bH.UU {C:Value->Prop}{u:Value}{x y:Int}(h:bH ρ Z u (.rng x y))(f:∀{a:Addr} {t u v:Tok},(a,nw x y t u v)∈Z->a∉ρ->C (.ref a)):C u:=by
 cases h with | rng h1 h2=>exact f h1 h2
@[elab_as_elim] theorem bH.QI {C:Value->Prop}{u:Value}{i:Nat}(h:bH ρ Z u (.ref i))(f:∀{a:Addr},ρ[i]?=some a->C (.ref a)):C u:=by
 cases h with | ref h1=>exact f h1
theorem cr.kg {us:List Value}(h:cr ρ Z us []):us=[]:=by cases h;rfl
@[elab_as_elim] theorem cr.eF {C:List Value->Prop}{us:List Value}{x:V}{l:aH}(h:cr ρ Z us (x::l))(f:∀{u:Value} {r:List Value},bH ρ Z u x->cr ρ Z r l->C (u::r)):C us:=by
 cases h with | cons h1 h2=>exact f h1 h2
theorem ky.kg {α:Type}{us:List (α × Value)}(h:ky ρ Z us []):us=[]:=by cases h;rfl
@[elab_as_elim] theorem ky.eF {α:Type}{C:List (α × Value)->Prop}{us:List (α × Value)}{p:α × V}{l:List (α × V)}(h:ky ρ Z us (p::l))(f:∀{u:Value} {r:List (α × Value)},bH ρ Z u p.2->ky ρ Z r l->C ((p.1,u)::r)):C us:=by
 cases h with | cons h1 h2=>exact f h1 h2
variable {x:V}
theorem bH.map (ht:∀a o vs n,Tj Z a o->a∉ρ->o.cls=.type "tuple"->o.data=.seq vs n->Tj Z' a o/\a∉bU)(hr:∀a x y t u v,(a,nw x y t u v)∈Z->a∉ρ->(a,nw x y t u v)∈Z'/\a∉bU)(hf:∀(i:Nat) (a:Addr),ρ[i]?=some a->bU[i]?=some a)(h:bH ρ Z u x):bH bU Z' u x:=
 bH.rec (motive_1:=λu x M=>bH bU Z' u x) (motive_2:=λus l M=>cr bU Z' us l) .none .bool .int .str (λh1 h2 h3 h4 M ih=>.U (ht _ _ _ _ h1 h2 h3 h4).1 (ht _ _ _ _ h1 h2 h3 h4).2 h3 h4 ih) (λh1 h3 h4 M ih=>.gl h1 h3 h4 ih) (λh1 h2=>.rng (hr _ _ _ _ _ _ h1 h2).1 (hr _ _ _ _ _ _ h1 h2).2) (λh=>.ref<|hf _ _ h) .nil (λM M i j=>.cons i j) h
theorem cr.mono {bU:List Addr}{Z':Led}(f:∀v x,bH ρ Z v x->bH bU Z' v x){vs:List Value}{l:aH}(h:cr ρ Z vs l):cr bU Z' vs l:=
 cr.rec (motive_1:=λM M M=>True) (motive_2:=λus l M=>cr bU Z' us l) trivial (λM=>trivial) (λM M=>trivial) (λM M=>trivial) (λM M M M M M=>trivial) (λM M M M M=>trivial) (λM M=>trivial) (λM=>trivial) .nil (λi M M j=>.cons (f _ _ i) j) h
theorem ky.mono {α:Type}{bU:List Addr}{Z':Led}(f:∀v x,bH ρ Z v x->bH bU Z' v x){r:List (α × Value)}{t:List (α × V)}(h:ky ρ Z r t):ky bU Z' r t:=
 ky.rec (motive:=λr t M=>ky bU Z' r t) .nil (λi M j=>.cons (f _ _ i) j) h
theorem bH.ext (e:Ext cs ρ Z bU Z')(hc:oU cs Z)(hK:∀a∈bU,K.lookup a=Option.none){v:Value}(h:bH ρ Z v x):bH bU Z' v x:=
 h.map (λa o vs n h hn zW hd=>⟨h.imp (λh=>e.keep _ h hn (λhm=>(hc _ h hm).1 zW _ _ hd) (λt=>by rw[q7 t] at zW;cases zW)) id,h.elim (λh=>e.old (cD h) hn) λh hm=>by rw[hK _ hm] at h;cases h⟩)
  (λM M M M M M h hn=>⟨e.keep _ h hn (λhm=>(hc _ h hm).2 _ _ _ _ _ rfl) (λt=>nomatch q7 t),e.old (cD h) hn⟩) e.pre
theorem cr.ext (e:Ext cs ρ Z bU Z')(hc:oU cs Z)(hK:∀a∈bU,K.lookup a=Option.none){vs:List Value}{l:aH}(h:cr ρ Z vs l):cr bU Z' vs l:=h.mono λM M h=>h.ext e hc hK
theorem ky.ext {α:Type}(e:Ext cs ρ Z bU Z')(hc:oU cs Z)(hK:∀a∈bU,K.lookup a=Option.none){r:List (α × Value)}{t:List (α × V)}(h:ky ρ Z r t):ky bU Z' r t:=h.mono λM M h=>h.ext e hc hK
variable {c:ao} {o:Obj}
theorem cV.mono {bU:List Addr}{Z':Led}(f:∀v x,bH ρ Z v x->bH bU Z' v x)(g:∀(i:Nat) (a:Addr),ρ[i]?=some a->bU[i]?=some a)(h:cV ρ Z c o):cV bU Z' c o:=by
 cases c with
 |list l=>obtain⟨vs,n,h2,h3⟩:=h;exact⟨vs,n,h2,h3.mono f⟩
 |dict l=>obtain⟨kvs,h1,h2⟩:=h;exact⟨kvs,h1,h2.mono f⟩
 |dictT l=>obtain⟨xs,es,ep,h1,h2,h3,h4,h5,h6⟩:=h;exact⟨xs,es,ep,h1,h2,h3,h4,λx hx=>f _ _<|h5 x hx,h6.mono f⟩
 |inst C d=>obtain⟨ad,h1,h2,h3⟩:=h;exact⟨ad,g _ _ h1,h2,h3⟩
 |dictX l k=>obtain⟨v,kvs,h1,h2⟩:=h;exact⟨v,kvs,h1,h2.mono f⟩
theorem cV.ext (e:Ext cs ρ Z bU Z')(hc:oU cs Z)(hK:∀a∈bU,K.lookup a=none)(h:cV ρ Z c o):cV bU Z' c o:=h.mono (λM M h=>h.ext e hc hK) e.pre
theorem Ext.hide (hf:a∉Z.map (·.1))(R:Rep ρ Z Y):Ext [] ρ Z ρ ((a,o)::Z):=
 ⟨λM M h=>h,λM h M M M=>.tail _ h,λM h=>.tail _ h,λM h=>.inl h⟩
theorem bK:oU [] Z:=λM M h=>nomatch h
theorem Rep.hide (R:Rep ρ Z Y)(hf:a∉Z.map (·.1)):Rep ρ ((a,o)::Z) Y where
 len:=R.len
 nd:=R.nd
 ndZ:=iy.mpr ⟨hf,R.ndZ⟩
 apart:=R.apart
 big:=R.big
 tabs:=R.tabs.mono λa o h hn M=>⟨.tail _ h,hn⟩
 cell:=λi b hb=>by
  exact de (R.cell i b hb) λc o' h1 h2 h3=>fc c o' h1 (.tail _ h2)<|h3.ext (Ext.hide hf R) bK R.apart
theorem Rep.mU (R:Rep ρ Z Y)(hf:a∉Z.map (·.1)):a∉ρ:=λh=>by
 exact aN (jA h) λi hi=>de (R.cell i a hi) λc o M h2 M=>hf<|cD h2
theorem Ext.push (R:Rep ρ Z Y)(hf:a∉Z.map (·.1)):Ext [] ρ Z (ρ++[a]) ((a,o)::Z) where
 pre:=λi b h=>by rw[i7 (bP.mp h).1];exact h
 keep:=λM h M M M=>.tail _ h
 adr:=λM h=>.tail _ h
 new:=λb h=>by
  refine aZ (fu.mp h) (λh=>?_) λh=>?_
  ·exact .inl h
  ·rw[cM.mp h];exact .inr hf
theorem Rep.push (R:Rep ρ Z Y)(hf:a∉Z.map (·.1))(hK:K.lookup a=none)(hb:(a==sysModules)=false)(hc:cV (ρ++[a]) ((a,o)::Z) c o):Rep (ρ++[a]) ((a,o)::Z) (Y++[c]) where
 len:=by rw[cN,cN,R.len];rfl
 nd:=sP.mpr ⟨R.nd,by simp,λb hb c hc e=>by rw[cM.mp hc] at e;exact R.mU hf (e▸hb)⟩
 ndZ:=iy.mpr ⟨hf,R.ndZ⟩
 apart:=λb hb=>by
  refine aZ (fu.mp hb) (λh=>?_) λh=>?_
  ·exact R.apart b h
  ·rw[cM.mp h];exact hK
 big:=λb Ch=>by
  refine aZ (fu.mp Ch) (λh=>?_) λh=>?_
  ·exact R.big b h
  ·rw[cM.mp h];exact hb
 tabs:=R.tabs.mono λb o h hn M=>⟨.tail _ h,λq=>by
  refine aZ (fu.mp q) (λq=>?_) λq=>?_
  ·exact hn q
  ·rw[cM.mp q] at h;exact hf<|cD h⟩
 cell:=λi b hb=>by
  by_cases hi:i<ρ.length
  ·rw[i7 hi] at hb;refine de (R.cell i b hb) λc o' h1 h2 h3=>fc c o' ?_ (.tail _ h2)<|h3.ext (Ext.push R hf) bK λb hb=>?_
   ·rw[i7 (R.len▸hi)];exact h1
   ·refine aZ (fu.mp hb) (λh=>?_) λh=>?_
    ·exact R.apart b h
    ·rw[cM.mp h];exact hK
  ·rw[kN<|Nat.not_lt.mp hi] at hb;have h0:i - ρ.length=0:=by
    cases q:i - ρ.length with
    |zero=>rfl
    |succ n=>rw[q] at hb;cases hb
   rw[h0] at hb;cases hb;refine fc c o ?_ (.head _) hc;rw[kN<|R.len▸Nat.not_lt.mp hi,<-R.len,h0];rfl
noncomputable def gN (Z:Led)(a:Addr)(o:Obj):Led:=Z.map λp=>if p.1=a then (a,o) else p
theorem jc (Z:Led)(a:Addr)(o:Obj):(gN Z a o).map (·.1)=Z.map (·.1):=by
 unfold gN;rw[List.map_map];refine uB λp M=>?_;simp only[Function.comp];split
 ·next h=>exact h.symm
 ·rfl
theorem Ext.put (ha:a∈ρ):Ext [] ρ Z ρ (gN Z a o) where
 pre:=λM M h=>h
 keep:=λp hp hn M M=>bX.mpr ⟨p,hp,by rw[if_neg];intro e;exact hn (by rw[e];exact ha)⟩
 adr:=λb h=>by rw[jc];exact h
 new:=λM h=>.inl h
theorem Rep.put {i:Nat}(R:Rep ρ Z Y)(hi:ρ[i]?=some a)(hc:cV ρ (gN Z a o) c o):Rep ρ (gN Z a o) (Y.set i c) where
 len:=by rw[qT];exact R.len
 nd:=R.nd
 ndZ:=by rw[jc];exact R.ndZ
 apart:=R.apart
 big:=R.big
 tabs:=R.tabs.mono λb o h hn M=>⟨bX.mpr ⟨_,h,if_neg λe=>hn (by rw[show b=a from e];exact bp hi)⟩,hn⟩
 cell:=λj b hb=>by
  by_cases hj:i=j
  ·subst hj;rw[hi] at hb;cases hb;refine de (R.cell i a hi) λc' o' h1 h2 M=>fc c o ?_ (bX.mpr ⟨_,h2,by simp⟩) hc;rw[uA (bP.mp h1).1]
  ·refine de (R.cell j b hb) λc' o' h1 h2 h3=>?_;have dZ:b≠a:=λe=>hj (by
    subst e;have hl:=(bP.mp hi).1;exact(uF hl R.nd).mp (hi.trans hb.symm))
   refine fc c' o' ?_ (bX.mpr ⟨_,h2,by simp[dZ]⟩)<|h3.ext (Ext.put<|bp hi) bK R.apart
   rw[eL hj];exact h1
theorem Rep.QJ {i:Nat}{c':ao}(R:Rep ρ Z Y)(h:Y[i]?=some c)(f:∀o,cV ρ Z c o->cV ρ Z c' o):Rep ρ Z (Y.set i c') where
 len:=by rw[qT];exact R.len
 nd:=R.nd
 ndZ:=R.ndZ
 apart:=R.apart
 big:=R.big
 tabs:=R.tabs
 cell:=λj b hb=>by
  refine de (R.cell j b hb) λc₁ o h1 h2 h3=>?_;by_cases hj:i=j
  ·subst hj;rw[h] at h1;cases h1;exact fc c' o (by rw[uA (bP.mp h).1]) h2<|f o h3
  ·exact fc c₁ o (by rw[eL hj];exact h1) h2 h3
theorem Io:∀{r:Led},(∀p∈r,p.1≠a)->gN r a o=r:=by
 intro r h;unfold gN
 conv=>rhs;rw[<-List.map_id r]
 refine uB λp hp=>?_;rw[if_neg<|h p hp];rfl
variable {d:Addr} {o':Obj}
theorem Ext.swap:Ext [d] ρ Z ρ (gN Z d o') where
 pre:=λM M h=>h
 keep:=λp hp M hc M=>bX.mpr ⟨p,hp,by rw[if_neg];intro e;exact hc (by rw[e];exact .head _)⟩
 adr:=λb h=>by rw[jc];exact h
 new:=λM h=>.inl h
theorem gO (hn:(Z.map (·.1)).Nodup)(hm:(d,o)∈Z)(no:o.cls=.type "tuple"->∀vs n,o.data≠.seq vs n)(nr:CU o):oU [d] Z:=λp hp hd=>by
 have e:p.1=d:=by simpa using hd
 have:p=(d,o):=by
  refine aN (jA hp) λi hi=>aN (jA hm) λj hj=>?_;have h1:(Z.map (·.1))[i]?=some d:=by rw[gd,hi,<-e];rfl
  have h2:(Z.map (·.1))[j]?=some d:=by rw[gd,hj];rfl
  have FB:=(uF (bP.mp h1).1 hn).mp<|h1.trans h2.symm
  rw[FB,hj] at hi;cases hi;rfl
 subst this;exact⟨no,nr.1⟩
theorem Rep.swap (R:Rep ρ Z Y)(hm:(d,o)∈Z)(hd:d∉ρ)(no:o.cls=.type "tuple"->∀vs n,o.data≠.seq vs n)(nr:CU o):Rep ρ (gN Z d o') Y where
 len:=R.len
 nd:=R.nd
 ndZ:=by rw[jc];exact R.ndZ
 apart:=R.apart
 big:=R.big
 tabs:=R.tabs.mono λb o h hn k=>⟨bX.mpr ⟨_,h,if_neg<|CV R.ndZ hm nr h k⟩,hn⟩
 cell:=λj b hb=>by
  refine de (R.cell j b hb) λc' lF h1 h2 h3=>?_;have dZ:b≠d:=λe=>hd<|e▸bp hb
  exact fc c' lF h1 (bX.mpr ⟨_,h2,by simp[dZ]⟩)<|h3.ext Ext.swap (gO R.ndZ hm no nr) R.apart
theorem bH.grow (hn:(Z.map (·.1)).Nodup)(hm:(d,o)∈Z)(hK:K.lookup d=Option.none)(no:o.cls=.type "tuple"->∀vs n,o.data≠.seq vs n)(nr:CU o){v:Value}(h:bH ρ Z v x):bH (ρ++[d]) Z v x:=
 h.map (λa lF M M h mt zW hd=>⟨h,λhq=>(fu.mp hq).elim mt λq=>h.elim (λh=>(gO hn hm no nr _ h q).1 zW _ _ hd) λh=>by rw[cM.mp q,hK] at h;cases h⟩)
  (λM M M M M M h mt=>⟨h,λhq=>(fu.mp hq).elim mt λq=>(gO hn hm no nr _ h q).2 _ _ _ _ _ rfl⟩)
  λi a h=>by rw[i7 (bP.mp h).1];exact h
theorem Rep.adopt {ce:ao}(R:Rep ρ Z Y)(hm:(d,o)∈Z)(nr:CU o)(hd:d∉ρ)(hK:K.lookup d=none)(hb:(d==sysModules)=false)(f:∀v x,bH ρ Z v x->bH (ρ++[d]) Z v x)(hc:cV (ρ++[d]) Z ce o):Rep (ρ++[d]) Z (Y++[ce]) where
 len:=by rw[cN,cN,R.len];rfl
 nd:=sP.mpr ⟨R.nd,by simp,λb Ch c hc' e=>by rw[cM.mp hc'] at e;exact hd (e▸Ch)⟩
 ndZ:=R.ndZ
 apart:=λb Ch=>by
  refine aZ (fu.mp Ch) (λh=>?_) λh=>?_
  ·exact R.apart b h
  ·rw[cM.mp h];exact hK
 big:=λb Ch=>by
  refine aZ (fu.mp Ch) (λh=>?_) λh=>?_
  ·exact R.big b h
  ·rw[cM.mp h];exact hb
 tabs:=R.tabs.mono λb o h hn k=>⟨h,λq=>by
  refine aZ (fu.mp q) (λq=>?_) λq=>?_
  ·exact hn q
  ·exact CV R.ndZ hm nr h k<|cM.mp q⟩
 cell:=λi b Ch=>by
  by_cases hi:i<ρ.length
  ·rw[i7 hi] at Ch;refine de (R.cell i b Ch) λc o' h1 h2 h3=>?_;refine fc c o' ?_ h2 (h3.mono f λi a h=>by rw[i7 (bP.mp h).1];exact h);rw[i7 (R.len▸hi)];exact h1
  ·rw[kN<|Nat.not_lt.mp hi] at Ch;have h0:i - ρ.length=0:=by
    cases q:i - ρ.length with
    |zero=>rfl
    |succ n=>rw[q] at Ch;cases Ch
   rw[h0] at Ch;cases Ch;refine fc ce o ?_ hm hc;rw[kN<|R.len▸Nat.not_lt.mp hi,<-R.len,h0];rfl
theorem Ext.QK (e:Ext cs ρ ((d,o)::Z) bU Z')(hz:d∉Z.map (·.1)):Ext cs ρ Z bU Z':=
 ⟨e.pre,λp hp hn hc ht=>e.keep p (.tail _ hp) hn hc ht,λa ha=>e.adr a<|.tail _ ha,λa ha=>(e.new a ha).imp id λq hq=>q<|.tail _ hq⟩
theorem Ext.yJ (e:Ext cs ρ Z bU Z')(hz:d∉Z.map (·.1)):Ext cs ρ Z bU (gN Z' d o'):=
 ⟨e.pre,λp hp hn hc ht=>bX.mpr ⟨p,e.keep p hp hn hc ht,by rw[if_neg];intro q;exact hz (by rw[<-q];exact cD hp)⟩,λa ha=>by rw[jc];exact e.adr a ha,e.new⟩
theorem Ext.adopt (e:Ext cs ρ Z bU Z')(hz:d∉Z.map (·.1)):Ext cs ρ Z (bU++[d]) Z':=
 ⟨λi a h=>by have:=e.pre i a h;rw[i7 (bP.mp this).1];exact this,e.keep,e.adr,λa ha=>by
  refine aZ (fu.mp ha) (λq=>?_) λq=>?_
  ·exact e.new a q
  ·rw[cM.mp q];exact .inr hz⟩
theorem gP (hm:(d,o)∈Z):(d,o')∈gN Z d o':=bX.mpr ⟨_,hm,by simp⟩
end
end
theorem Ip {env:Env}{outer:List Env}{L b:Addr}(hf:env.frame=some L)(hm:b∈(env::outer).filterMap (·.frame)):b=L∨b∈outer.filterMap (·.frame):=by
 refine aJ (List.mem_filterMap.mp hm) λe he h=>?_;rcases aX.mp he with rfl | he
 ·rw[hf] at h;exact .inl (aU h).symm
 ·exact .inr (List.mem_filterMap.mpr ⟨e,he,h⟩)
theorem uf {env:Env}{outer:List Env}{L:Addr}(hf:env.frame=some L):(env::outer).filterMap (·.frame)=L::outer.filterMap (·.frame):=by
 rw[List.filterMap_cons,hf]
def Es (base:Heap)(fe:Env)(outer:List Env)(L e C:Addr)(g:Heap)(Z:Led)(b h':Heap):Prop:=
 RaisedSN base g (fe::outer) e (.ref C) Z h'∨RaisedHN base g (fe::outer) L e (.ref C) Z h'∨(yv g h' e (.ref C)/\News b L g Z)
theorem tS {env OV:Env}(h:env.frame=OV.frame)(e:Value):noteFrame e env=noteFrame e OV:=by
 unfold noteFrame PySem.frameOf;rw[h]
section
variable {aaK:Model} {A A₀:Around} {E:dz} {s:Shared} {base g b:Heap} {outer:List Env} {L e C:Addr} {m:lW} {env fe:Env} {Z:Led} {Q:Ac}
theorem ny (B:Below A₀ base outer b)(F:Fr b L g m)(hf:fe.frame=some L)(hk:fe.scope.kind=.function)(hA:A.frames=some (fe::outer))(he:env.frame=some L)(X:Es base fe outer L e C g Z b s.heap)(U:g.UpToSlots s.heap)
  (h:∀g' h',Fr b L g' m->RaisedHN base g' (fe::outer) L e (.ref C) Z h'->g'.UpToSlots h'->Q () {s with heap:=h'}):wpAny aaK A (noteFrame (.ref e) env) Q E s:=by
 rw[tS (he.trans hf.symm)];refine o3 X (λR=>?_) (λR=>?_) λUV=>?_
 ·exact tK R λB' a0 hB HE hl SM=>wpAny_looks_onW hA hf SM λh' hh hs=>h g h' F ⟨B',a0,hB,HE,hl,hh⟩ (U.trans hs)
 ·have R':=R;exact tK R' λB' a0 hB HE hl SM=>wpAny_noteFrame_againW hf SM.2.2.2 (h g s.heap F R U)
 ·refine cR UV λR aaL=>?_;have K':=pushX B F hf hk;have zR:∀env∈(fe::outer),∀b,env.frame=some b->b∈(fe::outer).filterMap (·.frame):=λenv he b hb=>List.mem_filterMap.mpr ⟨env,he,hb⟩;have st:base.StaysIn (hideAll g ((fe::outer).filterMap (·.frame))):=λb o q=>hideAll_get _ (K'.stays b o q) λhm=>by
   rw[(K'.frames.mem hm).1] at q;cases q
  have sg:∀b o,g.get? b=some o->b∉(fe::outer).filterMap (·.frame)->(hideAll g ((fe::outer).filterMap (·.frame))).get? b=some o:=λb o q nm=>hideAll_get _ q nm;have hl:∀q∈Z,(hideAll g ((fe::outer).filterMap (·.frame))).get? q.1=some q.2/\b.get? q.1=none/\base.get? q.1=none:=λq hq=>by
   refine⟨hideAll_get _ (aaL q hq).1 λhm=>?_,(aaL q hq).2.2,fresh_of_stays B.stays (aaL q hq).2.2⟩;refine aZ (Ip hf hm) (λz=>?_) λz=>?_
   ·exact(aaL q hq).2.1 z
   ·refine aJ ((B.frames.mem z).2) λo ho M=>?_;rw[(aaL q hq).2.2] at ho;cases ho
  refine de R.there λob tp he' wY hd=>?_;have PY:(hideAll g ((fe::outer).filterMap (·.frame))).get? e=none:=by
   cases q:(hideAll g ((fe::outer).filterMap (·.frame))).get? e with
   |none=>rfl
   |some o=>have:=of_hideAll _ q;rw[R.new] at this;cases this
  unfold noteFrame;simp only[hf];refine aw (wpAny_field (x:=Value.none) he' hd (by rfl) ?_);rw[if_neg (show¬(Value.none != Value.none)=true from by lk)];refine wpAny_entryW hA ((funFrames_hide K'.frames zR).of_keeps λb o hb M=>⟨o,R.keeps b o hb,rfl⟩) hf he' (λb o hb=>R.keeps b o (of_hideAll _ hb)) PY hd (by simp) rfl λh' hN=>yp hN λk1 k2 k3 k4=>uI F.ns λoL es ep hL hLd hLk hLf=>?_;have nL:L∉Z.map (·.1):=λq=>by
   exact aJ (bX.mp q) λp hp e=>(aaL p hp).2.1 e
  have nb:∀a o,b.get? a=some o->a∉Z.map (·.1):=λa o e q=>by
   refine aJ (bX.mp q) λp hp eA=>?_;subst eA;rw[(aaL p hp).2.2] at e;cases e
  have F':Fr b L (hideAll g (Z.map (·.1))) m:=⟨⟨oL,es,ep,hideAll_get _ hL nL,hLd,hLk,hLf⟩,λa o e=>hideAll_get _ (F.keep a o e) (nb a o e),F.above⟩;have kp:∀a o,(hideAll g (Z.map (·.1))).get? a=some o->s.heap.get? a=some o:=λa o e=>R.keeps a o (of_hideAll _ e);exact h _ h' F' ⟨_,tp,st,λa o q nm=>sg a o (of_hideAll _ q) nm,λq hq=>⟨(hl q hq).1,hideAll_none _ (cD hq),(hl q hq).2.2⟩,k1,PY,k2,by rw[<-wY];exact k3⟩ ((Heap.UpToSlots.of_keeps kp).trans k4)
variable {A':Around}
theorem pI (hf:env.frame=some L)(R:RaisedHN base g (fe::outer) L e (.ref C) Z s.heap)(U:g.UpToSlots s.heap)
  (h:∀h',RaisedHN base g (fe::outer) L e (.ref C) Z h'->g.UpToSlots h'->Q () {s with heap:=h'}):wpAny aaK A' (setFlight (.ref e) env.frame) Q E s:=by
 obtain⟨B',a0,hB,HE,hl,To,PY,HF,oe,vs,T,oT,ts,he,wY,hd,h1,WJ,Xy,hT,Tp,h3⟩:=R;have WL:=(Array.getElem?_eq_some_iff.mp h3).1;have other:∀b,b≠T->(s.heap.update T (Obj.mapFields (·.setIfInBounds 3 ((some L).elim Value.none λf=>rawInt f)))).get? b=s.heap.get? b:=
  λb hb=>Heap.get?_update_other _ _ (gz hb)
 have Ci:∀b o,s.heap.get? b=some o->(∀vs,o.data≠.fields vs)->b≠T:=λb o hb SN q=>by
  rw[q,hT] at hb;injection hb with hb;subst hb;exact SN ts Tp
 rw[hf];refine aw (wpAny_field he hd h1 ?_);rw[if_pos (show(Value.ref T != Value.none)=true from by simp)];refine wpAny_setField hT Tp WL (h _ ⟨B',a0,hB,HE,hl,λb o hbo=>(other b λq=>by rw[q,WJ] at hbo;cases hbo).trans (To b o hbo),PY,
  HF.of_keeps λb o hb SN=>⟨o,(other b (Ci b o hb SN)).trans hb,rfl⟩,?_⟩ (U.trans λb o hb SN=>⟨o.slots,(other b (Ci b o hb SN)).trans hb⟩))
 exact Mp oe vs T _ _ (Xl ((other e (gz Xy)).trans he) wY hd h1 WJ Xy (Heap.get?_update_self _ hT (Obj.isFreed_of_fields (Obj.data_mapFields Tp _))) (Obj.data_mapFields Tp _) (by simp[WL]))
theorem sZ {Q:dz}(R:RaisedHN base g (fe::outer) L e (.ref C) Z s.heap)(h:∀T,Q (.ref T) s):wpAny aaK A' (field (.ref e) 1) Q E s:=by
 obtain⟨B',a0,hB,HE,hl,To,PY,HF,oe,vs,T,oT,ts,he,wY,hd,h1,_⟩:=R;exact wpAny_field he hd h1 (h T)
theorem qe {E':dz}(hf:env.frame=some L)(R:RaisedHN base g (fe::outer) L e (.ref C) Z s.heap)(U:g.UpToSlots s.heap)
  (h:∀h',RaisedHN base g (fe::outer) L e (.ref C) Z h'->g.UpToSlots h'->E' (.ref e) {s with heap:=h'}):cameBackBy aaK A' env E' (.ref e) s:=by
 refine aw (sZ R λT=>?_);rw[if_neg (show¬((Value.ref T==Value.none)=true) from by simp)]
 first | exact aw (aW (pI hf R U h)) | exact pI hf R U h
theorem AD {α:Type}{E':dz}{Q:α->Shared->Prop}{aa5:String}(hf:env.frame=some L)(R:RaisedHN base g (fe::outer) L e (.ref C) Z s.heap)(U:g.UpToSlots s.heap)
  (h:∀h',RaisedHN base g (fe::outer) L e (.ref C) Z h'->g.UpToSlots h'->E' (.ref e) {s with heap:=h'}):wpAny aaK A' (PySem.passOn aa5 (.ref e) env:Sem α) Q E' s:=by
 refine aw (sZ R λT=>?_);rw[if_neg (show¬((Value.ref T==Value.none)=true) from by simp)]
 first | exact aw (aW (aw (pI hf R U λh' a b=>wpAny_throw (h h' a b)))) | exact aw (pI hf R U λh' a b=>wpAny_throw (h h' a b))
theorem AE (B:Below A₀ base outer b)(F:Fr b L g m)(hf:fe.frame=some L)(hk:fe.scope.kind=.function)(hA:A.frames=some (fe::outer))(X:Es base fe outer L e C g Z b s.heap)(U:g.UpToSlots s.heap)
  (hQ:∀h',RaisedSN base b outer e (.ref C) Z h'->b.UpToSlots h'->Q () {s with heap:=h'}):wpAny aaK A (leaving fe (.ref e)) Q E s:=by
 refine aw (ny B F hf hk hA hf X U λg' bA F' R U'=>?_);refine tK R λB' a0 hB HE hl hh=>wpAny_landsW hh λh' SM hs=>?_;refine yp SM λk1 k2 YV k4=>?_;refine qV YV λ_ _ k3=>?_;exact hQ h' ⟨B',a0,hB,λa o q nm=>HE a o (F'.keep a o q) (λhm=>by
  refine aZ (Ip hf hm) (λz=>?_) λz=>?_
  ·rw[z,kts_self F'] at q;cases q
  ·exact nm z),λq hq=>⟨(hl q hq).1,kts_none F'.keep (hl q hq).2.1,(hl q hq).2.2⟩,⟨k1,k2,k3,k4⟩⟩ ((Heap.UpToSlots.of_keeps F'.keep).trans (U'.trans hs))
theorem rZ {h₀ b':Heap}(B:Below A₀ base outer h₀)(F:Fr h₀ L g m)(T:KtsTurn (L::outer.filterMap (·.frame)) g b'):∃uY,KtsTurn (outer.filterMap (·.frame)) h₀ uY/\Fr uY L b' m:=by
 obtain⟨wK,YW⟩:=kts_turn_at
  (λb hb=>by
   refine TI (B.frames.mem hb) λ_ o Ee _=>?_;exact⟨o,Ee⟩)
  (λa o e aa6=>T.other a o (F.keep a o e) (λq=>by
   refine aZ (aX.mp q) (λz=>?_) λz=>?_
   ·rw[z,(kts_self F:h₀.get? L=none)] at e;cases e
   ·exact aa6 z))
  (λa o e M=>T.up (F.keep a o e))
 refine uI F.ns λoL es ep hL hLd hLk hLf=>aN (T.up hL) λsl hs=>?_;exact bF _ wK ⟨⟨_,es,ep,hs,hLd,hLk,hLf⟩,YW,by rw[wK.size];exact F.above⟩
theorem xh {uY b' h':Heap}{L':Addr}(F:Fr uY L b' m)(aaL:News b' L' h' Z):News uY L h' Z:=λp hp=>by
 refine⟨(aaL p hp).1,λq=>?_,kts_none F.keep (aaL p hp).2.2⟩;refine rR F.ns λoL es ep hL M=>?_;have:=(aaL p hp).2.2;rw[q,hL] at this;cases this
end
section
abbrev Mo:Model:=model prog w
structure Lv where
 O:av
 n:Nat
 ns:Ns
structure Fx where
 base:Heap
 L:Addr
 fe:Env
 outer:List Env
 A:Around
 gY:Shared
@[reducible] noncomputable def Fx.fs (c:Fx):List Addr:=c.outer.filterMap (·.frame)
structure Fz extends Fx where
 t:Lv
 env:Env
 m:lW
 N:Loc
@[reducible] noncomputable def Fz.to (f:Fz)(m:lW)(l:Loc):Fz:={f with m:=m,N:=l}
inductive Look (L:Addr)(m:lW)(ρ:List Addr)(Z:Led)(env:Env)(x:Str)(u:Value):Prop
 |here:env.kindOf x=some .local->env.locals=L->m x=some u->Look L m ρ Z env x u
 |lG (o:Obj) (m₂:lW):env.kindOf x=some .local->(env.locals,o)∈Z->env.locals∉ρ->LCg.NsObj o m₂->m₂ x=some u->Look L m ρ Z env x u
 |cell (a:Addr) (o:Obj):(env.kindOf x=some .cell∨env.kindOf x=some .free)->env.cells.lookup x=some a->(a,o)∈Z->a∉ρ->o.data=.cell (some u)->Look L m ρ Z env x u
def gB (f:Fz)(ρ:List Addr)(Z:Led):Prop:=
 ∀(i:Nat) (x:Str) (k:NameKind) (v:V),f.t.ns[i]?=some (x,k)->f.N[i]?=some (some v)->∃u,bH ρ Z u v/\Look f.L f.m ρ Z f.env x u
def uZ (c:Fx):Prop:=∃cc P,c.fe.code=.ref cc/\CodeHd c.base cc P/\(P,c.fe.qual++"<lambda>")∈ii K
structure Ok (c:Fx)(t:Lv)(e:Env):Prop where
 inB:K.In c.base
 qj:∃p loose kL mg mb,Top p loose kL mg mb c.base
 hh:c.A.handled=none
 frames:c.A.frames=some (c.fe::c.outer)
 frame:c.fe.frame=some c.L
 fkind:c.fe.scope.kind=.function
 depth:c.A.depth+t.n / 2+3<recursionLimit
 units:c.A.units+10 * (t.n / 2)+200<cLine
 wordy:t.n % 2=1->uZ c
 kind:e.scope.kind=.function
 globals:e.globals=mainGlobals
 builtins:e.builtins=builtinsNs
 eframe:e.frame=some c.L
 code:e.code=c.fe.code
 qual:e.qual=c.fe.qual
 top:∀x,t.ns.lookup x=some .globalImplicit->e.kindOf x=some .globalImplicit
 local':∀x,(x,NameKind.local)∈t.ns->e.kindOf x=some .local
 cell:∀x k,(x,k)∈t.ns->k=.cell∨k=.free->(e.kindOf x=some .cell∨e.kindOf x=some .free)/\∃a,e.cells.lookup x=some a
structure St (f:Fz) where
 b:Heap
 h:Heap
 ρ:List Addr
 Z:Led
 Y:af
 tk:Nat
 ok:Ok f.toFx f.t f.env
 below:∃A₀:Around,Below A₀ f.base f.outer b
 dicts:KtsDicts f.fs b
 fr:Fr b f.L h f.m
 news:News b f.L h Z
 rep:Rep ρ Z Y
 lo:gB f ρ Z
noncomputable abbrev St.s {f:Fz}(q:St f):Shared:={f.gY with heap:=q.h,toks:=q.tk}
abbrev St.iv {f:Fz}(q:St f):Value->V->Prop:=bH q.ρ q.Z
abbrev St.pJ {f:Fz}(q:St f):List Value->List V->Prop:=cr q.ρ q.Z
structure Bs where
 ρ:List Addr
 Z:Led
 b:Heap
@[reducible] noncomputable def St.bs {f:Fz}(q:St f):Bs:=⟨q.ρ,q.Z,q.b⟩
structure Kp (cs:List Addr)(g:Bs){f:Fz}(q:St f):Prop where
 ext:Ext cs g.ρ g.Z q.ρ q.Z
 turn:KtsTurn f.fs g.b q.b
abbrev nA (cs:List Addr){f f':Fz}(q:St f)(q':St f'):Prop:=Kp cs q.bs q'
def jw (c:Fx)(cs ρ:List Addr)(Z:Led)(Iq:Heap)(E:dz)(C:Nat)(Y':af):Prop:=
 ∀m g e bU Z' h' fb ⦃b:Heap⦄,Fr b c.L g m->Es c.base c.fe c.outer c.L e C g Z' b h'->g.UpToSlots h'->Rep bU Z' Y'->Ext cs ρ Z bU Z'->KtsTurn c.fs Iq b->E (.ref e) {c.gY with heap:=h',toks:=fb}
abbrev St.Fl {f:Fz}(q:St f)(cs:List Addr)(E:dz)(C:Nat)(Y':af):Prop:=jw f.toFx cs q.ρ q.Z q.b E C Y'
abbrev Rl (α β:Type):=List Addr->Led->α->β->Prop
noncomputable def Pi:Rl Bool Bool:=λM M u v=>u=v
def aF {α β:Type}(R:Rl α β){f:Fz}(q:St f)(r:Res β)(Q:α->Shared->Prop)(E:dz):Prop:=match r with
 | .ok v Y'=>∀u (q':St f),nA [] q q'->q'.Y=Y'->R q'.ρ q'.Z u v->Q u q'.s
 | .exc C Y'=>q.Fl [] E C Y'
 | .stuck=>False
def cx (t:Lv)(e:Expr)(x:X):Prop:=∀(f:Fz) (q:St f) (Q E:dz),f.t=t->aF bH q (aV t.O x f.N q.Y) Q E->wpAny Mo f.A (eval e f.env) Q E q.s
def FX (t:Lv)(l:List Expr)(xs:List X):Prop:=∀(f:Fz) (q:St f) (pos:Pos) (Q:List Value->Shared->Prop) (E:dz),f.t=t->aF cr q (ou t.O xs f.N q.Y) Q E->wpAny Mo f.A (spliced<|backTo pos<|starEach l f.env) Q E q.s
section
variable {cs ρ bU:List Addr} {Z Z':Led} {c:Fx} {f f' f'':Fz} {q:St f} {q':St f'} {jT:St f''} {E:dz} {α β γ:Type} {R:Rl α β} {Y Y':af} {C:Nat}
theorem Kp.refl:nA cs q q:=⟨.refl,.refl⟩
theorem Kp.trans {g:Bs}(e:f'.fs=f''.fs)(a:Kp cs g q')(d:nA cs q' jT):Kp cs g jT:=⟨a.ext.trans d.ext,KtsTurn.trans (e▸a.turn) d.turn⟩
theorem Kp.xj (a:nA [] q q'){u:Value}{v:V}(i:q.iv u v):q'.iv u v:=i.ext a.ext bK q'.rep.apart
theorem Kp.YX (a:nA [] q q'){u:List Value}{v:aH}(i:q.pJ u v):q'.pJ u v:=i.ext a.ext bK q'.rep.apart
theorem jw.on {b b':Heap}(x:jw c cs ρ Z b E C Y)(e:Ext cs ρ Z bU Z')(t:KtsTurn c.fs b b'):jw c cs bU Z' b' E C Y:=λm g e' wI Z'' t7 zQ M F R U Rp X T=>x m g e' wI Z'' t7 zQ F R U Rp (e.trans X)<|t.trans T
theorem jw.less {b:Heap}(x:jw c cs ρ Z b E C Y):jw c [] ρ Z b E C Y:=λm g e' wI Z'' t7 zQ M F R U Rp X T=>x m g e' wI Z'' t7 zQ F R U Rp (X.weaken λM q=>nomatch q) T
theorem aF.shift {q':St f}{r:Res β}{Q:α->Shared->Prop}(a:nA [] q q')(x:aF R q r Q E):aF R q' r Q E:=by
 cases r with
 |ok v CW=>exact λu jT d e i=>x u jT (a.trans rfl d) e i
 |exc C CW=>exact jw.on x a.ext a.turn
 |stuck=>exact x
theorem aF.bind {δ:Type}{R':Rl δ γ}{r:Res γ}{g:γ->af->Res β}{Q:α->Shared->Prop}{Q':δ->Shared->Prop}(x:aF R q (r.bind g) Q E)(k:∀{v u} (am:St f),nA [] q am->R' am.ρ am.Z u v->aF R am (g v am.Y) Q E->Q' u am.s):aF R' q r Q' E:=by
 cases r with
 |ok v Y'=>exact λu am a e i=>k am a i<|e▸aF.shift a x
 |exc C Y'=>exact x
 |stuck=>exact x
theorem aF.bindB {r:Res Bool}{g:Bool->af->Res β}{Q:α->Shared->Prop}{Q':Bool->Shared->Prop}(x:aF R q (r.bind g) Q E)(k:∀{v} (am:St f),nA [] q am->aF R am (g v am.Y) Q E->Q' v am.s):aF Pi q r Q' E:=by
 cases r with
 |ok v Y'=>exact λu am a e (i:u=v)=>i▸k am a (e▸aF.shift a x)
 |exc C Y'=>exact x
 |stuck=>exact x
theorem Look.ext {L:Addr}{m:lW}{env:Env}{x:Str}{u:Value}(h:Look L m ρ Z env x u)(e:Ext [] ρ Z bU Z'):Look L m bU Z' env x u:=by
 cases h with
 |here a b c=>exact .here a b c
 |lG o m₂ hk h1 h2 h3 h4=>exact .lG o m₂ hk (e.keep _ h1 h2 dq λt=>aN (q8 t) λps e=>gG h3 λes ep e1 M=>Data.noConfusion<|e.symm.trans e1) (e.old (cD h1) h2) h3 h4
 |cell a o hk h1 h2 h3 h4=>exact .cell a o hk h1 (e.keep _ h2 h3 dq λt=>aN (q8 t) λps e=>Data.noConfusion<|e.symm.trans h4) (e.old (cD h2) h3) h4
theorem gB.ext (h:gB f ρ Z)(e:Ext [] ρ Z bU Z')(hK:∀a∈bU,K.lookup a=none):gB f bU Z':=λi x k v h1 h2=>
 let ⟨u,hu,hl⟩:=h i x k v h1 h2;⟨u,hu.ext e bK hK,hl.ext e⟩
theorem lH {A₀:Around}{base h₀ b:Heap}{outer:List Env}(B:Below A₀ base outer h₀)(T:KtsTurn (outer.filterMap (·.frame)) h₀ b):Below A₀ base outer b:=
 ⟨B.stack,λa o e=>T.other a o (B.stays a o e) (λhm=>by
  rw[(B.frames.mem hm).1] at e;cases e),B.frames.of_keeps λa o e M=>by
  refine aN (T.up e) λsl' Cj=>?_;exact⟨_,Cj,rfl⟩⟩
theorem St.Tk (q:St f):K.In q.b:=let ⟨_,B⟩:=q.below;q.ok.inB.keeps B.stays
theorem St.s8 (q:St f):K.In q.h:=q.Tk.keeps q.fr.keep
theorem St.top (q:St f):∃p loose kL mg mb,Top p loose kL mg mb q.b:=by
 exact aN q.below λM B=>uJ q.ok.qj λp l me mg mb T=>X6 p l me mg mb<|T.keeps B.stays
end
variable {f:Fz} {q:St f} {E:dz} {bU:List Addr} {Z':Led} {Y':af}
noncomputable def St.to (q:St f)(tk:Nat){b h':Heap}(F:Fr b f.L h' f.m)(aaL:News b f.L h' Z')(R:Rep bU Z' Y')(e:Ext [] q.ρ q.Z bU Z')(T:KtsTurn f.fs q.b b):St f where
 b:=b
 h:=h'
 ρ:=bU
 Z:=Z'
 Y:=Y'
 tk:=tk
 ok:=q.ok
 below:=let ⟨A₀,B⟩:=q.below;⟨A₀,lH B T⟩
 dicts:=q.dicts.turn T
 fr:=F
 news:=aaL
 rep:=R
 lo:=q.lo.ext e R.apart
theorem aF.fin {α β:Type}{R:Rl α β}{v:β}{u:α}{Q:α->Shared->Prop}{h':Heap}(tk:Nat)(P:aF R q (.ok v Y') Q E)(F:Fr q.b f.L h' f.m)(aaL:News q.b f.L h' Z')(Rp:Rep bU Z' Y')(e:Ext [] q.ρ q.Z bU Z')(i:R bU Z' u v):Q u {q.s with heap:=h',toks:=tk}:=
 P u (q.to tk F aaL Rp e .refl) ⟨e,.refl⟩ rfl i
theorem aF.same {α β:Type}{R:Rl α β}{v:β}{u:α}{Q:α->Shared->Prop}{tk:Nat}(P:aF R q (.ok v q.Y) Q E)(i:R q.ρ q.Z u v):Q u {q.s with toks:=tk}:=
 P.fin tk q.fr q.news q.rep .refl i
theorem aF.here {α β:Type}{R:Rl α β}{v:β}{u:α}{Q:α->Shared->Prop}(P:aF R q (.ok v q.Y) Q E)(i:R q.ρ q.Z u v):Q u q.s:=P u q .refl rfl i
theorem St.cW (q:St f):q.h.objs.size∉q.Z.map (·.1):=λhm=>by
 refine aJ (bX.mp hm) λp hp e=>?_;have:=gJ (q.news p hp).1;rw[e] at this;exact sS _ this
theorem St.r0 (q:St f):K.lookup q.h.objs.size=none:=by
 cases e:K.lookup q.h.objs.size with
 |none=>rfl
 |some o=>exact absurd (gJ<|q.s8 _ _ e)<|sS _
theorem St.yK (q:St f):(q.h.objs.size==sysModules)=false:=by
 refine uJ q.top λp loose kL mg mb T=>?_;refine aJ T.nolimit λmc Ir M=>?_;refine rR Ir λo _ _ e _=>?_;have:sysModules<q.h.objs.size:=lm (by lk)<|gJ<|q.fr.keep _ _ e
 exact beq_eq_false_iff_ne.mpr<|mO this
noncomputable def St.grow (q:St f){h':Heap}(hk:∀b o,q.h.get? b=some o->h'.get? b=some o)(tk:Nat):St f:=q.to tk (q.fr.keeps hk) (q.news.grown hk) q.rep .refl .refl
theorem aF.grow {α β:Type}{R:Rl α β}{r:Res β}{Q:α->Shared->Prop}(P:aF R q r Q E){h':Heap}(hk:∀b o,q.h.get? b=some o->h'.get? b=some o)(tk:Nat):aF R (q.grow hk tk) r Q E:=aF.shift ⟨.refl,.refl⟩ P
noncomputable def St.hide (q:St f)(o:Obj)(hf:o.isFreed=false)(tk:Nat):St f:=q.to tk (q.fr.push o) (q.news.push q.fr o hf) (q.rep.hide q.cW) (.hide q.cW q.rep) .refl
theorem St.hidden (q:St f)(o:Obj)(hf:o.isFreed=false)(tk:Nat):nA [] q (q.hide o hf tk):=⟨.hide q.cW q.rep,.refl⟩
theorem aF.hid {α β:Type}{R:Rl α β}{v:β}{u:α}{Q:α->Shared->Prop}{o:Obj}(hf:o.isFreed=false)(tk:Nat)(P:aF R q (.ok v q.Y) Q E)(i:R q.ρ ((q.h.objs.size,o)::q.Z) u v):Q u {q.s with heap:=q.h.push o,toks:=tk}:=
 P.fin tk (q.fr.push o) (q.news.push q.fr o hf) (q.rep.hide q.cW) (.hide q.cW q.rep) i
theorem aF.U {us:List Value}{l:aH}{Q:dz}(tk:Nat)(P:aF bH q (.ok (.U l) q.Y) Q E)(i:q.pJ us l):Q (.ref q.h.objs.size) {q.s with heap:=q.h.push {cls:=.type "tuple",data:=.seq us.toArray},toks:=tk}:=
 P.hid rfl tk (.U (.inl<|.head _) (q.rep.mU q.cW) rfl rfl<|i.ext (.hide q.cW q.rep) bK q.rep.apart)
theorem St.QL (q:St f):∀a∈q.ρ++[q.h.objs.size],K.lookup a=none:=λM hb=>(fu.mp hb).elim (q.rep.apart _) λh=>cM.mp h▸q.r0
noncomputable def St.push (q:St f)(o:Obj)(ce:ao)(tk:Nat)(hf:o.isFreed=false)(hc:cV (q.ρ++[q.h.objs.size]) ((q.h.objs.size,o)::q.Z) ce o):St f:=
 q.to tk (q.fr.push o) (q.news.push q.fr o hf) (q.rep.push q.cW q.r0 q.yK hc) (.push q.rep q.cW) .refl
theorem va {ρ:List Addr}{Z Z':Led}{a:Addr}{Y:af}(R:Rep ρ Z Y):bH (ρ++[a]) Z' (.ref a) (.ref Y.length):=.ref (by rw[<-R.len,kN<|ba _,oF];rfl)
theorem aF.yL {ce:ao}{o:Obj}{h':Heap}{Q:dz}(tk:Nat)(P:aF bH q (alloc q.Y ce) Q E)(F:Fr q.b f.L h' f.m)(aaL:News q.b f.L h' ((q.h.objs.size,o)::q.Z))(hc:cV (q.ρ++[q.h.objs.size]) ((q.h.objs.size,o)::q.Z) ce o):Q (.ref q.h.objs.size) {q.s with heap:=h',toks:=tk}:=
 P.fin tk F aaL (q.rep.push q.cW q.r0 q.yK hc) (.push q.rep q.cW) (va q.rep)
theorem aF.alloc {ce:ao}{o:Obj}{Q:dz}(tk:Nat)(hf:o.isFreed=false)(P:aF bH q (alloc q.Y ce) Q E)(hc:cV (q.ρ++[q.h.objs.size]) ((q.h.objs.size,o)::q.Z) ce o):Q (.ref q.h.objs.size) {q.s with heap:=q.h.push o,toks:=tk}:=
 P.yL tk (q.fr.push o) (q.news.push q.fr o hf) hc
theorem St.ups (q:St f){o:Obj}{us:List Value}{l:aH}(i:q.pJ us l):cr (q.ρ++[q.h.objs.size]) ((q.h.objs.size,o)::q.Z) us l:=i.ext (.push q.rep q.cW) bK q.QL
theorem aF.list {us:List Value}{l:aH}{k:Nat}{Q:dz}(tk:Nat)(P:aF bH q (Internal.alloc q.Y<|.list l) Q E)(i:q.pJ us l):Q (.ref q.h.objs.size) {q.s with heap:=q.h.push<|listOf us.toArray k,toks:=tk}:=
 P.alloc tk rfl ⟨_,_,rfl,q.ups i⟩
theorem aF.Pj {us:List Value}{l:aH}{k:Nat}{h':Heap}{Q:dz}(tk:Nat)(P:aF bH q (Internal.alloc q.Y<|.list l) Q E)(F:Fr q.b f.L h' f.m)(aaL:News q.b f.L h' ((q.h.objs.size,listOf us.toArray k)::q.Z))(i:q.pJ us l):Q (.ref q.h.objs.size) {q.s with heap:=h',toks:=tk}:=
 P.yL tk F aaL ⟨_,_,rfl,q.ups i⟩
theorem kh {b h h':Heap}{L t:Addr}{Z:Led}{o o':Obj}(aaL:News b L h Z)(hm:(t,o)∈Z)(ho:h'.get? t=some o')(hs:Heap.SameBut t h h'):News b L h' (gN Z t o'):=λp hp=>by
 refine aJ (bX.mp hp) λq hq e=>?_;by_cases hqt:q.1=t
 ·rw[if_pos hqt] at e;subst e;exact⟨ho,(aaL _ hm).2⟩
 ·rw[if_neg hqt] at e;subst e;exact⟨(hs.2 _ hqt).trans (aaL _ hq).1,(aaL _ hq).2⟩
end
section
variable {ρ:List Addr} {Z:Led} {Y:af} {f:Fz} {q:St f} {Q E:dz} {t:Lv} {ns:Ns} {x:Str} {pos:Pos} {i:Nat} {u:Value} {v:V}
theorem r2 (h:nv x=true):(x==("__debug__":Str))=false/\(x==("__classdict__":Str))=false/\(x==("__name__":Str))=false:=by
 unfold nv at h;simp only[ln,oE] at h;exact⟨h.1.1,h.1.2,h.2⟩
theorem FY (ok:nv x=true)(h:Look f.L f.m q.ρ q.Z f.env x u)(hq:Q u q.s):wpAny Mo f.A (eval (.Name x pos) f.env) Q E q.s:=by
 have hd:=r2 ok;refine wpAny_Name ?_ hd.1;cases h with
 |here hk hl hm=>exact wpAny_loadName_local q.ok.kind hk (hl▸q.fr.ns) hm hq
 |lG o m₂ hk h1 h2 h3 h4=>exact wpAny_loadName_local q.ok.kind hk (h3.ns (q.news _ h1).1) h4 hq
 |cell a o hk h1 h2 h3 h4=>
  refine aZ hk (λhk=>?_) λhk=>?_
  ·exact wpAny_loadName_cell q.ok.kind hk h1 ⟨o,(q.news _ h2).1,h4⟩ hq
  ·exact wpAny_loadName_free q.ok.kind hk h1 ⟨o,(q.news _ h2).1,h4⟩ hq hd.2.1
theorem CX:∀{ns:Ns} {i:Nat},slotAt x ns=some i->∃k,ns[i]?=some (x,k)/\q6 k=true:=by
 intro ns
 induction ns with
 |nil=>intro i h;cases h
 |cons p r ih=>
  intro i h;obtain⟨y,k⟩:=p;have h:(if (y==x)=true then (if q6 k=true then some 0 else none) else (slotAt x r).map (· +1))=some i:=h;by_cases hy:(y==x)=true
  ·rw[if_pos hy] at h;by_cases hk:q6 k=true
   ·rw[if_pos hk] at h;cases h;exact bF k (by rw[eq_of_beq hy];rfl) hk
   ·rw[if_neg hk] at h;cases h
  ·rw[if_neg hy] at h;refine aJ (Option.map_eq_some_iff.mp h) λj e eA=>?_;subst eA;exact ih e
theorem CY (h:fh ns x=some i):nv x=true/\∃k,ns[i]?=some (x,k)/\q6 k=true:=by
 unfold fh at h;by_cases ok:nv x=true
 ·rw[if_pos ok] at h;exact⟨ok,CX h⟩
 ·rw[if_neg ok] at h;cases h
theorem nB (h:fh ns x=some i):nv x=true/\∃k,ns[i]?=some (x,k):=
 let ⟨a,k,b,_⟩:=CY h;⟨a,k,b⟩
theorem mV {k k':NameKind}(h:ns[i]?=some (x,k))(e:(gV ns i==some k')=true):k=k':=by
 have e:=eq_of_beq e;unfold gV at e;rw[h] at e;exact aU e
theorem aF.N (P:aF bH q (aV t.O (.l i) f.N q.Y) Q E):∃v,f.N[i]?=some (some v)/\aF bH q (.ok v q.Y) Q E:=by
 have P:aF bH q (match f.N[i]? with
  |some (some v)=>.ok v q.Y
  |_=>.stuck) Q E:=P
 rcases e:f.N[i]? with _ | _ | v<;>rw[e] at P
 ·exact P.elim
 ·exact P.elim
 ·exact bF v rfl P
theorem MT (h:fh t.ns x=some i):cx t (.Name x pos) (.l i):=by
 intro f q Q E ht P;refine Cx (nB h) λok k hk=>aJ P.N λv e P'=>?_;subst ht;exact aJ (q.lo i x k v hk e) λu hu hl=>FY ok hl (P'.here hu)
def It (x:Str)(v:V):Prop:=∃u,nsIn K mainGlobals x=some (some u)/\bH [] [] u v
theorem Et (R:Rep ρ Z Y)(h:bH [] [] u v):bH ρ Z u v:=
 h.map (λM M M M h M M M=>⟨h.elim (λh=>(dq h).elim) .inr,λhm=>h.elim (λh=>dq h) λh=>by rw[R.apart _ hm] at h;cases h⟩) (λM M M M M M h M=>(dq h).elim) λM a h=>nomatch (show(none:Option Addr)=some a from h)
theorem Iu {u:List Value}{v:aH}(R:Rep ρ Z Y)(h:cr [] [] u v):cr ρ Z u v:=h.mono λM M=>Et R
theorem q9 (h:jb ns x=true):nv x=true/\ns.lookup x=some .globalImplicit:=by
 unfold jb at h;simp only[ln,beq_iff_eq] at h;exact h
theorem oV (hn:jb f.t.ns x=true)(hu:nsIn K mainGlobals x=some (some u))(hq:Q u q.s):wpAny Mo f.A (eval (.Name x pos) f.env) Q E q.s:=by
 refine uJ q.top λp loose kL mg mb T=>Name_function_global q.ok.kind (q.ok.top x (q9 hn).2) (loadGlobal_global ?_ (mg_of q.Tk T.g hu) hq) (r2 (q9 hn).1).1;rw[q.ok.globals];exact T.g.keeps q.fr.keep
theorem MU (h:jb t.ns x=true)(hv:It x v):cx t (.Name x pos) (.c v):=by
 intro f q Q E ht P;subst ht;exact aJ hv λu hu hi=>oV h hu (aF.here P (Et q.rep hi))
noncomputable def ta:Bi->Value
 | .len=>.builtin "len"
 | .list=>.type "list"
 | .tuple=>.type "tuple"
 | .sorted=>.builtin "sorted"
 | .str=>.type "str"
 | .int=>.type "int"
 | .range=>.type "range"
 | .max=>.builtin "max"
def Iv (x:Str)(b:Bi):Prop:=nsIn K mainGlobals x=some none/\bootBuiltins x=some (ta b)/\x≠"__name__"
theorem MV {b:Bi}(hn:jb f.t.ns x=true)(hu:Iv x b)(hq:Q (ta b) q.s):wpAny Mo f.A (eval (.Name x pos) f.env) Q E q.s:=by
 refine uJ q.top λp loose kL mg mb T=>?_;have T':=topRead_of T;refine qV hu λh1 h2 h3=>Name_function_global q.ok.kind (q.ok.top x (q9 hn).2) (loadGlobal_builtin ?_ (mg_none_of q.Tk T'.g h1) ?_ ((T'.builtins x h3).trans h2) hq) (r2 (q9 hn).1).1
 ·rw[q.ok.globals];exact T.g.keeps q.fr.keep
 ·rw[q.ok.builtins];exact T'.b.keeps q.fr.keep
theorem bd {u:List Value}{v:aH}:cr ρ Z u v->u.length=v.length:=by
 intro x
 induction v generalizing u with
 |nil=>cases x;rfl
 |cons a r ih=>exact x.eF λM t=>bJ (· +1) (ih t)
theorem snd_const {k:Const}{j:Nat}(h:CN k=some v):cx t (.Constant k j pos) (.c v):=by
 intro f q Q E ht P;cases k<;>cases h
 ·exact wpAny_Constant_none (aF.here P .none)
 ·exact wpAny_Constant_bool (aF.here P (.bool _))
 ·exact wpAny_Constant_int (aF.same P (.int _ _))
 ·exact wpAny_Constant_str (aF.same P (.str _ _))
theorem Iw:FX t [] []:=λM M M M M M P=>wpAny_items_nil (aF.here P .nil)
variable {xs:List X}
theorem F0 {e:Expr}{r:List Expr}{x:X}(he:∀env,starEach (e::r) env=(false,eval e env)::starEach r env)(bA:cx t e x)(eG:FX t r xs):FX t (e::r) (x::xs):=λM q pos Q E ht P=>
 wpAny_items_cons (bA _ q _ E ht (P.bind λam bM bZ aP=>eG _ am pos _ E ht (aP.bind λM bN iW dB=>dB.here (.cons (bN.xj bZ) iW)))) (he _)
theorem ra {k:Nat}(h:k<1000):k<=sizeLine:=by rw[sizeLine_eq];omega
theorem g9 {k:Nat}(h:k<10000):k<=sizeLine:=by rw[sizeLine_eq];omega
theorem CZ {O:av}{N:Loc}:∀{xs:List X} {Y:af} {vs:aH} {Y':af},ou O xs N Y=.ok vs Y'->vs.length=xs.length:=by
 intro xs
 induction xs with
 |nil=>intro Y vs Y' h;cases h;rfl
 |cons x r ih=>
  intro Y vs Y' h;have h:((aV O x N Y).bind λv Y=>(ou O r N Y).bind λvs Y=>.ok (v::vs) Y)=.ok vs Y':=h;cases q:aV O x N Y with
  |ok v al=>
   rw[q] at h;have h:((ou O r N al).bind λvs Y=>Res.ok (v::vs) Y)=.ok vs Y':=h;cases bz:ou O r N al with
   |ok ws ay=>rw[bz] at h;cases h;exact bJ (· +1) (ih bz)
   |exc C ay=>rw[bz] at h;cases h
   |stuck=>rw[bz] at h;cases h
  |exc C al=>rw[q] at h;cases h
  |stuck=>rw[q] at h;cases h
theorem aF.Ix {O:av}{N:Loc}{g:List V->af->Res V}{Q':List Value->Shared->Prop}{k:Nat}(hx:xs.length=k)(x:aF bH q ((ou O xs N q.Y).bind g) Q E)(kk:∀{v u} (am:St f),nA [] q am->am.pJ u v->u.length=k->aF bH am (g v am.Y) Q E->Q' u am.s):aF cr q (ou O xs N q.Y) Q' E:=by
 cases e:ou O xs N q.Y with
 |ok v Y'=>rw[e] at x;exact λu am a e' i=>kk am a i ((bd i).trans ((CZ e).trans hx)) (e'▸aF.shift a x)
 |exc C Y'=>rw[e] at x;exact x
 |stuck=>rw[e] at x;exact x
theorem MW {l:List Expr}{k:Nat}(hl:l.length<1000)(hx:xs.length=l.length)(h:FX t l xs):cx t (.Tuple l k pos) (.U xs):=λM q M E ht P=>
 wpAny_Tuple (h _ q pos _ E ht (aF.Ix hx P λam M bZ el aP=>⟨ra (el▸hl),aP.U am.tk bZ⟩))
theorem MX {l:List Expr}(hl:l.length<1000)(hx:xs.length=l.length)(h:FX t l xs):cx t (.List l pos) (.s xs):=λM q M E ht P=>
 wpAny_List (h _ q pos _ E ht (aF.Ix hx P λam M bZ el aP=>⟨ra (el▸hl),aP.list am.tk bZ⟩))
end
section
open PyProof.V
theorem F3 (l:Addr)(y:Value)(n:Nat)(d:Option Addr)(sl:Array (Option Value))(u:Tok):
  Meets (Builtin.«tuple.__mul__» ⟨[.ref l,.int 2 u],[]⟩) (λM R s=>s.heap.get? l=some {cls:=.type "tuple",dict:=d,data:=.seq #[y] n,slots:=sl}/\R (.ok (.ret (Value.ref s.heap.objs.size))) {s with heap:=s.heap.push {cls:=Value.type "tuple",data:=Data.seq #[y,y]}}):=
 .of_wp λprog w A R s h=>by
  obtain⟨hp,g,d,tk,os⟩:=s;obtain⟨hl,h⟩:=h
  wp_walk
  exact⟨_,rfl,h⟩
theorem F4 (l:Addr)(y:Value)(n:Nat)(d:Option Addr)(sl:Array (Option Value))(u:Tok):
  Meets (Builtin.«tuple.__mul__» ⟨[.ref l,.int 0 u],[]⟩) (λM R s=>s.heap.get? l=some {cls:=.type "tuple",dict:=d,data:=.seq #[y] n,slots:=sl}/\R (.ok (.ret (Value.ref s.heap.objs.size))) {s with heap:=s.heap.push {cls:=Value.type "tuple",data:=Data.seq #[]}}):=
 .of_wp λprog w A R s h=>by
  obtain⟨hp,g,d,tk,os⟩:=s;obtain⟨hl,h⟩:=h
  wp_walk
  exact⟨_,rfl,h⟩
theorem F5 (l:Addr)(y:Value)(n:Nat)(d:Option Addr)(sl:Array (Option Value))(u:Tok):
  Meets (Builtin.«tuple.__mul__» ⟨[.ref l,.int 1 u],[]⟩) (λM R s=>s.heap.get? l=some {cls:=.type "tuple",dict:=d,data:=.seq #[y] n,slots:=sl}/\R (.ok (.ret (Value.ref l))) s):=
 .of_wp λprog w A R s h=>by
  obtain⟨hp,g,d,tk,os⟩:=s;obtain⟨hl,h⟩:=h
  wp_walk
  exact⟨_,rfl,h⟩
theorem AF (a:Int)(t:Tok)(l:Addr)(items:Array Value)(n:Nat)(d:Option Addr)(sl:Array (Option Value)):
  Meets (Builtin.«int.__rmul__» ⟨[.int a t,.ref l],[]⟩) (λM R s=>s.heap.get? l=some {cls:=.type "tuple",dict:=d,data:=.seq items n,slots:=sl}/\R (.ok (.ret Value.notImplemented)) s):=
 .of_wp λprog w A R s h=>by obtain⟨hp,g,d,tk,os⟩:=s;obtain⟨hl,h⟩:=h;wp_walk;exact⟨_,rfl,h⟩
theorem r3:fillsNumberSlot (.type "tuple") "mul"=pure false:=
 PySem.fillsNumberSlot_seq F.slot_tuple_mul.lookup (by lk) F.slot_tuple_rmul.lookup (by lk)
theorem yM:seqRepeat? (.type "tuple")=pure (some (.builtin "tuple.__mul__")):=by
 unfold seqRepeat?;rw[PySem.seqSlot_of (T:="tuple") (name:="__mul__") (id:="tuple.__mul__") F.slot_tuple_mul.lookup (by lk),PySem.seqSlot_of (T:="tuple") (name:="__rmul__") (id:="tuple.__rmul__") F.slot_tuple_rmul.lookup (by lk)];rfl
variable {A:Around} {E:dz} {s:Shared} {l:Addr} {y:Value} {u:Tok} {Q:dz}
theorem yN {x:Int}(hl:IsTup s.heap l #[y])(h:∀k d sl,s.heap.get? l=some {cls:=.type "tuple",dict:=d,data:=.seq #[y] k,slots:=sl}->wpAny Mo A (call (.builtin "tuple.__mul__") [.ref l,.int x u]) Q E s):wpAny Mo A (binaryOp .Mult (.ref l) (.int x u)) Q E s:=by
 obtain⟨⟨cls,d,data,sl⟩,ho,zW,k,hd⟩:=id hl;simp only at zW hd;subst zW hd;exact wpAny_binaryOp_repeat_ref (by lk) ⟨_,ho,rfl⟩ (λs'=>typeIs_int s' x u) r3 F.fills_int_mul F.slot_int_rmul yM F.slot_int_index.lookup
  (call_meets F.slot_int_rmul (typeIs_int s x u) F.entry_int_rmul (F.args_int_rmul_2 _ _) (AF x u l #[y] k d sl) ⟨ho,rfl,⟨_,ho,rfl⟩,h k d sl ho⟩)
theorem Iy (hl:IsTup s.heap l #[y])(h:Q (.ref s.heap.objs.size) {s with heap:=s.heap.push {cls:=Value.type "tuple",data:=Data.seq #[y,y]}}):wpAny Mo A (binaryOp .Mult (.ref l) (.int 2 u)) Q E s:=
 yN hl λk d sl ho=>call_meets F.slot_tuple_mul ⟨_,ho,rfl⟩ F.entry_tuple_mul (F.args_tuple_mul_2 _ _) (F3 l y k d sl u) ⟨ho,h⟩
theorem Iz (hl:IsTup s.heap l #[y])(h:Q (.ref s.heap.objs.size) {s with heap:=s.heap.push {cls:=Value.type "tuple",data:=Data.seq #[]}}):wpAny Mo A (binaryOp .Mult (.ref l) (.int 0 u)) Q E s:=
 yN hl λk d sl ho=>call_meets F.slot_tuple_mul ⟨_,ho,rfl⟩ F.entry_tuple_mul (F.args_tuple_mul_2 _ _) (F4 l y k d sl u) ⟨ho,h⟩
theorem IA (hl:IsTup s.heap l #[y])(h:Q (.ref l) s):wpAny Mo A (binaryOp .Mult (.ref l)<|.int 1 u) Q E s:=
 yN hl λk d sl ho=>call_meets F.slot_tuple_mul ⟨_,ho,rfl⟩ F.entry_tuple_mul (F.args_tuple_mul_2 _ _) (F5 l y k d sl u) ⟨ho,h⟩
end
section
variable {f:Fz} {q:St f} {Q E:dz} {a b u:Value} {x y v:V} {us:List Value} {vs:aH}
theorem bH.cas {C:Value->V->Prop}{ρ:List Addr}{Z:Led}(i:bH ρ Z u v)(c0:C .none .none)(c1:∀b,C (.bool b)<|.bool b)(c2:∀i t,C (.int i t)<|.int i)(c3:∀s t,C (.str s t)<|.str s)(c4:∀a l,C (.ref a)<|.U l)(c5:∀a l,C (.ref a)<|.gl l)(c6:∀a x y,C (.ref a)<|.rng x y)(c7:∀a i,C (.ref a)<|.ref i):C u v:=
 bH.rec (motive_1:=λu v M=>C u v) (motive_2:=λM M M=>True) c0 c1 c2 c3 (λM M M M M M=>c4 _ _) (λM M M M M=>c5 _ _) (λM M=>c6 _ _ _) (λM=>c7 _ _) trivial (λM M M M=>trivial) i
theorem fP {α:Type}{r:α}{C:Prop}(h:none=some r):C:=nomatch h
theorem yO {Q:Bool->Shared->Prop}{r:Bool}(i:q.iv a x)(e:br q.Y x=some r)(P:∀fb,Q r {q.s with toks:=fb}):wpAny Mo f.A (truthy a) Q E q.s:=by
 cases x with
 |none=>rw[i.xg];have P:Q false q.s:=(aU e:false=r)▸P q.tk;exact λM M M=>P
 |bool b=>rw[i.AC];exact wpAny_truthy_bool<|(aU e:b=r)▸P q.tk
 |int n=>exact i.tR λt=>truthy_int<|(aU e:(n != 0)=r)▸P q.tk
 |_=>exact fP e
theorem St.get (q:St f){a:Addr}{o:Obj}(x:Tj q.Z a o):q.h.get? a=some o:=x.elim (λx=>(q.news _ x).1) λx=>q.s8 _ _ x
@[elab_as_elim] theorem fU {C:Value->Prop}{l:aH}(i:q.iv a (.U l))(k:∀t vs,IsTup q.h t vs.toArray->q.pJ vs l->q.iv (.ref t) (.U l)->C (.ref t)):C a:=i.MS (λh1 M h2 h3 h4=>k _ _ ⟨_,q.get h1,h2,_,h3⟩ h4) i
@[elab_as_elim] theorem nC {C:Value->Prop}{j:Nat}{c:ao}(i:q.iv a (.ref j))(e:q.Y[j]?=some c)(k:∀t o,q.ρ[j]?=some t->(t,o)∈q.Z->cV q.ρ q.Z c o->C (.ref t)):C a:=i.QI λh1=>by
 exact de (q.rep.cell j _ h1) λM o h2 h3 h4=>k _ o h1 h3<|aU (h2.symm.trans e)▸h4
variable {Y:af} {j:Nat}
theorem IB {l:aH}(e:wo Y j=some l):Y[j]?=some (.list l):=by
 unfold wo at e;cases h:Y[j]? with
 |none=>rw[h] at e;exact fP e
 |some c=>
  rw[h] at e;cases c with
  |list l'=>exact bJ (λl=>some<|ao.list l)<|aU e
  |_=>exact fP e
theorem C0 {l:iP}(e:Pc Y j=some l):Y[j]?=some (.dict l):=by
 unfold Pc at e;cases h:Y[j]? with
 |none=>rw[h] at e;exact fP e
 |some c=>
  rw[h] at e;cases c with
  |dict l'=>exact bJ (λl=>some<|ao.dict l)<|aU e
  |_=>exact fP e
theorem rb {α:Type}{g:ao->Option α}{r:α}(e:yH Y j g=some r):∃c,Y[j]?=some c/\g c=some r:=by
 unfold yH at e;cases h:Y[j]? with
 |none=>rw[h] at e;exact fP e
 |some c=>rw[h] at e;exact bF c rfl e
@[elab_as_elim] theorem rc {C:Value->Prop}{j:Nat}{l:aH}(i:q.iv a (.ref j))(e:wo q.Y j=some l)(k:∀t vs n,q.ρ[j]?=some t->(t,PySem.W.listOf vs n)∈q.Z->q.pJ vs.toList l->C (.ref t)):C a:=nC i (IB e) λt o h1 h3 h4=>by
 obtain⟨vs,n,e,hi⟩:=h4;exact k t vs n h1 (e▸h3) hi
theorem St.isList (q:St f){t:Addr}{vs:Array Value}{n:Nat}(h:(t,PySem.W.listOf vs n)∈q.Z):q.h.IsList t vs:=⟨_,(q.news _ h).1,rfl,n,rfl⟩
@[elab_as_elim] theorem iI {C:Value->Prop}{l:aH}(i:q.iv a x)(e:jJ.listOf q.Y x=some l)(k:∀t vs,q.h.IsList t vs.toArray->q.pJ vs l->C (.ref t)):C a:=by
 cases x with
 |gl l'=>exact i.YU λh1 h2 h3 h4=>k _ _ ⟨_,q.s8 _ _ h1,h2,_,h3⟩<|(aU e:l'=l)▸h4
 |ref j=>exact rc i e λt vs n M h3 hi=>k t _ (q.isList h3) hi
 |_=>exact fP e
theorem gQ {ρ:List Addr}{Z:Led}{IC QM:List Value}{oj wL:aH}(bA:cr ρ Z IC oj)(eG:cr ρ Z QM wL):cr ρ Z (IC++QM) (oj++wL):=by
 induction oj generalizing IC with
 |nil=>rw[bA.kg];exact eG
 |cons x r ih=>exact bA.eF λa t=>.cons a<|ih t
theorem mB {i:Int}(h:fK i=true):Builtin.Int.intBits i<=64:=by
 have h:=gb.mp h;have h1:=l8 h.1;have h2:=l8 h.2;unfold Builtin.Int.intBits;split
 ·exact aO rfl
 ·next hz=>
  have:i.natAbs.log2<32:=(Nat.log2_lt (by simpa using hz:i.natAbs≠0)).mpr (by omega);exact cb ‹_› rfl
@[elab_as_elim] theorem aF.qZ {C:List Value->Prop}{g:V->Res V}(is:q.pJ us vs)(P:aF bH q (qZ vs g) Q E)(k:∀u v,q.iv u v->aF bH q (g v) Q E->C [u]):C us:=by
 cases vs with
 |nil=>exact P.elim
 |cons v r=>
  cases r with
  |nil=>exact is.eF λi t=>t.kg▸k _ _ i P
  |cons _ _=>exact P.elim
@[elab_as_elim] theorem aF.Xr {C:List Value->Prop}{g:V->V->Res V}(is:q.pJ us vs)(P:aF bH q (Xr vs g) Q E)(k:∀u v u' v',q.iv u v->q.iv u' v'->aF bH q (g v v') Q E->C [u,u']):C us:=by
 cases vs with
 |nil=>exact P.elim
 |cons v r=>exact is.eF λi t=>aF.qZ t P λM M j P=>k _ _ _ _ i j P
@[elab_as_elim] theorem aF.ot {C:Value->Prop}{g:Int->Res V}(i:q.iv u v)(P:aF bH q (ot v g) Q E)(k:∀i t,aF bH q (g i) Q E->C (.int i t)):C u:=by
 cases v with
 |int n=>exact i.tR λt=>k _ t P
 |_=>exact P.elim
@[elab_as_elim] theorem aF.Xq {C:Value->Prop}{g:Bool->Res V}(i:q.iv u v)(P:aF bH q (Xq v g) Q E)(k:∀i,aF bH q (g i) Q E->C (.bool i)):C u:=by
 cases v with
 |bool n=>exact i.AC▸k _ P
 |_=>exact P.elim
@[elab_as_elim] theorem aF.Ie {C:Value->Prop}{g:Nat->Res V}(i:q.iv u v)(P:aF bH q (Ie v g) Q E)(k:∀i a,q.ρ[i]?=some a->aF bH q (g i) Q E->C (.ref a)):C u:=by
 cases v with
 |ref n=>exact i.QI λh=>k _ _ h P
 |_=>exact P.elim
@[elab_as_elim] theorem aF.zU {C:Value->Prop}{g:Str->Res V}(i:q.iv u v)(P:aF bH q (zU v g) Q E)(k:∀i t,aF bH q (g i) Q E->C (.str i t)):C u:=by
 cases v with
 |str n=>exact i.qw λt=>k _ t P
 |_=>exact P.elim
theorem aF.Ti {C:Prop}{g:List V->Res V}(i:q.iv u v)(P:aF bH q (Ti v g) Q E)(k:∀l,q.iv u (.U l)->aF bH q (g l) Q E->C):C:=by
 cases v with
 |U l=>exact k l i P
 |_=>exact P.elim
theorem aF.ifs {α β:Type}{R:Rl α β}{Q:α->Shared->Prop}{C p:Prop}[Decidable p]{r:Res β}(P:aF R q (if p then r else .stuck) Q E)(k:p->aF R q r Q E->C):C:=by
 by_cases h:p
 ·rw[if_pos h] at P;exact k h P
 ·rw[if_neg h] at P;exact P.elim
theorem aF.fL {α β γ:Type}{R:Rl α β}{Q:α->Shared->Prop}{C:Prop}{o:Option γ}{g:γ->Res β}(P:aF R q (fL o g) Q E)(k:∀r,o=some r->aF R q (g r) Q E->C):C:=by
 cases o with
 |none=>exact P.elim
 |some r=>exact k r rfl P
theorem aF.qu {C:Prop}{g:List V->Res V}{i:Nat}{d:Addr}(hr:q.ρ[i]?=some d)(P:aF bH q (qu q.Y i g) Q E)(k:∀l vs n,(d,PySem.W.listOf vs n)∈q.Z->q.pJ vs.toList l->aF bH q (g l) Q E->C):C:=P.fL λl e P=>by
 refine de (q.rep.cell i d hr) λM o h2 h3 h4=>?_;obtain⟨vs,n,e,hi⟩:=aU (h2.symm.trans<|IB e)▸h4;exact k l vs n (e▸h3) hi P
theorem aF.qr {C:Prop}{g:List (Str × V)->Res V}{i:Nat}{d:Addr}(hr:q.ρ[i]?=some d)(P:aF bH q (qr q.Y i g) Q E)(k:∀o l kvs,(d,o)∈q.Z->o.IsDictOf (PySem.strKind prog w) kvs->ky q.ρ q.Z kvs l->aF bH q (g l) Q E->C):C:=P.fL λl e P=>by
 refine de (q.rep.cell i d hr) λM o h2 h3 h4=>?_;obtain⟨kvs,hd,hk⟩:=aU (h2.symm.trans<|C0 e)▸h4;exact k o l kvs h3 hd hk P
theorem QN (ia:q.iv a x)(ib:q.iv b y)(P:aF bH q (jJ q.Y .Add x y) Q E):wpAny Mo f.A (binaryOp .Add a b) Q E q.s:=by
 have cat:aF bH q (Ig q.Y x y) Q E->wpAny Mo f.A (binaryOp .Add a b) Q E q.s:=λP=>by
  unfold Ig at P;refine P.fL λl q1 P=>P.fL λr q2 P=>P.ifs λhl P=>iI ia q1 λt vs ht hi=>iI ib q2 λt' ws Hx hj=>?_;exact add_lists q.fr q.news ht Hx (λh' F' N'=>P.Pj q.tk F' N'<|gQ hi hj) (by rw[bd hi,bd hj,sizeLine_eq];omega)
 rcases x with _ | _ | i | x | l | l | _ | i
 ·exact P.elim
 ·exact P.elim
 ·exact ia.tR λt=>aF.ot ib P λj t' P=>add_int<|P.same<|.int _ _
 ·refine ia.qw λt=>aF.zU ib P λy t' P=>P.ifs λhl P=>?_;exact add_str (λt' tk=>P.same<|.str _ t') (by rw[sizeLine_eq];omega)
 ·refine aF.Ti ib P λr ib P=>P.ifs λhl P=>fU ia λt vs ht hi ia=>fU ib λt' ws Hx hj ib=>?_;refine add_tuples q.fr q.news ht Hx ?_ ?_ ?_ (by rw[bd hi,bd hj,sizeLine_eq];omega)
  ·exact λe=>P.here (by rw[e] at hi;rw[qS (bd hi).symm];exact ib)
  ·exact λM e=>P.here (by rw[e] at hj;rw[qS (bd hj).symm,gI];exact ia)
  ·intro _ _ h' F' N';exact P.fin q.tk F' N' (q.rep.hide q.cW) (.hide q.cW q.rep)<|.U (.inl<|.head _) (q.rep.mU q.cW) rfl rfl<|(gQ hi hj).ext (.hide q.cW q.rep) bK q.rep.apart
 ·exact cat P
 ·exact P.elim
 ·exact cat P
theorem UX {op:Operator}(ia:q.iv a x)(ib:q.iv b y)(P:aF bH q (jJ q.Y op x y) Q E):wpAny Mo f.A (binaryOp op a b) Q E q.s:=by
 have two:∀{g:Int->Int->Res V},aF bH q (ot x λi=>ot y λj=>g i j) Q E->(∀i t j t',aF bH q (g i j) Q E->wpAny Mo f.A (binaryOp op (.int i t)<|.int j t') Q E q.s)->wpAny Mo f.A (binaryOp op a b) Q E q.s:=λP k=>
  aF.ot ia P λi t P=>aF.ot ib P λj t' P=>k i t j t' P
 cases op with
 |Add=>exact QN ia ib P
 |Sub=>exact two P λi t j t' P=>sub_int<|P.same<|.int _ _
 |Mult=>
  rcases x with _ | _ | i | _ | l | _ | _ | _<;>first | exact P.elim | skip
  ·refine ia.tR λt=>aF.ot ib P λj t P=>P.ifs λhs P=>aZ (Bool.or_eq_true_iff.mp hs) (λh=>?_) λh=>?_
   ·exact mul_int (P.same<|.int _ _)<|IntMulOk.of_left<|mB h
   ·exact mul_int (P.same<|.int _ _)<|IntMulOk.of_right<|mB h
  ·refine aF.ot ib P λj tj P=>P.ifs λhj P=>fU ia λt vs ht hi it=>?_;refine aN (w5.mp<|(bd hi).trans hj.1) λz eA=>?_;subst eA;rcases hj.2 with rfl | rfl | rfl
   ·exact Iz ht<|P.U q.tk .nil
   ·exact IA ht<|P.here it
   ·exact Iy ht<|P.U q.tk<|gQ hi hi
 |Mod=>exact two P λi t j t' P=>P.ifs λhb P=>mod_int' (Int.ne_of_gt hb)<|P.same<|.int _ _
 |FloorDiv=>exact two P λi t j t' P=>P.ifs λhb P=>floordiv_int (Int.ne_of_gt hb.1) (P.same<|.int _ _)<|.inl<|PyProof.noPylong_small<|by omega
 |Pow=>exact two P λi t j t' P=>P.ifs λhb P=>pow_int_small hb.1 (by omega) (by omega)<|P.same<|.int _ _
 |_=>exact P.elim
end
theorem tb:isSubtype (.type "tuple") (.type "tuple")=pure true:=by rw[isSubtype_type];lk
theorem vb:isSubtype (.type "list") (.type "list")=pure true:=by rw[isSubtype_type];lk
section
variable {A:Around} {s:Shared} {Q E:dz} {a b:Addr} {vs ws:List Value}
variable {P:Fin->Shared->Prop}
theorem AG (hx:IsTup s.heap a vs.toArray)(hy:IsTup s.heap b ws.toArray)(dZ:vs.isEmpty≠ws.isEmpty)(h:P (.done<|.ret<|.bool false) s):
  wpAny Mo A (Builtin.«tuple.__eq__» ⟨[.ref a,.ref b],[]⟩) P E s:=by
 have LO:=hy.typeIs;obtain⟨oa,SO,_,na,SP⟩:=hx;obtain⟨ob,zX,_,nb,SQ⟩:=hy;show wpAny _ _ (isInstance (.ref b) (.type "tuple") >>= _) _ _ s;refine aw<|wpAny_isInstance LO tb ?_
 simp only[Bool.not_true,Bool.false_eq_true,if_false];refine aw<|wpAny_tupleItemsOf SO SP ?_
 refine aw<|wpAny_tupleItemsOf zX SQ ?_
 have hz:vs.toArray.toList.zip ws.toArray.toList=[]:=by
  cases vs<;>cases ws<;>simp at dZ⊢
 have hs:(vs.toArray.size==ws.toArray.size)=false:=by
  cases vs<;>cases ws<;>simp at dZ⊢
 rw[hz];refine aw<|aW ?_
 refine aW ?_;show P (.done<|.ret<|.bool (vs.toArray.size==ws.toArray.size)) s;rw[hs];exact h
theorem AH (hx:IsTup s.heap a vs.toArray)(hy:IsTup s.heap b ws.toArray)(dZ:vs.isEmpty≠ws.isEmpty)(h:P (.done<|.ret<|.bool true) s):
  wpAny Mo A (Builtin.«tuple.__ne__» ⟨[.ref a,.ref b],[]⟩) P E s:=by
 have LO:=hy.typeIs;obtain⟨oa,SO,_,na,SP⟩:=hx;obtain⟨ob,zX,_,nb,SQ⟩:=hy;show wpAny _ _ (isInstance (.ref b) (.type "tuple") >>= _) _ _ s;refine aw<|wpAny_isInstance LO tb ?_
 simp only[Bool.not_true,Bool.false_eq_true,if_false];refine aw<|wpAny_tupleItemsOf SO SP ?_
 refine aw<|wpAny_tupleItemsOf zX SQ ?_
 have hz:vs.toArray.toList.zip ws.toArray.toList=[]:=by
  cases vs<;>cases ws<;>simp at dZ⊢
 have hs:(vs.toArray.size != ws.toArray.size)=true:=by
  cases vs<;>cases ws<;>simp at dZ⊢
 rw[hz];refine aw<|aW ?_
 refine aW ?_;show P (.done<|.ret<|.bool<|vs.toArray.size != ws.toArray.size) s;rw[hs];exact h
theorem ID (hu:A.units<cLine)(hx:IsTup s.heap a vs.toArray)(hy:IsTup s.heap b ws.toArray)(dZ:vs.isEmpty≠ws.isEmpty)(h:Q (.bool false) s):wpAny Mo A (compareOp .Eq (.ref a)<|.ref b) Q E s:=
 cmp_ofEq (wpAny_richCompare_same_room hx.typeIs hy.typeIs F.slot_tuple_eq (wpAny_call_entry F.slot_tuple_eq hx.typeIs F.entry_tuple_eq (AG hx hy dZ ⟨_,rfl,(λe=>nomatch e),h⟩)<|F.args_tuple_eq_2 _ _) hu)
theorem IE (hu:A.units<cLine)(hx:IsTup s.heap a vs.toArray)(hy:IsTup s.heap b ws.toArray)(dZ:vs.isEmpty≠ws.isEmpty)(h:Q (.bool true) s):wpAny Mo A (compareOp .NotEq (.ref a)<|.ref b) Q E s:=
 cmp_ofNotEq (wpAny_richCompare_same_room hx.typeIs hy.typeIs F.slot_tuple_ne (wpAny_call_entry F.slot_tuple_ne hx.typeIs F.entry_tuple_ne (AH hx hy dZ ⟨_,rfl,(λe=>nomatch e),h⟩)<|F.args_tuple_ne_2 _ _) hu)
theorem yP (hx:s.heap.IsList a vs.toArray)(hy:s.heap.IsList b ws.toArray)(dZ:vs.isEmpty≠ws.isEmpty)(h:P (.done<|.ret<|.bool false) s):
  wpAny Mo A (Builtin.«list.__eq__» ⟨[.ref a,.ref b],[]⟩) P E s:=by
 have LO:s.TypeIs (.ref b) "list":=let ⟨o,ho,hc,_⟩:=hy;⟨o,ho,hc⟩;have hs:(vs.toArray.size != ws.toArray.size)=true:=by
  cases vs<;>cases ws<;>simp at dZ⊢
 obtain⟨oa,SO,_,na,SP⟩:=hx;obtain⟨ob,zX,_,nb,SQ⟩:=hy;show wpAny _ _ (isInstance (.ref b) (.type "list") >>= _) _ _ s;refine aw<|wpAny_isInstance LO vb ?_
 simp only[Bool.not_true,Bool.false_eq_true,if_false];refine aw<|wpAny_listItems SO SP ?_
 refine aw<|wpAny_listItems zX SQ ?_
 rw[hs];simp only[if_true];exact aw<|wpAny_rule<|aW h
theorem F6 (hu:A.units<cLine)(hx:s.heap.IsList a vs.toArray)(hy:s.heap.IsList b ws.toArray)(dZ:vs.isEmpty≠ws.isEmpty)(h:Q (.bool false) s):wpAny Mo A (compareOp .Eq (.ref a)<|.ref b) Q E s:=
 have WM:=let ⟨o,ho,hc,_⟩:=hx;⟨o,ho,hc⟩;have LO:=let ⟨o,ho,hc,_⟩:=hy;⟨o,ho,hc⟩
 cmp_ofEq (wpAny_richCompare_same_room WM LO F.slot_list_eq (wpAny_call_entry F.slot_list_eq WM F.entry_list_eq (yP hx hy dZ ⟨_,rfl,(λe=>nomatch e),h⟩)<|F.args_list_eq_2 _ _) hu)
theorem yQ (hx:s.heap.IsList a vs.toArray)(hy:s.heap.IsList b ws.toArray)(dZ:vs.isEmpty≠ws.isEmpty)(h:P (.done<|.ret<|.bool true) s):
  wpAny Mo A (Builtin.«list.__ne__» ⟨[.ref a,.ref b],[]⟩) P E s:=by
 have LO:s.TypeIs (.ref b) "list":=let ⟨o,ho,hc,_⟩:=hy;⟨o,ho,hc⟩;have hs:(vs.toArray.size != ws.toArray.size)=true:=by
  cases vs<;>cases ws<;>simp at dZ⊢
 obtain⟨oa,SO,_,na,SP⟩:=hx;obtain⟨ob,zX,_,nb,SQ⟩:=hy;show wpAny _ _ (isInstance (.ref b) (.type "list") >>= _) _ _ s;refine aw<|wpAny_isInstance LO vb ?_
 simp only[Bool.not_true,Bool.false_eq_true,if_false];refine aw<|wpAny_listItems SO SP ?_
 refine aw<|wpAny_listItems zX SQ ?_
 rw[hs];simp only[if_true];exact aw<|wpAny_rule<|aW h
theorem F7 (hu:A.units<cLine)(hx:s.heap.IsList a vs.toArray)(hy:s.heap.IsList b ws.toArray)(dZ:vs.isEmpty≠ws.isEmpty)(h:Q (.bool true) s):wpAny Mo A (compareOp .NotEq (.ref a)<|.ref b) Q E s:=
 have WM:=let ⟨o,ho,hc,_⟩:=hx;⟨o,ho,hc⟩;have LO:=let ⟨o,ho,hc,_⟩:=hy;⟨o,ho,hc⟩
 cmp_ofNotEq (wpAny_richCompare_same_room WM LO F.slot_list_ne (wpAny_call_entry F.slot_list_ne WM F.entry_list_ne (yQ hx hy dZ ⟨_,rfl,(λe=>nomatch e),h⟩)<|F.args_list_ne_2 _ _) hu)
end
section
variable {f:Fz} {q:St f} {Q E:dz} {a b:Value} {x y:V} {r:Bool}
theorem jC {α β:Type}{C:Prop}{o:Option α}{g:α->Option β}{r:β}(e:o.bind g=some r)(k:∀a,o=some a->g a=some r->C):C:=by
 cases o with
 |none=>exact fP e
 |some a=>exact k a rfl e
theorem rf {α β:Type}{C:Prop}{o:Option α}{g:α->β}{r:β}(e:o.map g=some r)(k:∀a,o=some a->g a=r->C):C:=by
 cases o with
 |none=>exact fP e
 |some a=>exact k a rfl<|aU e
theorem C1 {α:Type}{C p:Prop}[Decidable p]{o:Option α}{r:α}(e:(if p then o else none)=some r)(k:p->o=some r->C):C:=by
 by_cases h:p
 ·rw[if_pos h] at e;exact k h e
 ·rw[if_neg h] at e;exact fP e
theorem UY {a b:Option Bool}{C:Prop}(e:L6 a b=some r)(k₁:a=some r->C)(k₂:b=some r->C):C:=by
 cases a with
 |none=>exact k₂ e
 |some x=>exact k₁ e
theorem r5 {h:Heap}{g:V->Option PyData}(one:∀{u v d},q.iv u v->g v=some d->∃as,Reads h u d as):∀{vs:aH} {us:List Value} {ds:List PyData},q.pJ us vs->qp g vs=some ds->∃as,ReadsAll h us ds as:=by
 intro vs
 induction vs with
 |nil=>intro us ds i e;rw[i.kg,<-(aU e:[]=ds)];exact⟨_,.nil⟩
 |cons v r ih=>
  intro us ds i e;refine i.eF λi t=>jC e λd e1 e=>rf e λl e2 e=>?_;rw[<-e];exact aN (one i e1) λas ha=>aN (ih t e2) λbs hb=>⟨_,.cons ha hb⟩
theorem rh:∀(k:Nat) {u:Value} {v:V} {d:PyData},q.iv u v->dL q.Y k v=some d->∃as,Reads q.h u d as:=by
 intro k
 induction k with
 |zero=>exact λM e=>fP e
 |succ k one=>
  intro u v d i e;cases v with
  |none=>rw[i.xg,<-(aU e:PyData.none=d)];exact⟨_,.none⟩
  |bool b=>rw[i.AC,<-(aU e:PyData.bool b=d)];exact⟨_,.bool b⟩
  |int j=>rw[<-(aU e:PyData.int j=d)];exact i.tR λt=>⟨_,.int j t⟩
  |str s=>rw[<-(aU e:PyData.str s=d)];exact i.qw λt=>⟨_,.str s t⟩
  |U l=>
   refine rf e λds e1 e=>?_;rw[<-e];exact i.MS λh1 M h3 h4 h5=>aN (r5 one h5 e1) λas hr=>⟨_,.tuple (q.get h1) h3 h4 hr⟩
  |gl l=>
   refine rf e λds e1 e=>?_;rw[<-e];exact i.YU λh1 h3 h4 h5=>aN (r5 one h5 e1) λas hr=>⟨_,.list (q.s8 _ _ h1) h3 h4 hr⟩
  |rng _ _=>exact fP e
  |ref j=>
   refine jC e λl e0 e=>rf e λds e1 e=>?_;rw[<-e];exact rc i e0 λt vs n M h3 hi=>aN (r5 one hi e1) λas hr=>⟨_,.list (q.news _ h3).1 rfl rfl hr⟩
@[elab_as_elim] theorem ug {C:Value->Prop}{kl:Bool × aH}(i:q.iv a x)(e:kC q.Y x=some kl)(k:∀t vs,(kl.1=true->IsTup q.h t vs.toArray)->(kl.1=false->q.h.IsList t vs.toArray)->q.pJ vs kl.2->C (.ref t)):C a:=by
 cases x with
 |U l=>rw[<-(aU e:(true,l)=kl)] at k;exact fU i λt vs h1 h2 M=>k t vs (λM=>h1) (λe=>nomatch e) h2
 |gl l=>rw[<-(aU e:(false,l)=kl)] at k;exact iI i rfl λt vs h1 h2=>k t vs (λe=>nomatch e) (λM=>h1) h2
 |ref j=>exact rf e λl e1 e=>by rw[<-e] at k;exact iI i e1 λt vs h1 h2=>k t vs (λe=>nomatch e) (λM=>h1) h2
 |_=>exact fP e
theorem vc {ρ:List Addr}{Z:Led}{u:List Value}{v:aH}(i:cr ρ Z u v):u.isEmpty=v.isEmpty:=by
 cases v with
 |nil=>rw[i.kg];rfl
 |cons x r=>exact i.eF λM M=>rfl
noncomputable abbrev nx (ne r:Bool):Bool:=cond ne (!r) r
noncomputable abbrev eqs (ne:Bool):CmpOp:=cond ne .NotEq .Eq
theorem IF (q:St f):f.A.units+200<cLine:=lm (nY (ej _ _) 200) q.ok.units
theorem lI {k:Nat}(q:St f)(h:k<=200):f.A.units+k<cLine:=lm (uC h _)<|IF q
theorem ri (q:St f):f.A.in1.units<cLine:=by rw[units_in1];exact lI q (by lk)
theorem eqD {ne:Bool}(ia:q.iv a x)(ib:q.iv b y)(e:yG q.Y x y=some r)(P:Q (.bool<|nx ne r) q.s):wpAny Mo f.A (compareOp (eqs ne) a b) Q E q.s:=
 jC e λd1 q1 e=>jC e λd2 q2 e=>C1 e λhs e=>by
  rw[<-(aU e:PyData.eqv d1 d2=r)] at P;refine aN (rh 12 ia q1) λas h1=>aN (rh 12 ib q2) λbs h2=>?_;have hs:=gb.mp hs;cases ne with
  |false=>exact eq_dataH h1 h2 hs.1 hs.2 (lI q<|by lk) P
  |true=>exact ne_dataH h1 h2 hs.1 hs.2 (lI q<|by lk) P
theorem eqE {ne:Bool}(ia:q.iv a x)(ib:q.iv b y)(e:wE q.Y x y=some r)(P:Q (.bool<|nx ne r) q.s):wpAny Mo f.A (compareOp (eqs ne) a b) Q E q.s:=
 jC e λd1 q1 e=>jC e λd2 q2 e=>C1 e λhc e=>by
  rw[<-(aU e:false=r)] at P;refine ug ia q1 λt vs h1 h2 h3=>ug ib q2 λt' ws WN Tq h3'=>?_;have hc:=gb.mp hc;have dZ:vs.isEmpty≠ws.isEmpty:=by rw[vc h3,vc h3'];simpa using hc.2
  have hu:=lI (k:=0) q (by lk);rw[((eq_of_beq hc.1).symm:d2.1=d1.1)] at WN Tq;cases hk:d1.1 with
  |true=>cases ne with
   |false=>exact ID hu (h1 hk) (WN hk) dZ P
   |true=>exact IE hu (h1 hk) (WN hk) dZ P
  |false=>cases ne with
   |false=>exact F6 hu (h2 hk) (Tq hk) dZ P
   |true=>exact F7 hu (h2 hk) (Tq hk) dZ P
theorem eqS {ne:Bool}(ia:q.iv a x)(ib:q.iv b y)(e:Us x y=some r)(P:Q (.bool<|nx ne r) q.s):wpAny Mo f.A (compareOp (eqs ne) a b) Q E q.s:=by
 cases x with
 |str s=>
  cases y with
  |str t=>
   rw[<-(aU e:decide (s=t)=r)] at P;refine ia.qw λM=>ib.qw λM=>?_;cases ne with
   |false=>exact PyProof.Rows.eq_str P
   |true=>exact PyProof.Rows.ne_str P
  |_=>exact fP e
 |_=>exact fP e
end
section
variable {ρ:List Addr} {Z:Led} {f:Fz} {q:St f} {Q E:dz} {a b u:Value} {x y v:V} {r:Bool}
theorem xk:∀{l:aH} {ks:db},eU l=some ks->ks.map V.str=l:=by
 intro l
 induction l with
 |nil=>intro ks e;rw[<-(aU e:[]=ks)];rfl
 |cons v r ih=>
  intro ks e;cases v with
  |str t=>exact rf e λk e1 e=>by rw[<-e,eM,ih e1]
  |_=>exact fP e
theorem AI:∀{ks:db} {vs:List Value},cr ρ Z vs (ks.map .str)->StrsAre vs ks:=by
 intro ks
 induction ks with
 |nil=>exact λh=>by rw[h.kg];exact .nil
 |cons k r ih=>exact λh=>cr.eF h λi t=>i.qw λM=>.cons _ _<|ih t
theorem qx {vs:List Value}{l:aH}{ks:db}(e:eU l=some ks)(i:cr ρ Z vs l):StrsAre vs ks:=AI<|xk e▸i
theorem IG (s:Str):∀ts:db,jy s ts=ts.any (· ==s):=by
 intro ts
 induction ts with
 |nil=>rfl
 |cons t r ih=>rw[jy,ih];rfl
noncomputable abbrev ins (ne:Bool):CmpOp:=cond ne .NotIn .In
variable {ne:Bool}
theorem inO (ia:q.iv a x)(ib:q.iv b y)(e:Ax q.Y x y=some r)(P:Q (.bool<|nx ne r) q.s):wpAny Mo f.A (compareOp (ins ne) a b) Q E q.s:=
 jC e λcc q1 e=>jC e λd q2 e=>by
  refine aN (rh 12 ib q1) λas h1=>aN (rh 12 ia q2) λbs h2=>?_;have room:∀xs:List PyData,d.depth<=64->f.A.units+1+min (PyData.depthAll xs) d.depth<cLine:=λxs h=>
   Nat.add_assoc _ _ _▸lI q (eo (uC (eo (Nat.min_le_right _ _) h) 1)<|by lk)
  cases cc with
  |tuple xs=>
   refine C1 e λhs e=>?_;have hs:=gb.mp hs;have OW:=gb.mp hs.1;rw[<-aU e] at P;cases ne with
   |false=>exact SeqAt.in_tuple_reads h1 h2 OW.1 OW.2 (room xs<|l8 hs.2) P
   |true=>exact SeqAt.notIn_tuple_reads h1 h2 OW.1 OW.2 (room xs<|l8 hs.2) P
  |list xs=>
   refine C1 e λhs e=>?_;have hs:=gb.mp hs;have OW:=gb.mp hs.1;rw[<-aU e] at P;cases ne with
   |false=>exact SeqAt.in_list_reads h1 h2 OW.1 OW.2 (room xs<|l8 hs.2) P
   |true=>exact SeqAt.notIn_list_reads h1 h2 OW.1 OW.2 (room xs<|l8 hs.2) P
  |_=>exact fP e
theorem inS (ia:q.iv a x)(ib:q.iv b y)(e:FP q.Y x y=some r)(P:Q (.bool<|nx ne r) q.s):wpAny Mo f.A (compareOp (ins ne) a b) Q E q.s:=by
 cases x with
 |str s=>
  refine jC e λkl e1 e=>rf e λts e2 e=>?_;rw[<-e,IG] at P;refine ug ib e1 λt vs h1 h2 h3=>ia.qw λM=>?_;have hs:=qx e2 h3;cases hk:kl.1 with
  |true=>cases ne with
   |false=>exact in_tuple_strs (h1 hk) hs P
   |true=>exact notin_tuple_strs (h1 hk) hs P
  |false=>cases ne with
   |false=>exact in_list_strs (h2 hk) hs P
   |true=>exact notin_list_strs (h2 hk) hs P
 |_=>exact fP e
theorem inD (ia:q.iv a x)(ib:q.iv b y)(e:Th q.Y x y=some r)(P:Q (.bool<|nx ne r) q.s):wpAny Mo f.A (compareOp (ins ne) a b) Q E q.s:=
 UY e (λe=>inS ia ib e P) λe=>inO ia ib e P
theorem oW {l:aH}{vs:List Value}{j:Nat}(i:cr ρ Z vs l):l[j]?=some v->∃u,vs[j]?=some u/\bH ρ Z u v:=by
 induction l generalizing vs j with
 |nil=>exact λe=>fP e
 |cons x l ih=>
  refine i.eF λh t=>?_;cases j with
  |zero=>exact λe=>⟨_,rfl,aU e▸h⟩
  |succ j=>exact λe=>ih (j:=j) t e
section
variable {α:Type} [DecidableEq α] {k:α}
theorem F8 (k k':α)(x:V)(l:List (α × V)):aM ((k',x)::l) k=if k'=k then some x else aM l k:=by
 unfold aM;rw[List.find?_cons];by_cases h:k'=k
 ·rw[if_pos h,eE h];rfl
 ·rw[if_neg h,fy h]
theorem nD (k k':α)(x:Value)(l:List (α × Value)):valueAt ((k',x)::l) k=if k'=k then some x else valueAt l k:=by
 unfold valueAt;rw[List.find?_cons];by_cases h:k'=k
 ·rw[if_pos h,eE h];rfl
 ·rw[if_neg h,fy h]
variable {l:List (α × V)} {kvs:List (α × Value)}
theorem r6 (i:ky ρ Z kvs l):(aM l k=none/\valueAt kvs k=none)∨∃v u,aM l k=some v/\valueAt kvs k=some u/\bH ρ Z u v:=by
 induction i with
 |nil=>exact .inl ⟨rfl,rfl⟩
 |@cons k' u x r t i _ ih=>
  rw[F8,nD];by_cases h:k'=k
  ·rw[if_pos h,if_pos h];exact .inr<|fc _ _ rfl rfl i
  ·rw[if_neg h,if_neg h];exact ih
theorem Eu (i:ky ρ Z kvs l)(e:aM l k=some v):∃u,valueAt kvs k=some u/\bH ρ Z u v:=by
 refine aZ (r6 (k:=k) i) (λUV=>?_) λYY=>?_
 ·refine cR UV λe1 _=>?_;rw[e] at e1;exact fP e1.symm
 ·exact de YY λv' u e1 e2 e3=>bF u e2<|aU (e1.symm.trans e)▸e3
theorem IH (i:ky ρ Z kvs l)(e:aM l k=none):valueAt kvs k=none:=by
 refine aZ (r6 (k:=k) i) (λYZ=>?_) λY0=>?_
 ·exact cR YZ λ_ e2=>e2
 ·refine gG Y0 λv' u e1 _=>?_;rw[e] at e1;exact fP e1
theorem vd (i:ky ρ Z kvs l):(valueAt kvs k).isSome=(aM l k).isSome:=by
 rcases r6 i with ⟨e1,e2⟩ | ⟨v',u,e1,e2,_⟩<;>rw[e1,e2]<;>rfl
end
variable {ks:db}
theorem itemsAre {l:aH}{vs:List Value}(e:eU l=some ks)(i:cr ρ Z vs l):ItemsAre (strKind prog w) ks vs:=by
 have h:=qx e i;clear e i
 induction h with
 |nil=>exact .nil
 |cons _ _ _ ih=>exact .cons (strKind_is _ _ _ _) ih
theorem ve:∀ks:db,eU (ks.map .str)=some ks:=by
 intro ks
 induction ks with
 |nil=>rfl
 |cons k r ih=>show(eU<|r.map .str).map _= _;rw[ih];rfl
theorem isKey {l:aH}{t:Addr}(i:q.iv (.ref t) (.U l))(e:eU l=some ks):IsTupleKey (strKind prog w) q.h ks t:=
 i.MS (C:=λv=>∀t,v=.ref t->IsTupleKey (strKind prog w) q.h ks t) (λh1 M h2 h3 h4 t e'=>Value.ref.inj e'▸⟨_,_,_,q.get h1,h2,h3,itemsAre e h4⟩) t rfl
theorem Pk {l:List (db × V)}{d:Addr}{o:Obj}(hm:(d,o)∈q.Z)(hc:cV q.ρ q.Z (.dictT l) o):∃xs:List (db × Addr × Value),q.h.DictOfH (tupleKind<|strKind prog w) d xs/\ky q.ρ q.Z (xs.map λx=>(x.1,x.2.2)) l:=by
 obtain⟨xs,es,ep,h1,h2,h3,h4,h5,h6⟩:=hc;exact bF xs ⟨o,es,ep,(q.news _ hm).1,h1,h2,h3,λx hx=>isKey (h5 x hx)<|ve _,h4⟩ h6
theorem AJ:∀{xs:List (db × Addr × Value)},(atKey xs ks).map (·.2)=valueAt (xs.map λx=>(x.1,x.2.2)) ks:=by
 intro xs
 induction xs with
 |nil=>rfl
 |cons x r ih=>
  rw[eM,nD,<-ih];unfold atKey;rw[List.find?_cons];by_cases hk:x.1=ks
  ·rw[if_pos hk,eE hk];rfl
  ·rw[if_neg hk,fy hk]
theorem tc {i:Int}(h:fK i=true):-4294967296<i/\i<4294967296:=
 have h:=gb.mp h;⟨l8 h.1,l8 h.2⟩
theorem at0 {bC cC:Expr}{t:Addr}{vs:List Value}{l:aH}(hs:∀o i,subscripted cC false o i=operate [o,i] (getItem o i))(h1:q.h.IsList t vs.toArray)(h2:q.pJ vs l)(ib:q.iv b y)(e:qq y (CL l)=some v)
  (P:∀u fb,q.iv u v->Q u {q.s with toks:=fb}):wpAny Mo f.A (subscriptTail bC cC (.ref t) b) Q E q.s:=by
 cases y with
 |int k=>
  refine C1 e λhk e=>?_;have hk:=gb.mp hk;have h0:=l8 hk.2;have h3:=tc hk.1;refine aJ (oW h2 e) λu hu iu=>?_;exact ib.tR λM=>tail_any h1.typeIs slot_list_getitem.lookup (wpAny_getItem_list h1 h0 (by omega) (by rw[w7];exact hu)<|P u q.tk iu)<|hs _ _
 |_=>exact fP e
theorem UZ {bC cC:Expr}(hs:∀o i,subscripted cC false o i=operate [o,i] (getItem o i))(ia:q.iv a x)(ib:q.iv b y)(e:cq q.Y x y=some v)(P:∀u fb,q.iv u v->Q u {q.s with toks:=fb}):wpAny Mo f.A (subscriptTail bC cC a b) Q E q.s:=by
 cases x with
 |U l=>
  cases y with
  |int k=>
   refine C1 e λhk e=>jC e λj hj e=>fU ia λt vs h1 h2 M=>?_;have h3:=tc hk;refine aJ (oW h2 e) λu hu iu=>?_;exact ib.tR λM=>tail_any h1.typeIs slot_tuple_getitem.lookup (getItem_tuple h1 (by omega) (by omega) (by rw[List.size_toArray,bd h2];exact hj) (by rw[w7];exact hu)<|P u q.tk iu)<|hs _ _
  |_=>exact fP e
 |gl l=>exact iI ia rfl λt vs h1 h2=>at0 hs h1 h2 ib e P
 |ref j=>
  refine aJ (rb e) λc h2 e=>nC ia h2 λd o hr h3 h4=>?_;cases c with
  |list l=>
   obtain⟨vs,nn,ho,hi⟩:=h4;exact at0 hs (q.isList (ho▸h3)) hi ib e P
  |dict l=>
   obtain⟨kvs,hd,hk⟩:=h4;cases y with
   |str t=>
    exact aJ (Eu hk e) λu hu iu=>ib.qw λM=>kdt_tail q.news h3 hd (kdt_getItem q.news h3 hd (strKind_is _ _ _ _) hu<|P u _ iu)<|hs _ _
   |_=>exact fP e
  |dictT l=>
   cases y with
   |U ks=>
    refine jC e λkk e1 e=>aJ (Pk h3 h4) λxs hd hk=>aJ (Eu hk e) λu hu iu=>?_;rw[<-AJ] at hu;refine fU ib λt vs M M ib=>rf hu λp hp hu=>?_;rw[<-hu] at iu;exact tail_any hd.typeIs slot_dict_getitem.lookup (wpAny_getItem_heap (ri q) (isKey ib e1) hd hp<|P _ _ iu)<|hs _ _
   |_=>exact fP e
  |_=>exact fP e
 |_=>exact fP e
end
section
variable {A:Around} {s:Shared} {E:dz} {x C:Addr} {ox:Obj} {od:Option Obj}
theorem xm {name:Str}{id:String}{args:List Value}{Q:Option Value->Shared->Prop}(S:Slot "object" name id)(X:K.In s.heap)(aaM:InstAt s.heap x ox C od)(hs:findIn K (.ref C) name=some (some (.builtin id)))
  (WP:wpAny Mo A (call (.builtin id) (.ref x::args)) (λv=>Q<|some v) E s):wpAny Mo A (callSpecialIfBound? (.ref x) name args) Q E s:=by
 simp only[callSpecialIfBound?,bindSpecialIfBound?];refine dJ<|aw<|aw<|aw<|aaM.type.here<|(looks_findIn X hs).here ?_
 simp only[S.bind];refine aw<|wpAny_askSetting<|wpAny_ite ?_
 have fin:wpAny Mo A (call (.builtin id) ([.ref x]++args) >>= λv=>pure<|some v) Q E s:=
  aw (cE WP (λv s' h'=>aW h') λM M h'=>h')
 split
 ·exact aw<|aW<|aW fin
 ·exact wpAny_tryCatch<|aw<|aW<|aW fin
theorem xn {id owner n:String}{rest:List Value}{Q:Ac}(hk:builtinKind id=some .slot)(hs:splitId id=some (owner,n))(ha:argsOk id ⟨.ref x::rest,[]⟩)(X:K.In s.heap)(aaM:InstAt s.heap x ox C od)
  (zX:subIn K (.ref C) (.type owner)=some true) (hq:Q () s):wpAny Mo A (checkBuiltinCall id ⟨.ref x::rest,[]⟩) Q E s:=by
 simp only[checkBuiltinCall,hk,hs];refine aw ?_
 ·unfold isInstance;refine aw<|aaM.type.here<|(looks_subIn X zX).here ?_
  cases hsig:Manifest.signature? id with
  |none=>exact aW hq
  |some sig=>
   simp only[argsOk,hsig] at ha;have h2:=ha;show wpAny Mo A (Bind.checkArgs id sig ⟨.ref x::rest,[]⟩) Q E _;rw[h2];exact aW hq
variable {t:Str} {k:Tok}
theorem II {Q:Fin->Shared->Prop}(hq:Q (.done<|.ret .notImplemented) s):wpAny Mo A (Builtin.«object.__eq__» ⟨[.ref x,.str t k],[]⟩) Q E s:=by
 repeat (first | wp_step)
 exact hq
theorem special_eq {Q:Option Value->Shared->Prop}(X:K.In s.heap)(aaM:InstAt s.heap x ox C od)(hs:findIn K (.ref C) "__eq__"=some (some (.builtin "object.__eq__")))(zX:subIn K (.ref C) (.type "object")=some true)(hq:Q (some .notImplemented) s):
  wpAny Mo A (callSpecialIfBound? (.ref x) "__eq__" [.str t k]) Q E s:=
 xm F.cmp_object.eq X aaM hs (wpAny_call<|codeAny_call_builtin F.cmp_object.eq.plain F.cmpEntry_eq<|xn F.cmpKind_eq F.cmpSplit_eq (F.cmpArgs_eq _ _) X aaM zX<|II hq)
theorem QO {Q:Option Value->Shared->Prop}(X:K.In s.heap)(aaM:InstAt s.heap x ox C od)(hs:findIn K (.ref C) "__eq__"=some (some (.builtin "object.__eq__")))(zX:subIn K (.ref C) (.type "object")=some true)(hq:Q none s):
  wpAny Mo A (tryCompare (.ref x) "__eq__" (.str t k)) Q E s:=by
 simp only[tryCompare];exact aw<|special_eq X aaM hs zX<|aW hq
theorem QP {Q:Option Value->Shared->Prop}(X:K.In s.heap)(aaM:InstAt s.heap x ox C od)(hs:findIn K (.ref C) "__eq__"=some (some (.builtin "object.__eq__")))(Cj:findIn K (.ref C) "__ne__"=some (some (.builtin "object.__ne__")))(zX:subIn K (.ref C) (.type "object")=some true)(hu:A.units+1<cLine)(hq:Q none s):
  wpAny Mo A (tryCompare (.ref x) "__ne__" (.str t k)) Q E s:=by
 simp only[tryCompare];refine aw<|xm F.cmp_object.ne X aaM Cj<|wpAny_call<|codeAny_call_builtin F.cmp_object.ne.plain F.cmpEntry_ne<|xn F.cmpKind_ne F.cmpSplit_ne (F.cmpArgs_ne _ _) X aaM zX ?_
 repeat (first | with_reducible refine wpAny_cRoomFor hu ?_ | with_reducible refine special_eq X aaM hs zX ?_ | wp_step)
 exact hq
end
theorem AK (t:Str)(k:Tok)(x C ad:Addr):Meets (Builtin.«str.__eq__» ⟨[.str t k,.ref x],[]⟩) (λM R s=>s.heap.get? x=some (instObj C ad)/\R (.ok<|.ret .notImplemented) s):=
 .of_wp λprog w A R s h=>by obtain⟨hp,g,d,tk,os⟩:=s;obtain⟨hl,h⟩:=h;wp_walk using wpAny_loadPart' hl,wpAny_load hl;exact⟨_,rfl,h⟩
theorem AL (t:Str)(k:Tok)(x C ad:Addr):Meets (Builtin.«str.__ne__» ⟨[.str t k,.ref x],[]⟩) (λM R s=>s.heap.get? x=some (instObj C ad)/\R (.ok<|.ret .notImplemented) s):=
 .of_wp λprog w A R s h=>by obtain⟨hp,g,d,tk,os⟩:=s;obtain⟨hl,h⟩:=h;wp_walk using wpAny_loadPart' hl,wpAny_load hl;exact⟨_,rfl,h⟩
section
variable {A:Around} {s:Shared} {E:dz} {x C:Addr} {ox:Obj} {od:Option Obj}
variable {Q:dz}
theorem MY {t:Str}{k:Tok}(hu:A.units<cLine)(X:K.In s.heap)(aaM:InstAt s.heap x ox C od)(SR:subIn K (.type "str") (.ref C)=some false)
  (h1:∀{Q:Option Value->Shared->Prop},Q none s->wpAny Mo A (tryCompare (.ref x) "__eq__" (.str t k)) Q E s) (h2:∀{Q:Option Value->Shared->Prop},Q none s->wpAny Mo A (tryCompare (.str t k) "__eq__" (.ref x)) Q E s) (hq:Q (.bool false) s):wpAny Mo A (richCompare .Eq (.ref x) (.str t k)) Q E s:=by
 unfold richCompare;simp only[oneThing_ref];refine dJ<|aw<|wpAny_cRoomFor hu ?_
 refine aw (aaM.type.here (aw (wpAny_of_eq (rfl:typeOf (.str t k)=pure (.type "str")) ?_)));have dZ:((Value.ref C != Value.type "str")=true):=rfl;rw[if_pos dZ];refine aw<|(looks_subIn X SR).here ?_
 simp only[Bool.false_eq_true,if_false,Bool.not_false,if_true];refine aw<|h1<|aw<|h2 ?_
 exact aw<|wpAny_rule<|aw<|wpAny_of_eq (rfl:isSame (.ref x) (.str t k)=pure false)<|aW hq
theorem MZ {t:Str}{k:Tok}(hu:A.units<cLine)(X:K.In s.heap)(aaM:InstAt s.heap x ox C od)(SR:subIn K (.type "str") (.ref C)=some false)
  (h1:∀{Q:Option Value->Shared->Prop},Q none s->wpAny Mo A (tryCompare (.ref x) "__ne__" (.str t k)) Q E s) (h2:∀{Q:Option Value->Shared->Prop},Q none s->wpAny Mo A (tryCompare (.str t k) "__ne__" (.ref x)) Q E s) (hq:Q (.bool true) s):wpAny Mo A (richCompare .NotEq (.ref x) (.str t k)) Q E s:=by
 unfold richCompare;simp only[oneThing_ref];refine dJ<|aw<|wpAny_cRoomFor hu ?_
 refine aw (aaM.type.here (aw (wpAny_of_eq (rfl:typeOf (.str t k)=pure (.type "str")) ?_)));have dZ:((Value.ref C != Value.type "str")=true):=rfl;rw[if_pos dZ];refine aw<|(looks_subIn X SR).here ?_
 simp only[Bool.false_eq_true,if_false,Bool.not_false,if_true];refine aw<|h1<|aw<|h2 ?_
 exact aw<|wpAny_rule<|aw<|wpAny_of_eq (rfl:isSame (.ref x) (.str t k)=pure false)<|aW hq
theorem eqI {f:Fz}{q:St f}{E:dz}{a b:Value}{x y:V}{r ne:Bool}(ia:q.iv a x)(ib:q.iv b y)(e:Ur q.Y x y=some r)(P:Q (.bool<|nx ne r) q.s):wpAny Mo f.A (compareOp (eqs ne) a b) Q E q.s:=by
 cases x with
 |ref i=>
  cases y with
  |str t=>
   have e:(match q.Y[i]? with
    |some (.inst _ _)=>some false
    |_=>none)=some r:=e
   cases e1:q.Y[i]? with
   |none=>rw[e1] at e;exact fP e
   |some c=>
    rw[e1] at e;cases c with
    |inst C d=>
     rw[<-(aU e:false=r)] at P;refine nC ia e1 λxa o hr g2 g3=>ib.qw λk=>?_;obtain⟨ad,g4,rfl,ck⟩:=g3;refine de (q.rep.cell d ad g4) λce' o' k1 k2 k3=>?_;have aaM:=InstAt.of_news q.news g2 k2;have u1:=lI (k:=1) q (by lk);have u0:=lI (k:=0) q (by lk);cases ne with
     |false=>exact MY u0 q.s8 aaM ck.sub (λhq=>QO q.s8 aaM ck.eq ck.obj hq) (λhq=>wpAny_tryCompare_declines (typeIs_str _ _ _) PySem.F.slot_str_eq<|call_meets PySem.F.slot_str_eq (typeIs_str _ _ _) PySem.F.entry_str_eq (PySem.F.args_str_eq_2 _ _) (AK t k xa C ad) ⟨aaM.at_,rfl,hq⟩) P
     |true=>exact MZ u0 q.s8 aaM ck.sub (λhq=>QP q.s8 aaM ck.eq ck.ne ck.obj u1 hq) (λhq=>wpAny_tryCompare_declines (typeIs_str _ _ _) PySem.F.slot_str_ne<|call_meets PySem.F.slot_str_ne (typeIs_str _ _ _) PySem.F.entry_str_ne (PySem.F.args_str_ne_2 _ _) (AL t k xa C ad) ⟨aaM.at_,rfl,hq⟩) P
    |_=>exact fP e
  |_=>exact fP e
 |_=>exact fP e
end
section
variable {f:Fz} {q:St f} {Q E:dz} {a b:Value} {x y:V} {r:Bool}
theorem QQ {d t:Addr}{k:db}{xs:List (db × Addr × Value)}(OX:IsTupleKey (strKind prog w) q.h k t)(hd:(d==sysModules)=false)(hm:q.h.DictOfH (tupleKind<|strKind prog w) d xs)
  (h:Q (.bool<|!(atKey xs k).isSome) {q.s with toks:=q.tk+(k.length+1)}):wpAny Mo f.A (compareOp .NotIn (.ref t)<|.ref d) Q E q.s:=by
 intro Γ p hΓ;have h2:=wpAny_in_heap (s:=q.s) (A:=f.A) (E:=E) (Q:=λv s'=>∃b,v=.bool b/\Q (.bool !b) s') (knd:=tupleKind<|strKind prog w) (ri q) OX hd hm ⟨_,rfl,h⟩ Γ p hΓ;have e1:compareOp .In (.ref t) (.ref d)=(contains (.ref d) (.ref t) >>= λb=>pure<|.bool b):=rfl;have e2:compareOp .NotIn (.ref t) (.ref d)=(contains (.ref d) (.ref t) >>= λb=>pure<|.bool !b):=rfl;rw[e1] at h2;rw[e2];simp only[Sem.wp_bind'] at h2⊢;refine Sem.wp_mono _ Γ _ (λb M dW bA=>?_) (λM M M h'=>h') _ _ h2;refine aJ (bA:∃b',Value.bool b=.bool b'/\_) λb' e hq=>?_;cases e;exact hq
theorem IJ {d:Addr}{o:Obj}(h3:(d,o)∈q.Z)(hd:o.IsDictOf (PySem.strKind prog w) []):q.h.DictOfH (tupleKind<|strKind prog w) d []:=by
 refine Ml hd λes ep h1 h5 M h6 M=>?_;have hes:es.toList=[]:=by
  revert h6;generalize es.toList=l';intro h6;cases h6;rfl
 exact Mn o es ep<|TG ((q.news _ h3).1) h1 h5 (by rw[hes];rfl) (λM hx=>nomatch hx) j6
theorem s8 {ne:Bool}{d t:Addr}{k:db}{xs:List (db × Addr × Value)}(OX:IsTupleKey (strKind prog w) q.h k t)(hd:(d==sysModules)=false)(hm:q.h.DictOfH (tupleKind<|strKind prog w) d xs)(e:(atKey xs k).isSome=r)
  (P:∀fb,Q (.bool<|nx ne r) {q.s with toks:=fb}):wpAny Mo f.A (compareOp (ins ne) (.ref t)<|.ref d) Q E q.s:=by
 rw[<-e] at P;cases ne with
 |false=>exact wpAny_in_heap (ri q) OX hd hm<|P _
 |true=>exact QQ OX hd hm<|P _
theorem U3 {ne:Bool}(ia:q.iv a x)(ib:q.iv b y)(e:isIn q.Y x y=some r)(P:∀fb,Q (.bool<|nx ne r) {q.s with toks:=fb}):wpAny Mo f.A (compareOp (ins ne) a b) Q E q.s:=by
 cases y with
 |U l=>exact inD ia ib e<|P q.tk
 |gl l=>exact inD ia ib e<|P q.tk
 |ref j=>
  refine aJ (rb e) λc h2 e=>?_;have ib0:=ib;refine nC ib h2 λd o hr h3 h4=>?_;have hb:=q.rep.big d<|bp hr
  cases c with
  |list l=>exact inD ia (.ref hr) e<|P q.tk
  |dict l=>
   obtain⟨kvs,hd,hk⟩:=h4;refine UY e (λe=>?_) λe=>?_
   ·cases x with
    |str t=>
     rw[<-(aU e:(aM l t).isSome=r)] at P;refine ia.qw λM=>?_;cases ne with
     |false=>exact kda_in q.news h3 hd hb (strKind_is _ _ _ _) _ (vd hk)<|P _
     |true=>exact kdg_notin q.news h3 hd hb (strKind_is _ _ _ _) _ (vd hk)<|P _
    |_=>exact fP e
   ·cases x with
    |U ks=>
     refine C1 e λhe e=>rf e λkk e1 e=>fU ia λt vs M M ia=>?_;rw[List.isEmpty_iff.mp he] at hk;rw[hk.kg] at hd;exact s8 (isKey ia e1) hb (IJ h3 hd) e P
    |_=>exact fP e
  |dictT l=>
   refine aJ (Pk h3 h4) λxs hm hk=>?_;cases x with
   |U ks=>
    refine rf e λkk e1 e=>fU ia λt vs M M ia=>s8 (isKey ia e1) hb hm ?_ P;rw[<-e,<-vd hk,<-AJ,Option.isSome_map]
   |_=>exact fP e
  |_=>exact fP e
 |_=>exact fP e
theorem M0 (ia:q.iv a x):(a==Value.none)=(x.ctorIdx==0):=ia.cas (C:=λa x=>(a==Value.none)=(x.ctorIdx==0)) rfl (λM=>rfl) (λM M=>rfl) (λM M=>rfl) (λM M=>rfl) (λM M=>rfl) (λM M M=>rfl) λM M=>rfl
theorem isOk {ne:Bool}(ia:q.iv a x)(ib:q.iv b y)(e:Qr x y=some r)(P:Q (.bool<|nx ne r) q.s):wpAny Mo f.A (compareOp (cond ne .IsNot .Is) a b) Q E q.s:=by
 cases y with
 |none=>
  rw[<-(aU e:(x.ctorIdx==0)=r),<-M0 ia] at P;rw[ib.xg];cases ne with
  |false=>exact is_none P
  |true=>exact isNot_none P
 |_=>exact fP e
theorem Ev {g:Int->Int->Bool}{op:CmpOp}(hop:∀{i j t t'},Q (.bool<|g i j) q.s->wpAny Mo f.A (compareOp op (.int i t)<|.int j t') Q E q.s)(ia:q.iv a x)(ib:q.iv b y)(e:(qq x λi=>qq y λj=>some<|g i j)=some r)(P:Q (.bool r) q.s):wpAny Mo f.A (compareOp op a b) Q E q.s:=by
 cases x with
 |int i=>
  cases y with
  |int j=>exact ia.tR λM=>ib.tR λM=>hop<|(aU e:g i j=r)▸P
  |_=>exact fP e
 |_=>exact fP e
theorem U4 {ne:Bool}(ia:q.iv a x)(ib:q.iv b y)(e:Pd q.Y x y=some r)(P:Q (.bool<|nx ne r) q.s):wpAny Mo f.A (compareOp (eqs ne) a b) Q E q.s:=
 UY e (λe=>eqS ia ib e P) λe=>UY e (λe=>eqE ia ib e P) λe=>UY e (λe=>eqI ia ib e P) λe=>eqD ia ib e P
theorem Pm {op:CmpOp}(ia:q.iv a x)(ib:q.iv b y)(e:cS q.Y op x y=some r)(P:∀fb,Q (.bool r) {q.s with toks:=fb}):wpAny Mo f.A (compareOp op a b) Q E q.s:=by
 have neg:∀{o:Option Bool},o.map (λb=>!b)=some r->o=some (!r):=λe=>rf e λb e1 e=>by rw[e1,<-e,Bool.not_not]
 have P1:∀fb,Q (.bool (!(!r))) {q.s with toks:=fb}:=λtk=>by rw[Bool.not_not];exact P tk
 cases op with
 |Eq=>exact U4 (ne:=false) ia ib e<|P q.tk
 |NotEq=>exact U4 (ne:=true) ia ib (neg e)<|P1 q.tk
 |Is=>exact isOk (ne:=false) ia ib e<|P q.tk
 |IsNot=>exact isOk (ne:=true) ia ib (neg e)<|P1 q.tk
 |Lt=>exact Ev lt_int ia ib e<|P q.tk
 |LtE=>exact Ev le_int ia ib e<|P q.tk
 |Gt=>exact Ev gt_int ia ib e<|P q.tk
 |GtE=>exact Ev ge_int ia ib e<|P q.tk
 |In=>exact U3 (ne:=false) ia ib e P
 |NotIn=>exact U3 (ne:=true) ia ib (neg e) P1
end
section
variable {ρ:List Addr} {Z:Led} {f:Fz} {q:St f} {Q E:dz} {a b u:Value} {x y v:V} {nm:Str} {aaM:Qs}
theorem AM {e:DictEntry}{k nm:Str}(h:(strKind prog w).is k e.key=true):e.key.isStr nm=decide (k=nm)/\e.refKey=false:=by
 refine aN (Value.isStrOf_shape h) λtk hk=>?_;rw[hk];refine⟨show(k==nm)= _ from ?_,by unfold DictEntry.refKey;rw[hk]⟩;by_cases h:k=nm<;>simp[h]
variable {kvs:List (Str × Value)}
theorem C2 (nm:Str){es:List DictEntry}(h:Pairs (strKind prog w) es kvs):(es.find? (·.key.isStr nm)).map (·.val)=valueAt kvs nm/\es.any (·.refKey)=false:=by
 induction h with
 |nil=>exact⟨rfl,rfl⟩
 |@cons e kv r kvs h1 h2 t ih=>
  refine cR (AM (nm:=nm) h1) λe1 e2=>?_;rw[List.find?_cons,nD,sT,ih.2,e1,e2,<-ih.1,<-h2];by_cases hk:kv.1=nm
  ·rw[if_pos hk,eE hk];exact⟨rfl,rfl⟩
  ·rw[if_neg hk,fy hk];exact⟨rfl,rfl⟩
theorem r7 {o:Obj}(hd:o.IsDictOf (strKind prog w) kvs)(nm:Str):∃es k,o=dictOf es k/\getL nm es=some (valueAt kvs nm)/\Pairs (strKind prog w) es kvs:=by
 refine Ml hd λes ep Ir h4 h5 h6 h7=>?_;refine qV Ir λh1 h2 h3=>?_;refine cR (C2 nm h6) λi1 i2=>fc es.toList ep ?_ ?_ h6
 ·cases o;simp only at h1 h2 h3 h4;subst h1 h2 h3 h4;rfl
 ·unfold getL;cases q:es.toList.find? (·.key.isStr nm) with
  |some e=>rw[q] at i1;rw[<-i1];rfl
  |none=>rw[q] at i1;rw[<-i1];show(if es.toList.any (·.refKey)=true then none else some none)=some none;rw[i2];rfl
theorem handed (i:bH ρ Z u v):handedIn u=true:=i.cas (C:=λu M=>handedIn u=true) rfl (λM=>rfl) (λM M=>rfl) (λM M=>rfl) (λM M=>rfl) (λM M=>rfl) (λM M M=>rfl) λM M=>rfl
theorem QR {α:Type}{C p:Prop}[Decidable p]{r:α}{o:Option α}(e:(if p then none else o)=some r)(k:¬p->o=some r->C):C:=by
 by_cases h:p
 ·rw[if_pos h] at e;exact fP e
 ·rw[if_neg h] at e;exact k h e
inductive Rows (Y:af)(ρ:List Addr)(Z:Led)(aaM:Qs)(kvs:List (Str × Value)):Prop
 |all (e:aaM.k=none) (h:ky ρ Z kvs aaM.l)
 |but (k:Str) (sK:List (Str × Value)) (u:Value) (e:aaM.k=some k) (e':kvs=sK++[(k,u)]) (h:ky ρ Z sK aaM.l) (n:aM aaM.l k=none) (s:Y[aaM.d]?=some (.dictX aaM.l k))
@[elab_as_elim] theorem vf {C:Value->Prop}(ia:q.iv a x)(e:oO q.Y x=some aaM)
  (k:∀xa ad od kvs,q.iv (.ref xa) x->InstAt q.h xa (instObj aaM.C ad) aaM.C (some od)->od.IsDictOf (strKind prog w) kvs->OwnCls K aaM.C->(ad,od)∈q.Z->q.ρ[aaM.d]?=some ad->Rows q.Y q.ρ q.Z aaM kvs->C (.ref xa)):C a:=by
 cases x with
 |ref i=>
  refine aJ (rb e) λc e1 e=>?_;cases c with
  |inst CC d=>
   refine aJ (rb e) λc' e2 e=>nC ia e1 λxa o hr g2 g3=>?_;obtain⟨ad,g4,go,ck⟩:=g3;rw[go] at g2;refine de (q.rep.cell d ad g4) λc'' o' k1 k2 k3=>?_;have k3:=aU (k1.symm.trans e2)▸k3;cases c' with
   |dict l=>
    obtain⟨kvs,hd,hk⟩:=k3;rw[<-(aU e)] at k;exact k xa ad o' kvs (.ref hr) (InstAt.of_news q.news g2 k2) hd ck k2 g4 (.all rfl hk)
   |dictX l kk=>
    obtain⟨u,kvs,hd,hk⟩:=k3;refine QR e λhn e=>?_;rw[<-aU e] at k;exact k xa ad o' _ (.ref hr) (InstAt.of_news q.news g2 k2) hd ck k2 g4 (.but kk kvs u rfl rfl hk (Option.not_isSome_iff_eq_none.mp hn) e2)
   |_=>exact fP e
  |_=>exact fP e
 |_=>exact fP e
theorem AN (e:uU q.Y x nm=some aaM):oO q.Y x=some aaM/\aaM.k≠some nm:=jC e λM e1 e=>QR e λh e=>aU e▸⟨e1,h⟩
theorem yR {k nm:Str}{u:Value}(h:nm≠k):valueAt (kvs++[(k,u)]) nm=valueAt kvs nm:=by
 unfold valueAt;rw[List.find?_append,List.find?_cons,show(decide (k=nm))=false from fy λe=>h e.symm,List.find?_nil,Option.or_none]
theorem Rows.at {Y:af}(R:Rows Y ρ Z aaM kvs)(h:aaM.k≠some nm):(aM aaM.l nm=none/\valueAt kvs nm=none)∨∃v u,aM aaM.l nm=some v/\valueAt kvs nm=some u/\bH ρ Z u v:=by
 cases R with
 |all _ hk=>exact r6 hk
 |but k sK u e e' hk _ _=>rw[e',yR λq=>h (e.trans (bJ some q.symm))];exact r6 hk
theorem attrOk {expr:Bool}(hC:findIn K (.ref aaM.C) nm=some none)(e0:oO q.Y x=some aaM)(ia:q.iv a x)(e:kf q.Y x nm=some v)(P:∀u fb,q.iv u v->Q u {q.s with toks:=fb}):wpAny Mo f.A (getAttr a nm expr) Q E q.s:=
 jC e λI' e1 e=>by
  refine cR (AN e1) λe1 hk=>?_;rw[<-(aU (e0.symm.trans e1))] at e hk;refine vf ia e0 λxa ad od kvs M J hd ck M M R=>aZ (R.at hk) (λY1=>?_) λY2=>?_
  ·refine cR Y1 λn _=>?_;rw[n] at e;exact fP e
  ·refine de Y2 λv' u g1 g2 iu=>?_;refine de (r7 hd nm) λes kk mT hl M=>?_;subst mT;rw[g2] at hl;exact get_own q.fr q.Tk J (ck.get nm) ck.hasDict hC rfl hl (handed iu) (P u _ (aU (g1.symm.trans e)▸iu))
section
variable {α:Type} [DecidableEq α] {k:α}
theorem Ew {u:Value}{r:List (α × Value)}(h:∀p∈r,p.1≠k):(r.map λkv=>if kv.1=k then (kv.1,u) else kv)=r:=by
 conv=>rhs;rw[<-List.map_id r]
 exact uB λp hp=>if_neg (h p hp)
theorem AO {u u':Value}{r:List (α × Value)}(h:∀p∈r,p.1≠k):stored ((k,u')::r) k u=(k,u)::r:=by
 unfold stored;rw[if_pos (by rw[sT,eE rfl];rfl),eM,if_pos rfl,Ew h]
variable {l:List (α × V)} {kvs:List (α × Value)}
theorem M1 (h:ky ρ Z kvs l):(kvs.any λkv=>kv.1=k)=l.any λp=>p.1=k:=by
 induction h with
 |nil=>rfl
 |cons _ _ ih=>rw[sT,sT,ih]
theorem yS (i:bH ρ Z u v)(h:ky ρ Z kvs l):ky ρ Z (stored kvs k u) (rV l k v):=by
 unfold stored rV;rw[M1 h];by_cases hq:(l.any λp=>p.1=k)=true
 ·rw[if_pos hq,if_pos hq];clear hq
  induction h with
  |nil=>exact .nil
  |@cons k' u' v' r t i' _ ih=>
   rw[eM,eM];by_cases hk:k'=k
   ·rw[if_pos hk,if_pos hk];exact .cons i ih
   ·rw[if_neg hk,if_neg hk];exact .cons i' ih
 ·rw[if_neg hq,if_neg hq];clear hq
  induction h with
  |nil=>exact .cons i .nil
  |cons j _ ih=>exact .cons j ih
omit [DecidableEq α] in
theorem rj (h:ky ρ Z kvs l):kvs.length=l.length:=by
 induction h with
 |nil=>rfl
 |cons _ _ ih=>exact bJ (· +1) ih
theorem yT (k:α)(u:Value)(h:(kvs.map (·.1)).Nodup):((stored kvs k u).map (·.1)).Nodup:=by
 unfold stored;by_cases hn:(kvs.any λkv=>kv.1=k)=true
 ·rw[if_pos hn];have e:(kvs.map λkv=>if kv.1=k then (kv.1,u) else kv).map (·.1)=kvs.map (·.1):=by
   rw[List.map_map];exact uB λp M=>show(if p.1=k then (p.1,u) else p).1=p.1 by by_cases hp:p.1=k;rw[if_pos hp];rw[if_neg hp]
  rw[e];exact h
 ·rw[if_neg hn,jB,sP];refine⟨h,iy.mpr ⟨dq,j6⟩,λa ha b hb e=>hn ?_⟩;refine aJ (bX.mp ha) λp hp uX=>?_;subst uX;exact List.any_eq_true.mpr ⟨p,hp,eE (e.trans (cM.mp hb))⟩
end
abbrev IK (e:DictEntry):Prop:=∃k,(strKind prog w).is k e.key=true/\e.hash=(strKind prog w).hash k
variable {kvs:List (Str × Value)}
theorem C3 {tk:Tok}{hs:Int}(hh:hs=hashStr w nm){es:List DictEntry}(h:Pairs (strKind prog w) es kvs):(kvs.map (·.1)).Nodup->(∀e∈es,IK e)->
  Pairs (strKind prog w) (putL nm hs (.str nm tk) u es) (stored kvs nm u)/\∀e∈putL nm hs (.str nm tk) u es,IK e:=by
 induction h with
 |nil=>exact λM M=>⟨.cons (strKind_is _ _ _ _) rfl .nil,λe he=>by rw[cM.mp he];exact⟨nm,strKind_is _ _ _ _,hh⟩⟩
 |@cons e kv r kvs h1 h2 t ih=>
  intro hn hk;have mt:=iy.mp hn;have mM:=λe' he=>hk e' (.tail _ he);have k0:=hk e (.head _);unfold putL;rw[(AM h1).1];by_cases h:kv.1=nm
  ·have e1:stored (kv::kvs) nm u=(kv.1,u)::kvs:=by
    rw[<-h];exact AO λq hq e=>mt.1 (by show kv.1∈_;rw[<-e];exact cD hq)
   rw[eE h,if_pos rfl,e1];exact⟨.cons h1 rfl t,λe' he=>(aX.mp he).elim (λq=>by rw[q];exact k0) (mM e')⟩
  ·have e1:stored (kv::kvs) nm u=kv::stored kvs nm u:=by
    unfold stored;rw[sT,fy h,Bool.false_or,eM,if_neg h];by_cases hq:(kvs.any λkv=>kv.1=nm)=true
    ·rw[if_pos hq,if_pos hq]
    ·rw[if_neg hq,if_neg hq];rfl
   rw[fy h,if_neg Bool.false_ne_true,e1];refine cR (ih mt.2 mM) λi1 i2=>?_;exact⟨.cons h1 h2 i1,λe' he=>(aX.mp he).elim (λq=>by rw[q];exact k0) (i2 e')⟩
variable {o':Obj}
theorem uh {a:Addr}{o:Obj}{Z:Led}(hn:(Z.map (·.1)).Nodup)(hm:(a,o)∈Z):Upd a o o' Z (gN Z a o'):=by
 induction Z with
 |nil=>exact nomatch hm
 |cons p r ih=>
  have mt:=iy.mp hn;show Upd a o o' (p::r) ((if p.1=a then (a,o') else p)::gN r a o');refine aZ (aX.mp hm) (λe=>?_) λhm=>?_
  ·rw[<-e] at mt⊢;have off:∀p∈r,p.1≠a:=λp hp e=>mt.1 (by show a∈_;rw[<-e];exact cD hp);rw[if_pos rfl,Io off];exact .head off
  ·have dZ:p.1≠a:=λe=>mt.1 (by show p.1∈_;rw[e];exact cD hm);rw[if_neg dZ];exact .tail dZ (ih mt.2 hm)
theorem IL (nm:Str)(hs:Int)(k v:Value)(es:List DictEntry):(putL nm hs k v es).length<=es.length+1:=by
 induction es with
 |nil=>exact ba _
 |cons e r ih=>
  unfold putL;split
  ·exact ly _
  ·exact Nat.succ_le_succ ih
theorem pairs_len {es:List DictEntry}(h:Pairs (strKind prog w) es kvs):es.length=kvs.length:=by
 induction h with
 |nil=>rfl
 |cons _ _ _ ih=>exact bJ (· +1) ih
theorem AP {k:Str}{u u':Value}(h:valueAt kvs k=none):stored (kvs++[(k,u)]) k u'=kvs++[(k,u')]:=by
 have hf:∀p∈kvs,p.1≠k:=λp hp e=>by
  unfold valueAt at h;rw[Option.map_eq_none_iff,List.find?_eq_none] at h;exact h p hp (eE e)
 unfold stored;rw[if_pos (by rw[List.any_append];simp),jB,Ew hf];simp
theorem aF.put {α β:Type}{R:Rl α β}{i:Nat}{t:Addr}{ce:ao}{h':Heap}{v:β}{u:α}{Q:α->Shared->Prop}(tk:Nat)(P:aF R q (.ok v (q.Y.set i ce)) Q E)(F:Fr q.b f.L h' f.m)(aaL:News q.b f.L h' (gN q.Z t o'))(hr:q.ρ[i]?=some t)(hc:cV q.ρ (gN q.Z t o') ce o')(r:R q.ρ (gN q.Z t o') u v):Q u {q.s with heap:=h',toks:=tk}:=
 P.fin tk F aaL (q.rep.put hr hc) (.put (bp hr)) r
theorem St.IM (q:St f){i:Nat}{t:Addr}(hr:q.ρ[i]?=some t){u:Value}{v:V}(h:q.iv u v):bH q.ρ (gN q.Z t o') u v:=h.ext (.put (bp hr)) bK q.rep.apart
noncomputable def Xs:Rl Unit Unit:=λM M M M=>True
theorem F9 {Q:Ac}(hC:findIn K (.ref aaM.C) nm=some none)(hl:aaM.l.length<499)(e0:oO q.Y x=some aaM)(ia:q.iv a x)(iu:q.iv u v){Y':af}(e:jl q.Y x nm v=some Y')(P:aF Xs q (.ok () Y') Q E):wpAny Mo f.A (setAttr a nm u) Q E q.s:=by
 have e:MK q.Y nm v aaM=some Y':=jC e λI' e1 e=>aU (e1.symm.trans e0)▸e;refine vf ia e0 λxa ad od kvs M J hd ck k2 hr R=>?_;have h1:takerIn K aaM.C nm=some none:=by unfold takerIn;rw[hC];rfl
 refine de (r7 hd nm) λes kk AQ mu hp=>?_;subst AQ;refine Ml hd λes0 ep0 hx LP hko hpr tZ=>?_;obtain⟨rfl,rfl⟩:=LP;refine cR (C3 (tk:=q.s.toks+1) (u:=u) (hs:=PyData.keyHash w.params nm) (nm:=nm) rfl hp tZ (λe he=>hko e (by simpa using he):∀e∈es,IK e)) λp1 p2=>?_;have hlen:kvs.length<500:=by
  cases R with
  |all _ h=>rw[rj h];exact Nat.lt_succ_of_lt hl
  |but k sK u e e' h _ _=>rw[e',cN,rj h];exact Nat.succ_lt_succ hl
 refine set_dict q.fr q.Tk q.news J rfl ck.set ck.plain h1 ck.hasDict (by rw[mu];rfl) rfl (uh (o':=dictOf (putL nm (PyData.keyHash w.params nm) (.str nm (q.s.toks+1)) u es) (putN nm es kk)) q.rep.ndZ k2) (eo (IL _ _ _ _ _) (by rw[pairs_len hp];exact eo (Nat.succ_le_succ (Nat.le_of_lt hlen)) (by lk))) λh' F' N'=>?_;have zY:(dictOf (putL nm (PyData.keyHash w.params nm) (.str nm (q.s.toks+1)) u es) (putN nm es kk)).IsDictOf (strKind prog w) (stored kvs nm u):=⟨_,_,hx,rfl,λe he=>p2 e (by simpa using he),by simpa using p1,yT nm u tZ⟩;cases R with
 |all e1 h=>
  unfold MK at e;rw[e1] at e;rw[<-aU e] at P;exact P.put _ F' N' hr ⟨_,zY,(yS iu h).ext (.put (bp hr)) bK q.rep.apart⟩ trivial
 |but k sK aaA e1 e2 h n s=>
  unfold MK at e;rw[e1] at e;refine C1 e λhk e=>?_;rw[<-hk] at s n e2;rw[e2,AP (IH h n)] at zY;have e0:q.Y.set aaM.d (.dictX aaM.l nm)=q.Y:=by
   refine aN (bP.mp s) λh1 h2=>?_;rw[<-h2,List.set_getElem_self]
  rw[<-aU e,<-e0] at P;exact P.put _ F' N' hr ⟨u,sK,zY,h.ext (.put (bp hr)) bK q.rep.apart⟩ trivial
end
section
variable {ρ:List Addr} {Z:Led} {f:Fz} {q:St f} {E:dz} {Q:Ac} {a b u:Value} {x y v:V} {j:Nat} {Y':af}
theorem IN {vs:List Value}{l:aH}(h:cr ρ Z vs l)(i:bH ρ Z u v):cr ρ Z (vs.set j u) (l.set j v):=by
 induction l generalizing vs j with
 |nil=>rw[h.kg];exact .nil
 |cons x l ih=>
  refine h.eF λh t=>?_;cases j with
  |zero=>exact .cons i t
  |succ j=>exact .cons h (ih t)
theorem AR {α:Type}[DecidableEq α](k:α)(t:Addr)(u:Value)(xs:List (α × Addr × Value)):(storedH xs k t u).map (λx=>(x.1,x.2.2))=stored (xs.map λx=>(x.1,x.2.2)) k u:=by
 have e:(atKey xs k).isSome=(xs.map λx=>(x.1,x.2.2)).any λkv=>kv.1=k:=by
  unfold atKey
  induction xs with
  |nil=>rfl
  |cons x r ih=>
   rw[List.find?_cons,eM,sT,<-ih];by_cases h:x.1=k
   ·rw[eE h];rfl
   ·rw[fy h];rfl
 unfold storedH stored;rw[e];split
 ·rw[List.map_map,List.map_map];refine uB λx M=>?_;show((putAt k u x).1,(putAt k u x).2.2)=if x.1=k then (x.1,u) else (x.1,x.2.2);unfold putAt;split<;>rfl
 ·rw[jB];rfl
theorem U5 {d tt:Addr}{o:Obj}{xs:List (db × Addr × Value)}{l:List (db × V)}{ks:aH}{kk:db}(ib:q.iv (.ref tt) (.U ks))(e1:eU ks=some kk)(iu:q.iv u v)(hm:(d,o)∈q.Z)(hr:q.ρ[j]?=some d)
  (hx:q.h.DictOfH (tupleKind (strKind prog w)) d xs) (h8:∀x∈xs,oS q.ρ q.Z x.1 x.2.1) (h9:ky q.ρ q.Z (xs.map λx=>(x.1,x.2.2)) l) (hl:l.length<10000) (P:aF Xs q (.ok () (q.Y.set j (.dictT (rV l kk v)))) Q E):wpAny Mo f.A (setItem (.ref d) (.ref tt) u) Q E q.s:=by
 have hlen:xs.length=l.length:=by rw[<-rj h9,cy]
 refine wpAny_setItem_heap (ri q) (isKey ib e1) hx (λh' hm' hs=>?_) (g9 (by rw[hlen];exact hl));refine Qb hm' λo' es' ep' zq=>Ek zq λEe k1 k2 k3 k4 k5=>P.put _ (q.fr.change hs (q.news _ hm).2.1 (q.news _ hm).2.2) (kh q.news hm Ee hs) hr ⟨_,es',ep',k1,k2,k3,k5,λz hz=>?_,?_⟩ trivial
 ·have old:∀z∈xs,oS q.ρ (gN q.Z d o') z.1 z.2.1:=λz hz=>q.IM hr (h8 z hz);unfold storedH at hz;split at hz
  ·refine aJ (bX.mp hz) λz' Xz eA=>?_;subst eA;have:=old z' Xz;unfold putAt;split<;>exact this
  ·refine aZ (fu.mp hz) (λhz=>?_) λhz=>?_
   ·exact old z hz
   ·rw[cM.mp hz];unfold oS;rw[xk e1];exact q.IM hr ib
 ·rw[AR];exact(yS iu h9).ext (.put (bp hr)) bK q.rep.apart
theorem Ga (ia:q.iv a x)(ib:q.iv b y)(iu:q.iv u v)(e:jm q.Y x y v=some Y')(P:aF Xs q (.ok () Y') Q E):wpAny Mo f.A (setItem a b u) Q E q.s:=by
 cases x with
 |ref j=>
  refine aJ (rb e) λc h2 e=>nC ia h2 λt o hr h3 h4=>?_;cases c with
  |list l=>
   obtain⟨vs,nn,ho,hi⟩:=h4;rw[ho] at h3;cases y with
   |int k=>
    refine C1 e λhk e=>ib.tR λM=>?_;rw[<-aU e] at P;have hsz:vs.size=l.length:=by rw[<-bd hi,p8]
    have ho:=(q.news _ h3).1;refine ki_setAt ho hk.1 (by omega) (by omega) ?_;exact P.put q.tk (q.fr.change (Heap.SameBut.update ..) (q.news _ h3).2.1 (q.news _ h3).2.2) (kh q.news h3 (PySem.IsL.update ho (·.setIfInBounds k.toNat u)) (Heap.SameBut.update ..)) hr ⟨_,_,rfl,by
     rw[Array.toList_setIfInBounds];exact IN (hi.ext (.put (bp hr)) bK q.rep.apart) (q.IM hr iu)⟩ trivial
   |_=>exact fP e
  |dict l=>
   obtain⟨kvs,hd,hi⟩:=h4;cases y with
   |str k=>
    refine C1 e λhk e=>ib.qw λM=>?_;rw[<-aU e] at P;refine wpAny_setItem_pairs (knd:=PySem.strKind prog w) (hsz:=g9 (by rw[rj hi];exact hk)) (strKind_is _ _ _ _) (Heap.dictOf_iff.mpr ⟨o,(q.news _ h3).1,hd⟩) λh' hmm hs=>?_;exact aJ (Heap.dictOf_iff.mp hmm) λo' Ee zY=>P.put _ (q.fr.change hs (q.news _ h3).2.1 (q.news _ h3).2.2) (kh q.news h3 Ee hs) hr ⟨_,zY,(yS iu hi).ext (.put (bp hr)) bK q.rep.apart⟩ trivial
   |U ks=>
    refine C1 e λhe e=>rf e λkk e1 e=>fU ib λtt vs M M ib=>?_;rw[List.isEmpty_iff.mp he] at hi;rw[hi.kg] at hd;rw[<-e] at P;exact U5 ib e1 iu h3 hr (IJ h3 hd) (λM h=>nomatch h) .nil (by lk) P
   |_=>exact fP e
  |dictT l=>
   cases y with
   |U ks=>
    refine C1 e λhk e=>rf e λkk e1 e=>fU ib λtt vs M M ib=>?_;obtain⟨xs,es,ep,h1,h5,h6,h7,h8,h9⟩:=h4;rw[<-e] at P;exact U5 ib e1 iu h3 hr ⟨o,es,ep,(q.news _ h3).1,h1,h5,h6,λx hx=>isKey (h8 x hx) (ve _),h7⟩ h8 h9 hk P
   |_=>exact fP e
  |_=>exact fP e
 |_=>exact fP e
end
noncomputable def U6:Bm->String
 | .rfind=>"str.rfind"
 | .startswith=>"str.startswith"
 | .split=>"str.split"
 | .join=>"str.join"
 | .append=>"list.append"
 | .pop=>"list.pop"
 | .get=>"dict.get"
noncomputable def r9:Bm->Str
 | .rfind=>"rfind"
 | .startswith=>"startswith"
 | .split=>"split"
 | .join=>"join"
 | .append=>"append"
 | .pop=>"pop"
 | .get=>"get"
def QS (l:db):Prop:=l.Pairwise λa b=>¬(b.cps.toList<a.cps.toList)
theorem yU {a b:Str}(h:¬(b.cps.toList<a.cps.toList))(h':¬(a.cps.toList<b.cps.toList)):a=b:=by
 have:a.cps.toList=b.cps.toList:=List.le_antisymm h h';exact PyProof.Rows.str_of_list this
theorem IO:∀{a b:db},a.Perm b->QS a->QS b->a=b:=by
 intro a
 induction a with
 |nil=>exact λp M M=>p.nil_eq
 |cons x r ih=>
  intro b p ha hb;cases b with
  |nil=>exact absurd p.length_eq (by simp)
  |cons y t=>
   have hx:x∈y::t:=p.mem_iff.mp (.head _);have hy:y∈x::r:=p.mem_iff.mpr (.head _);have e:x=y:=(aX.mp hx).elim id λh=>(aX.mp hy).elim Eq.symm λh'=>yU ((uE.mp ha).1 y h') ((uE.mp hb).1 x h);rw[e] at p⊢;rw[ih (List.Perm.cons_inv p) (uE.mp ha).2 (uE.mp hb).2]
theorem xo (x:Str)(l:db):(wF x l).Perm (x::l):=by
 induction l with
 |nil=>exact .refl _
 |cons y r ih=>
  unfold wF;split
  ·exact(ih.cons y).trans (.swap x y r)
  ·exact .refl _
theorem IP (x:Str){l:db}(h:QS l):QS (wF x l):=by
 induction l with
 |nil=>exact List.pairwise_singleton _ _
 |cons y r ih=>
  have h1:=uE.mp h;unfold wF;split
  ·next nj=>
   have nj:=l8 nj;exact uE.mpr ⟨λz hz=>(aX.mp ((xo x r).mem_iff.mp hz)).elim (λe=>e▸List.lt_asymm nj) (h1.1 z),ih h1.2⟩
  ·next nj=>
   have nj:¬(y.cps.toList<x.cps.toList):=λh=>nj (eE h);exact uE.mpr ⟨λz hz=>(aX.mp hz).elim (λe=>e▸nj) λhz=>List.not_lt.mpr (List.le_trans (List.not_lt.mp nj) (List.not_lt.mp (h1.1 z hz))),h⟩
theorem vg (l:db):(mS l).Perm l/\QS (mS l):=by
 induction l with
 |nil=>exact⟨.refl _,.nil⟩
 |cons x r ih=>exact⟨(xo x _).trans (ih.1.cons x),IP x ih.2⟩
theorem sorted_out {vs:List Value}{ss:db}(hS:StrsAre vs ss){xs:Array Keyed}(hp:xs.Perm (pairsOf vs))(hs:SortedToK PyProof.Rows.strKind xs (pairsOf vs).size):
  StrsAre (xs.map (·.2)).toList (mS ss):=by
 have hl:xs.toList.Perm (vs.zip vs):=by rw[<-pairsOf_toList];exact Array.perm_iff_toList_perm.mp hp
 have t8:∀p,p∈xs.toList->p.1=p.2/\p.1∈vs:=λp wq=>mem_zip_self (hl.mem_iff.mp wq);have e:(xs.map (·.2)).toList=xs.toList.map (·.1):=by
  rw[Array.toList_map];exact uB λp wq=>(t8 p wq).1.symm
 have a1:StrsAre (xs.map (·.2)).toList (xs.toList.map (λp=>strOf p.1)):=by
  rw[e];have h1:=strsAre_map (xs.toList.map (·.1)) (by
   intro v hv;refine aJ (bX.mp hv) λp wq mT=>?_;subst mT;exact hS.all _ (t8 p wq).2)
  rwa [List.map_map] at h1
 have a2:(xs.toList.map (λp=>strOf p.1)).Perm ss:=by
  have h1:=hl.map (λp=>strOf p.1);have e2:(vs.zip vs).map (λp=>strOf p.1)=ss:=by
   have:(vs.zip vs).map (λp=>strOf p.1)=((vs.zip vs).map Prod.fst).map strOf:=by rw[List.map_map];rfl
   rw[this,List.map_fst_zip (ba _),hS.strs]
  rwa [e2] at h1
 have a3:QS (xs.toList.map (λp=>strOf p.1)):=by
  unfold QS;rw[List.pairwise_iff_getElem];intro i j hi hj FB;have XA:i<xs.size:=by simpa using hi
  have hj':j<xs.size:=by simpa using hj
  have h1:=hs i j (Nat.le_of_lt FB) (by rw[<-hp.size_eq];exact hj');refine kQ (hS.all _ (t8 xs[i] (by simp)).2) λx t ex=>kQ (hS.all _ (t8 xs[j] (by simp)).2) λy u ey=>?_;rw[KK_str XA (Prod.ext ex rfl),KK_str hj' (Prod.ext ey rfl)] at h1
  change decide (y.cps.toList<x.cps.toList)=false at h1
  simp only[List.getElem_map,Array.getElem_toList];rw[show strOf xs[i].1=x by rw[ex];rfl,show strOf xs[j].1=y by rw[ey];rfl];exact of_decide_eq_false h1
 rw[<-IO (a2.trans (vg ss).1.symm) a3 (vg ss).2];exact a1
theorem sortedHeap_at {h:Heap}{a:Addr}{vs:List Value}{out xs:Array Value}{k:Nat}(ho:h.get? a=some (seqObj "list" xs k)):∃e,(sortedHeap h a vs out).get? a=some (listOf out e):=by
 have h1:=get?_update_seq ho λM=>#[];have h2:=lj (seqObj "tuple" vs.toArray 0) h1;have h3:=lj (seqObj "list" #[] 0) h2;exact⟨_,get?_update_seq h3 λM=>out⟩
theorem sortedHeap_old {h:Heap}{a b:Addr}{o:Obj}{vs:List Value}{out:Array Value}(hb:b≠a)(ho:h.get? b=some o):(sortedHeap h a vs out).get? b=some o:=by
 unfold sortedHeap;rw[Heap.get?_update_other _ _ (gz hb)];refine lj _ (lj _ ?_);rw[Heap.get?_update_other _ _ (gz hb)];exact ho
section
variable {f:Fz} {q:St f} {Q E:dz} {a u:Value} {x v:V} {us:List Value} {vs:aH}
theorem xp {ρ:List Addr}{Z:Led}{vs:List Value}{ss:db}(h:StrsAre vs ss):cr ρ Z vs (ss.map .str):=by
 induction h with
 |nil=>exact .nil
 |cons y t _ ih=>exact .cons (.str y t) ih
theorem St.U7 (q:St f){h':Heap}{o:Obj}(hk:∀b o,q.h.get? b=some o->h'.get? b=some o)(ho:h'.get? q.h.objs.size=some o):News q.b f.L h' ((q.h.objs.size,o)::q.Z):=λp hp=>by
 rcases aX.mp hp with rfl | hp
 ·refine⟨ho,λe=>?_,?_⟩
  ·refine rR q.fr.ns λoL M M e1 M=>?_;have:=gJ e1;rw[show f.L=q.h.objs.size from e.symm] at this;exact sS _ this
  ·cases e:q.b.get? q.h.objs.size with
   |none=>rfl
   |some o=>exact absurd (gJ<|q.fr.keep _ _ e)<|sS _
 ·exact⟨hk _ _ (q.news p hp).1,(q.news p hp).2⟩
theorem Gb {kvs:List (Str × Value)}{l:iP}(hk:ky q.ρ q.Z kvs l){us:List Value}(hl:us.length=kvs.length)(hv:∀(j:Nat) (v:Value),us[j]?=some v->∃k x,kvs[j]?=some (k,x)/\(PySem.strKind prog w).is k v=true):StrsAre us (l.map (·.1)):=by
 induction us generalizing kvs l with
 |nil=>
  rw[qS (l:=kvs) hl.symm] at hk;cases l with
  |nil=>exact .nil
  |cons p r=>exact nomatch hk
 |cons u us ih=>
  cases l with
  |nil=>rw[hk.kg] at hl;exact nomatch hl
  |cons p r=>
   refine hk.eF (C:=λkvs=>us.length+1=kvs.length->(∀(j:Nat) (v:Value),(u::us)[j]?=some v->∃k x,kvs[j]?=some (k,x)/\(PySem.strKind prog w).is k v=true)->StrsAre (u::us) ((p::r).map (·.1))) (λi t hl hv=>?_) hl hv;refine gG (hv 0 u rfl) λk x e1 e2=>?_;rw[<-show p.1=k from bJ Prod.fst (aU e1)] at e2;refine aN (Value.isStrOf_shape e2) λt' e=>?_;rw[e];exact .cons _ _<|ih t (j7 hl) λj v e=>hv (j+1) v e
theorem IQ {d:Addr}{o:Obj}{kvs:List (Str × Value)}{l:iP}(lo:(d==sysModules)=false)(hm:(d,o)∈q.Z)(hd:o.IsDictOf (PySem.strKind prog w) kvs)(hk:ky q.ρ q.Z kvs l)(h64:l.length<64)
  (P:aF bH q (alloc q.Y (.list ((mS (l.map (·.1))).map .str))) Q E):wpAny Mo f.A (call (.builtin "sorted") [.ref d]) Q E q.s:=by
 have hlen:=rj hk;have hD:q.h.DictOf (PySem.strKind prog w) d kvs:=Heap.dictOf_iff.mpr ⟨o,(q.news _ hm).1,hd⟩;refine aN hD.dictAt λep Tr=>?_;have hc:kvs.length<1000:=by rw[hlen];exact Nat.lt_trans h64 (by lk)
 refine call_function_entry kind_sorted plain_sorted entry_sorted (args_sorted1 _) (aw (m:=checkCount "sorted" 1 1 _) (aW ?_));refine aw<|kdu_collect (A:=f.A.in1) (kdl_dict (knd:=PySem.strKind prog w) (kvs:=kvs) (ep:=ep) lo) q.ok.hh Tr (ra hc) λh' tk acc mM OY=>?_
 have hl:acc.toList.length=kvs.length:=by rw[p8];exact OY.1
 have hS:=Gb hk hl λj v e=>OY.2 j v (by rw[<-Array.getElem?_toList];exact e);refine aw<|wpAny_newList ?_ (by rw[hl];exact ra hc)
 have SL:(h'.push (seqObj "list" acc.toList.toArray 0)).get? h'.objs.size=some (seqObj "list" acc.toList.toArray 0):=Heap.get?_push_size _ rfl;refine aw<|dJ<|wpAny_call_entry slot_list_sort ⟨_,SL,rfl⟩ entry_list_sort (list_sort_treeK strKind_oneLt SL hS.keysOf (λoj wL rest e=>keyKind_strs (by rw[<-e];exact hS)) (by omega) λst' a1 a2=>⟨_,rfl,?_⟩)<|args_list_sort _
 refine aW ⟨_,rfl,?_⟩;refine aN (sortedHeap_at (vs:=acc.toList) (out:=(arrOf st').map (·.2)) SL) λe he=>?_;let q':=q.grow mM tk;have old:∀b o,q'.h.get? b=some o->(sortedHeap (h'.push (seqObj "list" acc.toList.toArray 0)) h'.objs.size acc.toList ((arrOf st').map (·.2))).get? b=some o:=λb o e=>sortedHeap_old (i9 (gJ e)) (lj _ e);have P':aF bH q' (alloc q'.Y<|.list<|(mS<|l.map (·.1)).map .str) Q E:=P.grow mM tk;exact P'.yL tk (q'.fr.keeps old) (q'.U7 old he) ⟨_,_,rfl,xp<|sorted_out hS a1 a2⟩
theorem Ey {x y:Int}{t u v:Tok}{tk:Nat}(P:aF bH q (.ok (.rng x y) q.Y) Q E):Q (.ref q.h.objs.size) {q.s with heap:=q.h.push<|nw x y t u v,toks:=tk}:=P.hid rfl tk<|.rng (.head _)<|q.rep.mU q.cW
@[elab_as_elim] theorem aF.onSeq {C:Value->Prop}{g:Bool->List V->Res V}(i:q.iv u v)(P:aF bH q (onSeq q.Y v g) Q E)
  (k:∀(t:Addr) (vs:List Value) (b:Bool) (l:aH),(b=true->IsTup q.h t vs.toArray/\q.iv (.ref t) (.U l))->(b=false->q.h.IsList t vs.toArray)->q.pJ vs l->vs.length<10000->aF bH q (g b l) Q E->C (.ref t)):C u:=by
 refine P.fL λkl e P1=>P1.ifs λhl P2=>?_;clear P P1;cases v with
 |U l=>
  rw[<-(aU e:(true,l)=kl)] at P2 hl;exact fU i λt vs h1 h2 i=>k t vs true l (λM=>⟨h1,i⟩) (λe=>nomatch e) h2 (bd h2▸hl) P2
 |gl l=>
  rw[<-(aU e:(false,l)=kl)] at P2 hl;exact iI (l:=l) i rfl λt vs h1 h2=>k t vs false l (λe=>nomatch e) (λM=>h1) h2 (bd h2▸hl) P2
 |ref j=>
  refine rf e λl e1 e=>?_;rw[<-e] at P2 hl;exact iI (l:=l) i e1 λt vs h1 h2=>k t vs false l (λe=>nomatch e) (λM=>h1) h2 (bd h2▸hl) P2
 |_=>exact fP e
theorem ui {vs:List Value}(h:vs.length<10000):vs.toArray.size<=sizeLine:=g9 (by rw[List.size_toArray];exact h)
theorem s63 {vs:List Value}(h:vs.length<10000):(vs.toArray.size:Int)<2 ^ 63:=by rw[List.size_toArray];omega
theorem U8 {bi:Bi}(is:q.pJ us vs)(P:aF bH q (wp q.Y bi vs) Q E):wpAny Mo f.A (call (ta bi) us) Q E q.s:=by
 cases bi with
 |len=>
  refine aF.qZ is P λu v i P=>aF.onSeq i P λt vs k l h1 h2 h3 hl P=>?_;have hi:∀t,q.iv (.int (vs.toArray.size:Int) t) (.int (l.length:Int)):=λt=>by rw[List.size_toArray,bd h3];exact .int _ _
  cases k with
  |true=>exact len_tuple (h1 rfl).1 (s63 hl)<|P.same<|hi _
  |false=>exact len_list (h2 rfl) (s63 hl)<|P.same<|hi _
 |list=>
  refine aF.qZ is P λu v i P=>aF.onSeq i P λt vs k l h1 h2 h3 hl P=>?_;have fin:∀h',Fr q.b f.L h' f.m->(∀b o,q.h.get? b=some o->h'.get? b=some o)->NewPlain h' q.Z q.h.objs.size vs.toArray->Q (.ref q.h.objs.size) {q.s with heap:=h'}:=λh' F' hk hp=>by
   refine cR hp λIr hz=>?_;refine aN Ir λe hD=>?_;exact P.Pj (k:=e) q.tk F' (q.U7 hk hD) h3
  cases k with
  |true=>exact list_copyTP (hsz:=ui hl) q.fr q.news (h1 rfl).1 λh' F' hk hn M hp=>fin h' F' hk hp
  |false=>exact list_copyLP (hsz:=ui hl) q.fr q.news (h2 rfl) λh' F' hk hn M hp=>fin h' F' hk hp
 |tuple=>
  refine aF.qZ is P λu v i P=>aF.onSeq i P λt vs k l h1 h2 h3 hl P=>?_;cases k with
  |true=>exact call_tuple_same (h1 rfl).1<|P.here (h1 rfl).2
  |false=>exact call_tuple_list (hsz:=ui hl) (h2 rfl) λh' hk=>aF.U (q:=q.grow hk q.tk) q.tk (P.grow hk q.tk) h3
 |int=>exact aF.qZ is P λu v i P=>aF.Xq i P λb P=>call_int_bool<|P.same<|.int _ _
 |str=>
  refine aF.qZ is P λu v i P=>aF.ot i P λi t P=>P.ifs λhs P=>PySem.P.str_of_int ?_<|P.same<|.str _ _
  have hb:=mB hs;unfold Builtin.Int.intBits at hb;split at hb
  ·next hz=>simp at hz;subst hz;decide
  ·exact Qh ‹_› rfl
 |max=>exact aF.Xr is P λu v u' v' i j P=>aF.ot i P λi t P=>aF.ot j P λj t P=>max_two_N q.ok.hh q.fr q.news λh' tk F' N'=>P.fin tk F' N' q.rep .refl<|.int _ _
 |sorted=>exact aF.qZ is P λu v i P=>aF.Ie i P λj d hr P=>aF.qr hr P λo l kvs h3 hd hk P=>P.ifs λh64 P=>IQ (q.rep.big d<|bp hr) h3 hd hk h64 P
 |range=>
  cases vs with
  |nil=>exact P.elim
  |cons v r=>
   refine is.eF λi t=>?_;cases r with
   |nil=>rw[t.kg];exact aF.ot i P λi t P=>call_range_1<|Ey P
   |cons v' r=>exact aF.ot i P λi M P=>aF.qZ (C:=λr=>wpAny Mo f.A (call (ta .range) (_::r)) Q E q.s) t P λM M j P=>aF.ot j P λj t P=>call_range_2<|Ey P
end
section
variable {ρ:List Addr} {Z:Led} {f:Fz} {q:St f} {Q E:dz} {a u:Value} {x v:V} {us:List Value} {vs:aH}
theorem Gd {me:Bm}{pl:Sem Bool}{Q:Value × List Value->Shared->Prop}(ia:q.iv a x)(ok:FQ q.Y x me=true)(hq:Q (.builtin<|U6 me,[a]) q.s):wpAny Mo f.A (getMethod a (r9 me) pl) Q E q.s:=by
 have st:∀{id:String} {nm:Str},UA x=true->Slot "str" nm id->typeOf (.builtin id)=pure (.type "method_descriptor")->Q (.builtin id,[a]) q.s->wpAny Mo f.A (getMethod a nm pl) Q E q.s:=λhx sl ty=>by
  cases x with
  |str u=>exact ia.qw λM hq=>getMethod_builtin (typeIs_str _ _ _) PySem.F.plainAttrs_str sl ty (λM e=>nomatch e) hq
  |_=>exact nomatch hx
 have li:∀{id:String} {nm:Str},Qt q.Y x=true->Slot "list" nm id->typeOf (.builtin id)=pure (.type "method_descriptor")->Q (.builtin id,[a]) q.s->wpAny Mo f.A (getMethod a nm pl) Q E q.s:=λhx sl ty=>by
  cases x with
  |ref i=>
   exact aN (Option.isSome_iff_exists.mp hx) λl e=>rc ia e λt vs n M h3 M hq=>kl_method q.news h3 sl ty hq
  |_=>exact nomatch hx
 cases me with
 |rfind=>exact st ok PySem.F.slot_str_rfind PySem.F.type_str_rfind hq
 |startswith=>exact st ok PySem.F.slot_str_startswith PySem.F.type_str_startswith hq
 |split=>exact st ok PySem.F.slot_str_split PySem.F.type_str_split hq
 |join=>exact st ok PySem.F.slot_str_join PySem.F.type_str_join hq
 |append=>exact li ok PySem.F.slot_list_append PySem.F.type_list_append hq
 |pop=>exact li ok PySem.F.slot_list_pop PySem.F.type_list_pop hq
 |get=>
  have ok:=ok;cases x with
  |ref i=>
   refine aN (Option.isSome_iff_exists.mp ok) λl e=>?_;revert hq;refine nC ia (C0 e) λt o M h3 h4 hq=>?_;obtain⟨kvs,hd,hk⟩:=h4;exact kob_method PySem.F.slot_dict_get PySem.F.type_dict_get q.news h3 hd hq
  |_=>exact nomatch ok
inductive U9 (ρ:List Addr)(Z:Led)(us:List Value)(l:aH)(v:V):Prop
 |mk (p:List Value) (y:Value) (e:kl_last us=some (p,y)) (hp:cr ρ Z p l.dropLast) (hy:bH ρ Z y v)
theorem Ge {l:aH}:∀{us:List Value},cr ρ Z us l->l.getLast?=some v->U9 ρ Z us l v:=by
 induction l with
 |nil=>exact λM e=>fP e
 |cons x l ih=>
  cases l with
  |nil=>exact λh=>h.eF λi t e=>by rw[t.kg];exact⟨_,_,rfl,.nil,aU e▸i⟩
  |cons x' r=>
   refine λh=>h.eF λi t=>t.eF λj t e=>?_;obtain⟨p,y,e1,hp,hy⟩:=ih (.cons j t) (List.getLast?_cons_cons▸e);exact⟨_,y,by unfold kl_last;rw[e1],.cons i hp,hy⟩
theorem vh {g:Str->Str->Res V}{me:String}(ia:q.iv a x)(is:q.pJ us vs)(P:aF bH q (zU x λs=>qZ vs λv=>zU v λt=>g s t) Q E)(k:∀s t s' t',aF bH q (g s s') Q E->wpAny Mo f.A (call (.builtin me) [.str s t,.str s' t']) Q E q.s):wpAny Mo f.A (call (.builtin me) (a::us)) Q E q.s:=
 aF.zU ia P λs t P=>aF.qZ is P λM v j P=>aF.zU j P λs' t' P=>k s t s' t' P
theorem Va {me:Bm}(ia:q.iv a x)(is:q.pJ us vs)(P:aF bH q (Pe q.Y x me vs) Q E):wpAny Mo f.A (call (.builtin<|U6 me) (a::us)) Q E q.s:=by
 cases me with
 |rfind=>exact vh ia is P λs t s' t' P=>SC.rfind<|P.same<|.int _ _
 |startswith=>exact vh ia is P λs t s' t' P=>SC.startswith<|P.here<|.bool _
 |split=>
  refine vh ia is P λs t s' t' P=>P.ifs λhc P=>?_;have hc:=gb.mp hc;have h1:=l8 hc.1;refine splitN1 q.fr q.news (nn hc.2) (λl h' k e F' N'=>?_) (by rw[sizeLine_eq];omega);exact P.yL k F' N' ⟨_,_,rfl,by rw[<-e];exact xp<|strsAre_of_values l⟩
 |join=>exact aF.zU ia P λu t P=>aF.qZ is P λM v j P=>aF.Ti j P λl j P=>P.fL λks e P=>P.ifs λhc P=>fU j λt vs ht hi M=>join_tuple ht (qx e hi) hc λt' k=>P.same<|.str _ _
 |append=>
  refine aF.Ie ia P λi d hr P=>aF.qZ is P λu v j P=>aF.qu hr P λl us nn hm hi P=>P.ifs λhc P=>?_;refine append_K q.fr q.news (uh q.rep.ndZ hm) (λh' F' N'=>P.put q.tk F' N' hr ⟨_,_,rfl,?_⟩ .none)<|g9 (by rw[<-p8,bd hi];exact hc)
  rw[Array.toList_push];exact gQ (hi.ext (.put<|bp hr) bK q.rep.apart)<|.cons (q.IM hr j) .nil
 |pop=>
  cases vs with
  |cons _ _=>exact P.elim
  |nil=>
   rw[is.kg];refine aF.Ie ia P λi d hr P=>aF.qu hr P λl us nn hm hi P=>P.ifs λhc P=>P.fL λv hv P=>?_;obtain⟨p,y,e1,hp,hy⟩:=Ge hi hv;exact kl_pop q.fr q.news e1 (uh q.rep.ndZ hm) (g9 (by rw[bd hi];exact hc)) λh' F' N'=>P.put q.tk F' N' hr ⟨_,_,rfl,hp.ext (.put<|bp hr) bK q.rep.apart⟩<|q.IM hr hy
 |get=>
  refine aF.Ie ia P λi d hr P=>aF.qZ is P λu v j P=>aF.zU j P λk t P=>aF.qr hr P λo l kvs h3 hd hk P=>?_;have hb:=q.rep.big d<|bp hr
  refine aZ (r6 (k:=k) hk) (λY3=>?_) λY4=>?_
  ·refine cR Y3 λe1 e2=>?_;rw[e1] at P;exact kdg_get1 q.news h3 hd hb (strKind_is _ _ _ _) none e2<|P.same .none
  ·refine de Y4 λv u e1 e2 iu=>?_;rw[e1] at P;exact kdg_get1 q.news h3 hd hb (strKind_is _ _ _ _) (some u) e2<|P.same iu
end
theorem m1 (m:Nat):(-1:Int)+((m+1:Nat):Int)=(m:Int):=(Int.add_comm _ _).trans<|Int.add_neg_cancel_right (m:Int) 1
theorem Gf (n:Nat):Builtin.Slice.sliceAdjust none (some (-1)) 1 (n:Int)=(0,((n - 1:Nat):Int)):=by
 cases n with
 |zero=>decide
 |succ m=>
  show((0:Int),max ((-1:Int)+((m+1:Nat):Int)) 0)=(0,(m:Int));rw[m1,Int.max_eq_left<|Int.natCast_nonneg m]
theorem Gg (n:Nat):Builtin.Slice.slicePlaces 0 (n:Int) 1=n:=by
 cases n with
 |zero=>rfl
 |succ m=>
  show(if (0:Int)<((m+1:Nat):Int) then (((m+1:Nat):Int) - 0 - 1) / 1+1 else 0).toNat=m+1;rw[if_pos<|show(0:Int)<((m+1:Nat):Int) from Int.ofNat_lt.mpr (Nat.succ_pos m),Int.sub_zero,show((m+1:Nat):Int) - 1=(m:Int) from Int.add_sub_cancel (m:Int) 1,Int.ediv_one];rfl
section
variable {A:Around} {E:dz} {s:Shared}
theorem tT {sl:Addr}{n:Nat}{u:Tok}{Q:Int × Int × Nat->Shared->Prop}(hs:s.heap.IsSliceOf sl .none (.int (-1) u) .none)(h:Q (0,1,n - 1) s):
  wpAny Mo A (Builtin.Slice.sliceApplied (.ref sl)<|pure (n:Int)) Q E s:=by
 refine j8 (id hs) λos WQ Cs SS=>aw<|aw<|wpAny_field WQ SS (x:=.none) rfl<|aw<|wpAny_field WQ SS (x:=.int (-1) u) rfl<|aw<|wpAny_field WQ SS (x:=.none) rfl<|aW ?_
 refine aw<|slicePart_none ?_
 rw[if_neg<|by lk];refine aw<|slicePart_none<|aw<|slicePart_int<|aw<|aW ?_
 show wpAny _ _ (match Builtin.Slice.sliceAdjust none (some (-1)) 1 (n:Int) with | (lo,hi)=>pure (lo,(1:Int),Builtin.Slice.slicePlaces lo hi 1)) _ _ s;rw[Gf];show wpAny _ _ (pure ((0:Int),(1:Int),Builtin.Slice.slicePlaces 0 ((n - 1:Nat):Int) 1)) _ _ s;rw[Gg];exact aW h
theorem M2 (xs:Array Value)(b:Nat):((List.range b).filterMap λ(k:Nat)=>xs[((0:Int)+(k:Int) * 1).toNat]?).toArray=(xs.toList.take b).toArray:=by
 have e:(λ(k:Nat)=>xs[((0:Int)+(k:Int) * 1).toNat]?)=λk=>xs[0+k]?:=by
  funext k
  rw[Int.zero_add,Int.mul_one,Int.toNat_natCast,Nat.zero_add]
 rw[e];have:=pick_run xs 0 b;rw[List.filterMap_map,List.drop_zero] at this;exact bJ _ this
theorem M3 {n:Nat}(h:n - 1=n):n=0:=by
 cases n with
 |zero=>rfl
 |succ m=>exact absurd h<|i9<|uG m
theorem sd {t sl:Addr}{items:Array Value}{u:Tok}{Q:dz}(ht:IsTup s.heap t items)(hs:s.heap.IsSliceOf sl .none (.int (-1) u) .none)
  (h0:items.size=0->Q (.ref t) s) (h:items.size≠0->Q (.ref s.heap.objs.size) {s with heap:=s.heap.push {cls:=.type "tuple",data:=.seq (items.toList.take (items.size - 1)).toArray}})
  (hsz:items.size<=sizeLine):wpAny Mo A (getItem (.ref t)<|.ref sl) Q E s:=by
 have WR:sizeOk (.seq (items.toList.take<|items.size - 1).toArray):=by
  show(items.toList.take<|items.size - 1).toArray.size<=sizeLine;rw[List.size_toArray,List.length_take,p8];exact eo (Nat.min_le_right _ _) hsz
 refine j8 (id hs) λos WQ Cs SS=>?_;unfold getItem
 try with_reducible refine dJ ?_
 first | refine aw (aW ?_) | skip
 refine aw<|wpAny_sequenceKey ht.typeIs (by lk) ?_
 refine aw (wpAny_callSpecial?_slot (name:=Str.ofString "__getitem__") ht.typeIs slot_tuple_getitem
  (wpAny_call_entry slot_tuple_getitem ht.typeIs entry_tuple_getitem ?_<|args_tuple_getitem _ _))
 show wpAny _ _ (Builtin.Tuple.tupleItemsOf (.ref t) >>= _) _ _ s;refine aw<|tupleItemsOf_ ht ?_
 refine aw (wpAny_typeOf (⟨os,WQ,Cs⟩:s.TypeIs (.ref sl) "slice") ?_);rw[if_pos<|by lk];refine aw<|tT hs ?_
 show wpAny _ _ (if ((0:Int)==0&&(1:Int)==1&&(items.size - 1)==items.size)=true then _ else _) _ _ s;by_cases hz:items.size=0
 ·rw[if_pos (by rw[hz];rfl)];exact aw<|aw<|wpAny_typeOf ht.typeIs<|aW (by rw[if_pos<|by lk];exact aw<|wpAny_rule<|aW ⟨_,rfl,aW<|h0 hz⟩)
 ·rw[if_neg λe=>hz<|M3<|eq_of_beq<|b2 e,M2 items];exact aw (m:=Builtin.Tuple.tupleExact _)<|wpAny_newObj_type (aW ⟨_,rfl,aW<|h hz⟩) WR
theorem Gh (n:Nat):sliceBounds none (some (-1)) none n=sliceBounds (some ((0:Nat):Int)) (some ((n - 1:Nat):Int)) none n:=by
 cases n with
 |zero=>decide
 |succ m=>
  show((0:Int),max 0<|min ((-1:Int)+((m+1:Nat):Int)) ((m+1:Nat):Int),(1:Int))=((0:Int),max 0<|min (m:Int) ((m+1:Nat):Int),(1:Int));rw[m1]
theorem yV (items:Array Value):slicePick items none (some (-1)) none=(items.toList.take<|items.size - 1).toArray:=by
 have h2:=slicePick_run items 0 (items.size - 1) (Nat.sub_le _ _)<|p9 _
 unfold slicePick at h2⊢;rw[Gh,h2,List.drop_zero,Nat.sub_zero]
end
def pX (t:Lv)(e:Expr)(x:X):Prop:=∀(f:Fz) (q:St f) (Q:Bool->Shared->Prop) (E:dz),f.t=t->aF Pi q (dg<|aV t.O x f.N q.Y) Q E->wpAny Mo f.A (isTrue e f.env<|eval e f.env) Q E q.s
inductive dC (t:Lv):List Expr->List X->Prop
 |nil:dC t [] []
 |cons {e:Expr} {x:X} {r:List Expr} {xs:List X}:(∀env r,starEach (e::r) env=(false,eval e env)::starEach r env)->cx t e x->pX t e x->dC t r xs->dC t (e::r) (x::xs)
abbrev xq (Q E:dz):Result->Shared->Prop:=λr s'=>match r with | .ok (.ret v)=>Q v s' | .ok _=>False | .error e=>E e s'
def iJ (O:av)(n:Nat):Prop:=∀(fn:Nat) (f:Fz) (q:St f) (A':Around) (Q E:dz) (us:List Value) (vs:aH),f.t.n=n->A'.frames=f.A.frames->A'.handled=f.A.handled->A'.depth<=f.A.depth+1->A'.units<=f.A.units+16->q.pJ us vs->
 aF bH q (O fn vs q.Y) Q E->codeAny Mo A' (.call (.ref fn) ⟨us,[]⟩) (xq Q E) q.s
section
variable {t:Lv} {f:Fz} {q:St f} {Q E:dz} {a b:Value} {x y:V} {l:List Expr} {xs:List X} {pos p:Pos} {bC cC:Expr} {jM ki:X}
theorem dC.length (h:dC t l xs):xs.length=l.length:=by
 induction h with
 |nil=>rfl
 |cons _ _ _ _ ih=>exact bJ (· +1) ih
theorem dC.C4 (h:dC t l xs):FX t l xs:=by
 induction h with
 |nil=>exact Iw
 |cons he hx _ _ ih=>exact F0 (λenv=>he env _) hx ih
theorem dC.plain (h:dC t l xs)(pos:Pos)(env:Env):(backTo pos<|starEach l env).any (·.1)=false:=by
 induction h with
 |nil=>rfl
 |cons he _ _ _ ih=>rw[he env];exact ih
theorem dC.all (h:dC t l xs)(pos:Pos)(env:Env):(backTo pos<|starEach l env).all (λx=>!x.1)=true:=by
 induction h with
 |nil=>rfl
 |cons he _ _ _ ih=>rw[he env];exact ih
theorem dC.args (h:dC t l xs){fv:Value}{Q:Args->Shared->Prop}(hh:wpAny Mo f.A (spliced<|backTo pos<|starEach l f.env) (λvs s'=>Q ⟨vs,[]⟩ s') E q.s):wpAny Mo f.A (evalArgs fv true (backTo pos<|starEach l f.env) []) Q E q.s:=by
 cases h with
 |nil=>
  refine aw<|cE hh (λvs s' h'=>?_) λM M x=>x
  first
   |exact dJ (aw (aW (aw (aW (aW h')))))
   |exact aw (aW (dJ (aw (aW (aw (aW (aW h')))))))
 |cons he _ _ _=>
  rw[he f.env] at hh⊢;exact Calls.evalArgs_plain hh
theorem M4 {op:Operator}(bA:cx t bC jM)(eG:cx t cC ki):cx t (.BinOp bC op cC pos) (.bin op jM ki):=λM q M E ht P=>
 wpAny_BinOp (bA _ q _ E ht<|P.bind λam M bZ aP=>eG _ am _ E ht<|aP.bind λM bN iW dB=>UX (bN.xj bZ) iW dB)
theorem M5 {op:CmpOp}(hm:behindInMarks op cC=false)(bA:cx t bC jM)(eG:cx t cC ki):cx t (.Compare bC [op] [cC] pos) (.m op jM ki):=λM q M E ht P=>
 wpAny_Compare1 (bA _ q _ E ht<|P.bind λam M bZ aP=>eG _ am _ E ht<|aP.bind λM bN iW dB=>dB.fL λM e dB=>Pm (bN.xj bZ) iW e λM=>dB.same<|.bool _) hm
theorem Res.bind_assoc {α β γ:Type}(r:Res α)(g:α->af->Res β)(k:β->af->Res γ):(r.bind g).bind k=r.bind λa Y=>(g a Y).bind k:=by
 cases r<;>rfl
theorem IR {op:CmpOp}(hm:behindInMarks op cC=false)(bA:cx t bC jM)(eG:cx t cC ki):pX t (.Compare bC [op] [cC] pos) (.m op jM ki):=λf q Q E ht P=>by
 have P:aF Pi q (((aV t.O jM f.N q.Y).bind λx Y=>(aV t.O ki f.N Y).bind λy Y=>fL (cS Y op x y) λb=>.ok (.bool b) Y).bind λv Y=>fL (br Y v) λb=>.ok b Y) Q E:=P;rw[Res.bind_assoc] at P;refine wpAny_isTrue_Compare1 (bA _ q _ E ht<|P.bind λam M bZ aP=>eG _ am _ E ht<|aF.bind (Res.bind_assoc _ _ _▸aP) λbz bN iW dB=>?_) hm;cases e:cS bz.Y op _ _ with
 |none=>rw[e] at dB;exact dB.elim
 |some r=>rw[e] at dB;exact Pm (bN.xj bZ) iW e λM=>wpAny_truthy_bool<|aF.same dB rfl
theorem C5 {e:Expr}{x:X}(he:∀env whole,isTrue e env whole=(do let v<-whole;standAt e.pos;holding [v] (truthy v)))(h:cx t e x):pX t e x:=λf q Q E ht P=>by
 rw[he];exact aw<|h _ q _ E ht<|P.bind λM M bZ aP=>aw<|gy<|dJ<|aP.fL λM e aP=>yO bZ e λM=>aP.same rfl
theorem M6 {C6:Expr}{Gi:X}(bA:pX t bC jM)(eG:cx t cC ki)(nE:cx t C6 Gi):cx t (.IfExp bC cC C6 pos) (.ite jM ki Gi):=λM q M E ht P=>
 wpAny_IfExp (bA _ q _ E ht (P.bindB λ{v} am M aP=>by
  cases v with
  |true=>exact eG _ am _ E ht aP
  |false=>exact nE _ am _ E ht aP))
theorem yW {e:Expr}(h:∀a b c p,e≠.Slice a b c p)(o i:Value):subscripted e false o i=operate [o,i] (getItem o i):=by
 cases e with
 |Slice=>exact absurd rfl<|h _ _ _ _
 |_=>rfl
theorem M7 (hs:∀a b c p,cC≠.Slice a b c p)(bA:cx t bC jM)(eG:cx t cC ki):cx t (.Subscript bC cC pos) (.i jM ki):=λM q M E ht P=>
 Subscript_ (bA _ q _ E ht<|P.bind λam M bZ aP=>eG _ am _ E ht<|aP.bind λM bN iW dB=>dB.fL λM e dB=>UZ (yW hs) (bN.xj bZ) iW e λM M iu=>dB.same iu)
theorem xr {ρ:List Addr}{Z:Led}{l:aH}{vs:List Value}(h:cr ρ Z vs l)(k:Nat):cr ρ Z (vs.take k) (l.take k):=by
 induction k generalizing l vs with
 |zero=>exact .nil
 |succ k ih=>cases l with
  |nil=>rw[h.kg];exact .nil
  |cons x l=>exact h.eF λi t=>.cons i<|ih t
theorem Gj {ρ:List Addr}{Z:Led}{l:aH}{vs:List Value}(h:cr ρ Z vs l)(k:Nat):cr ρ Z (vs.drop k) (l.drop k):=by
 induction k generalizing l vs with
 |zero=>exact h
 |succ k ih=>cases l with
  |nil=>rw[h.kg];exact .nil
  |cons x l=>exact h.eF λM t=>ih t
theorem St.Ez (q:St f)(o:Obj):∀z o',q.h.get? z=some o'->(q.h.push o).get? z=some o':=λM M e=>lj _ e
theorem QT (ia:q.iv a x)(ib:q.iv b y)(P:aF bH q (rW q.Y x y) Q E):
  wpAny Mo f.A (subscriptTail bC (.Slice none (some cC) none p) a (.ref q.h.objs.size)) Q E {q.s with heap:=q.h.push {cls:=.type "slice",data:=.fields #[.none,b,.none]}}:=by
 have hs:∀o i,subscripted (.Slice none (some cC) none p) false o i=operate [i,o] (getItem o i):=λM M=>rfl;refine aF.ot ib P λk tk P=>?_;cases x with
 |U l=>
  refine aF.ifs P λhk P'=>fU ia λt vs ht hi ia=>?_;refine cR hk λeA hl=>?_;subst eA;have ng:=q.Ez {cls:=.type "slice",data:=.fields #[.none,.int (-1) tk,.none]};have P1:=P'.grow ng q.tk;have hlen:=bd hi;have Hx:=ht.keeps ng;refine tail_any Hx.typeIs slot_tuple_getitem.lookup (sd Hx (Heap.IsSliceOf.new ..) (λh0=>P1.here ?_) (λh0=>P1.U q.tk ?_)<|ui (hlen▸hl))<|hs _ _
  ·rw[qS<|hlen.symm.trans h0] at ia⊢;exact ia
  ·rw[List.dropLast_eq_take,<-hlen];exact xr hi _
 |str s=>
  have ng:=q.Ez {cls:=.type "slice",data:=.fields #[.none,.int k tk,.none]};refine aF.ifs (P.grow ng q.tk) λhl P1=>ia.qw λM=>?_;exact tail_any (s:=(q.grow ng q.tk).s) (typeIs_str _ _ _) PySem.F.slot_str_getitem.lookup (wpAny_getItem_str_slice (l:=none) (u:=some (k,tk)) (st:=none) ⟨_,Heap.get?_push_size _ rfl,rfl,rfl⟩ rfl
   (post_val_or_str ⟨eo (Txt.slice_le s _ _)<|g9 hl,λt' tk=>P1.same<|.str _ _⟩)) (hs _ _)
 |ref i=>
  refine aF.fL P λl e P'=>P'.ifs λhk P''=>rc ia e λt vs n M h3 hi=>?_;refine cR hk λmT hl=>?_;subst mT;have ng:=q.Ez {cls:=.type "slice",data:=.fields #[.none,.int (-1) tk,.none]};have hlen:=bd hi;have ht:=(q.isList h3).push {cls:=.type "slice",data:=.fields #[.none,.int (-1) tk,.none]};have hsz:vs.size<=sizeLine:=by rw[<-p8];exact g9 (hlen▸hl)
  refine tail_any (Heap.IsList.typeIs ht) list_getitem_lookup (wpAny_getItem_list_slice ht (Heap.IsSliceOf.new ..) .none (.int _ _) .none (by simp) ?_ hsz)<|hs _ _
  rw[yV];exact(P''.grow ng q.tk).list q.tk (by rw[List.dropLast_eq_take,<-hlen,p8];exact xr hi _)
 |_=>exact P.elim
theorem IS (ia:q.iv a x)(ib:q.iv b y)(P:aF bH q (oN q.Y x y) Q E):
  wpAny Mo f.A (subscriptTail bC (.Slice (some cC) none none p) a (.ref q.h.objs.size)) Q E {q.s with heap:=q.h.push {cls:=.type "slice",data:=.fields #[b,.none,.none]}}:=by
 refine aF.ot ib P λk tk P=>?_;have ng:=q.Ez {cls:=.type "slice",data:=.fields #[.int k tk,.none,.none]};cases x with
 |ref i=>
  refine aF.fL (P.grow ng q.tk) λl e P1=>P1.ifs λhk P1=>rc ia e λt vs n M h3 hi=>?_;have ht:=(q.isList h3).push {cls:=.type "slice",data:=.fields #[.int k tk,.none,.none]};have hsz:vs.size=l.length:=by rw[<-p8];exact(bd hi)
  refine tail_any (Heap.IsList.typeIs ht) list_getitem_lookup (wpAny_getItem_list_slice ht (Heap.IsSliceOf.new ..) (.int _ _) .none .none (by simp) ?_<|g9 (hsz▸hk.2.2))<|(λM M=>rfl:∀o i,subscripted (.Slice (some cC) none none p) false o i=operate [i,o] (getItem o i)) _ _
  rw[show(some k:Option Int)=some (k.toNat:Int) by rw[Int.toNat_of_nonneg hk.1],slicePick_from _ _ (by rw[hsz];exact Int.toNat_le.mpr hk.2.1)];exact P1.list q.tk<|Gj hi _
 |_=>exact P.elim
theorem Gk (bA:cx t bC jM)(eG:cx t cC ki):cx t (.Subscript bC (.Slice none (some cC) none p) pos) (.slcTo jM ki):=λM q M E ht P=>
 Subscript_ (bA _ q _ E ht<|P.bind λam M bZ aP=>wpAny_Slice<|evalPart_none_step<|evalPart_some_step<|eG _ am _ E ht<|aP.bind λM bN iW dB=>evalPart_none_step<|QT (bN.xj bZ) iW dB)
theorem AS (bA:cx t bC jM)(eG:cx t cC ki):cx t (.Subscript bC (.Slice (some cC) none none p) pos) (.slcFrom jM ki):=λM q M E ht P=>
 Subscript_ (bA _ q _ E ht<|P.bind λam M bZ aP=>wpAny_Slice<|evalPart_some_step<|eG _ am _ E ht<|aP.bind λM bN iW dB=>evalPart_none_step<|evalPart_none_step<|IS (bN.xj bZ) iW dB)
theorem EA {o:Expr}(hb:kE o=true)(nm:Str)(env:Env)(t:Sem Value):attributeBase o nm env t=t:=by
 cases o with
 |Call g l kw p=>
  cases g with
  |Name=>
   cases l with
   |nil=>
    cases kw with
    |nil=>exact nomatch hb
    |cons=>rfl
   |cons=>rfl
  |_=>rfl
 |_=>rfl
def uj:Prop:=∀C nm,uT.attrs C nm=true->findIn K (.ref C) nm=some none
theorem vi {nm:Str}(hT:uj){Y:af}(h:dh Y x nm=true):∃aaM,oO Y x=some aaM/\findIn K (.ref aaM.C) nm=some none/\aaM.l.length<499:=by
 unfold dh at h;cases e:oO Y x with
 |none=>rw[e] at h;exact nomatch h
 |some aaM=>
  rw[e] at h;have h:=gb.mp h;exact lY aaM rfl (hT _ _ h.1)<|l8 h.2
theorem IT (hT:uj){nm:Str}(hb:kE bC=true)(bA:cx t bC jM):cx t (.Attribute bC nm pos) (.attr jM nm):=λf q Q E ht P=>by
 refine Attribute_any_ (bA _ q _ E ht<|P.bind λam M bZ aP=>aP.ifs λhm aP=>aP.fL λr e aP=>?_) (by
  show(do let o<-attributeBase bC nm f.env (eval bC f.env);_)= _;rw[EA hb])
 exact j8 (vi hT hm) λaaM e0 hC M=>attrOk hC e0 bZ e λM M iu=>aP.same iu
end
section
variable {t:Lv} {f:Fz} {q:St f} {Q E:dz} {a b:Value} {x y:V} {l:List Expr} {xs:List X} {pos p:Pos} {bC cC:Expr} {jM ki:X}
theorem Res.aK {α:Type}(r:Res α):(r.bind λv Y=>.ok v Y)=r:=by cases r<;>rfl
noncomputable abbrev Pn (o:Bool):BoolOp:=cond o .Or .And
def C7 (o:Bool)(O:av)(l:List X)(N:Loc)(Y:af):Res V:=cond o (uV O l N Y) (n0 O l N Y)
variable {O:av} {N:Loc} {Y:af}
theorem AT (o:Bool){x:X}:C7 o O [x] N Y=aV O x N Y:=by
 cases o<;>exact Res.aK _
theorem AU (o:Bool){x y:X}{r:List X}:C7 o O (x::y::r) N Y=(aV O x N Y).bind λv Y=>fL (br Y v) λt=>cond (o==t) (.ok v Y) (C7 o O (y::r) N Y):=by
 cases o
 ·refine bJ (Res.bind (aV O x N Y)) (funext λv=>funext λY=>bJ (fL (br Y v)) (funext λt=>?_));cases t<;>rfl
 ·refine bJ (Res.bind (aV O x N Y)) (funext λv=>funext λY=>bJ (fL (br Y v)) (funext λt=>?_));cases t<;>rfl
theorem IU (o:Bool)(hs:dC t l xs):∀(f:Fz) (q:St f) (pos:Pos) (Q E:dz),f.t=t->aF bH q (C7 o t.O xs f.N q.Y) Q E->wpAny Mo f.A (boolOp pos (Pn o) (evalEach l f.env)) Q E q.s:=by
 induction hs with
 |nil=>intro f q pos Q E _ P;cases o<;>exact P.elim
 |@cons e x r xs he hx ht hr ih=>
  intro f q pos Q E e0 P;cases hr with
  |nil=>
   rw[AT] at P;cases o<;>exact hx f q Q E e0 P
  |@cons cC ki M8 aaq Po aar aas IV=>
   rw[AU] at P;have step:∀w,(wpAny Mo f.A (eval e f.env) (λv dW=>wpAny Mo f.A (truthy v) (λb kU=>cond (o==b) (Q v kU) (wpAny Mo f.A (boolOp pos (Pn o) (evalEach (cC::M8) f.env)) Q E kU)) E dW) E q.s)->w=boolOp pos (Pn o) (evalEach (e::cC::M8) f.env)->wpAny Mo f.A w Q E q.s:=λw h hw=>by
    rw[hw];cases o with
    |false=>
     show wpAny Mo f.A (do
      let v<-eval e f.env
      standAt pos
      let t<-holding [v] (truthy v)
      match BoolOp.And,t with
      | .And,false | .Or,true=>pure v
      |_,_=>boolOp pos .And (evalEach (cC::M8) f.env)) Q E q.s
     refine aw (cE h (λv dW bA=>aw (gy (aw (dJ (cE bA (λb kU eG=>?_) λM M x=>x))))) λM M x=>x);cases b with
     |false=>exact aW eG
     |true=>exact eG
    |true=>
     show wpAny Mo f.A (do
      let v<-eval e f.env
      standAt pos
      let t<-holding [v] (truthy v)
      match BoolOp.Or,t with
      | .And,false | .Or,true=>pure v
      |_,_=>boolOp pos .Or (evalEach (cC::M8) f.env)) Q E q.s
     refine aw (cE h (λv dW bA=>aw (gy (aw (dJ (cE bA (λb kU eG=>?_) λM M x=>x))))) λM M x=>x);cases b with
     |true=>exact aW eG
     |false=>exact eG
   refine step _ (hx f q _ E e0 (P.bind λam M bZ aP=>aP.fL λb eb aP=>yO bZ eb λtk=>?_)) rfl;cases hb:(o==b) with
   |true=>rw[hb] at aP;exact aP.same bZ
   |false=>rw[hb] at aP;exact ih f (am.grow (λM M h=>h) tk) pos Q E e0 (aP.grow (λM M h=>h) tk)
theorem AV (o:Bool){x:X}(hx:∀O N Y,aV O x N Y=C7 o O xs N Y)(hs:dC t l xs):cx t (.BoolOp (Pn o) l pos) x:=λf q Q E e P=>IU o hs f q pos Q E e (hx _ _ _▸P)
def M9 (o:Bool)(O:av)(l:List X)(N:Loc)(Y:af):Res Bool:=dg (C7 o O l N Y)
theorem IW (o:Bool){x:X}:M9 o O [x] N Y=dg (aV O x N Y):=bJ dg (AT o)
theorem te {α:Type}(r:Res α)(g:α->af->Res V):dg (r.bind g)=r.bind λa Y=>dg (g a Y):=Res.bind_assoc _ _ _
theorem C8 (o:Bool)(r:Res V)(g:af->Res V):dg (r.bind λv Y=>fL (br Y v) λt=>cond (o==t) (.ok v Y) (g Y))=(dg r).bind λt Y=>cond (o==t) (.ok t Y) (dg (g Y)):=by
 cases r with
 |ok v Y=>
  show dg (fL (br Y v) λt=>cond (o==t) (.ok v Y) (g Y))=(fL (br Y v) λt=>Res.ok t Y).bind _;cases e:br Y v with
  |none=>rfl
  |some t=>
   show dg (cond (o==t) (.ok v Y) (g Y))=cond (o==t) (.ok t Y) (dg (g Y));cases (o==t) with
   |true=>show fL (br Y v) _= _;rw[e];rfl
   |false=>rfl
 |exc C Y=>rfl
 |stuck=>rfl
theorem IX (o:Bool){x y:X}{r:List X}:M9 o O (x::y::r) N Y=(dg (aV O x N Y)).bind λt Y=>cond (o==t) (.ok t Y) (M9 o O (y::r) N Y):=(bJ dg (AU o)).trans (C8 o _ _)
theorem Gl (o:Bool)(hs:dC t l xs):∀(f:Fz) (q:St f) (Q:Bool->Shared->Prop) (E:dz),f.t=t->aF Pi q (M9 o t.O xs f.N q.Y) Q E->wpAny Mo f.A (allTrue (Pn o) l f.env) Q E q.s:=by
 induction hs with
 |nil=>intro f q Q E _ P;cases o<;>exact P.elim
 |@cons e x r xs he hx ht hr ih=>
  intro f q Q E e0 P;have step:∀(h:wpAny Mo f.A (isTrue e f.env (eval e f.env)) (λb dW=>cond (o==b) (Q b dW) (wpAny Mo f.A (allTrue (Pn o) r f.env) Q E dW)) E q.s),wpAny Mo f.A (allTrue (Pn o) (e::r) f.env) Q E q.s:=λh=>by
   cases o with
   |false=>
    refine aw (cE h (λb dW bA=>?_) λM M x=>x);cases b with
    |false=>exact aW bA
    |true=>exact bA
   |true=>
    refine aw (cE h (λb dW bA=>?_) λM M x=>x);cases b with
    |true=>exact aW bA
    |false=>exact bA
  cases hr with
  |nil=>
   rw[IW] at P;refine step (ht f q _ E e0 ?_);refine aF.bindB (Res.aK (dg (aV t.O x f.N q.Y))▸P) λ{v} am M aP=>?_;cases hv:(o==v) with
   |true=>exact aP.here rfl
   |false=>
    have hv:v= !o:=by cases o<;>cases v<;>first | rfl | exact nomatch hv
    rw[hv] at aP;cases o<;>exact aW (aP.here rfl)
  |cons _ _ _ _=>
   rw[IX] at P;refine step (ht f q _ E e0 (P.bindB λ{v} am M aP=>?_));cases hv:(o==v) with
   |true=>rw[hv] at aP;exact aP.here rfl
   |false=>rw[hv] at aP;exact ih f am Q E e0 aP
theorem xu (o:Bool){x:X}(hx:∀O N Y,aV O x N Y=C7 o O xs N Y)(hs:dC t l xs):pX t (.BoolOp (Pn o) l pos) x:=λf q Q E e P=>by
 rw[hx] at P;cases o<;>exact Gl _ hs f q Q E e P
theorem snd_and (hs:dC t l xs):cx t (.BoolOp .And l pos) (.and xs):=AV false (λM M M=>rfl) hs
theorem QU (hs:dC t l xs):cx t (.BoolOp .Or l pos) (.or xs):=AV true (λM M M=>rfl) hs
theorem IY (hs:dC t l xs):pX t (.BoolOp .And l pos) (.and xs):=xu false (λM M M=>rfl) hs
theorem Na (hs:dC t l xs):pX t (.BoolOp .Or l pos) (.or xs):=xu true (λM M M=>rfl) hs
theorem IZ {e:Expr}{x:X}(ht:pX t e x):pX t (.UnaryOp .Not e pos) (.not x):=λf q Q E e0 P=>by
 have P:aF Pi q (dg ((dg (aV t.O x f.N q.Y)).bind λb Y=>.ok (.bool !b) Y)) Q E:=P;rw[te] at P;exact wpAny_isTrue_Not (ht f q _ E e0 (P.bindB λam M aP=>aP.here rfl))
theorem I0 {C6:Expr}{Gi:X}(bA:pX t bC jM)(eG:pX t cC ki)(nE:pX t C6 Gi):pX t (.IfExp bC cC C6 pos) (.ite jM ki Gi):=λf q Q E e0 P=>by
 have P:aF Pi q (dg ((dg (aV t.O jM f.N q.Y)).bind λb Y=>cond b (aV t.O ki f.N Y) (aV t.O Gi f.N Y))) Q E:=P;rw[te] at P;refine aw (bA f q _ E e0 (P.bindB λ{v} am M aP=>?_));cases v with
 |true=>exact eG f am Q E e0 aP
 |false=>exact nE f am Q E e0 aP
theorem Nb {e:Expr}{x:X}(bA:cx t e x):cx t (.UnaryOp .Not e pos) (.not x):=λf q Q E e0 P=>by
 have P:aF bH q (((aV t.O x f.N q.Y).bind λv Y=>fL (br Y v) λb=>.ok b Y).bind λb Y=>.ok (.bool !b) Y) Q E:=P;rw[Res.bind_assoc] at P;refine wpAny_UnaryOp (bA f q _ E e0 (P.bind λ{v u} am M bZ aP=>dJ (aw ?_)));cases e:br am.Y v with
 |none=>rw[e] at aP;exact aP.elim
 |some b=>rw[e] at aP;exact yO bZ e λM=>aW (aF.same aP (.bool _))
theorem Nc {i:Int}{j:Nat}:cx t (.UnaryOp .USub (.Constant (.int i) j p) pos) (.c (.int (-i))):=λM M M M M P=>wpAny_UnaryOp (wpAny_Constant_int (neg_int (aF.same P (.int _ _))))
end
section
variable {t:Lv} {f:Fz} {q:St f} {Q E:dz} {a b:Value} {x:X} {l:List Expr} {xs:List X} {pos fp apos:Pos} {o:Expr} {nm:Str} {s:Shared}
theorem AW {b:Bi}{args:List (Bool × Sem Value)}(hp:args.any (·.1)=false)(h:wpAny Mo f.A (evalArgs (ta b) true args []) (λa dW=>wpAny Mo f.A (call (ta b) ([]++a.pos) a.kw) Q E dW) E s):wpAny Mo f.A (callWith pos (ta b) [] args []) Q E s:=by
 cases b with
 |len=>exact Calls.callWith_builtin hp h
 |sorted=>exact Calls.callWith_builtin hp h
 |max=>exact Calls.callWith_builtin hp h
 |list=>exact zZ hp h
 |tuple=>exact zZ hp h
 |str=>exact zZ hp h
 |int=>exact zZ hp h
 |range=>exact zZ hp h
theorem QV {b:Bi}(hn:jb t.ns nm=true)(hb:Iv nm b)(hl:dC t l xs):cx t (.Call (.Name nm fp) l [] pos) (.bi b xs):=λf q Q E ht P=>
 wpAny_Call_ofName (MV (ht▸hn) hb<|AW (hl.plain pos f.env)<|hl.args<|hl.C4 f q pos _ E ht<|P.bind λM M bZ aP=>U8 bZ aP)
theorem kW {g:Value}{first:List Value}(hl:dC t l xs)(hk:keepIn K g=true)(h:wpAny Mo f.A (spliced<|backTo pos<|starEach l f.env) (λus dW=>K.In dW.heap/\wpAny Mo f.A (call g (first++us)) Q E dW) E q.s):wpAny Mo f.A (callWith pos g first (backTo pos<|starEach l f.env) []) Q E q.s:=
 callWith_of (by rw[hl.plain pos f.env];rfl) (λh X=>keeps_K hk h X) (hl.args h)
theorem iJ.here {O:av}{n fn:Nat}{us:List Value}{vs:aH}(hO:iJ O n)(hn:f.t.n=n)(i:q.pJ us vs)(P:aF bH q (O fn vs q.Y) Q E):wpAny Mo f.A (call (.ref fn) us) Q E q.s:=wpAny_call<|hO fn f q f.A Q E us vs hn rfl rfl (ly _) (ej _ _) i P
theorem I1 (hO:iJ t.O t.n){a:Nat}(hn:jb t.ns nm=true)(hf:nsIn K mainGlobals nm=some (some<|.ref a))(hk:keepIn K (.ref a)=true)(hl:dC t l xs):cx t (.Call (.Name nm fp) l [] pos) (.call a xs):=λf q Q E ht P=>
 wpAny_Call_ofName (oV (ht▸hn) hf<|kW hl hk<|hl.C4 f q pos _ E ht<|P.bind λam M bZ aP=>⟨am.s8,hO.here (bJ Lv.n ht) bZ aP⟩)
theorem xv (hb:kE o=true)(hlen:l.length<30)(Ck:(apos.endLine==pos.line)=true)(hl:dC t l xs)
  (h:wpAny Mo f.A (eval o f.env) (λov dW=>wpAny Mo f.A (getMethod ov nm<|do return (<-importBound o f.env).getD true) (λfx kU=>wpAny Mo f.A (callWith pos fx.1 fx.2 (backTo pos<|starEach l f.env) []) Q E kU) E dW) E q.s):
  wpAny Mo f.A (eval (.Call (.Attribute o nm apos) l [] pos) f.env) Q E q.s:=by
 rw[arm_eval_Call,EA hb];refine aw<|cE h (λov dW bA=>aw<|gy ?_) λM M e=>e
 have WS:methodCallForm (l.length+([]:List Keyword).length) (backTo pos<|starEach l f.env) (backToKw pos<|keywordEach [] f.env)=true:=by
  unfold methodCallForm;rw[hl.all pos f.env];rw[show backToKw pos (keywordEach [] f.env)=[] from rfl];simpa using hlen
 have aa7:methodCallPos true o f.env apos pos=pure pos:=by unfold methodCallPos;simp[Ck]
 unfold methodCall calleeOf;rw[WS];simp only[if_true];refine aw<|dJ<|cE bA (λfx kU eG=>?_) λM M e=>e
 rw[aa7];exact aw<|aW eG
theorem QW {me:Bm}(hb:kE o=true)(hlen:l.length<30)(Ck:(apos.endLine==pos.line)=true)(ho:cx t o x)(hl:dC t l xs):cx t (.Call (.Attribute o (r9 me) apos) l [] pos) (.bm x me xs):=λf q Q E ht P=>
 xv hb hlen Ck hl (ho f q _ E ht<|P.bind λam M bZ aP=>aP.ifs λhm aP=>Gd bZ hm<|Calls.callWith_builtin (hl.plain pos f.env)<|hl.args<|hl.C4 f am pos _ E ht<|aP.bind λM bN iW dB=>Va (bN.xj bZ) iW dB)
def EB:Prop:=∀C nm f,uT.bI C nm=some f->findIn K (.ref C) nm=some (some (.ref f))/\typeIn K (.ref f)=some (.type "function")/\keepIn K (.ref f)=true
def EC:Prop:=∀C f,uT.init C=some f->findIn K (.ref C) "__init__"=some (some (.ref f))/\typeIn K (.ref f)=some (.type "function")/\makesIn K C=true/\keepIn K (.ref C)=true/\OwnCls K C
theorem I2 {C:Addr}(h:plainGet K C ""=true):findIn K (.ref C) "__getattribute__"=some (some (.builtin "object.__getattribute__"))/\findIn K (.ref C) "__getattr__"=some none:=
 have h:=h
 ⟨eq_of_beq<|b1 h,eq_of_beq<|b2 h⟩
theorem I3 (hO:iJ t.O t.n)(hT:EB)(hb:kE o=true)(hlen:l.length<30)(Ck:(apos.endLine==pos.line)=true)(ho:cx t o x)(hl:dC t l xs):cx t (.Call (.Attribute o nm apos) l [] pos) (.bI x nm xs):=λf q Q E ht P=>
 xv hb hlen Ck hl (ho f q _ E ht (P.bind λam M bZ aP=>aP.fL λfn hm aP=>jC hm λaaM e1 hm=>by
  refine cR (AN e1) λe0 hk=>QR hm λhd hm=>qV (hT _ _ _ hm) λh1 h2 h3=>vf bZ e0 λxa ad od kvs bZ J WT ck M M R=>?_;have hn:valueAt kvs nm=none:=by
   refine aZ (R.at hk) (λQX=>?_) λQY=>?_
   ·exact cR QX λ_ n=>n
   ·refine gG QY λv' u g1 _=>?_;exact absurd (by rw[g1];rfl) hd
  have pg:=I2 (ck.get "");have hsh:shadowIn (some od) nm=some false:=by
   refine de (r7 WT nm) λes kk eA t9 M=>?_;subst eA;rw[hn] at t9;show(getL nm es).map (·.isSome)=some false;rw[t9];rfl
  exact method_fn am.s8 J pg.1 pg.2 h1 h2 hsh<|kW hl h3<|hl.C4 f am pos _ E ht<|aP.bind λbz bN iW dB=>⟨bz.s8,hO.here (bJ Lv.n ht) (.cons (bN.xj bZ) iW) dB⟩))
end
section
variable {t:Lv} {f:Fz} {q:St f} {Q E:dz} {l:List Expr} {xs:List X} {pos fp:Pos} {nm:Str}
theorem nF:Obj.IsDictOf (PySem.strKind prog w) emptyDict []:=by
 refine aJ (Heap.dictOf_iff.mp<|Heap.DictOf.new (knd:=PySem.strKind prog w) (default:Heap)) λo h1 h2=>?_;rw[Heap.get?_push_size _ rfl] at h1;rw[(aU h1:emptyDict=o)];exact h2
theorem St.I4 (q:St f){o:Obj}{ce:ao}{tk:Nat}(hf:o.isFreed=false)(hc:cV (q.ρ++[q.h.objs.size]) ((q.h.objs.size,o)::q.Z) ce o):nA [] q (q.push o ce tk hf hc):=⟨.push q.rep q.cW,.refl⟩
theorem Nd (hO:iJ t.O t.n)(hT:EC){C:Nat}(hn:jb t.ns nm=true)(hf:nsIn K mainGlobals nm=some (some<|.ref C))(hl:dC t l xs):cx t (.Call (.Name nm fp) l [] pos) (.new C xs):=λf q Q E ht P=>by
 refine aF.fL P λfi e P=>XX (hT C fi e) λh1 h2 h3 h4 ck=>wpAny_Call_ofName<|oV (ht▸hn) hf<|kW hl h4<|hl.C4 f q pos _ E ht<|P.bind λ{vs us} am M bZ aP=>⟨am.s8,wpAny_call ?_⟩
 have hc1:cV (am.ρ++[am.h.objs.size]) ((am.h.objs.size,emptyDict)::am.Z) (.dict []) emptyDict:=⟨[],nF,.nil⟩;let bz:=am.push emptyDict (.dict []) am.tk rfl hc1;have hc2:cV (bz.ρ++[bz.h.objs.size]) ((bz.h.objs.size,instObj C am.h.objs.size)::bz.Z) (.inst C am.Y.length) (instObj C am.h.objs.size):=⟨_,by
  show((am.ρ++[am.h.objs.size])++[bz.h.objs.size])[am.Y.length]?= _;rw[<-am.rep.len,bT,kN<|ba _,oF];rfl,rfl,ck⟩
 let eB:=bz.push (instObj C am.h.objs.size) (.inst C am.Y.length) am.tk rfl hc2;have a:nA [] am eB:=(am.I4 rfl hc1).trans rfl<|bz.I4 rfl hc2
 have er:eB.Y=am.Y++[ao.dict [],ao.inst C am.Y.length]:=bT _ _ _;have es:bz.h.objs.size=am.h.objs.size+1:=Heap.size_push ..;have PZ:eB.iv (.ref (am.h.objs.size+1)) (.ref (am.Y.length+1)):=.ref (by
  show((am.ρ++[am.h.objs.size])++[bz.h.objs.size])[am.Y.length+1]?= _;rw[<-am.rep.len,bT,kN<|ly _,Nat.succ_sub<|ba _,oF,es];rfl)
 have dB:=aF.shift a aP;rw[<-er] at dB;refine make_core (makes_of am.s8 h3) (looks_findIn am.s8 h1) (λself=>bind_fn am.s8 self h2) (.inl rfl) ?_;have go:=hO fi f eB (f.A.under (.builtin "type.__call__" ⟨.ref C::us,[]⟩)) (λu s'=>u=.none/\Q (.ref (am.h.objs.size+1)) s') E (.ref (am.h.objs.size+1)::us) (.ref (am.Y.length+1)::vs) (bJ Lv.n ht) rfl rfl (ba _) (show f.A.units+1<=f.A.units+16 from uC (by lk) _) (.cons PZ (a.YX bZ)) (dB.bind λ{v u} AX kj Y5 Gm=>by
  cases v with
  |none=>exact⟨Y5.xg,Gm.here<|kj.xj PZ⟩
  |_=>exact Gm.elim)
 refine codeAny_mono go λr s' hr=>?_;cases r with
 |ok fl=>
  cases fl with
  |ret u=>exact hr
  |_=>exact hr.elim
 |error e=>exact hr
theorem Gn (hs:dC t l xs):∀(ks:db) (keys:List (Option Expr)) (f:Fz) (q:St f) (pos:Pos) (Q:List (Value × Value)->Shared->Prop) (E:dz),
  keysOk ks keys=true->ks.length=l.length->f.t=t->aF cr q (ou t.O xs f.N q.Y) (λus s'=>∀ps,Carries (PySem.strKind prog w) ps (ks.zip us)->∀fb,Q ps {s' with toks:=fb}) E->wpAny Mo f.A (evalPairs<|pairTrees keys l f.env pos) Q E q.s:=by
 induction hs with
 |nil=>
  intro ks keys f q pos Q E hk hl ht P;obtain rfl:ks=[]:=qS hl;rw[gF hk];exact aW<|aF.here P .nil [] trivial q.tk
 |@cons e x r xs he hx ht hr ih=>
  intro ks keys f q pos Q E hk hl e0 P;cases ks with
  |nil=>exact nomatch hl
  |cons s ks'=>
  cases keys with
  |nil=>exact nomatch hk
  |cons k0 keys'=>
   refine cR (sY hk) λIr mM=>?_;refine kQ Ir λj p eA=>?_;subst eA;show wpAny Mo f.A (do
    let kv<-eval (.Constant (.str s) j p) f.env;let vv<-holding [kv] (do let x<-eval e f.env;standAt pos;pure x)
    return (kv,vv)::(<-holding [kv,vv] (evalPairs<|pairTrees keys' r f.env pos))) Q E q.s
   refine aw<|wpAny_Constant_str<|aw<|dJ<|aw<|hx f (q.grow (λM M h=>h) (q.tk+1)) _ E e0<|aF.bind (P.grow (λM M h=>h) (q.tk+1)) λ{v u} am M bZ aP=>aw<|gy<|aW ?_
   refine aw<|dJ<|cE (ih ks' keys' f am pos (λps s'=>Q ((.str s q.tk,u)::ps) s') E mM (j7 hl) e0<|aP.bind λbz bN iW dB ps OZ fb=>?_) (λps s' hq=>aW hq) λM M x=>x
   exact dB.here (.cons (bN.xj bZ) iW) ((.str s q.tk,u)::ps) ⟨strKind_is _ _ _ _,rfl,OZ⟩ fb
theorem AY {kvs:List (Str × Value)}:∀{acc:List (Str × Value)},((acc++kvs).map (·.1)).Nodup->merged acc kvs=acc++kvs:=by
 induction kvs with
 |nil=>exact λM=>(gI _).symm
 |cons kv r ih=>
  intro acc h;have e:stored acc kv.1 kv.2=acc++[kv]:=by
   unfold stored;rw[if_neg];intro hq;refine aJ (List.any_eq_true.mp hq) λp hp hk=>?_;rw[jB,sP] at h;exact h.2.2 p.1 (cD hp) kv.1 (.head _)<|l8 hk
  have h':((acc++[kv]++r).map (·.1)).Nodup:=by rw[bT];exact h
  show merged (stored acc kv.1 kv.2) r= _;rw[e,ih h',bT];rfl
theorem Nf {ρ:List Addr}{Z:Led}{vs:aH}:∀{us:List Value} (ks:db),cr ρ Z us vs->ky ρ Z (ks.zip us) (ks.zip vs):=by
 induction vs with
 |nil=>intro us ks i;rw[i.kg,List.zip_nil_right,List.zip_nil_right];exact .nil
 |cons v r ih=>
  intro us ks i;cases ks with
  |nil=>exact .nil
  |cons k ks=>exact i.eF λi t=>.cons i<|ih ks t
theorem Ng (ks:db):∀(us:List Value),((ks.zip us).map (·.1)).Sublist ks:=by
 induction ks with
 |nil=>exact λM=>List.Sublist.slnil
 |cons k ks ih=>
  intro us;cases us with
  |nil=>exact List.nil_sublist _
  |cons u us=>exact List.Sublist.cons_cons k<|ih us
theorem I5:∀{ks:db} {keys:List (Option Expr)},keysOk ks keys=true->keys.all (·.isSome)=true/\keys.length=ks.length:=by
 intro ks
 induction ks with
 |nil=>intro keys h;rw[gF h];exact⟨rfl,rfl⟩
 |cons s r ih=>
  intro keys h;cases keys with
  |nil=>exact nomatch h
  |cons e t=>
   refine cR (sY h) λYV q=>?_;refine kQ YV λj p mT=>?_;subst mT;exact cR (ih q) λa b=>⟨a,bJ (· +1) b⟩
theorem aF.I6 {α β γ δ:Type}{R:Rl α β}{R':Rl δ γ}{am:St f}{r:Res γ}{g:γ->af->Res β}{Q:α->Shared->Prop}{Q':δ->Shared->Prop}(a:nA [] q am)(x:aF R q (r.bind g) Q E)(k:∀{v u} (bz:St f),nA [] am bz->R' bz.ρ bz.Z u v->aF R q (g v bz.Y) Q E->Q' u bz.s):aF R' am r Q' E:=by
 cases r with
 |ok v Y'=>exact λu am a e i=>k am a i (e▸x)
 |exc C Y'=>exact jw.on x a.ext a.turn
 |stuck=>exact x
theorem qy {o:Obj}(h:∃es ep,o.data=.dict es ep):(o.cls=.type "tuple"->∀vs n,o.data≠.seq vs n)/\CU o:=by
 exact kQ h λes ep h=>⟨λM M M e=>Data.noConfusion<|h.symm.trans e,oR λM e=>Data.noConfusion<|h.symm.trans e⟩
theorem Nh {keys:List (Option Expr)}{ks:db}(hk:keysOk ks keys=true)(hl:ks.length=l.length)(h15:ks.length<=15)(tZ:ks.Nodup)(hs:dC t l xs):cx t (.Dict keys l pos) (.dct ks xs):=λf q Q E ht P=>by
 have P:=P;refine cR (I5 hk) λST XB=>?_;by_cases h0:keys=[]
 ·rw[h0] at XB⊢;obtain rfl:ks=[]:=qS XB.symm;obtain rfl:l=[]:=qS hl.symm;cases hs;exact wpAny_Dict_empty<|aF.alloc q.tk rfl P ⟨[],nF,.nil⟩
 ·let am:=q.hide emptyDict rfl q.tk;refine wpAny_Dict_walk (knd:=PySem.strKind prog w) ST (by rw[XB];exact hl) h0 (by rw[XB];exact h15)<|Gn hs ks keys f am _ _ E hk hl ht ?_
  have hd:=q.rep.mU q.cW;refine P.I6 (q.hidden emptyDict rfl q.tk:nA [] q am) λ{vs us} bz bN iW dB ps OZ fb=>?_;have hm:=bN.ext.keep _ (.head _) hd dq λt=>nomatch q7 t;have Pp:=bN.ext.old (.head _) hd;refine lY (ks.zip us) OZ (Heap.dictOf_iff.mpr ⟨_,(bz.news _ hm).1,nF⟩) λh' zY Cj=>?_;refine aJ (Heap.dictOf_iff.mp zY) λo' Ee hdo=>?_;rw[show merged [] (ks.zip us)=ks.zip us from AY ((Ng ks us).nodup tZ)] at hdo;have pl:=qy (o:=emptyDict) ⟨_,_,rfl⟩;have pl':=qy (by obtain⟨es,ep,_,e2,_⟩:=hdo;exact⟨es,ep,e2⟩);have Ni:=bz.rep.swap (o':=o') hm Pp pl.1 pl.2;have gr:∀v x,bH bz.ρ (gN bz.Z q.h.objs.size o') v x->bH (bz.ρ++[q.h.objs.size]) (gN bz.Z q.h.objs.size o') v x:=λv x i=>i.grow Ni.ndZ (gP hm) q.r0 pl'.1 pl'.2;have Y6:=Ni.adopt (gP hm) pl'.2 Pp q.r0 q.yK gr (ce:=.dict<|ks.zip vs) ⟨_,hdo,Nf ks<|(iW.ext Ext.swap (gO bz.rep.ndZ hm pl.1 pl.2) bz.rep.apart:cr bz.ρ (gN bz.Z q.h.objs.size o') us vs).mono gr⟩;have ex:=((bN.ext.QK q.cW).yJ (o':=o') q.cW).adopt q.cW;exact dB (.ref q.h.objs.size) (q.to _ (bz.fr.change Cj (bz.news _ hm).2.1 (bz.news _ hm).2.2) (kh bz.news hm Ee Cj) Y6 ex bN.turn) ⟨ex,bN.turn⟩ rfl<|va bz.rep
end
section
inductive HD
 |list (l:Addr)
 |U (t:Addr)
 |rng (a b:Int)
def oX (kd:HD)(k:Nat)(o:Obj):Prop:=match kd with
 | .list l=>o.cls=.type "list_iterator"/\o.data=.fields #[.ref l,.int k 0]
 | .U t=>o.cls=.type "tuple_iterator"/\o.data=.fields #[.ref t,.int k 0]
 | .rng a b=>o={cls:=.type "range_iterator",dict:=none,data:=.fields #[rawInt (a+k),rawInt (((b - a).toNat:Int) - k),rawInt 1],slots:=#[]}
def mf (ρ:List Addr)(Z:Led)(kd:HD)(src:V):Prop:=match kd with
 | .list l=>bH ρ Z (.ref l) src/\∀Y,cI Y src=jJ.listOf Y src
 | .U t=>bH ρ Z (.ref t) src/\∃l',src=.U l'
 | .rng a b=>src=.rng a b/\-10000<=a/\a<=10000/\-10000<=b/\b<=10000
structure Iter (n:String)(o:Obj):Prop where
 cls:o.cls=.type n
 nm:n="list_iterator"∨n="tuple_iterator"∨n="range_iterator"
 data:∃vs,o.data=.fields vs/\∀(q:Str) t,vs[1]?≠some (.str q t)
theorem oX.iter {kd:HD}{k:Nat}{o:Obj}(h:oX kd k o):∃n,Iter n o:=by
 cases kd with
 |list l=>exact⟨_,h.1,.inl rfl,_,h.2,λM M e=>Value.noConfusion<|aU e⟩
 |U t=>exact⟨_,h.1,.inr<|.inl rfl,_,h.2,λM M e=>Value.noConfusion<|aU e⟩
 |rng a b=>
  have h:=h;exact⟨"range_iterator",by rw[h],.inr (.inr rfl),_,by rw[h],λM M e=>Value.noConfusion (aU e)⟩
theorem oX.fields {kd:HD}{k:Nat}{o:Obj}(h:oX kd k o):∃vs,o.data=.fields vs:=let ⟨_,i⟩:=h.iter;let ⟨vs,e,_⟩:=i.data;⟨vs,e⟩
theorem oX.plain {kd:HD}{k:Nat}{o:Obj}(h:oX kd k o):(o.cls=.type "tuple"->∀vs n,o.data≠.seq vs n)/\CU o:=by
 refine aN h.iter λn i=>aJ i.data λvs e h1=>⟨λM M M e'=>Data.noConfusion<|e.symm.trans e',λM M M M M e'=>?_,λt=>?_,λq ⟨FC,t,e1,e2⟩=>?_⟩
 ·have c:=i.cls.symm.trans (by rw[e']);have c:=Value.type.inj c;rcases i.nm with h | h | h<;>rw[h] at c<;>exact absurd c (by lk)
 ·exact Value.noConfusion<|i.cls.symm.trans<|q7 t
 ·exact h1 q t<|(Data.fields.inj<|e.symm.trans e1)▸e2
theorem oX.mW {kd:HD}{k:Nat}{o:Obj}(h:oX kd k o):o.isFreed=false:=let ⟨_,hf⟩:=h.fields;Obj.isFreed_of_fields hf
variable {ρ bU:List Addr} {Z Z':Led} {f:Fz} {q:St f} {E:dz} {u:Value} {src v:V} {kd:HD} {k:Nat} {aaM:Addr} {o:Obj} {all:aH}
theorem mf.mono (g:∀v x,bH ρ Z v x->bH bU Z' v x)(h:mf ρ Z kd src):mf bU Z' kd src:=by
 cases kd with
 |list l=>exact⟨g _ _ h.1,h.2⟩
 |U t=>exact⟨g _ _ h.1,h.2⟩
 |rng a b=>exact h
theorem AZ {a b:Int}:Builtin.Range.rangeSize a b 1=((b - a).toNat:Int):=by
 show(if a<b then (b - a - 1) / 1+1 else 0)= _;by_cases h:a<b
 ·rw[if_pos h,Int.ediv_one,Int.sub_add_cancel,Int.toNat_of_nonneg<|Int.sub_nonneg_of_le<|Int.le_of_lt h]
 ·rw[if_neg h,Int.toNat_of_nonpos<|Int.sub_nonpos_of_le<|Int.not_lt.mp h];rfl
theorem fits {x:Int}(h1:-20000<=x)(h2:x<=20000):Builtin.Range.rangeFitsLong x=true:=
 gb.mpr ⟨eE (Int.le_trans (by lk) h1),eE<|Int.lt_of_le_of_lt h2<|by lk⟩
theorem Go {a b:Int}(hb:-10000<=a/\a<=10000/\-10000<=b/\b<=10000):Builtin.Range.small a b 1=true:=by
 have two:∀{x:Int},-10000<=x->x<=10000->Builtin.Range.rangeFitsLong x=true:=λh1 h2=>fits (Int.le_trans (by lk) h1)<|Int.le_trans h2<|by lk
 have hl:Builtin.Range.rangeFitsLong (Builtin.Range.rangeSize a b 1)=true:=by
  rw[AZ];exact fits (Int.le_trans (by lk)<|Int.natCast_nonneg _)<|Int.ofNat_le.mpr<|Int.toNat_le.mpr<|Int.sub_le_sub hb.2.2.2 hb.1
 show((((_&&_)&&_)&&_)&&(_||Builtin.Range.rangeFitsLong (b+(1 - 1))))=true;rw[two hb.1 hb.2.1,two hb.2.2.1 hb.2.2.2,hl,show b+(1 - 1)=b from Int.add_zero b,two hb.2.2.1 hb.2.2.2,Bool.or_true];decide
theorem qA {Q:dz}(iu:q.iv u src)(e:cI q.Y src=some all)(h:∀kd o,oX kd 0 o->mf q.ρ q.Z kd src->Q (.ref q.h.objs.size) {q.s with heap:=q.h.push o}):wpAny Mo f.A (pyIter u) Q E q.s:=by
 cases src with
 |U l=>exact fU iu λt vs ht M iu=>wpAny_pyIter_tuple ht<|h (.U _) _ ⟨rfl,rfl⟩ ⟨iu,_,rfl⟩
 |gl l=>
  refine iI iu e (λt vs ht M iu=>wpAny_pyIter_list ht<|h (.list _) _ ⟨rfl,rfl⟩ ⟨iu,λM=>rfl⟩) iu
 |ref i=>
  refine iI iu e (λt vs ht M iu=>wpAny_pyIter_list ht<|h (.list _) _ ⟨rfl,rfl⟩ ⟨iu,λM=>rfl⟩) iu
 |rng a b=>
  refine C1 e λhb M=>iu.UU λhm hn=>wpAny_pyIter_range (q.news _ hm).1 (Go hb) ?_;rw[AZ];exact h (.rng a b) _ (by show _= _;rw[show a+((0:Nat):Int)=a from Int.add_zero a,show((b - a).toNat:Int) - ((0:Nat):Int)=((b - a).toNat:Int) from Int.sub_zero _]) ⟨rfl,hb⟩
 |_=>exact fP e
theorem xw {α β:Type}{l:List α}{m:List β}{k:Nat}(h:l.length=m.length)(e:m[k]?=none):l[k]?=none:=z8.mpr<|h▸z8.mp e
theorem xy {Q:Option Value->Shared->Prop}(iu:mf q.ρ q.Z kd src)(e:cI q.Y src=some all)(ho:q.h.get? aaM=some o)(hk:oX kd k o)
  (LQ:∀v,all[k]?=some v->∀x h' o' fb,h'.get? aaM=some o'->oX kd (k+1) o'->Heap.SameBut aaM q.h h'->q.iv x v->Q (some x) {q.s with heap:=h',toks:=fb})
  (none_:all[k]?=none->∀h',Heap.ExtBut aaM q.h h'->Q none {q.s with heap:=h'}):wpAny Mo f.A (pyNext<|.ref aaM) Q E q.s:=by
 cases kd with
 |list l=>
  rw[iu.2 q.Y] at e;have hit:q.h.IsListIter aaM l k:=⟨o,ho,hk.1,hk.2⟩;refine iI (C:=λu=>u=.ref l->wpAny Mo f.A (pyNext<|.ref aaM) Q E q.s) iu.1 e (λt vs ht hi et=>?_) rfl;rw[Value.ref.inj et] at ht;cases e1:all[k]? with
  |some v=>
   refine aJ (oW hi e1) λx hx ix=>?_;refine wpAny_pyNext_list_item hit ht (by rw[w7];exact hx) λh' LR hs=>?_;exact j8 LR λo' Ee h1 h2=>LQ v e1 x h' o' q.tk Ee ⟨h1,h2⟩ hs ix
  |none=>exact wpAny_pyNext_list_end q.ok.hh hit ht (by rw[w7];exact xw (bd hi) e1) λh' hx=>none_ e1 h' hx
 |U t=>
  refine Cx iu λi1 l' el=>?_;rw[el] at i1 e;rw[aU e] at i1;have hit:q.h.IsTupleIter aaM t k:=⟨o,ho,hk.1,hk.2⟩;refine fU (C:=λu=>u=.ref t->wpAny Mo f.A (pyNext<|.ref aaM) Q E q.s) i1 (λt' vs ht hi M et=>?_) rfl;rw[Value.ref.inj et] at ht;cases e1:all[k]? with
  |some v=>
   refine aJ (oW hi e1) λx hx ix=>?_;refine wpAny_pyNext_tuple_item hit ht (by rw[w7];exact hx) λh' LR hs=>?_;exact j8 LR λo' Ee g1 g2=>LQ v e1 x h' o' q.tk Ee ⟨g1,g2⟩ hs ix
  |none=>exact wpAny_pyNext_tuple_end q.ok.hh hit ht (by rw[w7];exact xw (bd hi) e1) λh' hx=>none_ e1 h' hx
 |rng a b=>
  refine cR iu λes hb=>?_;rw[es] at e;refine C1 e λM e=>?_;have e:=aU e;have hit:IsRangeIter q.h aaM (a+k) (((b - a).toNat:Int) - k) 1:=by rw[IsRangeIter,ho];exact bJ some hk
  by_cases nj:k<(b - a).toNat
  ·refine wpAny_pyNext_range_item hit (Int.sub_pos_of_lt<|Int.ofNat_lt.mpr nj) λh' LR hs=>LQ (.int (a+k)) ?_ _ h' _ _ LR ?_ hs<|.int _ _
   ·rw[<-e,gd,uD nj];rfl
   ·show _= _;rw[show((k+1:Nat):Int)=(k:Int)+1 from rfl,<-Int.add_assoc,<-Int.sub_sub]
  ·exact wpAny_pyNext_range_end q.ok.hh hit (Int.sub_nonpos_of_le<|Int.ofNat_le.mpr<|Nat.not_lt.mp nj) λh' hx=>none_ (by rw[<-e,z8,cy,List.length_range];exact Nat.not_lt.mp nj) h' hx
theorem Vb (t:Expr)(it v:Value):letOwnedTupleGo t it v=letOwnedTupleGo (.Tuple [] 0 default) it v∨letOwnedTupleGo t it v=pure ():=by
 cases t with
 |Tuple=>exact .inl rfl
 |List=>exact .inl rfl
 |_=>exact .inr rfl
theorem I7 {t:Expr}{v:Value}{s:Shared}{Q:Ac}(ho:s.heap.get? aaM=some o)(hk:oX kd k o)(hq:Q () s):wpAny Mo f.A (letOwnedTupleGo t (.ref aaM) v) Q E s:=by
 refine aN hk.iter λnn i=>?_;rcases Vb t (.ref aaM) v with e | e<;>rw[e]
 ·cases v with
  |ref a=>
   refine aw<|wpAny_load ho ?_
   refine aJ i.data λvs hd M=>?_;rw[i.cls,hd];dsimp only;rw[if_neg (by
    rcases i.nm with rfl | rfl | rfl<;>simp)]
   exact aW hq
  |_=>exact aW hq
 ·exact aW hq
end
section
section
variable {A:Around} {E:dz} {s:Shared}
theorem Gp {it t:Addr}{items:Array Value}(dZ:t≠it):∀(n i:Nat) (s:Shared) (Q:List Value->Shared->Prop),s.heap.IsListIter it t i->s.heap.IsList t items->i+n<=items.size->
  (∀h',h'.IsListIter it t (i+n)->Heap.SameBut it s.heap h'->Q ((items.toList.drop i).take n) {s with heap:=h'})->wpAny Mo A (draw (.ref it) n) Q E s:=by
 intro n
 induction n with
 |zero=>exact λi s Q hit M M hQ=>aW<|hQ s.heap hit<|Heap.SameBut.refl ..
 |succ n ih=>
  intro i s Q hit ht hle hQ;have nj:=dU (Nat.lt_add_of_pos_right<|Nat.succ_pos n) hle;have e1:i+(n+1)=i+1+n:=by rw[Nat.add_assoc,Nat.add_comm 1 n]
  rw[e1] at hQ hle;refine aw<|wpAny_pyNext_list_item hit ht (x:=items[i]) (Array.getElem?_eq_getElem nj) λbA C9 oY=>?_
  refine aw<|dJ<|ih (i+1) _ _ C9 (ht.extBut oY.extBut dZ) hle λeG QZ Vc=>aW ?_
  have hd:=List.drop_eq_getElem_cons (by rw[p8];exact nj);have:=hQ eG QZ<|oY.trans Vc
  rw[hd,List.take_succ_cons] at this;exact this
theorem sf {t:Addr}{items:Array Value}{Q:List Value->Shared->Prop}(hh:A.handled=none)(ht:s.heap.IsList t items)
  (hQ:∀h',Heap.ExtBut s.heap.objs.size s.heap h'->Q items.toList {s with heap:=h'}):wpAny Mo A (unpackItems (.ref t) items.size none) Q E s:=by
 have nj:t≠s.heap.objs.size:=by obtain⟨o,ho,_⟩:=ht;exact i9<|gJ ho
 refine aw ?_
 ·unfold notIterableAtAll;refine aw<|wpAny_specialOf ht.typeIs slot_list_iter.lookup ?_
  refine aW ?_;simp only[Bool.false_eq_true,if_false];refine aw<|dJ<|wpAny_pyIter_list ht ?_
  refine aw<|dJ<|Gp nj items.size 0 _ _ ⟨_,Heap.get?_push_size _ rfl,rfl,rfl⟩ (ht.push _) (by omega) λbA C9 oY=>?_
  have ST:List.take items.size (List.drop 0 items.toList)=items.toList:=by
   rw[List.drop_zero];exact List.take_of_length_le (by simp)
  rw[ST];rw[if_neg<|by simp];have Vd:=(ht.push _).extBut oY.extBut nj;refine aw<|dJ<|wpAny_pyNext_list_end hh C9 Vd (by simp) λeG Po=>?_
  simp only[Option.isSome_none,Bool.false_eq_true,if_false];refine aW<|hQ eG λb o hb e=>Po b o hb<|oY.extBut b o hb<|lj _ e
end
variable {ρ:List Addr} {Z:Led} {f:Fz} {q:St f} {E:dz} {u:Value} {v x:V} {C:Addr} {o:Obj} {m₂:lW} {L:Addr} {m:lW} {env:Env} {d:Addr} {i:Nat} {nm:Str}
theorem vj {kl:Bool × aH}{Q:List Value->Shared->Prop}(iu:q.iv u x)(e:kC q.Y x=some kl)(h:∀us h',(∀b o,q.h.get? b=some o->h'.get? b=some o)->q.pJ us kl.2->us.length=kl.2.length->Q us {q.s with heap:=h'}):wpAny Mo f.A (unpackItems u kl.2.length none) Q E q.s:=by
 refine ug iu e λt vs h1 h2 h3=>?_;have hlen:=bd h3;have up:∀h',Heap.ExtBut q.h.objs.size q.h h'->∀b o,q.h.get? b=some o->h'.get? b=some o:=λh' he b o e=>he b o (i9<|gJ e) e;rw[show kl.2.length=vs.toArray.size by rw[List.size_toArray,hlen]];cases hk:kl.1 with
 |true=>exact unpackItems_tuple q.ok.hh (h1 hk) λh' he=>h _ h' (up h' he) h3 hlen
 |false=>exact sf q.ok.hh (h2 hk) λh' he=>h _ h' (up h' he) h3 hlen
theorem I8 {o:Obj}{m₁ m₂:lW}(h1:LCg.NsObj o m₁)(h2:LCg.NsObj o m₂)(x:Str):m₁ x=m₂ x:=by
 refine de h1 λes ep e1 M f1=>?_;refine de h2 λes' ep' e2 M f2=>?_;refine cR (Data.dict.inj<|e1.symm.trans e2) λeA M=>?_;subst eA;exact(f1 x).symm.trans (f2 x)
theorem fQ (h:LCg.NsObj o m₂):(o.cls=.type "tuple"->∀vs n,o.data≠.seq vs n)/\CU o:=by
 refine gG h λes ep e1 M=>?_;exact qy ⟨es,ep,e1⟩
theorem lJ {v:Option Value}(h:o.data=.cell v):(o.cls=.type "tuple"->∀vs n,o.data≠.seq vs n)/\CU o:=⟨λM M M e=>Data.noConfusion (h.symm.trans e),oR λM e=>Data.noConfusion (h.symm.trans e)⟩
structure Tl (C:Addr)(ρ:List Addr)(Z:Led)(o:Obj)(m₂:lW):Prop where
 mem:(C,o)∈Z
 off:C∉ρ
 ns:LCg.NsObj o m₂
theorem Look.turn {Z':Led}(hk:∀z oz,(z,oz)∈Z->z≠d->(z,oz)∈Z')(hn:(Z.map (·.1)).Nodup)(hm:(d,o)∈Z)(hc:∀vs,o.data≠.cell vs)(hd:∀es ep,o.data≠.dict es ep)(h:Look L m ρ Z env nm u):Look L m ρ Z' env nm u:=by
 cases h with
 |here a b c=>exact .here a b c
 |lG lF m₁ mM g1 g2 g3 g4=>
  refine .lG lF m₁ mM (hk _ _ g1 λe=>?_) g2 g3 g4;refine gG g3 λes ep e1 M=>?_;have e0:=g8 hn (by rw[<-e];exact g1) hm;rw[e0] at e1;exact hd _ _ e1
 |cell a lF mM g1 g2 g3 g4=>
  refine .cell a lF mM g1 (hk _ _ g2 λe=>?_) g3 g4;have e0:=g8 hn (by rw[<-e];exact g2) hm;rw[e0] at g4;exact hc _ g4
theorem iK {d:Addr}{o':Obj}:∀z oz,(z,oz)∈Z->z≠d->(z,oz)∈gN Z d o':=λM M hp hn=>bX.mpr ⟨_,hp,if_neg hn⟩
theorem Q0 {ns:Ns}{i j:Nat}{x:Str}{k k':NameKind}(hn:(ns.map (·.1)).Nodup)(h1:ns[i]?=some (x,k))(h2:ns[j]?=some (x,k')):i=j:=by
 have e1:(ns.map (·.1))[i]?=some x:=by rw[gd,h1];rfl
 have e2:(ns.map (·.1))[j]?=some x:=by rw[gd,h2];rfl
 exact(uF (bP.mp e1).1 hn).mp (e1.trans e2.symm)
theorem gB.set {bU:List Addr}{Z':Led}{m':lW}{k:NameKind}(hn:(f.t.ns.map (·.1)).Nodup)(hi:f.t.ns[i]?=some (nm,k))(lo:gB f ρ Z)(iu:bH bU Z' u v)(g:∀v x,bH ρ Z v x->bH bU Z' v x)(new:Look f.L m' bU Z' f.env nm u)(old:∀x u,x≠nm->Look f.L f.m ρ Z f.env x u->Look f.L m' bU Z' f.env x u):gB (f.to m'<|f.N.set i<|some v) bU Z':=λj x k' v' hj hl=>by
 have hj:=hj;have hl:=hl;by_cases FB:i=j
 ·rw[<-FB] at hj hl;have nj:i<f.N.length:=by have:=(bP.mp hl).1;rwa [qT] at this
  rw[uA nj] at hl;have ev:=aU<|aU hl
  have ex:nm=x:=bJ Prod.fst<|aU<|hi.symm.trans hj
  exact bF u (ev▸iu) (ex▸new)
 ·rw[eL FB] at hl;refine aJ (lo j x k' v' hj hl) λu' WU lk=>?_;exact bF u' (g _ _ WU)<|old x u' (λe=>FB<|Q0 hn hi (e▸hj)) lk
noncomputable def St.set (q:St f){Z':Led}{h':Heap}{m':lW}{loc':Loc}(tk:Nat)(F:Fr q.b f.L h' m')(aaL:News q.b f.L h' Z')(R:Rep q.ρ Z' q.Y)(lo:gB (f.to m' loc') q.ρ Z'):St (f.to m' loc') where
 b:=q.b
 h:=h'
 ρ:=q.ρ
 Z:=Z'
 Y:=q.Y
 tk:=tk
 ok:=q.ok
 below:=q.below
 dicts:=q.dicts
 fr:=F
 news:=aaL
 rep:=R
 lo:=lo
structure L8 (C:Addr){f:Fz}(q:St f){loc':Loc}(q':St (f.to f.m loc')):Prop where
 ρ:q'.ρ=q.ρ
 Y:q'.Y=q.Y
 b:q'.b=q.b
 lG:∃o m₂,Tl C q'.ρ q'.Z o m₂
 mono:∀v x,q.iv v x->q'.iv v x
 keep:∀z o,(z,o)∈q.Z->z≠C->(z,o)∈q'.Z
 adr:q'.Z.map (·.1)=q.Z.map (·.1)
theorem Gq {Q:Ac}(B:Tl C q.ρ q.Z o m₂)(hC:f.env.locals=C)(hn:(f.t.ns.map (·.1)).Nodup)(hi:f.t.ns[i]?=some (nm,.local))(iu:q.iv u v)(h:∀q':St (f.to f.m<|f.N.set i<|some v),L8 C q q'->Q () q'.s):wpAny Mo f.A (bindName f.env nm u) Q E q.s:=by
 subst hC;have hk:=q.ok.local' nm<|f8 hi
 refine wpAny_bindName<|wpAny_storeName_local hk (B.ns.ns (q.news _ B.mem).1) (λh' Cg hs=>?_) (by rw[q.ok.kind];rfl)
 refine aJ (LCg.ns_obj Cg) λo' Ee SU=>?_;have pl:=fQ B.ns;have g:∀v x,q.iv v x->bH q.ρ (gN q.Z f.env.locals o') v x:=λv x i=>i.ext Ext.swap (gO q.rep.ndZ B.mem pl.1 pl.2) q.rep.apart;have L':=gB.set (m':=f.m) hn hi q.lo (g _ _ iu) g (.lG o' _ hk (gP B.mem) B.off SU<|if_pos rfl) λx u' dZ lk=>by
  cases lk with
  |here _ hl _=>exact absurd hl (q.news _ B.mem).2.1
  |lG lF m₁ mM g1 g2 g3 g4=>
   have e0:=g8 q.rep.ndZ g1 B.mem;rw[e0] at g3;exact .lG o' _ mM (gP B.mem) g2 SU (by rw[if_neg dZ,<-I8 g3 B.ns x];exact g4)
  |cell a lF mM g1 g2 g3 g4=>
   refine .cell a lF mM g1 (iK _ _ g2 λe=>?_) g3 g4;have e0:=g8 q.rep.ndZ (by rw[<-e];exact g2) B.mem;rw[e0] at g4;refine gG B.ns λes ep e1 M=>?_;exact Data.noConfusion<|g4.symm.trans e1
 have F':=q.fr.change hs (q.news _ B.mem).2.1 (q.news _ B.mem).2.2;have N':=kh q.news B.mem Ee hs;have R':=q.rep.swap (o':=o') B.mem B.off pl.1 pl.2;exact h (q.set _ F' N' R' L') ⟨rfl,rfl,rfl,⟨_,_,gP B.mem,B.off,SU⟩,g,iK,jc _ _ _⟩
end
section
variable {f:Fz} {q:St f} {E:dz} {u:Value} {v:V} {C:Addr} {o:Obj} {m₂:lW} {env:Env} {N loc' wl:Loc} {Y:af} {ns:Ns} {Q:Ac}
theorem A0 {nm:Str}{p:Pos}{i:Nat}(hi:mz f.t.ns (.Name nm p)=some i)(B:Tl C q.ρ q.Z o m₂)(hC:f.env.locals=C)(hn:(f.t.ns.map (·.1)).Nodup)(iu:q.iv u v)(h:∀q':St (f.to f.m<|f.N.set i<|some v),L8 C q q'->Q () q'.s):wpAny Mo f.A (assign (.Name nm p) f.env u) Q E q.s:=by
 refine de (pH hi) λM M he hj Me=>?_;refine cR (Expr.Name.inj he) λeA mT=>?_;subst eA;subst mT;refine Cx (nB hj) λ_ k hk=>?_;rw[arm_assign_Name];exact aw<|gy<|Gq B hC hn (mV hk Me▸hk) iu h
theorem L8.trans {am:St (f.to f.m loc')}{bz:St ((f.to f.m loc').to f.m wl)}(x:L8 C q am)(y:L8 C am bz):L8 C q (f:=f) bz:=
 ⟨y.ρ.trans x.ρ,y.Y.trans x.Y,y.b.trans x.b,y.lG,λv z i=>y.mono v z<|x.mono v z i,λz o hp hn=>y.keep z o (x.keep z o hp hn) hn,y.adr.trans x.adr⟩
theorem n6 {e:Expr}{r:List Expr}(h:(mz ns e).isSome=true):assignEach (e::r) env=(false,assign e env)::assignEach r env:=by
 refine aN (Option.isSome_iff_exists.mp h) λi hi=>?_;refine gG (pH hi) λM M uX M=>?_;subst uX;rfl
theorem jX {i:Nat}{r:List Nat}{v:V}{t:aH}(h:dP (i::r) (v::t) N=some loc'):N[i]?=some none/\dP r t (N.set i<|some v)=some loc':=by
 have h:(match N[i]? with
  |some none=>dP r t<|N.set i<|some v
  |_=>none)=some loc':=h
 rcases e:N[i]? with _ | _ | _<;>rw[e] at h
 ·exact fP h
 ·exact⟨rfl,h⟩
 ·exact fP h
theorem rk {P:List Nat->List V->Loc->Prop}(h0:P [] [] loc')(h1:∀i r v t N,N[i]?=some none->dP r t (N.set i<|some v)=some loc'->P r t (N.set i<|some v)->P (i::r) (v::t) N):∀{ts:List Nat} {l:aH} {N:Loc},dP ts l N=some loc'->P ts l N:=by
 intro ts
 induction ts with
 |nil=>
  intro l N h;cases l with
  |nil=>rw[aU h];exact h0
  |cons _ _=>exact fP h
 |cons i r ih=>
  intro l N h;cases l with
  |nil=>exact fP h
  |cons v t=>
   exact cR (jX h) λe1 e2=>h1 i r v t N e1 e2<|ih e2
variable {ts:List Nat}
theorem yX {l:aH}(h:dP ts l N=some loc'):∀(j:Nat) (v:V),N[j]?=some (some v)->loc'[j]?=some (some v):=
 rk (P:=λM M N=>∀(j:Nat) (v:V),N[j]?=some (some v)->loc'[j]?=some (some v)) (λM M e=>e) (λi r v t N e1 M ih j x e=>ih j x (by rw[eL (λq=>by rw[q,e] at e1;exact fP (aU e1).symm)];exact e)) h
theorem rl {l:aH}(h:dP ts l N=some loc'):ts.length=l.length:=
 rk (P:=λts l M=>ts.length=l.length) rfl (λM M M M M M M ih=>bJ (· +1) ih) h
theorem oZ (h:dA Y ts v N=some loc'):(ts.length=1/\dP ts [v] N=some loc')∨(ts.length≠1/\∃kl,kC Y v=some kl/\dP ts kl.2 N=some loc'):=by
 unfold dA at h;by_cases hl:ts.length=1
 ·rw[if_pos hl] at h;exact .inl ⟨hl,h⟩
 ·rw[if_neg hl] at h;exact .inr ⟨hl,jC h λkl e h=>⟨kl,e,h⟩⟩
theorem yY (h:dA Y ts v N=some loc'):∀(j:Nat) (x:V),N[j]?=some (some x)->loc'[j]?=some (some x):=by
 rcases oZ h with ⟨_,h⟩ | ⟨_,kl,_,h⟩<;>exact yX h
theorem Gr (elts:List Expr):∀(f:Fz) (q:St f) (ts:List Nat) (us:List Value) (l:aH) (loc':Loc) (o:Obj) (m₂:lW),lD f.t.ns elts=some ts->dP ts l f.N=some loc'->Tl C q.ρ q.Z o m₂->f.env.locals=C->(f.t.ns.map (·.1)).Nodup->q.pJ us l->(∀q':St (f.to f.m loc'),L8 C q q'->Q () q'.s)->wpAny Mo f.A (assignInOrder ((assignEach elts f.env).map (·.2)) us) Q E q.s:=by
 induction elts with
 |nil=>
  intro f q ts us l loc' o m₂ ht e B hC hn iu h;rw[<-(aU ht:[]=ts)] at e;cases l with
  |nil=>
   rw[iu.kg];rw[<-(aU e:f.N=loc')] at h;exact aW<|h q ⟨rfl,rfl,rfl,⟨_,_,B⟩,λM M i=>i,λM M hp M=>hp,rfl⟩
  |cons _ _=>exact fP e
 |cons e r ih=>
  intro f q ts us l loc' o m₂ ht es B hC hn iu h;refine de (oP ht) λi ts' hi hr AQ=>?_;subst AQ;cases l with
  |nil=>exact fP es
  |cons v l'=>
   refine iu.eF λiu WU=>?_;rw[n6 (by rw[hi];rfl)];refine gG (pH hi) λnm p Gs M=>?_;subst Gs;refine aw<|dJ<|A0 hi B hC hn iu λam d5=>?_
   exact kQ d5.lG λlF m₁ vk=>ih (f.to f.m<|f.N.set i<|some v) am ts' _ l' loc' lF m₁ hr (jX es).2 vk hC hn (WU.mono d5.mono) λq' b'=>h q'<|d5.trans b'
theorem Da:∀{l:List Expr} {r:List Nat},lD ns l=some r->r.length=l.length:=by
 intro l
 induction l with
 |nil=>intro r h;rw[<-(aU h:[]=r)];rfl
 |cons e l ih=>
  intro r h;refine de (oP h) λi t M h2 Q1=>?_;subst Q1;exact bJ (· +1)<|ih h2
theorem o0 (l:List Expr)(env:Env):(assignEach l env).length=l.length:=by
 induction l with
 |nil=>rfl
 |cons e r ih=>cases e<;>exact bJ (· +1) ih
theorem Nj:∀{l:List Expr} {ts:List Nat},lD ns l=some ts->(assignEach l env).findIdx? (·.1)=none:=by
 intro l
 induction l with
 |nil=>intro ts h;rfl
 |cons e l ih=>
  intro ts h;refine de (oP h) λi t h1 h2 Ve=>?_;subst Ve;rw[n6 (by rw[h1];rfl),List.findIdx?_cons,ih h2];rfl
theorem Db {t:Expr}(ht:f0 f.t.ns t=some ts)(e:dA q.Y ts v f.N=some loc')(B:Tl C q.ρ q.Z o m₂)(hC:f.env.locals=C)(hn:(f.t.ns.map (·.1)).Nodup)(iu:q.iv u v)(h:∀q':St (f.to f.m loc'),L8 C q q'->Q () q'.s):wpAny Mo f.A (assign t f.env u) Q E q.s:=by
 rcases CQ ht with Q2 | Q3
 ·obtain⟨i,hi,rfl⟩:=Q2;refine gG (pH hi) λnm p e8q M=>?_;subst e8q;rcases oZ e with Q4 | Q5
  ·obtain⟨_,e⟩:=Q4;rw[<-aU (jX e).2] at h;exact A0 hi B hC hn iu h
  ·obtain⟨hl,_⟩:=Q5;exact absurd rfl hl
 ·obtain⟨l,k,p,rfl,h2,ht⟩:=Q3;have hl:=Da ht;rcases oZ e with Q6 | Q7
  ·obtain⟨h1,_⟩:=Q6;rw[<-hl,h1] at h2;exact absurd h2 (by lk)
  ·obtain⟨_,kl,e1,e2⟩:=Q7;rw[arm_assign_Tuple];refine aw<|gy ?_
   unfold unpack;rw[Nj ht,o0,show l.length=kl.2.length by rw[<-hl,rl e2]];refine aw<|dJ<|vj iu e1 λus bA hk WV M=>?_
   exact Gr l f (q.grow hk q.tk) ts us kl.2 loc' o m₂ ht e2 B hC hn WV λq' b=>h q' ⟨b.ρ,b.Y,b.b,b.lG,b.mono,b.keep,b.adr⟩
end
section
noncomputable def o6 (Z:Led)(d:Addr):Led:=Z.filter λp=>!(p.1==d)
theorem dS {Z:Led}{d:Addr}{p:Addr × Obj}:p∈o6 Z d↔p∈Z/\p.1≠d:=by
 unfold o6;rw[List.mem_filter];simp
variable {cs ρ bU:List Addr} {Z Z':Led} {Y:af} {h h' b:Heap} {d:Addr} {o:Obj}
theorem bH.drop (hn:(Z.map (·.1)).Nodup)(hm:(d,o)∈Z)(no:o.cls=.type "tuple"->∀vs n,o.data≠.seq vs n)(nr:CU o){v:Value}{x:V}(h:bH ρ Z v x):bH ρ (o6 Z d) v x:=
 have nc:=gO hn hm no nr
 h.map (λM M M M h mt zW hd=>⟨h.imp (λh=>dS.mpr ⟨h,λe=>(nc _ h (by rw[e];exact List.Mem.head _)).1 zW _ _ hd⟩) id,mt⟩) (λM M M M M M h mt=>⟨dS.mpr ⟨h,λe=>(nc _ h (by rw[e];exact List.Mem.head _)).2 _ _ _ _ _ rfl⟩,mt⟩) λM M h=>h
theorem Rep.drop (R:Rep ρ Z Y)(hm:(d,o)∈Z)(hd:d∉ρ)(no:o.cls=.type "tuple"->∀vs n,o.data≠.seq vs n)(nr:CU o):Rep ρ (o6 Z d) Y where
 len:=R.len
 nd:=R.nd
 ndZ:=(List.Sublist.map _ (List.filter_sublist)).nodup R.ndZ
 apart:=R.apart
 big:=R.big
 tabs:=R.tabs.mono λb o h hn k=>⟨dS.mpr ⟨h,CV R.ndZ hm nr h k⟩,hn⟩
 cell:=λj b hb=>by
  refine de (R.cell j b hb) λc' lF h1 h2 h3=>?_;have dZ:b≠d:=λe=>hd<|e▸bp hb
  exact fc c' lF h1 (dS.mpr ⟨h2,dZ⟩)<|h3.mono (λv x i=>i.drop R.ndZ hm no nr) λM M h=>h
theorem Ext.drop (e:Ext cs ρ Z bU Z')(hz:d∉Z.map (·.1)):Ext cs ρ Z bU (o6 Z' d) where
 pre:=e.pre
 keep:=λp hp hn hc ht=>dS.mpr ⟨e.keep p hp hn hc ht,λq=>hz (by rw[<-q];exact cD hp)⟩
 adr:=λa ha=>by
  refine aJ (bX.mp<|e.adr a ha) λp hp e1=>bX.mpr ⟨p,dS.mpr ⟨hp,λq=>hz ?_⟩,e1⟩;rw[<-q,e1];exact ha
 new:=e.new
theorem sh {L:Addr}(aaL:News b L h Z)(hs:∀a o,a≠d->h.get? a=some o->h'.get? a=some o):News b L h' (o6 Z d):=λp hp=>by
 exact cR (dS.mp hp) λh1 h2=>⟨hs _ _ h2 (aaL p h1).1,(aaL p h1).2⟩
theorem yZ {base P0 h h':Heap}{l:List Env}(F:h.FunFrames base l)(h1:∀b,base.get? b=none->P0.get? b=none)(h2:∀b o,base.get? b=none->h.get? b=some o->h'.get? b=some o):h'.FunFrames P0 l:=by
 induction l with
 |nil=>trivial
 |cons e r ih=>
  refine qV F λhk Ir hr=>?_;refine tK Ir λL o hf hn ho hd=>?_;exact⟨hk,⟨L,o,hf,h1 _ hn,h2 _ _ hn ho,hd⟩,ih hr⟩
theorem Gu {base g:Heap}{fe:Env}{outer:List Env}{L e C:Addr}(R:RaisedHN base g (fe::outer) L e (.ref C) Z h)(hm:(d,o)∈Z)(hs:Heap.SameBut d h h'):RaisedHN base g (fe::outer) L e (.ref C) (o6 Z d) h':=by
 obtain⟨B,a0,hB,HE,hl,To,PY,HF,oe,vs,T,oT,ts,he,wY,hd,h1,WJ,Xy,hT,Tp,h3⟩:=R;have hBd:=(hl _ hm).1;have hbd:=(hl _ hm).2.2;have hgd:=(hl _ hm).2.1;have dZ:∀{b o},B.get? b=none->h.get? b=some o->h'.get? b=some o:=λ{b o} hb hq=>(hs.2 b (λe=>by rw[e,hBd] at hb;cases hb)).trans hq;have hh:∀b o,(B.hide d).get? b=some o->h'.get? b=some o:=λb o hq=>by
  have aa8:b≠d:=λe=>by rw[e,Heap.hide_self] at hq;cases hq
  exact(hs.2 b aa8).trans (To b o<|Heap.of_hide hq)
 refine⟨B.hide d,a0,λb o q=>(Heap.hide_ne B λe=>by rw[e,hbd] at q;cases q).trans<|hB b o q,λb o q nm=>(Heap.hide_ne B λe=>by rw[e,hgd] at q;cases q).trans<|HE b o q nm,
  λp hp=>?_,hh,?_,?_,oe,vs,T,oT,ts,dZ PY he,wY,hd,h1,?_,Xy,dZ WJ hT,Tp,h3⟩
 ·exact cR (dS.mp hp) λp1 p2=>⟨(Heap.hide_ne B p2).trans (hl _ p1).1,(hl _ p1).2⟩
 ·cases q:(B.hide d).get? e with
  |none=>rfl
  |some z=>have:=Heap.of_hide q;rw[PY] at this;cases this
 ·refine yZ HF (λb hb=>?_) λb o hb hq=>dZ hb hq;cases q:(B.hide d).get? b with
  |none=>rfl
  |some z=>have:=Heap.of_hide q;rw[hb] at this;cases this
 ·cases q:(B.hide d).get? T with
  |none=>rfl
  |some z=>have:=Heap.of_hide q;rw[WJ] at this;cases this
end
noncomputable def o7 (cells:wn):Ns->List (Str × Addr)->wn
 | [],acc=>acc
 |(x,k)::r,acc=>o7 cells r (if k==.free then (x,(cells.lookup x).getD 0)::acc else acc)
theorem vl {sc:Scope}{env:Env}(h:∀x,(x,NameKind.free)∈sc.names->∃a,env.cells.lookup x=some a):closureFor sc env=pure (o7 env.cells sc.names []):=by
 unfold closureFor;have key:∀(l:Ns) (acc:wn),(∀x,(x,NameKind.free)∈l->∃a,env.cells.lookup x=some a)->
   (forIn l acc λ(p:Str × NameKind) (cs:wn)=>if (p.2==NameKind.free)=true then (do let a<-cellOf env p.1;pure (ForInStep.yield ((p.1,a)::cs)):Sem (ForInStep (wn))) else pure (ForInStep.yield cs))=pure (o7 env.cells l acc):=by
  intro l
  induction l with
  |nil=>intro acc _;rfl
  |cons p r ih=>
   intro acc hl;obtain⟨x,k⟩:=p;rw[List.forIn_cons];by_cases hk:(k==NameKind.free)=true
   ·have mM:k=.free:=eq_of_beq hk;subst mM;refine aN (hl x<|.head _) λa ha=>?_;have e:cellOf env x=pure a:=by unfold cellOf;rw[ha]
    have:=ih ((x,a)::acc) λy hy=>hl y<|.tail _ hy
    simp only[hk,if_true,e,pure_bind];rw[this]
    conv=>rhs;unfold o7
    simp[hk,ha]
   ·have:=ih acc λy hy=>hl y<|.tail _ hy
    simp only[hk,if_false,pure_bind,Bool.false_eq_true];rw[this]
    conv=>rhs;unfold o7
    simp[hk]
 have:=key sc.names [] h;simp only[bind_pure] at this⊢
 first
  |exact this
  |(show(do let r<-forIn sc.names [] _;pure r)= _;rw[this];rfl)
theorem nG {cells:wn}(l:Ns):∀(acc:wn) (x:Str),(∀y,(y,NameKind.free)∈l->∃a,cells.lookup y=some a)->((x,NameKind.free)∈l∨acc.lookup x=cells.lookup x)->(o7 cells l acc).lookup x=cells.lookup x:=by
 induction l with
 |nil=>exact λacc x M h=>h.elim (λh=>nomatch h) id
 |cons p r ih=>
  intro acc x hl h;refine ih _ x (λz hz=>hl z<|.tail _ hz) ?_;by_cases hk:(p.2==NameKind.free)=true
  ·rw[if_pos hk];refine aN (hl p.1<|(Prod.ext rfl (eq_of_beq hk):p=(p.1,NameKind.free))▸.head _) λa ha=>?_;by_cases hx:x=p.1
   ·exact .inr (by rw[hx,lu,lx,ha];rfl)
   ·refine aZ h (λh=>?_) λh=>?_
    ·refine aZ (aX.mp h) (λe=>?_) λe=>?_
     ·exact absurd (bJ Prod.fst e) hx
     ·exact .inl e
    ·exact .inr (by rw[lu,beq_eq_false_iff_ne.mpr hx];exact h)
  ·rw[if_neg hk];exact h.imp (λh=>(aX.mp h).resolve_left λe=>hk (by rw[<-e];rfl)) id
theorem bB {l:Ns}{x:Str}{k:NameKind}(hn:(l.map (·.1)).Nodup)(h:(x,k)∈l):l.lookup x=some k:=by
 induction l with
 |nil=>exact nomatch h
 |cons p r ih=>
  have mt:=iy.mp hn;rw[lu];refine aZ (aX.mp h) (λe=>?_) λe=>?_
  ·rw[<-e,lx]
  ·have dZ:x≠p.1:=λq=>mt.1 (by show p.1∈_;rw[<-q];exact cD e);rw[beq_eq_false_iff_ne.mpr dZ];exact ih mt.2 e
theorem lK {env:Env}{l:Ns}{x:Str}{k:NameKind}(h:l.lookup x=some k):
  (l.map λ(n,k)=>if (k==NameKind.free&&env.scope.kind==.function&&env.kindOf n==some .cell) then (n,NameKind.cell) else (n,k)).lookup x=some (if (k==NameKind.free&&env.scope.kind==.function&&env.kindOf x==some .cell) then NameKind.cell else k):=by
 induction l with
 |nil=>exact fP h
 |cons p r ih=>
  obtain⟨n,k'⟩:=p;have e:(if (k'==NameKind.free&&env.scope.kind==.function&&env.kindOf n==some .cell)=true then (n,NameKind.cell) else (n,k'))=(n,if (k'==NameKind.free&&env.scope.kind==.function&&env.kindOf n==some .cell)=true then NameKind.cell else k'):=by
   split<;>rfl
  show List.lookup x ((if (k'==NameKind.free&&env.scope.kind==.function&&env.kindOf n==some .cell)=true then (n,NameKind.cell) else (n,k'))::_)= _;rw[e,lu];rw[lu] at h;cases hx:x==n with
  |true=>
   rw[hx] at h;rw[<-eq_of_beq hx,<-(aU h:k'=k)]
  |false=>rw[hx] at h;exact ih h
theorem fV {ns:Ns}{sc:Scope}(h:d9 ns sc=true):sc.kind=.function/\(sc.names.map (·.1)).Nodup/\(∀p∈sc.names,p.2≠.cell)/\∀x,(x,NameKind.free)∈sc.names->∃j k,fh ns x=some j/\ns[j]?=some (x,k)/\(k=.cell∨k=.free):=by
 have WW:=b1 h;have h12:=b1 WW;refine⟨eq_of_beq<|b1 h12,od<|b2 h12,λp hp=>bne_iff_ne.mp<|gH.mp (b2 WW) p hp,λx hx=>?_⟩;have this:CP ns x=true:=gH.mp (b2 h) _ hx;unfold CP at this;cases q:fh ns x with
 |none=>rw[q] at this;exact nomatch this
 |some j=>
  rw[q] at this;exact Cx (nB q) λ_ k hk=>fc j k rfl hk<|(MN this).imp (mV hk)<|mV hk
abbrev y0 (sc:Scope)(C:Addr)(env:Env):Env:=compEnvC sc (o7 env.cells sc.names []) C env
noncomputable abbrev Lv.in (t:Lv)(sc:Scope):Lv:={t with ns:=sc.names}
@[reducible] def Fz.lG (f:Fz)(sc:Scope)(C:Addr):Fz:={f with t:=f.t.in sc,env:=y0 sc C f.env,N:=eJ (di f.t.ns sc.names) f.N}
section
variable {c:Fx} {t:Lv} {env:Env} {sc:Scope} {C:Addr} {f:Fz} {ρ:List Addr} {Z:Led}
theorem iX (hi:d9 t.ns sc=true)(V:Ok c t env):∀x,(x,NameKind.free)∈sc.names->∃a,env.cells.lookup x=some a:=λx hx=>by
 exact de ((fV hi).2.2.2 x hx) λj k M h2 h3=>(V.cell x k (f8 h2) h3).2
theorem Ok.lG (hi:d9 t.ns sc=true)(V:Ok c t env):Ok c (t.in sc) (y0 sc C env):=
 {inB:=V.inB,qj:=V.qj,hh:=V.hh,frames:=V.frames,frame:=V.frame,fkind:=V.fkind,depth:=V.depth,units:=V.units,wordy:=V.wordy,kind:=(fV hi).1,globals:=V.globals,builtins:=V.builtins,eframe:=V.eframe,code:=V.code,qual:=V.qual
  top:=λx hx=>lK hx
  local':=λx hx=>lK<|bB (fV hi).2.1 hx
  cell:=λx k hx hk=>by
   have hf:k=.free:=hk.resolve_left<|(fV hi).2.2.1 _ hx
   rw[hf] at hx;refine aN (iX hi V x hx) λa ha=>TL ?_ a ?_
   ·have e:(y0 sc C env).kindOf x=some (if (NameKind.free==NameKind.free&&env.scope.kind==.function&&env.kindOf x==some .cell) then NameKind.cell else NameKind.free):=lK<|bB (fV hi).2.1 hx
    rw[e];split
    ·exact .inl rfl
    ·exact .inr rfl
   ·show(o7 env.cells sc.names []).lookup x=some a;rw[nG _ _ _ (iX hi V)<|.inl hx,ha]}
theorem A1 {ns names:Ns}{N:Loc}{i:Nat}{x:Str}{k:NameKind}{v:V}(hx:names[i]?=some (x,k))(hl:(eJ (di ns names) N)[i]?=some (some v)):k=.free/\∃j,fh ns x=some j/\N[j]?=some (some v):=by
 unfold eJ di at hl;rw[List.map_map,gd,hx] at hl;have hl:(match (if (k==NameKind.free)=true then fh ns x else none) with
  |some j=>(N[j]?).join
  |none=>none)=some v:=aU hl
 by_cases hk:(k==NameKind.free)=true
 ·rw[if_pos hk] at hl;refine⟨eq_of_beq hk,?_⟩;cases q:fh ns x with
  |none=>rw[q] at hl;exact fP hl
  |some j=>
   rw[q] at hl;exact bF j rfl<|Option.join_eq_some_iff.mp (hl:(N[j]?).join=some v)
 ·rw[if_neg hk] at hl;exact fP hl
theorem gB.lG (hi:d9 f.t.ns sc=true)(V:Ok f.toFx f.t f.env)(Lo:gB f ρ Z):gB (f.lG sc C) ρ Z:=λi x k v hx hl=>by
 refine TI (A1 hx hl) λhk j h1 hl=>?_;rw[hk] at hx;have t8:=f8 hx;refine de ((fV hi).2.2.2 x t8) λj' k' WN h2 h3=>?_;rw[(aU (WN.symm.trans h1):j'=j)] at h2;refine aJ (Lo j x k' v h2 hl) λu iu lk=>?_;have WX:f.env.kindOf x=some .local->False:=λmM=>(V.cell x k' (f8 h2) h3).1.elim (λe=>NameKind.noConfusion<|aU<|e.symm.trans mM) λe=>NameKind.noConfusion<|aU<|e.symm.trans mM
 cases lk with
 |here mM _ _=>exact(WX mM).elim
 |lG _ _ mM _ _ _ _=>exact(WX mM).elim
 |cell a o _ g1 g2 g3 g4=>
  refine bF u iu<|.cell a o ((V.lG hi).cell x .free t8<|.inr rfl).1 ?_ g2 g3 g4
  show(o7 f.env.cells sc.names []).lookup x=some a;rw[nG _ _ _ (iX hi V)<|.inl t8,g1]
end
inductive o8 (B:Addr)(ρ:List Addr)(Z:Led):Prop
 |mk (o:Obj) (m₂:lW) (h:Tl B ρ Z o m₂)
inductive za (D:Addr)(ρ:List Addr)(Z:Led)(acc:aH):Prop
 |mk (vs:Array Value) (n:Nat) (mem:(D,listOf vs n)∈Z) (off:D∉ρ) (is:cr ρ Z vs.toList acc)
def jd (c:Fx)(B D:Addr)(g:Bs)(E:dz)(C:Nat)(Y':af):Prop:=
 ∀m gg e bU Z' h' fb ⦃b:Heap⦄,Fr b c.L gg m->Es c.base c.fe c.outer c.L e C gg Z' b h'->gg.UpToSlots h'->Rep bU Z' Y'->Ext [B,D] g.ρ g.Z bU Z'->KtsTurn c.fs g.b b->o8 B bU Z'->E (.ref e) {c.gY with heap:=h',toks:=fb}
def mX (c:Fx)(B D:Addr)(g:Bs)(E:dz)(C:Nat)(Y':af):Prop:=
 ∀m gg e bU Z' h' fb ⦃b:Heap⦄,Fr b c.L gg m->RaisedHN c.base gg (c.fe::c.outer) c.L e (.ref C) Z' h'->gg.UpToSlots h'->Rep bU Z' Y'->Ext [B,D] g.ρ g.Z bU Z'->KtsTurn c.fs g.b b->o8 B bU Z'->E (.ref e) {c.gY with heap:=h',toks:=fb}
structure Bl (B D:Addr)(acc:aH){f:Fz}(q:St f):Prop where
 lG:o8 B q.ρ q.Z
 acc:za D q.ρ q.Z acc
def eO (B D:Addr)(g:Bs)(f:Fz)(r:Res (aH))(Q:Shared->Prop)(X:Nat->af->Prop):Prop:=match r with
 | .ok wZ Y'=>∀q':St f,Kp [B,D] g q'->q'.Y=Y'->Bl B D wZ q'->Q q'.s
 | .exc C Y'=>X C Y'
 | .stuck=>False
section
variable {B D d:Addr} {g:Bs} {c:Fx} {f f':Fz} {q:St f} {am:St f'} {A:Around} {env:Env} {ρ bU:List Addr} {Z Z':Led} {Y:af} {E:dz} {C:Nat} {acc:aH} {r:Res (aH)} {Q Q':Shared->Prop} {X X':Nat->af->Prop} {u:Value} {v x:V} {o o':Obj} {h':Heap} {loc':Loc}
theorem mX.Vf (hB:∃A₀:Around,Below A₀ f.base f.outer g.b)(ok:Ok f.toFx f.t f.env)(x:mX f.toFx B D g E C Y):jd f.toFx B D g (notedBy Mo f.A f.env E) C Y:=by
 intro m gg e bU Z' h' fb b F X U Rp Ex T J;exact aN hB λA₀ Bl=>ny (lH Bl T) F ok.frame ok.fkind ok.frames ok.eframe X U λg' t7 F' R' U'=>x m g' e bU Z' t7 fb F' R' U' Rp Ex T J
theorem jd.held (x:jd c B D g E C Y):mX c B D g E C Y:=λm gg e bU Z' h' fb M F X U Rp Ex T J=>x m gg e bU Z' h' fb F (.inr<|.inl X) U Rp Ex T J
theorem mX.back (he:env.frame=some c.L)(x:mX c B D g E C Y):mX c B D g (cameBackBy Mo A env E) C Y:=
 λm gg e bU Z' h' fb M F X U Rp Ex T J=>qe he X U λt7 X' U'=>x m gg e bU Z' t7 fb F X' U' Rp Ex T J
theorem o8.ext (J:o8 B ρ Z)(e:Ext [] ρ Z bU Z'):o8 B bU Z':=by
 obtain⟨o,m₂,k⟩:=J;exact⟨o,m₂,e.keep _ k.mem k.off dq ((fQ k.ns).2.2.1:¬wH o),e.old (cD k.mem) k.off,k.ns⟩
theorem jd.from (a:Kp [B,D] g q)(J:o8 B q.ρ q.Z)(x:jd f.toFx B D g E C Y):q.Fl [] E C Y:=
 λm gg e wI Z'' t7 zQ M F R U Rp X T=>x m gg e wI Z'' t7 zQ F R U Rp (a.ext.trans<|X.weaken λM q=>nomatch q) (a.turn.trans T)<|J.ext X
theorem jd.on (a:Kp [B,D] g q)(x:jd f.toFx B D g E C Y):jd f.toFx B D q.bs E C Y:=
 λm gg e wI Z'' t7 zQ M F R U Rp X T J=>x m gg e wI Z'' t7 zQ F R U Rp (a.ext.trans X) (a.turn.trans T) J
theorem za.ext (J:za D ρ Z acc)(e:Ext [] ρ Z bU Z')(hK:∀a∈bU,K.lookup a=none):za D bU Z' acc:=by
 obtain⟨vs,n,h1,h2,h3⟩:=J;exact⟨vs,n,e.keep _ h1 h2 dq (λt=>nomatch q7 t),e.old (cD h1) h2,h3.ext e bK hK⟩
theorem Bl.step (J:Bl B D acc q)(a:nA [] q am):Bl B D acc am:=⟨J.lG.ext a.ext,J.acc.ext a.ext am.rep.apart⟩
theorem Kp.step (e:f.fs=f'.fs)(a:Kp [B,D] g q)(d:nA [] q am):Kp [B,D] g am:=⟨a.ext.trans (d.ext.weaken λM q=>nomatch q),KtsTurn.trans (e▸a.turn) d.turn⟩
noncomputable def St.less (q:St (f.to f.m loc'))(k:∀(j:Nat) (x:V),f.N[j]?=some (some x)->loc'[j]?=some (some x)):St f:=
 {b:=q.b,h:=q.h,ρ:=q.ρ,Z:=q.Z,Y:=q.Y,tk:=q.tk,ok:=q.ok,below:=q.below,dicts:=q.dicts,fr:=q.fr,news:=q.news,rep:=q.rep,lo:=λi x k' v h1 h2=>q.lo i x k' v h1 (k i v h2)}
theorem eO.mono (hq:∀s,Q s->Q' s)(hx:∀C Y,X C Y->X' C Y)(x:eO B D g f r Q X):eO B D g f r Q' X':=by
 cases r with
 |ok wZ Y'=>exact λq' a e J=>hq _<|x q' a e J
 |exc C Y'=>exact hx _ _ x
 |stuck=>exact x
theorem eO.bind {γ δ:Type}{R:Rl δ γ}{r:Res γ}{k:γ->af->Res (aH)}{Q':δ->Shared->Prop}(a:Kp [B,D] g q)(J:Bl B D acc q)(x:eO B D g f (r.bind k) Q (jd f.toFx B D g E))
  (kk:∀{v u} (am:St f),nA [] q am->Kp [B,D] g am->Bl B D acc am->R am.ρ am.Z u v->eO B D g f (k v am.Y) Q (jd f.toFx B D g E)->Q' u am.s):aF R q r Q' E:=by
 cases r with
 |ok v Y'=>exact λu am d e i=>kk am d (a.step rfl d) (J.step d) i (e▸x)
 |exc C Y'=>exact jd.from a J.lG x
 |stuck=>exact x
theorem eO.bindB {r:Res Bool}{k:Bool->af->Res (aH)}{Q':Bool->Shared->Prop}(a:Kp [B,D] g q)(J:Bl B D acc q)(x:eO B D g f (r.bind k) Q (jd f.toFx B D g E))
  (kk:∀{v} (am:St f),Kp [B,D] g am->Bl B D acc am->eO B D g f (k v am.Y) Q (jd f.toFx B D g E)->Q' v am.s):aF Pi q r Q' E:=
 eO.bind a J x λam M a J i P=>i▸kk am a J P
theorem eO.re {r:Res (aH)}{k:List V->af->Res (aH)}{Vg:Nat->af->Prop}{q:St (f.to f.m loc')}(hX:∀C Y,X C Y->Vg C Y)(less:∀(j:Nat) (x:V),f.N[j]?=some (some x)->loc'[j]?=some (some x))(a:Kp [B,D] g q)(x:eO B D g f (r.bind k) Q X)
  (kk:∀{wZ} (am:St f),Ext [B,D] q.ρ q.Z am.ρ am.Z->Kp [B,D] g am->Bl B D wZ am->eO B D g f (k wZ am.Y) Q X->Q' am.s):eO B D q.bs (f.to f.m loc') r Q' Vg:=by
 cases r with
 |ok wZ Y'=>exact λam d e J=>kk (am.less less) d.ext ⟨a.ext.trans d.ext,a.turn.trans d.turn⟩ ⟨J.lG,J.acc⟩ (e▸x)
 |exc C Y'=>exact hX _ _ x
 |stuck=>exact x
theorem Kp.to {am:St (f.to f.m loc')}(a:Kp [B,D] g q)(b:L8 B q am):Kp [B,D] g am:=
 ⟨a.ext.trans ⟨λM M h=>b.ρ▸h,λp hp M hc M=>b.keep _ _ hp λe=>hc<|e▸.head _,λz hz=>b.adr▸hz,λM h=>.inl (b.ρ▸h)⟩,b.b▸a.turn⟩
theorem Bl.to {am:St (f.to f.m loc')}(dZ:B≠D)(J:Bl B D acc q)(b:L8 B q am):Bl B D acc am:=by
 refine kQ b.lG λo m₂ hb=>?_;obtain⟨vs,n,h1,h2,h3⟩:=J.acc;exact⟨⟨o,m₂,hb⟩,vs,n,b.keep _ _ h1<|gz dZ,b.ρ▸h2,h3.mono b.mono⟩
structure Own (o:Obj):Prop where
 U:o.cls=.type "tuple"->∀vs n,o.data≠.seq vs n
 odd:CU o
 cell:∀vs,o.data≠.cell vs
 dict:∀es ep,o.data≠.dict es ep
theorem jo {vs:Array Value}{k:Nat}:Own (listOf vs k):=⟨λe=>absurd e (by show Value.type "list"≠Value.type "tuple";decide),oR (λM e=>Data.noConfusion e),λM e=>Data.noConfusion e,λM M e=>Data.noConfusion e⟩
theorem A2 {kd:HD}{k:Nat}(h:oX kd k o):Own o:=by
 exact aN h.fields λvs e=>⟨h.plain.1,h.plain.2,λM e'=>Data.noConfusion<|e.symm.trans e',λM M e'=>Data.noConfusion<|e.symm.trans e'⟩
theorem gB.turn {Z':Led}(g:∀v x,q.iv v x->bH q.ρ Z' v x)(hk:∀z oz,(z,oz)∈q.Z->z≠d->(z,oz)∈Z')(hm:(d,o)∈q.Z)(ow:Own o):gB f q.ρ Z':=λi x k v h1 h2=>
 let ⟨u,iu,lk⟩:=q.lo i x k v h1 h2;⟨u,g _ _ iu,lk.turn hk q.rep.ndZ hm ow.cell ow.dict⟩
theorem St.Nk (q:St f)(hm:(d,o)∈q.Z)(ow:Own o):∀v x,q.iv v x->bH q.ρ (gN q.Z d o') v x:=λM M i=>i.ext Ext.swap (gO q.rep.ndZ hm ow.U ow.odd) q.rep.apart
def St.own (q:St f)(tk:Nat)(hm:(d,o)∈q.Z)(hd:d∉q.ρ)(ow:Own o)(F:Fr q.b f.L h' f.m)(aaL:News q.b f.L h' (gN q.Z d o')):St f:=
 {b:=q.b,h:=h',ρ:=q.ρ,Z:=gN q.Z d o',Y:=q.Y,tk:=tk,ok:=q.ok,below:=q.below,dicts:=q.dicts,fr:=F,news:=aaL,rep:=q.rep.swap hm hd ow.U ow.odd,lo:=gB.turn (q.Nk hm ow) iK hm ow}
def St.gone (q:St f)(hm:(d,o)∈q.Z)(hd:d∉q.ρ)(ow:Own o)(hs:Heap.ExtBut d q.h h'):St f:=
 {b:=q.b,h:=h',ρ:=q.ρ,Z:=o6 q.Z d,Y:=q.Y,tk:=q.tk,ok:=q.ok,below:=q.below,dicts:=q.dicts
  fr:=⟨q.fr.ns.extBut hs<|gz (q.news _ hm).2.1,λz o' e=>hs z o' (λe'=>by rw[e',(q.news _ hm).2.2] at e;exact fP e)<|q.fr.keep z o' e,q.fr.above⟩
  news:=sh q.news λz o' e q=>hs z o' e q,rep:=q.rep.drop hm hd ow.U ow.odd,lo:=gB.turn (λM M i=>i.drop q.rep.ndZ hm ow.U ow.odd) (λM M h e=>dS.mpr ⟨h,e⟩) hm ow}
theorem Bl.append {A':Around}{Q:dz}{E':dz}(dZ:B≠D)(J:Bl B D acc q)(iu:q.iv u v)(hl:acc.length<10000)(hQ:∀q':St f,nA [B,D] q q'->q'.Y=q.Y->Bl B D (acc++[v]) q'->Q .none q'.s):wpAny Mo A' (call (.builtin "list.append") [.ref D,u]) Q E' q.s:=by
 obtain⟨vs,k,h1,h2,h3⟩:=J.acc;have kk:=q.Nk (o':=listOf (vs.push u) (k+1)) h1 jo;refine append_K q.fr q.news (uh q.rep.ndZ h1) (λh' F' N'=>hQ (q.own q.tk h1 h2 jo F' N') ⟨Ext.swap.weaken λM q=>cM.mp q▸.tail _ (.head _),.refl⟩ rfl ⟨?_,vs.push u,k+1,gP h1,h2,?_⟩)<|g9 (by rw[<-p8,bd h3];exact hl)
 ·obtain⟨o,m₂,kb⟩:=J.lG;exact⟨o,m₂,iK _ _ kb.mem dZ,kb.off,kb.ns⟩
 ·rw[Array.toList_push];exact gQ (h3.mono kk)<|.cons (kk _ _ iu) .nil
end
theorem V.beq_eq {a b:V}(h:V.beq a b=true):a=b:=
 V.rec (motive_1:=λa=>∀b,V.beq a b=true->a=b) (motive_2:=λa=>∀b,V.qY a b=true->a=b)
  (λb h=>@V.none.elim (λb=>.none=b) b (ix h) rfl)
  (λa b h=>@V.bool.elim (λb=>V.beq (.bool a) b=true->.bool a=b) b (ix<|b1 h) (λc h=>bJ _<|eq_of_beq<|show(a==c)=true from h) h)
  (λa b h=>@V.int.elim (λb=>V.beq (.int a) b=true->.int a=b) b (ix<|b1 h) (λc h=>bJ _<|eq_of_beq<|show(a==c)=true from h) h)
  (λa b h=>@V.str.elim (λb=>V.beq (.str a) b=true->.str a=b) b (ix<|b1 h) (λc h=>bJ _<|eq_of_beq<|show(a==c)=true from h) h)
  (λa ih b h=>@V.U.elim (λb=>V.beq (.U a) b=true->.U a=b) b (ix<|b1 h) (λc h=>bJ _<|ih c h) h)
  (λa ih b h=>@V.gl.elim (λb=>V.beq (.gl a) b=true->.gl a=b) b (ix<|b1 h) (λc h=>bJ _<|ih c h) h)
  (λa a' b h=>@V.rng.elim (λb=>V.beq (.rng a a') b=true->.rng a a'=b) b (ix<|b1 h) (λc d h=>by
   have h:(a==c&&a'==d)=true:=h;rw[eq_of_beq<|b1 h,eq_of_beq<|b2 h]) h)
  (λa b h=>@V.ref.elim (λb=>V.beq (.ref a) b=true->.ref a=b) b (ix<|b1 h) (λc h=>bJ _<|eq_of_beq<|show(a==c)=true from h) h)
  (λb h=>(gF h).symm)
  (λa r ia ir b h=>by
   have h:(!b.isEmpty&&(V.beq a (b.headD .none)&&V.qY r b.tail))=true:=h;rw[nX (b1 h) .none,<-ia _ (b1<|b2 h),<-ir _ (b2<|b2 h)]) a b h
theorem V.ED {a b:aH}(h:V.qY a b=true):a=b:=by
 induction a generalizing b with
 |nil=>exact(gF h).symm
 |cons x r ih=>
  have h:=h;rw[nX (b1 h) .none,<-V.beq_eq (b1<|b2 h),<-ih (b2<|b2 h)]
theorem vm {Y Y':af}{src:V}{all:aH}(e:cI Y src=some all)(h:same Y' src all=true):cI Y' src=some all:=by
 cases src with
 |ref i=>
  have h:(match wo Y' i with
   |some l'=>V.qY l' all
   |none=>false)=true:=h
  show wo Y' i=some all;cases e':wo Y' i with
  |none=>rw[e'] at h;exact nomatch h
  |some l=>rw[e'] at h;exact bJ some<|V.ED h
 |_=>exact e
theorem mf.ext {cs ρ bU:List Addr}{Z Z':Led}{kd:HD}{src:V}(ex:Ext cs ρ Z bU Z')(hc:oU cs Z)(hK:∀a∈bU,K.lookup a=none)(h:mf ρ Z kd src):mf bU Z' kd src:=h.mono λM M i=>i.ext ex hc hK
section
noncomputable abbrev Rest:=Fz->(Shared->Prop)->(dz)->Shared->Prop
def Gv (t:Lv)(B D:Addr)(REST:Rest)(fn:Loc->List V->af->Res (aH)):Prop:=∀(f:Fz) (q:St f) (acc:aH) (Q:Shared->Prop) (E:dz),f.t=t->f.env.locals=B->Bl B D acc q->eO B D q.bs f (fn f.N acc q.Y) Q (jd f.toFx B D q.bs E)->REST f Q E q.s
def mY (f:Fz)(e:Expr)(depth:Nat)(it acc:Value)(target:Expr)(REST:(Shared->Prop)->(dz)->Shared->Prop):Prop:=
 ∀(Q:Fin->Shared->Prop) (E:dz) (s:Shared),
  wpAny Mo f.A (pyNext it) (λr dW=>match r with
   |none=>Q (.done .next) dW
   |some v=>wpAny Mo f.A (letOwnedTupleGo target it v) (λM kU=>wpAny Mo f.A (assign target f.env v) (λM tU=>REST (Q<|.again<|.compLoop e depth it acc f.env) E tU) E kU) E dW) E s->
  wpAny Mo f.A (compTurn e depth it acc f.env) Q E s
variable {B D aaM:Addr} {g:Bs} {f:Fz} {q:St f} {E:dz} {acc:aH} {o:Obj} {kd:HD} {k:Nat} {src:V} {all:aH} {t:Lv} {sc:Scope} {s:Shared}
abbrev jY (Y7:List Nat)(fn:Loc->List V->af->Res (aH))(N:Loc):V->List V->af->Res (aH):=λv acc Y=>fL (dA Y Y7 v N) λloc'=>fn loc' acc Y
theorem EE {β:Type}{Y:af}{r:Res β}{P:Res β->Prop}(hs:¬P .stuck)(h:P (if same Y src all then r else .stuck)):same Y src all=true/\P r:=by
 cases e:same Y src all with
 |true=>rw[e] at h;exact⟨rfl,h⟩
 |false=>rw[e] at h;exact absurd h hs
inductive EF (B D:Addr)(g:Bs)(f:Fz)(aaM:Addr)(kd:HD)(src:V)(all:aH)(F:V->List V->af->Res (aH))(Q:Shared->Prop)(X:Nat->af->Prop):Nat->Shared->Prop
 |mk {k:Nat} {acc:aH} {o:Obj} (q:St f) (a:Kp [B,D] g q) (J:Bl B D acc q) (hI:(aaM,o)∈q.Z) (hr:aaM∉q.ρ) (hk:oX kd k o) (hs:mf q.ρ q.Z kd src) (e:cI q.Y src=some all) (hle:k<=all.length)
  (P:eO B D g f (dr F src all (all.drop k) acc q.Y) Q X):EF B D g f aaM kd src all F Q X (all.length - k) q.s
variable {elt target:Expr} {pos:Pos}
theorem tg {gens:List Comprehension}{depth:Nat}{REST:Rest}{fn:Loc->List V->af->Res (aH)}{ts:List Nat}{R':Result->Shared->Prop}
  (hT:mY f (.ListComp elt gens sc pos) depth (.ref aaM) (.ref D) target (REST f)) (hF:∀N,REST (f.to f.m N)=REST f) (ht:f0 f.t.ns target=some ts) (hR:Gv f.t B D REST fn) (hB:f.env.locals=B) (dZ:B≠D) (hn:(f.t.ns.map (·.1)).Nodup) (WY:aaM≠B) (XC:aaM≠D) (hIZ:aaM∉g.Z.map (·.1))
  (hb:∃A₀:Around,Below A₀ f.base f.outer g.b) (a:Kp [B,D] g q) (J:Bl B D acc q) (hI:(aaM,o)∈q.Z) (hr:aaM∉q.ρ) (hk:oX kd 0 o) (hs:mf q.ρ q.Z kd src) (e:cI q.Y src=some all)
  (P:eO B D g f (dr (jY ts fn f.N) src all all acc q.Y) (λs'=>R' (.ok .next) s') (mX f.toFx B D g λe s'=>R' (.error e) s')):
  codeAny Mo f.A (.compLoop (.ListComp elt gens sc pos) depth (.ref aaM) (.ref D) f.env) R' q.s:=by
 refine codeAny_loop rfl (EF B D g f aaM kd src all (jY ts fn f.N) (λs'=>R' (.ok .next) s')<|mX f.toFx B D g λe s'=>R' (.error e) s') (λn' s' x=>?_) (all.length - 0) ⟨q,a,J,hI,hr,hk,hs,e,p9 _,P⟩;clear a hI hr hk hs e P J
 induction x with | @mk k acc o q a J hI hr hk hs e hle P=>?_
 have ow:=A2 hk;refine wpAny_noted<|hT _ _ _<|xy hs e (q.news _ hI).1 hk (λv hv x bA lF I9 A3 ji oY ix=>?_) λhv bA he=>?_
 ·obtain⟨nj,ev⟩:=bP.mp hv;rw[List.drop_eq_getElem_cons nj,ev] at P;have kk:=q.Nk (o':=lF) hI ow;let am:=q.own I9 hI hr ow (q.fr.change oY (q.news _ hI).2.1 (q.news _ hI).2.2)<|kh q.news hI A3 oY
  have rm:Bl B D acc am:=by
   obtain⟨⟨ob,m₂,kb⟩,⟨vs,n,h1,h2,h3⟩⟩:=J;exact⟨⟨ob,m₂,iK _ _ kb.mem<|gz WY,kb.off,kb.ns⟩,vs,n,iK _ _ h1<|gz XC,h2,h3.mono kk⟩
  refine I7 A3 ji ?_;have P:eO B D g f ((fL (dA q.Y ts v f.N) λloc'=>fn loc' acc q.Y).bind λacc Y=>if same Y src all then dr (jY ts fn f.N) src all (all.drop (k+1)) acc Y else .stuck) (λs'=>R' (.ok .next) s') (mX f.toFx B D g λe s'=>R' (.error e) s'):=P;cases qt:dA q.Y ts v f.N with
  |none=>rw[qt] at P;exact P.elim
  |some Ja=>
   rw[qt] at P;obtain⟨ob,m₂,kb⟩:=rm.lG;refine Db (q:=am) ht qt kb hB hn (kk _ _ ix) λbz bt=>?_;have bN:=(⟨a.ext.yJ hIZ,a.turn⟩:Kp [B,D] g am).to bt;have Pq:=bt.keep _ _ (gP hI) WY;have IV:=bt.ρ▸hr;have Jb:=rm.to dZ bt;rw[<-hF Ja];refine hR (f.to f.m Ja) bz acc _ _ rfl hB Jb<|eO.re (λC Y x=>jd.on bN<|mX.Vf hb q.ok x) (yY qt) bN (bt.Y▸P) λ{wZ} eB ex mZ Y8 Gm=>?_
   obtain⟨hsm,Gm⟩:=EE (P:=λr=>eO B D g f r (λs'=>R' (.ok .next) s')<|mX f.toFx B D g λe s'=>R' (.error e) s') id Gm;refine⟨rfl,_,Nat.sub_succ_lt_self _ _ nj,⟨eB,mZ,Y8,ex.keep _ Pq IV (λh=>(aX.mp h).elim WY λh=>XC<|cM.mp h) ji.plain.2.2.1,ex.old (cD Pq) IV,ji,mf.ext ex ?_ eB.rep.apart ((hs.mono kk).mono bt.mono:mf bz.ρ bz.Z kd src),vm e hsm,nj,Gm⟩⟩;rintro ⟨pa,po⟩ hp O0;rcases aX.mp O0 with e | e
   ·obtain⟨Vh,aaB,Jc⟩:=Jb.lG;exact(g8 bz.rep.ndZ (by rw[show B=pa from e.symm];exact hp) Jc.mem:po=Vh)▸⟨(fQ Jc.ns).1,(fQ Jc.ns).2.1⟩
   ·obtain⟨vs,kk,h1,_,_⟩:=Jb.acc;exact(g8 bz.rep.ndZ (by rw[show D=pa from(cM.mp e).symm];exact hp) h1:po=listOf vs kk)▸⟨jo.U,jo.odd.1⟩
 ·rw[List.drop_eq_nil_of_le<|z8.mp hv] at P;refine(P:eO B D g f (.ok acc q.Y) (λs'=>R' (.ok .next) s') (mX f.toFx B D g λe s'=>R' (.error e) s')) (q.gone hI hr ow he) ⟨a.ext.drop hIZ,a.turn⟩ rfl ?_;obtain⟨⟨ob,m₂,kb⟩,⟨vs,n,h1,h2,h3⟩⟩:=J;exact⟨⟨ob,m₂,dS.mpr ⟨kb.mem,gz WY⟩,kb.off,kb.ns⟩,vs,n,dS.mpr ⟨h1,gz XC⟩,h2,h3.mono λM M i=>i.drop q.rep.ndZ hI ow.U ow.odd⟩
theorem vn {A':Around}{Q E:dz}(ho:s.heap.get? aaM=some o)(hk:oX kd k o)(hq:Q (.ref aaM) s):wpAny Mo A' (pyIter<|.ref aaM) Q E s:=by
 cases kd with
 |list l=>exact wpAny_pyIter_listiter ⟨o,ho,hk.1,hk.2⟩ hq
 |U t=>exact wpAny_pyIter_tupleiter ⟨o,ho,hk.1,hk.2⟩ hq
 |rng a b=>exact wpAny_pyIter_rangeiter (by rw[IsRangeIter,ho];exact bJ some hk) hq
noncomputable abbrev vo (f:Fz)(l:List Expr)(b:Bool):Sem Bool:=forIn l b λc r=>if r=true then do let ok<-isTrue c f.env (eval c f.env);pure (ForInStep.yield ok) else pure (ForInStep.yield r)
theorem Gw {QB:Bool->Shared->Prop}(l:List Expr):∀(s':Shared),QB false s'->wpAny Mo f.A (vo f l false) QB E s':=by
 induction l with
 |nil=>exact λs' q=>aW q
 |cons y l ihl=>
  intro s' q;unfold vo;rw[List.forIn_cons];simp only[Bool.false_eq_true,if_false];exact aw<|aW<|ihl s' q
variable {ifs:List Expr}
theorem Jd {xs:List X}(hx:dC f.t ifs xs){fn:Bool->af->Res (aH)}{Q:Shared->Prop}{QB:Bool->Shared->Prop}:∀(q:St f),Kp [B,D] g q->Bl B D acc q->
  eO B D g f ((jK f.t.O xs f.N q.Y).bind fn) Q (jd f.toFx B D g E)->(∀ok (q':St f),Kp [B,D] g q'->Bl B D acc q'->eO B D g f (fn ok q'.Y) Q (jd f.toFx B D g E)->QB ok q'.s)->wpAny Mo f.A (vo f ifs true) QB E q.s:=by
 induction hx with
 |nil=>exact λq a J P hQ=>aW<|hQ true q a J P
 |@cons e x r xs he hx ht hr ih=>
  intro q a J P hQ;have P:eO B D g f (((dg<|aV f.t.O x f.N q.Y).bind λt Y=>cond t (jK f.t.O xs f.N Y)<|.ok false Y).bind fn) Q (jd f.toFx B D g E):=P;rw[Res.bind_assoc] at P;unfold vo;rw[List.forIn_cons];simp only[if_true];refine aw<|aw<|ht f q _ E rfl<|eO.bindB a J P λ{v} am bM rm aP=>aW ?_
  cases v with
  |true=>exact ih am bM rm aP hQ
  |false=>exact Gw r _<|hQ false am bM rm aP
variable {e:Expr}
theorem mh (h:∀l k p,e≠.Set l k p)(env:Env)(x:Value):foldedSetIterable e env x=pure x:=by
 cases e with
 |Set=>exact absurd rfl<|h _ _ _
 |_=>rfl
def Je (f:Fz)(elt:Expr)(acc:Value)(Q:Shared->Prop)(E:dz)(s:Shared):Prop:=
 wpAny Mo f.A (eval elt f.env) (λx Gy=>wpAny Mo f.A (call (.builtin "list.append") [acc,x]) (λM Nl=>Q Nl) E Gy) E s
def Jf (f:Fz)(ifs:List Expr)(elt:Expr)(acc:Value)(Q:Shared->Prop)(E:dz)(s:Shared):Prop:=
 wpAny Mo f.A (vo f ifs true) (λok tU=>if ok=true then Je f elt acc Q E tU else Q tU) E s
def Jg (f:Fz)(qQ:Expr)(e:Expr)(acc:Value)(Q:Shared->Prop)(E:dz)(s:Shared):Prop:=
 wpAny Mo f.A (eval qQ f.env) (λx dW=>wpAny Mo f.A (pyIter x) (λit kU=>
  codeAny Mo f.A (.compStart e 1 it acc f.env) (λr s'=>match r with
   | .ok _=>Q s'
   | .error x=>cameBackBy Mo f.A f.env E x s') kU) E dW) E s
variable {iter:Expr} {it:Value}
theorem Vi {acc:Value}:mY f (.ListComp elt [⟨target,iter,ifs,0⟩] sc pos) 0 it acc target (Jf f ifs elt acc):=by
 intro Q E s h;rw[compTurn_list];refine aw<|gy<|aw<|cE h (λr dW bA=>?_) λM M h'=>h'
 cases r with
 |none=>exact aW bA
 |some v=>
  refine aw<|cE bA (λM kU eG=>aw<|cE eG (λM tU nE=>aw<|cE nE (λok Gy om=>?_) λM M h'=>h') λM M h'=>h') λM M h'=>h'
  cases ok with
  |false=>exact aW om
  |true=>exact aw<|aw<|cE om (λx Nl vp=>aw<|cE vp (λM Y9 Jh=>aW<|aW Jh) λM M h'=>h') λM M h'=>h'
variable {i1:Expr}
theorem Nn {t1:Expr}{acc:Value}:mY f (.ListComp elt [⟨t1,i1,[],0⟩,⟨target,iter,[],0⟩] sc pos) 1 it acc target (Je f elt acc):=by
 intro Q E s h;have e:compTurn (.ListComp elt [⟨t1,i1,[],0⟩,⟨target,iter,[],0⟩] sc pos) 1 it acc f.env=(do
   standAt iter.pos
   match<-pyNext it with
   |none=>pure<|.done .next
   |some v=>
    letOwnedTupleGo target it v
    assign target f.env v
    (do let _<-call (.builtin "list.append") [acc,<-eval elt f.env])
    again (.compLoop (.ListComp elt [⟨t1,i1,[],0⟩,⟨target,iter,[],0⟩] sc pos) 1 it acc f.env)):=by rfl
 rw[e];refine aw<|gy<|aw<|cE h (λr dW bA=>?_) λM M h'=>h'
 cases r with
 |none=>exact aW bA
 |some v=>
  refine aw<|cE bA (λM kU eG=>aw<|cE eG (λM tU nE=>?_) λM M h'=>h') λM M h'=>h'
  exact aw<|aw<|cE nE (λx Nl vp=>aw<|cE vp (λM Y9 Jh=>aW<|aW Jh) λM M h'=>h') λM M h'=>h'
theorem Vj {t2 kP:Expr}{acc:Value}(hs:∀env x,foldedSetIterable kP env x=pure x):
  mY f (.ListComp elt [⟨target,i1,[],0⟩,⟨t2,kP,[],0⟩] sc pos) 0 it acc target (Jg f kP (.ListComp elt [⟨target,i1,[],0⟩,⟨t2,kP,[],0⟩] sc pos) acc):=by
 intro Q E s h;have e:compTurn (.ListComp elt [⟨target,i1,[],0⟩,⟨t2,kP,[],0⟩] sc pos) 0 it acc f.env=(do
   standAt i1.pos
   match<-pyNext it with
   |none=>pure<|.done .next
   |some v=>
    letOwnedTupleGo target it v
    assign target f.env v
    let x<-eval kP f.env
    standAt kP.pos
    let x<-foldedSetIterable kP f.env x;let _<-runOwn (.compStart (.ListComp elt [⟨target,i1,[],0⟩,⟨t2,kP,[],0⟩] sc pos) (0+1) (<-holding [x] (pyIter x)) acc f.env) f.env
    again (.compLoop (.ListComp elt [⟨target,i1,[],0⟩,⟨t2,kP,[],0⟩] sc pos) 0 it acc f.env)):=by rfl
 rw[e];refine aw<|gy<|aw<|cE h (λr dW bA=>?_) λM M h'=>h'
 cases r with
 |none=>exact aW bA
 |some v=>
  refine aw<|cE bA (λM kU eG=>aw<|cE eG (λM tU nE=>?_) λM M h'=>h') λM M h'=>h'
  refine aw<|cE nE (λx Gy om=>aw<|gy<|aw ?_) λM M h'=>h'
  rw[hs];refine aW<|aw<|dJ<|cE om (λit₂ Nl vp=>aw<|wpAny_runOwn ?_) λM M h'=>h'
  have:f.A.mark none=f.A:=rfl;rw[this];exact codeAny_mono vp λr s' hr=>by
   cases r with
   |ok f=>exact aW hr
   |error x=>exact hr
theorem Gz {t1:Expr}{acc:Value}{R:Result->Shared->Prop}
  (h0:codeAny Mo f.A (.compLoop (.ListComp elt [⟨t1,i1,[],0⟩,⟨target,iter,[],0⟩] sc pos) 1 it acc f.env) R s)
  (h:wpAny Mo f.A (pyIter it) (λit' s'=>codeAny Mo f.A (.compLoop (.ListComp elt [⟨t1,i1,[],0⟩,⟨target,iter,[],0⟩] sc pos) 1 it' acc f.env) R s')
   (notedBy Mo f.A f.env λx s'=>R (.error x) s') s):
  codeAny Mo f.A (.compStart (.ListComp elt [⟨t1,i1,[],0⟩,⟨target,iter,[],0⟩] sc pos) 1 it acc f.env) R s:=by
 refine codeAny_of_tree<|wpAny_notedAt ?_
 refine aw<|wpAny_askSetting<|wpAny_ite ?_
 split
 ·first
   |exact aw (aW (aW (And.intro rfl h0)))
   |exact aW (And.intro rfl h0)
 ·first
   |exact aw (wpAny_rule (aw (gy (aw (cE h (λit' s' h'=>aW<|And.intro rfl h') λM M x=>x)))))
   |(refine aw (wpAny_rule ?_);show wpAny _ _ (standAt iter.pos >>= _) _ _ s;exact aw (gy (aw (cE h (λit' s' h'=>aW<|And.intro rfl h') λM M x=>x))))
theorem Bl.put {v:V}{u:Value}{Q:Shared->Prop}{E':dz}(dZ:B≠D)(a:Kp [B,D] g q)(J:Bl B D acc q)(iu:q.iv u v)(P:eO B D g f (ma v acc q.Y) Q (jd f.toFx B D g E)):wpAny Mo f.A (call (.builtin "list.append") [.ref D,u]) (λM s=>Q s) E' q.s:=by
 unfold ma at P;by_cases hl:acc.length<10000
 ·rw[if_pos hl] at P;exact J.append dZ iu hl λq' d e J'=>P q' (a.trans rfl d) e J'
 ·rw[if_neg hl] at P;exact P.elim
theorem Ji {x:X}(dZ:B≠D)(hx:cx t e x):Gv t B D (λf=>Je f e<|.ref D) (λN acc Y=>(aV t.O x N Y).bind λv Y=>ma v acc Y):=λf q acc Q E ht M J P=>
 hx f q _ E ht (eO.bind .refl J P λam M bM rm bZ aP=>rm.put dZ bM bZ aP)
theorem Jj {x:X}{xs:List X}(dZ:B≠D)(hs:dC t ifs xs)(hx:cx t e x):Gv t B D (λf=>Jf f ifs e<|.ref D) (λN acc Y=>(jK t.O xs N Y).bind λb Y=>cond b ((aV t.O x N Y).bind λv Y=>ma v acc Y)<|.ok acc Y):=λf q acc Q E ht M J P=>by
 subst ht;refine Jd hs q .refl J P λok am bM rm aP=>?_;cases ok with
 |false=>exact aP am bM rfl rm
 |true=>exact hx f am _ E rfl<|eO.bind bM rm aP λbz M bN Jb iW dB=>Jb.put dZ bN iW dB
end
section
section
variable {A:Around} {env:Env} {s:Shared} {E:dz}
def ld (A:Around)(E:dz)(use:Option (Value->Sem Unit))(Q:dz)(acc:Value)(p6:Env)(r:Result)(s':Shared):Prop:=
 match r,use with
 | .ok _,none=>∃m,s'.heap.Ns p6.locals m/\∀h',Heap.SameBut p6.locals s'.heap h'->Q acc {s' with heap:=h'}
 | .ok _,some u=>wpAny Mo A (u acc) (λM rN=>∃m,rN.heap.Ns p6.locals m/\∀h',Heap.SameBut p6.locals rN.heap h'->Q .none {rN with heap:=h'}) E s'
 | .error x,_=>∃m,s'.heap.Ns p6.locals m/\∀h',Heap.SameBut p6.locals s'.heap h'->wpAny Mo A (PySem.passOn "comprehension.variables-let-go" x p6:Sem Value) (λM M=>False) E {s' with heap:=h'}
theorem rn {e:Expr}{scope:Scope}{pos:Pos}{LS first:Sem Value}{g:Comprehension}{gs:List Comprehension}{cl:wn}{use:Option (Value->Sem Unit)}
  {Q:dz}
  (zW:clausesOf e=g::gs) (hs:∀x,foldedSetIterable g.iter env x=pure x) (Cm:closureFor scope env=pure cl)
  (Cn:scope.kind=.function) (SV:∀x∈scope.names,x.2=.local->scope.names.lookup x.1=some .local)
  (h:wpAny Mo A first (λx dW=>wpAny Mo A (pyIter x) (λit kU=>wpAny Mo A LS (λacc tU=>
   wpAny Mo A (newFunctionEnv scope env.globals cl [] env.qual none .none (some env)) (λp6 Gy=>
    codeAny Mo A (.compStart e 0 it acc {p6 with scope:=relabel scope env}) (ld A E use Q acc {p6 with scope:=relabel scope env}) Gy) E tU) E kU) E dW) E s):
  wpAny Mo A (comprehension e scope env pos LS false first use) Q E s:=by
 unfold comprehension;rw[Cm,zW];refine aw (cE h (λx dW bA=>aw (gy (aw (wpAny_of_eq (hs x) (aw (dJ (cE bA (λit kU eG=>
  wpAny_standIf (aw (cE eG (λacc tU nE=>aw (aW (aw (cE nE (λp6 Gy om=>?_) λM M h'=>h')))) λM M h'=>h')))
   λM M h'=>h'))))))) λM M h'=>h')
 have hv:∀x∈(scope.names.filter λx=>(x.2==.local||x.2==.cell)&&x.1 != (".0":Str)).reverse,x.2=.local->
   Env.kindOf {p6 with scope:=relabel scope env} x.1=some .local:=λx hx hl=>lookup_relabel_local (SV x (List.mem_filter.mp (List.mem_reverse.mp hx)).1 hl)
 have hv':∀x∈(scope.names.filter λx=>(x.2==.local||x.2==.cell)&&x.1 != (".0":Str)).reverse.drop 1++(scope.names.filter λx=>(x.2==.local||x.2==.cell)&&x.1 != (".0":Str)).reverse.take 1,
   x.2=.local->Env.kindOf {p6 with scope:=relabel scope env} x.1=some .local:=λx hx hl=>by
  refine aZ (fu.mp hx) (λh1=>?_) λh1=>?_
  ·exact hv x (List.mem_of_mem_drop h1) hl
  ·exact hv x (List.mem_of_mem_take h1) hl
 refine dJ (aw (wpAny_attempt (dJ (wpAny_run (codeAny_mono om λr s' hr=>?_)))));cases r with
 |ok f=>
  cases use with
  |none=>
   exact aJ hr λm hn hr=>aw (dJ (wpAny_comp_letGo Cn _ s' m hv hn λh' m' M Cj=>aW (hr h' Cj)))
  |some u=>
   refine aw (wpAny_rule (aw (dJ (cE hr (λM rN WZ=>?_) λM M h'=>h'))));exact aJ WZ λm hn WZ=>aw (wpAny_comp_letGo Cn _ rN m hv' hn λh' m' M Cj=>aW (WZ h' Cj))
 |error x=>
  have WZ:∃m,s'.heap.Ns p6.locals m/\∀h',Heap.SameBut p6.locals s'.heap h'->wpAny Mo A (PySem.passOn "comprehension.variables-let-go" x {p6 with scope:=relabel scope env}:Sem Value) (λM M=>False) E {s' with heap:=h'}:=by cases use<;>exact hr
  exact aJ WZ λm hn hr=>aw (dJ (wpAny_comp_letGo Cn _ s' m hv hn λh' m' M Cj=>cE (hr h' Cj) (λM M f=>f.elim) λM M y=>y))
end
variable {B D:Addr} {g:Bs} {f:Fz} {q:St f} {E:dz} {acc:aH} {t:Lv} {sc:Scope} {pos:Pos} {ts:List Nat} {fn:Loc->List V->af->Res (aH)}
variable {elt:Expr} {xi xe:X}
theorem Jk {t1 i1 t2 qQ:Expr}{qP:List Nat}(dZ:B≠D)(hn:(t.ns.map (·.1)).Nodup)(ht:f0 t.ns t2=some qP)(hi:cx t qQ xi)(hx:cx t elt xe):
  Gv t B D (λf=>Jg f qQ (.ListComp elt [⟨t1,i1,[],0⟩,⟨t2,qQ,[],0⟩] sc pos) (.ref D)) (λN acc Y=>(aV t.O xi N Y).bind λwk Y=>fL (cI Y wk) λall2=>dr (jY qP (λN acc Y=>(aV t.O xe N Y).bind λv Y=>ma v acc Y) N) wk all2 all2 acc Y):=λf q acc Q E e0 hB J P=>by
 subst e0;refine hi f q _ E rfl (eO.bind .refl J P λ{v u} am M bM rm bZ aP=>?_);cases e:cI am.Y v with
 |none=>rw[e] at aP;exact aP.elim
 |some all=>
  rw[e] at aP;refine qA bZ e λkd o hk nW=>?_;let bz:=am.hide o hk.mW am.tk;have d:=am.hidden o hk.mW am.tk;have fz:=am.cW;have loop:=tg (R':=λr s'=>match r with
   | .ok _=>Q s'
   | .error x=>cameBackBy Mo f.A f.env E x s') (hT:=Nn (f:=f) (t1:=t1) (i1:=i1) (iter:=qQ) (sc:=sc) (pos:=pos)) (hF:=λM=>rfl) (ht:=ht) (hR:=Ji dZ hx) hB dZ hn
   (WY:=λe=>fz (by obtain⟨_,_,kb⟩:=rm.lG;rw[e];exact cD (f:=λp:Addr × Obj=>p.1) kb.mem)) (XC:=λe=>fz (by obtain⟨_,_,k1,_⟩:=rm.acc;rw[e];exact cD (f:=λp:Addr × Obj=>p.1) k1))
   (hIZ:=λe=>fz (bM.ext.adr _ e)) (hb:=q.below) (bM.step rfl d) (rm.step d) (.head _) (am.rep.mU fz) hk (nW.mono λv x i=>d.xj i) e (aP.mono (λM x=>x) λC Y x=>(jd.held x).back q.ok.eframe)
  exact Gz loop (vn (bz.news _ (.head _)).1 hk loop)
theorem Ext.fresh {cs ρ bU:List Addr}{Z Z':Led}(e:Ext cs ρ Z bU Z')(h:∀a∈cs,a∉Z.map (·.1)):Ext [] ρ Z bU Z':=
 ⟨e.pre,λp hp hn M ht=>e.keep p hp hn (λhc=>h _ hc (cD hp)) ht,e.adr,e.new⟩
theorem xz {Z:Led}(hB:B∉Z.map (·.1))(hD:D∉Z.map (·.1)):∀a∈[B,D],a∉Z.map (·.1):=λq hq=>(aX.mp hq).elim (λe=>e▸hB) λe=>cM.mp e▸hD
structure Jl (q:St f)(acc:aH)(Y:af)(B D:Addr)(q':St f):Prop where
 st:nA [] q q'
 sto:q'.Y=Y++[.list acc]
 val:q'.iv (.ref D) (.ref Y.length)
 lG:o8 B q'.ρ q'.Z
 fresh:B∉q.Z.map (·.1)
theorem Bl.adopt {f':Fz}{q':St f'}(ef:f'.toFx=f.toFx)(em:f'.m=f.m)(J:Bl B D acc q')(a:Kp [B,D] q.bs q')(dZ:B≠D)(hB:B∉q.Z.map (·.1))(hD:D∉q.Z.map (·.1))(hK:K.lookup D=none)(hb:(D==sysModules)=false):∃jT:St f,Jl q acc q'.Y B D jT/\jT.s=q'.s:=by
 obtain⟨⟨ob,m₂,kb⟩,⟨vs,k,h1,h2,h3⟩⟩:=J;have gr:∀v x,q'.iv v x->bH (q'.ρ++[D]) q'.Z v x:=λv x i=>i.grow q'.rep.ndZ h1 hK jo.U jo.odd;have ex:=(a.ext.fresh (xz hB hD)).adopt hD;have T:KtsTurn f.fs q.b q'.b:=by have:=a.turn;rw[ef] at this;exact this
 refine bF (q.to q'.tk (by have:=q'.fr;rw[em,ef] at this;exact this) (by have:=q'.news;rw[ef] at this;exact this) (q'.rep.adopt h1 jo.odd h2 hK hb gr (ce:=.list acc) ⟨vs,k,rfl,h3.mono gr⟩) ex T) ⟨⟨ex,T⟩,rfl,va q'.rep,⟨ob,m₂,kb.mem,λe=>(fu.mp e).elim kb.off λe=>dZ (cM.mp e),kb.ns⟩,hB⟩ ?_;show({f.gY with heap:=q'.h,toks:=q'.tk}:Shared)={f'.gY with heap:=q'.h,toks:=q'.tk};rw[ef]
theorem Jl.done {Y:af}{q':St f}{h':Heap}(e:Jl q acc Y B D q')(hs:Heap.SameBut B q'.h h'):∃jT:St f,nA [] q jT/\jT.Y=Y++[.list acc]/\jT.iv (.ref D) (.ref Y.length)/\jT.s={q'.s with heap:=h'}:=by
 obtain⟨ob,m₂,kb⟩:=e.lG;have pl:=fQ kb.ns;have ex:=e.st.ext.drop e.fresh;exact oG (q.to q'.tk (q'.fr.change hs (q'.news _ kb.mem).2.1 (q'.news _ kb.mem).2.2) (sh q'.news λz o' e' k=>(hs.2 z e').trans k) (q'.rep.drop kb.mem kb.off pl.1 pl.2) ex e.st.turn) ⟨ex,e.st.turn⟩ e.sto (e.val.drop q'.rep.ndZ kb.mem pl.1 pl.2) rfl
noncomputable def St.block (q:St f){h':Heap}{ob:Obj}(tk:Nat)(hs:Heap.SameBut q.h.objs.size (q.h.push {cls:=.type "dict",data:=.dict #[]}) h')(ho:h'.get? q.h.objs.size=some ob):St f:=
 have N':=q.news.push q.fr {cls:=.type "dict",data:=.dict #[]} rfl
 q.to tk ((q.fr.push _).change hs (N' _ (.head _)).2.1 (N' _ (.head _)).2.2) (λp hp=>(aX.mp hp).elim (λe=>by rw[e];exact⟨ho,(N' _ (.head _)).2⟩) λe=>⟨(hs.2 p.1 λe'=>q.cW (e'▸cD e)).trans (N' p (.tail _ e)).1,(N' p (.tail _ e)).2⟩) (q.rep.hide q.cW) (.hide q.cW q.rep) .refl
noncomputable def St.into (q:St f)(hi:d9 f.t.ns sc=true)(C:Addr):St (f.lG sc C):=
 {b:=q.b,h:=q.h,ρ:=q.ρ,Z:=q.Z,Y:=q.Y,tk:=q.tk,ok:=q.ok.lG hi,below:=q.below,dicts:=q.dicts,fr:=q.fr,news:=q.news,rep:=q.rep,lo:=q.lo.lG hi q.ok}
def Vk (f:Fz)(E:dz)(use:Option (Value->Sem Unit))(Q:dz)(B D:Addr)(s:Shared):Prop:=match use with
 |none=>∀t7,Heap.SameBut B s.heap t7->Q (.ref D) {s with heap:=t7}
 |some u=>wpAny Mo f.A (u (.ref D)) (λM rN=>∃m,rN.heap.Ns B m/\∀t7,Heap.SameBut B rN.heap t7->Q .none {rN with heap:=t7}) E s
def Jm (r:Res (aH))(Qk:List V->af->Prop)(X:Nat->af->Prop):Prop:=match r with
 | .ok a Y=>Qk a Y
 | .exc C Y=>X C Y
 | .stuck=>False
theorem Jm.bind {r:Res V}{k:V->af->Res (aH)}{Qk:List V->af->Prop}{Q':dz}(x:Jm (r.bind k) Qk (q.Fl [] E))(kk:∀{v u} (am:St f),nA [] q am->am.iv u v->Jm (k v am.Y) Qk (q.Fl [] E)->Q' u am.s):aF bH q r Q' E:=by
 cases r with
 |ok v Y'=>exact λu am a e i=>kk am a i (e▸x)
 |exc C Y'=>exact x
 |stuck=>exact x
abbrev A4 (O:av)(fn:Loc->List V->af->Res (aH))(fr:List (Option Nat))(ts:List Nat)(it:X)(N:Loc)(Y:af):Res (aH):=(aV O it N Y).bind λsrc Y=>fL (cI Y src) λall=>dr (jY ts fn (eJ fr N)) src all all [] Y
variable {iter target:Expr} {ifs:List Expr}
theorem xA {rest:List Comprehension}{Rf:Addr->Rest}{use:Option (Value->Sem Unit)}{Q:dz}
  (hi:d9 f.t.ns sc=true) (ht:f0 sc.names target=some ts) (hs:∀env x,foldedSetIterable iter env x=pure x) (hT:∀f aaM D,mY f (.ListComp elt (⟨target,iter,ifs,0⟩::rest) sc pos) 0 (.ref aaM) (.ref D) target (Rf D f)) (hF:∀D f N,Rf D (f.to f.m N)=Rf D f)
  (hR:∀B D,B≠D->Gv (f.t.in sc) B D (Rf D) fn) (hx:cx f.t iter xi)
  (P:Jm (A4 f.t.O fn (di f.t.ns sc.names) ts xi f.N q.Y) (λacc Y'=>∀(q':St f) B D,Jl q acc Y' B D q'->Vk f E use Q B D q'.s) (q.Fl [] E)):
  wpAny Mo f.A (comprehension (.ListComp elt (⟨target,iter,ifs,0⟩::rest) sc pos) sc f.env (firstIterPos (⟨target,iter,ifs,0⟩::rest) pos) (newList []) false (eval iter f.env) use) Q E q.s:=by
 refine yp (fV hi) λk1 k2 k3 k4=>?_;refine rn rfl (λx=>hs f.env x) (vl (iX hi q.ok)) k1 (λx hx hl=>bB k2 (by rw[<-hl];exact hx)) ?_;refine hx f q _ E rfl (P.bind λ{v u} am bM bZ aP=>?_);cases e:cI am.Y v with
 |none=>rw[e] at aP;exact aP.elim
 |some all=>
  rw[e] at aP;refine qA bZ e λkd o hk nW=>wpAny_newList ?_;let bz:=am.hide o hk.mW am.tk;let eB:=bz.hide (listOf ([]:List Value).toArray 0) rfl am.tk;refine wpAny_newFunctionEnv k3 (λM hy=>nomatch hy) (λom Cg XD=>?_) k1;refine aJ (LCg.ns_obj Cg) λob ho zX=>?_;let AX:=eB.block (am.tk+0) XD ho;have Za:nA [] bz eB:=bz.hidden (listOf ([]:List Value).toArray 0) rfl am.tk;have Zb:nA [] eB AX:=⟨.hide eB.cW eB.rep,.refl⟩;have d:=((am.hidden o hk.mW am.tk:nA [] am bz).trans rfl Za).trans rfl Zb;have zI:=am.cW;have zD:=bz.cW;have zB:=eB.cW;have hbD:=bz.yK;have hBI:eB.h.objs.size≠am.h.objs.size:=λe=>zB (by rw[e];exact .tail _ (.head _));have hBD:eB.h.objs.size≠bz.h.objs.size:=λe=>zB (by rw[e];exact .head _);have hDZ:bz.h.objs.size∉q.Z.map (·.1):=λe=>zD (.tail _ (bM.ext.adr _ e));have hBZ:eB.h.objs.size∉q.Z.map (·.1):=λe=>zB (.tail _ (.tail _ (bM.ext.adr _ e)));have Zc:Kp [eB.h.objs.size,bz.h.objs.size] q.bs (AX.into hi eB.h.objs.size):=⟨(bM.ext.trans d.ext).weaken (λM q=>nomatch q),bM.turn⟩;have dB:eO eB.h.objs.size bz.h.objs.size q.bs (f.lG sc eB.h.objs.size) (dr (jY ts fn (eJ (di f.t.ns sc.names) f.N)) v all all [] am.Y) (λs'=>ld f.A E use Q (.ref bz.h.objs.size) (y0 sc eB.h.objs.size f.env) (.ok .next) s') (mX f.toFx eB.h.objs.size bz.h.objs.size q.bs λe s'=>ld f.A E use Q (.ref bz.h.objs.size) (y0 sc eB.h.objs.size f.env) (.error e) s'):=by
   have aP:Jm (dr (jY ts fn (eJ (di f.t.ns sc.names) f.N)) v all all [] am.Y) (λacc Y'=>∀(q':St f) B D,Jl q acc Y' B D q'->Vk f E use Q B D q'.s) (q.Fl [] E):=aP;revert aP;cases dr (jY ts fn (eJ (di f.t.ns sc.names) f.N)) v all all [] am.Y with
   |stuck=>exact λP=>P
   |ok acc Y'=>
    intro aP q' a e J;rw[<-e] at aP;refine aJ (Bl.adopt (f:=f) (f':=f.lG sc eB.h.objs.size) rfl rfl J a hBD hBZ hDZ bz.r0 hbD) λjT en es=>?_;have:=aP jT _ _ en;rw[es] at this;cases use with
    |none=>
     obtain⟨ob',m₂,kb⟩:=J.lG;exact bF m₂ (kb.ns.ns (q'.news _ kb.mem).1) this
    |some u=>exact this
   |exc C Y'=>
    intro aP m gg e bU Z' h' fb b F X U Rp Ex T J;obtain⟨ob',m₂,kb⟩:=J;refine Ml X λB' a0 hB HE hl To M=>?_;have pl:=fQ kb.ns;have er:ld f.A E use Q (.ref bz.h.objs.size) (y0 sc eB.h.objs.size f.env) (.error (.ref e)) {f.gY with heap:=h',toks:=fb}=∃m,h'.Ns eB.h.objs.size m/\∀t7,Heap.SameBut eB.h.objs.size h' t7->wpAny Mo f.A (PySem.passOn "comprehension.variables-let-go" (.ref e) (y0 sc eB.h.objs.size f.env):Sem Value) (λM M=>False) E {f.gY with heap:=t7,toks:=fb}:=by cases use<;>rfl
    show ld f.A E use Q (.ref bz.h.objs.size) (y0 sc eB.h.objs.size f.env) (.error (.ref e)) {f.gY with heap:=h',toks:=fb};rw[er];refine bF m₂ (kb.ns.ns (To _ _ (hl _ kb.mem).1:h'.get? eB.h.objs.size=some ob')) (λt7 hs=>AD q.ok.eframe (Gu X kb.mem hs) (λz oz hz SN=>?_) λvp X' U'=>?_)
    ·refine aN (U z oz hz SN) λsl qz=>?_;exact⟨sl,(hs.2 z λe'=>by rw[e',((hl _ kb.mem).2.1:gg.get? eB.h.objs.size=none)] at hz;exact fP hz).trans qz⟩
    ·exact aP m gg e bU (o6 Z' eB.h.objs.size) vp fb F (.inr (.inl X')) U' (Rp.drop kb.mem kb.off pl.1 pl.2) ((Ex.fresh (xz hBZ hDZ)).drop hBZ) T
  have loop:=tg (f:=f.lG sc eB.h.objs.size) (q:=AX.into hi eB.h.objs.size) (R':=ld f.A E use Q (.ref bz.h.objs.size) (y0 sc eB.h.objs.size f.env)) (hT:=hT (f.lG sc eB.h.objs.size) am.h.objs.size bz.h.objs.size) (hF:=λN=>hF _ (f.lG sc eB.h.objs.size) N) (ht:=ht) (hR:=hR eB.h.objs.size bz.h.objs.size hBD) rfl hBD k2 (gz hBI) (gz (λe=>zD (by rw[e];exact .head _):bz.h.objs.size≠am.h.objs.size)) (λe=>zI (bM.ext.adr _ e)) q.below Zc
   (⟨⟨ob,_,.head _,am.rep.mU λe=>zB (.tail _ (.tail _ e)),zX⟩,⟨_,_,.tail _ (.head _),am.rep.mU λe=>zD (.tail _ e),.nil⟩⟩:Bl eB.h.objs.size bz.h.objs.size [] (AX.into hi eB.h.objs.size)) (.tail _ (.tail _ (.head _))) (am.rep.mU zI) hk (nW.mono λv x i=>d.xj i) e dB
  exact codeAny_compStart_list loop (vn (AX.news _ (.tail _ (.tail _ (.head _)))).1 hk loop)
theorem Jn {α β γ:Type}(o:Option α)(k:α->Res β)(g:β->af->Res γ):(fL o k).bind g=fL o λa=>(k a).bind g:=by cases o<;>rfl
theorem A5 {O:av}{fr:List (Option Nat)}{it:X}{N:Loc}{Y:af}:((aV O it N Y).bind λsrc Y=>fL (cI Y src) λall=>(dr (jY ts fn (eJ fr N)) src all all [] Y).bind λvs Y=>alloc Y (.list vs))=(A4 O fn fr ts it N Y).bind λvs Y=>alloc Y (.list vs):=
 (bJ (Res.bind (aV O it N Y)) (funext λM=>funext λM=>(Jn _ _ _).symm)).trans (Res.bind_assoc _ _ _).symm
abbrev Q8 (O:av)(cd:List X)(elt:X)(N:Loc)(acc:aH)(Y:af):Res (aH):=(jK O cd N Y).bind λb Y=>cond b ((aV O elt N Y).bind λv Y=>ma v acc Y) (.ok acc Y)
abbrev Q9 (O:av)(qP:List Nat)(qQ elt:X)(N:Loc)(acc:aH)(Y:af):Res (aH):=(aV O qQ N Y).bind λwk Y=>fL (cI Y wk) λall2=>dr (jY qP (λN acc Y=>(aV O elt N Y).bind λv Y=>ma v acc Y) N) wk all2 all2 acc Y
structure xB (t:Lv)(elt iter target:Expr)(ifs:List Expr)(rest:List Comprehension)(sc:Scope)(pos:Pos)(ts:List Nat)(xi xx:X)(Rf:Addr->Rest)(fn:Loc->List V->af->Res (aH)):Prop where
 hi:d9 t.ns sc=true
 ht:f0 sc.names target=some ts
 hs:∀env x,foldedSetIterable iter env x=pure x
 hT:∀f aaM D,mY f (.ListComp elt (⟨target,iter,ifs,0⟩::rest) sc pos) 0 (.ref aaM) (.ref D) target (Rf D f)
 hF:∀D f N,Rf D (f.to f.m N)=Rf D f
 hR:∀B D,B≠D->Gv (t.in sc) B D (Rf D) fn
 hx:cx t iter xi
 he:∀N Y,aV t.O xx N Y=(A4 t.O fn (di t.ns sc.names) ts xi N Y).bind λvs Y=>alloc Y (.list vs)
theorem xB.snd {rest:List Comprehension}{xx:X}{Rf:Addr->Rest}(H:xB t elt iter target ifs rest sc pos ts xi xx Rf fn):cx t (.ListComp elt (⟨target,iter,ifs,0⟩::rest) sc pos) xx:=λf q Q E e0 P=>by
 subst e0;rw[eval_ListComp];refine xA H.hi H.ht H.hs H.hT H.hF H.hR H.hx ?_;rw[H.he] at P;generalize A4 f.t.O fn (di f.t.ns sc.names) ts xi f.N q.Y=r at P;cases r with
 |ok acc Y'=>
  intro q' B D en t7 hs;refine uH (en.done hs) λjT a e i es=>?_;have:=P (.ref D) jT a e i;rw[es] at this;exact this
 |exc C Y'=>exact P
 |stuck=>exact P
theorem Ra {xc:List X}(hi:d9 t.ns sc=true)(ht:f0 sc.names target=some ts)(hs:∀l k p,iter≠.Set l k p)(hx:cx t iter xi)(hc:dC (t.in sc) ifs xc)(he:cx (t.in sc) elt xe):
  xB t elt iter target ifs [] sc pos ts xi (.comp (di t.ns sc.names) ts xi xc xe) (λD f=>Jf f ifs elt (.ref D)) (Q8 t.O xc xe):=⟨hi,ht,mh hs,λM M M=>Vi,λM M M=>rfl,λM M dZ=>Jj dZ hc he,hx,λM M=>A5⟩
theorem Rb {kP zS:Expr}{qP:List Nat}{xi2:X}(hi:d9 t.ns sc=true)(ht:f0 sc.names target=some ts)(Ts:f0 sc.names zS=some qP)(hs:∀l k p,iter≠.Set l k p)(hs2:∀l k p,kP≠.Set l k p)(hx:cx t iter xi)(hx2:cx (t.in sc) kP xi2)(he:cx (t.in sc) elt xe):
  xB t elt iter target [] [⟨zS,kP,[],0⟩] sc pos ts xi (.comp2 (di t.ns sc.names) ts xi qP xi2 xe) (λD f=>Jg f kP (.ListComp elt [⟨target,iter,[],0⟩,⟨zS,kP,[],0⟩] sc pos) (.ref D)) (Q9 t.O qP xi2 xe):=
 ⟨hi,ht,mh hs,λM M M=>Vj (mh hs2),λM M M=>rfl,λM M dZ=>Jk dZ (fV hi).2.1 Ts hx2 he,hx,λM M=>A5⟩
end
noncomputable abbrev kG (env:Env):List Addr:=env.cells.map (·.2)
def Cells (env:Env)(ρ:List Addr)(Z:Led):Prop:=∀a∈kG env,∃o v,(a,o)∈Z/\a∉ρ/\o.data=.cell v
structure A6 (f:Fz):Prop where
 locals:f.env.locals=f.L
 cellk:∀x,(x,NameKind.cell)∈f.t.ns->f.env.kindOf x=some .cell
 nodup:(f.t.ns.map (·.1)).Nodup
 cnd:(kG f.env).Nodup
theorem A6.to {f:Fz}{m:lW}{l:Loc}(h:A6 f):A6 (f.to m l):=⟨h.locals,h.cellk,h.nodup,h.cnd⟩
structure Df {f:Fz}(q:St f):Prop where
 fn:A6 f
 cells:Cells f.env q.ρ q.Z
abbrev Kc {f:Fz}(g:Bs)(q:St f):Prop:=Kp (kG f.env) g q
noncomputable def Dc (ρ:List Addr)(Z:Led):Option V->Flow->Prop
 |none,fl=>fl=.next
 |some v,fl=>∃u,fl=.ret u/\bH ρ Z u v
def gC (g:Bs)(f:Fz)(r:Res Loc)(Q:Shared->Prop)(E:dz):Prop:=match r with
 | .ok loc' Y'=>∀m' (q':St (f.to m' loc')),Kc g q'->q'.Y=Y'->Df q'->Q q'.s
 | .exc C Y'=>jw f.toFx (kG f.env) g.ρ g.Z g.b E C Y'
 | .stuck=>False
def bE (g:Bs)(f:Fz)(r:Res fA)(Q:ys)(E:dz):Prop:=match r with
 | .ok SW Y'=>∀m' fl (q':St (f.to m' SW.2)),Kc g q'->q'.Y=Y'->Df q'->Dc q'.ρ q'.Z SW.1 fl->Q fl q'.s
 | .exc C Y'=>jw f.toFx (kG f.env) g.ρ g.Z g.b E C Y'
 | .stuck=>False
def th (t:Lv)(e:Expr)(x:T):Prop:=∀(f:Fz) (q:St f) (u:Value) (v:V) (Q:Shared->Prop) (E:dz),f.t=t->Df q->q.iv u v->gC q.bs f (ue t.O x v f.N q.Y) Q E->wpAny Mo f.A (assign e f.env u) (λM s'=>Q s') E q.s
def gD (t:Lv)(W:Nat)(st:Stmt)(x:S):Prop:=∀(f:Fz) (q:St f) (Q:ys) (E:dz),f.t=t->Df q->bE q.bs f (oy t.O W x f.N q.Y) Q E->wpAny Mo f.A (exec st f.env) Q E q.s
def n7 (t:Lv)(W:Nat)(st:List Stmt)(x:List S):Prop:=∀(f:Fz) (q:St f) (Q:ys) (E:dz),f.t=t->Df q->bE q.bs f (b9 t.O W x f.N q.Y) Q E->wpAny Mo f.A (execs st f.env) Q E q.s
section
variable {g:Bs} {f f':Fz} {q:St f} {am:St f'} {env:Env} {ρ bU:List Addr} {Z Z':Led} {E:dz} {t:Lv} {u:Value} {v:V} {m':lW} {loc':Loc}
theorem Cells.ext (h:Cells env ρ Z)(e:Ext [] ρ Z bU Z'):Cells env bU Z':=λz hz=>by
 exact de (h z hz) λo v h1 h2 h3=>fc o v (e.keep _ h1 h2 dq (lJ h3).2.2.1) (e.old (cD h1) h2) h3
theorem Cells.plain (hn:(Z.map (·.1)).Nodup)(h:Cells env ρ Z):oU (kG env) Z:=by
 rintro ⟨pa,po⟩ hp hc;refine de (h pa hc) λo v h1 M h3=>?_;have e:=g8 hn hp h1;exact e▸⟨(lJ h3).1,(lJ h3).2.1⟩
theorem Df.step {am:St f}(D:Df q)(a:nA [] q am):Df am:=⟨D.fn,D.cells.ext a.ext⟩
theorem Kp.weak {cs:List Addr}(d:Kp [] g am):Kp cs g am:=⟨d.ext.weaken (λM q=>nomatch q),d.turn⟩
theorem Df.pJ {us:List Value}{vs:aH}(D:Df q)(a:nA (kG f.env) q am)(i:q.pJ us vs):am.pJ us vs:=i.ext a.ext (D.cells.plain q.rep.ndZ) am.rep.apart
theorem gC.shift {r:Res Loc}{Q:Shared->Prop}(a:Kc g q)(x:gC g f r Q E):gC q.bs f r Q E:=by
 cases r with
 |ok loc' Y'=>exact λm' q' d e D=>x m' q' (Kp.trans (cs:=kG f.env) (q':=q) rfl a d) e D
 |exc C Y'=>exact jw.on x a.ext a.turn
 |stuck=>exact x
theorem bE.shift {r:Res fA}{Q:ys}(a:Kc g q)(x:bE g f r Q E):bE q.bs f r Q E:=by
 cases r with
 |ok fl Y'=>exact λm' fl q' d e D i=>x m' fl q' (Kp.trans (cs:=kG f.env) (q':=q) rfl a d) e D i
 |exc C Y'=>exact jw.on x a.ext a.turn
 |stuck=>exact x
theorem gC.bind {γ δ:Type}{R:Rl δ γ}{r:Res γ}{k:γ->af->Res Loc}{Q:Shared->Prop}{Q':δ->Shared->Prop}(D:Df q)(x:gC q.bs f (r.bind k) Q E)(kk:∀{v u} (am:St f),nA [] q am->Df am->R am.ρ am.Z u v->gC am.bs f (k v am.Y) Q E->Q' u am.s):aF R q r Q' E:=by
 cases r with
 |ok v Y'=>exact λu am d e i=>kk am d (D.step d) i<|e▸gC.shift d.weak x
 |exc C Y'=>exact jw.less x
 |stuck=>exact x
theorem bE.bind {γ δ:Type}{R:Rl δ γ}{r:Res γ}{k:γ->af->Res fA}{Q:ys}{Q':δ->Shared->Prop}(D:Df q)(x:bE q.bs f (r.bind k) Q E)(kk:∀{v u} (am:St f),nA [] q am->Df am->R am.ρ am.Z u v->bE am.bs f (k v am.Y) Q E->Q' u am.s):aF R q r Q' E:=by
 cases r with
 |ok v Y'=>exact λu am d e i=>kk am d (D.step d) i<|e▸bE.shift d.weak x
 |exc C Y'=>exact jw.less x
 |stuck=>exact x
theorem bE.xC {r:Res Loc}{k:Loc->af->Res fA}{Q:ys}{Q':Shared->Prop}(x:bE g f (r.bind k) Q E)(kk:∀{m' loc'} (am:St (f.to m' loc')),Kc g am->Df am->bE g f (k loc' am.Y) Q E->Q' am.s):gC g f r Q' E:=by
 cases r with
 |ok loc' Y'=>exact λm' am d e D=>kk am d D (e▸x)
 |exc C Y'=>exact x
 |stuck=>exact x
theorem gC.xC {r:Res Loc}{k:Loc->af->Res Loc}{Q Q':Shared->Prop}(x:gC g f (r.bind k) Q E)(kk:∀{m' loc'} (am:St (f.to m' loc')),Kc g am->Df am->gC g f (k loc' am.Y) Q E->Q' am.s):gC g f r Q' E:=by
 cases r with
 |ok loc' Y'=>exact λm' am d e D=>kk am d D (e▸x)
 |exc C Y'=>exact x
 |stuck=>exact x
theorem bE.Pr {r:Res fA}{k:fA->af->Res fA}{Q Q':ys}(x:bE g f (r.bind k) Q E)(kk:∀{m' rv loc' fl} (am:St (f.to m' loc')),Kc g am->Df am->Dc am.ρ am.Z rv fl->bE g f (k (rv,loc') am.Y) Q E->Q' fl am.s):bE g f r Q' E:=by
 cases r with
 |ok SW Y'=>exact λm' fl am d e D i=>kk am d D i (e▸x)
 |exc C Y'=>exact x
 |stuck=>exact x
theorem bE.re {r:Res fA}{k:fA->af->Res fA}{Q Q':ys}(a:Kc g q)(x:bE g f (r.bind k) Q E)(kk:∀{m' rv loc' fl} (am:St (f.to m' loc')),nA (kG f.env) q am->Kc g am->Df am->Dc am.ρ am.Z rv fl->bE g f (k (rv,loc') am.Y) Q E->Q' fl am.s):bE q.bs f r Q' E:=by
 cases r with
 |ok SW Y'=>exact λm' fl am d e D i=>kk am d (Kp.trans (cs:=kG f.env) (q':=q) rfl a d) D i (e▸x)
 |exc C Y'=>exact jw.on x a.ext a.turn
 |stuck=>exact x
theorem bE.mono {r:Res fA}{Q Q':ys}{E E':dz}(x:bE g f r Q E)(hq:∀f s,Q f s->Q' f s)(he:∀C Y,jw f.toFx (kG f.env) g.ρ g.Z g.b E C Y->jw f.toFx (kG f.env) g.ρ g.Z g.b E' C Y):bE g f r Q' E':=by
 cases r with
 |ok SW Y'=>exact λm' fl q' a e D i=>hq _ _<|x m' fl q' a e D i
 |exc C Y'=>exact he _ _ x
 |stuck=>exact x
theorem bE.on {r:Res fA}{Q:ys}(x:bE g f r Q E):bE g (f.to m' loc') r Q E:=x
theorem mi {l:wn}{x:Str}{a:Addr}(h:l.lookup x=some a):(x,a)∈l:=by
 induction l with
 |nil=>exact fP h
 |cons p r ih=>
  obtain⟨y,z⟩:=p;rw[lu] at h;cases e:x==y with
  |true=>rw[e] at h;rw[eq_of_beq e,<-(aU h:z=a)];exact .head _
  |false=>rw[e] at h;exact .tail _<|ih h
theorem GA {x y:Str}{a:Addr}(hn:(kG env).Nodup)(h1:env.cells.lookup x=some a)(h2:env.cells.lookup y=some a):x=y:=by
 refine aN (jA<|mi h1) λi hi=>aN (jA<|mi h2) λj hj=>?_;have e1:(kG env)[i]?=some a:=by rw[gd,hi];rfl
 have e2:(kG env)[j]?=some a:=by rw[gd,hj];rfl
 have:=(uF (bP.mp e1).1 hn).mp<|e1.trans e2.symm
 rw[this,hj] at hi;exact bJ Prod.fst (aU hi).symm
theorem qB {i:Nat}{nm:Str}{k:NameKind}{Q:Ac}(hi:f.t.ns[i]?=some (nm,k))(hk:k=.local∨k=.cell)(D:Df q)(iu:q.iv u v)(hQ:∀m' (q':St (f.to m'<|f.N.set i<|some v)),nA (kG f.env) q q'->q'.Y=q.Y->Df q'->Q () q'.s):wpAny Mo f.A (bindName f.env nm u) Q E q.s:=by
 have t8:=f8 hi;rcases hk with rfl | rfl
 ·have Me:=q.ok.local' nm t8;refine wpAny_bindName<|wpAny_storeName_local Me (D.fn.locals▸q.fr.ns) (λh' Cg hs=>?_) (by rw[q.ok.kind];rfl)
  rw[D.fn.locals] at Cg hs;have N':News q.b f.L h' q.Z:=λp hp=>⟨(hs.2 p.1 (q.news p hp).2.1).trans (q.news p hp).1,(q.news p hp).2⟩;have L':=gB.set (m':=λy=>if y=nm then some u else f.m y) D.fn.nodup hi q.lo iu (λM M i=>i) (.here Me D.fn.locals<|if_pos rfl) λx u' dZ lk=>by
   cases lk with
   |here a b c=>exact .here a b<|(if_neg dZ).trans c
   |lG o m₂ a b c d e=>exact .lG o m₂ a b c d e
   |cell z o a b c d e=>exact .cell z o a b c d e
  exact hQ _ (q.set _ (q.fr.set Cg hs) N' q.rep L') ⟨.refl,.refl⟩ rfl ⟨D.fn.to,D.cells⟩
 ·have Me:=D.fn.cellk nm t8;refine Cx (q.ok.cell nm .cell t8<|.inl rfl) λ_ ca LU=>?_;have Cs:=cD (f:=λp:Str × Addr=>p.2)<|mi LU
  refine de (D.cells ca Cs) λo aaC c1 c2 c3=>wpAny_bindName<|wpAny_storeName_cell q.ok.kind Me LU ⟨o,(q.news _ c1).1,c3⟩ λh' hv hs=>?_
  refine aJ hv λo' Ee zY=>?_;have pl:=lJ c3;have kk:∀v x,q.iv v x->bH q.ρ (gN q.Z ca o') v x:=λv x i=>i.ext Ext.swap (gO q.rep.ndZ c1 pl.1 pl.2) q.rep.apart;have L':=gB.set D.fn.nodup hi q.lo (kk _ _ iu) kk (.cell ca o' (.inl Me) LU (gP c1) c2 zY) λx u' dZ lk=>by
   cases lk with
   |here a b c=>exact .here a b c
   |lG _ _ _ g1 _ _ _=>exact absurd D.fn.locals (q.news _ g1).2.1
   |cell a lF mM g1 g2 g3 g4=>exact .cell a lF mM g1 (iK _ _ g2 λe=>dZ<|GA D.fn.cnd g1 (e▸LU)) g3 g4
  have F':=q.fr.change hs (q.news _ c1).2.1 (q.news _ c1).2.2;have N':=kh q.news c1 Ee hs;have R':=q.rep.swap (o':=o') c1 c2 pl.1 pl.2;refine hQ _ (q.set _ F' N' R' L') ⟨Ext.swap.weaken λM q=>cM.mp q▸Cs,.refl⟩ rfl ⟨D.fn.to,λz hz=>?_⟩;refine de (D.cells z hz) λoz vz z1 z2 z3=>?_;by_cases e:z=ca
  ·rw[e];exact fc o' _ (gP c1) c2 zY
  ·exact fc oz vz (iK _ _ z1 e) z2 z3
end
section
inductive jN (t:Lv):List Expr->List T->Prop
 |nil:jN t [] []
 |cons {e:Expr} {r:List Expr} {x:T} {xs:List T}:(∀env,assignEach (e::r) env=(false,assign e env)::assignEach r env)->(∀id p,e=.Name id p->∃i,x=.l i/\qd t.ns id=some i)->th t e x->jN t r xs->jN t (e::r) (x::xs)
variable {f:Fz} {q:St f} {E:dz} {t:Lv} {u:Value} {v:V} {p:Pos} {e cC:Expr} {xe xi:X} {nm:Str} {l:List Expr} {ts:List T}
theorem vq {ns:Ns}{x:Str}{i:Nat}(h:qd ns x=some i):∃k,ns[i]?=some (x,k)/\(k=.local∨k=.cell):=by
 exact cR (CR h) λh1 h2=>Cx (nB h1) λ_ k hk=>bF k hk<|(MN h2).imp (mV hk)<|mV hk
theorem vr {i:Nat}(hi:qd t.ns nm=some i):th t (.Name nm p) (.l i):=λf q u v Q E e0 D iu P=>by
 subst e0;refine aJ (vq hi) λk hk mM=>?_;rw[arm_assign_Name];exact aw<|gy<|qB hk mM D iu λm' q' a e D'=>P m' q' a e D'
theorem gC.done {Q:Shared->Prop}(D:Df q)(P:gC q.bs f (.ok f.N q.Y) Q E)(am:St f)(a:nA [] q am)(e:am.Y=q.Y):Q am.s:=P f.m am a.weak e<|D.step a
theorem gC.unit {r:Res Unit}{Q:Shared->Prop}{Q':Ac}(D:Df q)(P:gC q.bs f (r.bind λM Y=>.ok f.N Y) Q E)(h:∀s,Q s->Q' () s):aF Xs q r Q' E:=P.bind D λM M fN M aP=>h _<|aP.done fN _ .refl rfl
theorem Dd (hT:uj)(he:cx t e xe):th t (.Attribute e nm p) (.attr xe nm):=λf q u v Q E e0 D iu P=>by
 rw[arm_assign_Attribute];refine aw<|dJ<|he f q _ E e0<|P.bind D λ{oj ov} am bM fN bZ aP=>aw<|gy<|aw<|dJ ?_
 by_cases hm:dh am.Y oj nm=true
 ·rw[if_pos hm] at aP;refine j8 (vi hT hm) λaaM e1 hC hl=>?_;cases e2:jl am.Y oj nm v with
  |none=>rw[e2] at aP;exact aP.elim
  |some ay=>
   rw[e2] at aP;exact F9 hC hl e1 bZ (bM.xj iu) e2<|gC.unit fN aP λM h=>wpAny_release h
 ·rw[if_neg hm] at aP;exact aP.elim
theorem GB (he:cx t e xe)(hi:cx t cC xi):th t (.Subscript e cC p) (.sub xe xi):=λf q u v Q E e0 D iu P=>by
 rw[arm_assign_Subscript];refine aw<|dJ<|he f q _ E e0<|P.bind D λ{oj ov} am bM fN bZ aP=>aw<|dJ<|hi f am _ E e0<|aP.bind fN λ{wL iv} bz bN vt iW dB=>aw<|gy<|aw<|dJ ?_
 cases e2:jm bz.Y oj wL v with
 |none=>rw[e2] at dB;exact dB.elim
 |some bD=>
  rw[e2] at dB;exact Ga (bN.xj bZ) iW (bN.xj<|bM.xj iu) e2<|gC.unit vt dB λM h=>wpAny_release h
theorem Rc (ht:jN t l ts):∀(f:Fz) (q:St f) (us:List Value) (vs:aH) (Q:Shared->Prop) (E:dz),f.t=t->Df q->q.pJ us vs->gC q.bs f (rX t.O ts vs f.N q.Y) Q E->wpAny Mo f.A (assignInOrder ((assignEach l f.env).map (·.2)) us) (λM s'=>Q s') E q.s:=by
 induction ht with
 |nil=>
  intro f q us vs Q E e0 D iu P;cases vs with
  |nil=>rw[iu.kg];exact aW<|gC.done D P q .refl rfl
  |cons _ _=>exact P.elim
 |@cons e r x xs he _ hx hr ih=>
  intro f q us vs Q E e0 D iu P;cases vs with
  |nil=>exact P.elim
  |cons v vs=>
   refine iu.eF λi is=>?_;rw[he];exact aw<|dJ<|hx f q _ _ _ E e0 D i<|P.xC λ{m' loc'} am bM fN aP=>ih (f.to m' loc') am _ _ Q E e0 fN (D.pJ bM is)<|gC.shift bM aP
theorem jN.len (ht:jN t l ts):ts.length=l.length:=by
 induction ht with
 |nil=>rfl
 |cons _ _ _ _ ih=>exact bJ (· +1) ih
theorem jN.noStar {env:Env}(ht:jN t l ts):(assignEach l env).findIdx? (·.1)=none:=by
 induction ht with
 |nil=>rfl
 |cons he _ _ _ ih=>rw[he,List.findIdx?_cons,ih];rfl
theorem xD {k:Nat}(ht:jN t l ts):th t (.Tuple l k p) (.U ts):=λf q u v Q E e0 D iu P=>by
 have P:gC q.bs f (fL (kC q.Y v) λkl=>if kl.2.length=ts.length then rX t.O ts kl.2 f.N q.Y else .stuck) Q E:=P;cases e:kC q.Y v with
 |none=>rw[e] at P;exact P.elim
 |some kl=>
  rw[e] at P;have P:gC q.bs f (if kl.2.length=ts.length then rX t.O ts kl.2 f.N q.Y else .stuck) Q E:=P;by_cases hl:kl.2.length=ts.length
  ·rw[if_pos hl] at P;rw[arm_assign_Tuple];refine aw<|gy ?_
   unfold unpack;rw[ht.noStar,o0,show l.length=kl.2.length by rw[hl,ht.len]];exact aw<|dJ<|vj iu e λus bA hk WV M=>Rc ht f (q.grow hk q.tk) us kl.2 Q E e0 (D.step ⟨.refl,.refl⟩) WV P
  ·rw[if_neg hl] at P;exact P.elim
end
section
variable {g:Bs} {f:Fz} {q:St f} {E:dz} {t:Lv} {W:Nat} {u:Value} {v:V} {p pos:Pos} {e:Expr} {xe:X} {l:List Expr} {sl dW kU:List Stmt} {xl jM ki:List S} {s:Shared} {A:Around} {env:Env}
theorem A7 {e:Expr}(h1:∀a b c p,e≠.ListComp a b c p)(h2:∀a b c p,e≠.SetComp a b c p)(h3:∀a b c d p,e≠.DictComp a b c d p)(t:Option Expr)(l:Nat)(env:Env):swapsWith e t l env=pure false:=by
 cases e with
 |ListComp=>exact absurd rfl<|h1 _ _ _ _
 |SetComp=>exact absurd rfl<|h2 _ _ _ _
 |DictComp=>exact absurd rfl<|h3 _ _ _ _ _
 |_=>rfl
variable {Q:ys}
theorem nH {t value:Expr}(h:wpAny Mo A (eval value env) (λv dW=>wpAny Mo A (assign t env v) (λM=>Q .next) E dW) E s)(ht:assignEach [t] env=[(false,assign t env)])
  (hs:swapsWith value (some t) pos.line env=pure false) (hw:swappedStores [t] value env=pure none):wpAny Mo A (exec (.Assign [t] value pos) env) Q E s:=by
 rw[exec_Assign];refine aw<|gy ?_
 rw[show swapsWithSole [t] value pos.line env=pure false from hs];refine aw<|aW ?_
 rw[if_neg<|by lk];refine aw<|cE h (λv dW bA=>?_) λM M x=>x
 rw[hw];refine aw<|aW ?_
 rw[ht];exact aw<|cE bA (λM M x=>aW x) λM M x=>x
theorem Jo (hs:∀t l env,swapsWith e t l env=pure false)(he:cx t e xe):gD t W (.Expr e pos) (.ex xe):=λf q Q E e0 D P=>by
 rw[exec_Expr f.env e pos (by unfold interactive;rw[q.ok.kind];rfl)<|hs _ _ _];refine aw<|gy<|aw<|he f q _ E e0<|P.bind D λ{v u} am bM fN bZ aP=>?_
 cases v with
 |none=>
  rw[bZ.xg,dropValue_plain λM e=>Value.noConfusion e];exact aW<|aP f.m .next am .refl rfl fN rfl
 |_=>exact aP.elim
theorem bE.next {m':lW}{loc':Loc}{am:St (f.to m' loc')}(P:bE g f (.ok (none,loc') am.Y) Q E)(a:Kc g am)(D:Df am):Q .next am.s:=P m' .next am a rfl D rfl
theorem bE.ret {m':lW}{loc':Loc}{am:St (f.to m' loc')}(P:bE g f (.ok (some v,loc') am.Y) Q E)(a:Kc g am)(D:Df am)(i:am.iv u v):Q (.ret u) am.s:=P m' (.ret u) am a rfl D ⟨u,rfl,i⟩
theorem qC {d:Expr}{xt:T}(hst:∀env,assignEach [d] env=[(false,assign d env)])(hs:∀l env,swapsWith e (some d) l env=pure false)(hw:∀env,swappedStores [d] e env=pure none)(he:cx t e xe)(ht:th t d xt):gD t W (.Assign [d] e pos) (.set xt xe):=λf q Q E e0 D P=>
 nH (he f q _ E e0<|P.bind D λam bM fN bZ aP=>ht f am _ _ _ E e0 fN bZ<|aP.xC λbz bN vt dB=>dB.next bN vt) (hst f.env) (hs _ _) (hw _)
theorem De (he:cx t e xe):gD t W (.Return (some e) pos) (.ret xe):=λf q Q E e0 D P=>
 wpAny_Return_some (he f q _ E e0<|P.bind D λam bM fN bZ aP=>bE.ret aP .refl fN bZ)
theorem EG:n7 t W [] []:=λf q Q E e0 D P=>wpAny_execs_nil<|bE.next P .refl D
theorem A8 {st:Stmt}{x:S}(bA:gD t W st x)(eG:n7 t W sl xl):n7 t W (st::sl) (x::xl):=λf q Q E e0 D P=>by
 refine wpAny_execs_cons<|bA f q _ E e0 D<|bE.Pr P λ{m' rv loc' fl} am bM fN bZ aP=>?_
 cases rv with
 |none=>
  rw[show fl=.next from bZ];exact eG (f.to m' loc') am Q E e0 fN<|bE.shift bM aP
 |some v=>
  refine aJ bZ λu eA iu=>?_;subst eA;exact bE.ret aP bM fN iu
theorem bE.bindB {r:Res Bool}{k:Bool->af->Res fA}{Q':Bool->Shared->Prop}(D:Df q)(x:bE q.bs f (r.bind k) Q E)(kk:∀{v} (am:St f),nA [] q am->Df am->bE am.bs f (k v am.Y) Q E->Q' v am.s):aF Pi q r Q' E:=x.bind D λam a D i P=>i▸kk am a D P
theorem Rd (he:pX t e xe)(bA:n7 t W dW jM)(eG:n7 t W kU ki):gD t W (.If e dW kU pos) (.ite xe jM ki):=λf q Q E e0 D P=>by
 refine wpAny_If<|he f q _ E e0<|bE.bindB D P λ{v} am bM fN aP=>?_
 cases v with
 |true=>exact bA f am Q E e0 fN aP
 |false=>exact eG f am Q E e0 fN aP
theorem jw.Jp {cs ρ:List Addr}{Z:Led}{Iq:Heap}{C:Nat}{Y:af}(hB:∃A₀:Around,Below A₀ f.base f.outer Iq)(ok:Ok f.toFx f.t f.env)(x:jw f.toFx cs ρ Z Iq E C Y):jw f.toFx cs ρ Z Iq (notedBy Mo f.A f.env λe s'=>cameBackBy Mo f.A f.env E e s') C Y:=by
 intro m g e bU Z' h' fb b F X U Rp Ex T;refine aN hB λA₀ Bl=>?_;exact ny (lH Bl T) F ok.frame ok.fkind ok.frames ok.eframe X U λg' t7 F' R' U'=>
  qe ok.eframe R' U' λnE X' GC=>x m g' e bU Z' nE fb F' (.inr<|.inl X') GC Rp Ex T
inductive WhileI (f:Fz)(F:Nat->Loc->af->Res fA)(Q:ys)(E:dz)(k:Nat):Shared->Prop
 |mk {m:lW} {N:Loc} (q:St (f.to m N)) (D:Df q) (P:bE q.bs f (F k N q.Y) Q E):WhileI f F Q E k q.s
abbrev whF (O:av)(W:Nat)(xe:X)(xl:List S):Nat->Loc->af->Res fA:=jL (λN Y=>dg<|aV O xe N Y) λN Y=>b9 O W xl N Y
theorem GD (he:pX t e xe)(hl:n7 t W sl xl):gD t W (.While e sl [] pos) (.whl xe xl):=λf q Q E e0 D P=>by
 subst e0;have P:=P;have P:=bE.mono P (λM M x=>x) λC Y x=>jw.Jp q.below q.ok x;refine wpAny_While<|codeAny_whileLoop (WhileI f (whF f.t.O W xe xl) Q _) ?_ W ⟨q,D,P⟩
 intro k s' x
 induction x with | @mk m N q D P=>?_
 cases k with
 |zero=>exact P.elim
 |succ k=>
  refine he (f.to m N) q _ _ rfl<|bE.bindB D P λ{v} am bM fN aP=>?_
  cases v with
  |false=>exact wpAny_execs_nil<|bE.next (f:=f.to m N) (m':=m) (am:=am) aP .refl fN
  |true=>
   refine hl (f.to m N) am _ _ rfl fN<|bE.Pr aP λ{m' rv loc' fl} bz bN vt iW dB=>?_
   cases rv with
   |none=>
    rw[show fl=.next from iW];exact bF k (uG _)<|WhileI.mk (f:=f) (m:=m') (N:=loc') bz vt<|bE.shift (f:=f.to m' loc') bN dB
   |some v=>
    refine aJ iW λu mT iu=>?_;subst mT;exact bE.ret dB bN vt iu
inductive Re (g:Bs)(f:Fz)(aaM:Addr)(kd:HD)(v:V)(all:aH)(F:V->Loc->af->Res fA)(Q:ys)(E:dz):Nat->Shared->Prop
 |mk {k:Nat} {m:lW} {N:Loc} {o:Obj} (q:St (f.to m N)) (a:Kc g q) (D:Df q) (hI:(aaM,o)∈q.Z) (hr:aaM∉q.ρ) (hk:oX kd k o) (hs:mf q.ρ q.Z kd v) (e:cI q.Y v=some all) (hle:k<=all.length)
  (P:bE g f (jz F v all (all.drop k) N q.Y) Q E):Re g f aaM kd v all F Q E (all.length - k) q.s
theorem Cells.own {ρ:List Addr}{Z Z':Led}{aaM:Addr}(h:Cells env ρ Z)(hI:aaM∉kG env)(k:∀z oz,(z,oz)∈Z->z≠aaM->(z,oz)∈Z'):Cells env ρ Z':=λz hz=>
 let ⟨oz,vz,z1,z2,z3⟩:=h z hz;⟨oz,vz,k _ _ z1 λe=>hI (e▸hz),z2,z3⟩
abbrev Zd (O:av)(W:Nat)(xt:T)(xl:List S):V->Loc->af->Res fA:=λv N Y=>(ue O xt v N Y).bind λN Y=>b9 O W xl N Y
theorem No {d e:Expr}{xt:T}{xe:X}(hs:∀l k p,e≠.Set l k p)(ht:th t d xt)(he:cx t e xe)(hl:n7 t W sl xl):gD t W (.For d e sl [] pos) (.for xt xe xl):=λf q Q E e0 D P=>by
 subst e0;refine wpAny_For (he f q _ E rfl<|P.bind D λ{v u} am bM fN bZ aP=>?_)<|mh hs f.env
 cases e1:cI am.Y v with
 |none=>rw[e1] at aP;exact aP.elim
 |some all=>
  rw[e1] at aP;have aP:=aP;refine qA bZ e1 λkd o hk nW=>?_;let bz:=am.hide o hk.mW am.tk;have Np:=am.hidden o hk.mW am.tk;have fz:=am.cW;have hIc:am.h.objs.size∉kG f.env:=λe=>fz (by obtain⟨o,v,k1,_⟩:=fN.cells _ e;exact cD k1);have dB:=bE.mono aP (λM M x=>x) λC Y x=>jw.Jp am.below am.ok x;refine codeAny_forLoop_any (Re am.bs f am.h.objs.size kd v all (Zd f.t.O W xt xl) Q _) (λn' s' x=>?_) (all.length - 0) ⟨bz,Np.weak,fN.step Np,.head _,am.rep.mU fz,hk,nW.mono λv x i=>Np.xj i,e1,p9 _,dB⟩;clear dB Np nW;clear bz;clear hk aP e1 P bZ
  induction x with | @mk k m N o q a D hI hr hk hs e hle P=>?_
  have ow:=A2 hk;refine xy hs e (q.news _ hI).1 hk (λv' hv x bA lF I9 A3 ji oY ix=>?_) λhv bA he=>?_
  ·refine aN (bP.mp hv) λnj ev=>?_;rw[List.drop_eq_getElem_cons nj,ev] at P;have kk:=q.Nk (o':=lF) hI ow;have N':=kh q.news hI A3 oY;let eB:=q.own I9 hI hr ow (q.fr.change oY (q.news _ hI).2.1 (q.news _ hI).2.2) N';have mZ:Kc am.bs eB:=⟨a.ext.yJ fz,a.turn⟩;have Vl:Df eB:=⟨D.fn,D.cells.own hIc iK⟩;have P:=P;refine I7 A3 ji ?_;refine ht (f.to m N) eB x v' _ _ rfl Vl (kk _ _ ix)<|bE.xC (f:=f.to m N) (bE.re (f:=f.to m N) (q:=eB) mZ P ?k) λ{m' loc'} AX kj Ze Zf=>hl (f.to m' loc') AX _ _ rfl Ze<|bE.shift (f:=f.to m' loc') kj<|bE.on (f:=f.to m N) Zf
   intro m' rv loc' fl Rg Rh A9 Vm Vn Nq;cases rv with
   |none=>
    rw[show fl=.next from Vn];refine cR (EE (P:=λr=>bE am.bs f r Q _) id Nq) λhsm Nq=>?_;have hm:(am.h.objs.size,lF)∈eB.Z:=gP hI;exact bF _ (Nat.sub_succ_lt_self _ _ nj)<|Re.mk (f:=f) (m:=m') (N:=loc') Rg A9 Vm (Rh.ext.keep _ hm hr hIc ji.plain.2.2.1) (Rh.ext.old (cD hm) hr) ji (mf.ext Rh.ext (Vl.cells.plain eB.rep.ndZ) Rg.rep.apart<|hs.mono kk) (vm e hsm) nj Nq
   |some aaD=>
    refine aJ Vn λu uX iu=>?_;subst uX;exact Nq m' (.ret u) Rg A9 rfl Vm ⟨u,rfl,iu⟩
  ·rw[List.drop_eq_nil_of_le<|z8.mp hv] at P;exact wpAny_execs_nil<|bE.next (f:=f) (am:=q.gone hI hr ow he) P ⟨Ext.drop a.ext fz,a.turn⟩ ⟨D.fn,D.cells.own hIc λM M h e=>dS.mpr ⟨h,e⟩⟩
end
def vu (C:Addr):Prop:=
 ∀{A A₀:Around} {E:dz} {s:Shared} {base h₀:Heap} {outer:List Env} {L:Addr} {m:lW} {env:Env} {p:Program} {loose:db} {kL:ExcName->Option Value} {mg mb:lW} {x:Str} {t1 t2:Tok} {k:Int} {Q:dz},
  Below A₀ base outer h₀->Fr h₀ L s.heap m->K.In h₀->Top p loose kL mg mb h₀->(A.under (.builtin "type.__call__" ⟨.ref C::[.str x t1,.int k t2],[]⟩)).frames=some (env::outer)->env.frame=some L->env.scope.kind=.function->
  (A.under (.builtin "type.__call__" ⟨.ref C::[.str x t1,.int k t2],[]⟩)).depth<recursionLimit->
  (∀h' fb e,yv s.heap h' e (.ref C)->Q (.ref e) {s with heap:=h',toks:=fb})->wpAny Mo A (call (.ref C) [.str x t1,.int k t2]) Q E s
theorem Dg {A:Around}{E:dz}{s:Shared}{env:Env}{C:Addr}{xs:Sem Value}{Q:ys}(O:oH K C)(hh:A.handled=none)
  (h:wpAny Mo A xs (λv dW=>∃e h,v=.ref e/\K.In dW.heap/\yv h dW.heap e (.ref C)/\E (.ref e) dW) E s):wpAny Mo A (raiseStmt env (some xs) none) Q E s:=by
 have hcB:∀D,(Value.ref C::.ref D::w9).contains (.type "BaseException")=true:=by intro D;simp
 refine aw<|cE h (λv dW bA=>?_) λM M x=>x
 refine tK bA λe h eA X hn hE=>?_;subst eA;obtain⟨nm,q,NN,bs,D,sn,sub,ab,col,dd,k0,k1,k2,k3,k5,hC⟩:=O.cls;obtain⟨hp,g,d,tk,os⟩:=dW;refine de hn.there λob t he wY hd=>?_;have hC':=X _ _ hC;clear hC hn O h X
 repeat (first | (with_reducible refine l7 he ?_;rw[wY]) | with_reducible refine l7 he ?_ | with_reducible refine l7 hC' ?_ | (with_reducible refine wpAny_isSubtype_exc hC' ?_;rw[hcB]) | rw[hd] | wp_step)
 exact wpAny_raiseNew_none hh hE
theorem Ri {C:Prop}{g:Bs}{f:Fz}{D:Nat}{oj wL:V}{Y:af}{Q:ys}{E:dz}(P:bE g f (CM D oj wL Y) Q E)(k:∀s i,oj=.str s->wL=.int i->jw f.toFx (kG f.env) g.ρ g.Z g.b E D Y->C):C:=by
 cases oj with
 |str s=>
  cases wL with
  |int i=>exact k s i rfl rfl P
  |_=>exact P.elim
 |_=>exact P.elim
theorem GE {t:Lv}{W:Nat}{x:Str}{np aa9 pos:Pos}{bC cC:Expr}{jM ki:X}{C:Nat}(hn:jb t.ns x=true)(hx:nsIn K mainGlobals x=some (some<|.ref C))(hk:keepIn K (.ref C)=true)(OE:oH K C)(aaK:vu C)(hl:dC t [bC,cC] [jM,ki]):
  gD t W (.Raise (some<|.Call (.Name x np) [bC,cC] [] aa9) none pos) (.raise C jM ki):=λf q Q E e0 D P=>by
 rw[arm_exec_Raise];refine aw<|gy<|Dg OE q.ok.hh ?_
 refine aw<|cE (wpAny_Call_ofName<|oV (e0▸hn) hx<|kW hl hk ?_) (λv dW bA=>aw<|gy<|aW bA) λM M y=>y
 cases hl with | cons dW bA _ r=>?_
 cases r with | cons kU eG _ r=>?_
 refine wpAny_items_cons (bA f q _ E e0<|P.bind D λ{oj IC} am bM fN bZ aP=>wpAny_items_cons (eG f am _ E e0<|aP.bind fN λ{wL QM} bz bN vt iW dB=>?_)<|kU f.env _)<|dW f.env _
 refine Ri dB λy k e1 e2 dB=>?_;have bZ:=bN.xj bZ;rw[e1] at bZ;rw[e2] at iW;cases r;refine bZ.qw λt1=>iW.tR λt2=>wpAny_items_nil ⟨bz.s8,?_⟩;refine uJ bz.top λp loose kL mg mb T=>aN bz.below λA₀ Bl=>?_;have hd:(f.A.under (.builtin "type.__call__" ⟨.ref C::[.str y t1,.int k t2],[]⟩)).depth<recursionLimit:=by have:=q.ok.depth;show f.A.depth+1<_;omega
 exact aaK Bl bz.fr bz.Tk T q.ok.frames q.ok.frame q.ok.fkind hd λh' fb e hn=>⟨e,_,rfl,bz.s8.keeps hn.keeps,hn,dB f.m bz.h e bz.ρ bz.Z h' fb bz.fr (.inr<|.inr ⟨hn,bz.news⟩) (Heap.UpToSlots.of_keeps hn.keeps) bz.rep .refl .refl⟩
section
variable {f:Fz} {q:St f} {t:Lv} {W:Nat} {B:Addr} {o:Obj} {m₂:lW} {h':Heap}
theorem zb (h:LCg.NsObj o m₂):¬wH o:=λt=>by obtain⟨ps,e⟩:=q8 t;obtain⟨es,ep,e1,_⟩:=h;exact Data.noConfusion<|e1.symm.trans e
theorem gB.xE (D:Df q)(hm:(B,o)∈q.Z)(hn:LCg.NsObj o m₂):gB f q.ρ (o6 q.Z B):=λi x k' v' e1 e2=>by
 have pl:=fQ hn;refine aJ (q.lo i x k' v' e1 e2) λu' WU lk=>bF u' (WU.drop q.rep.ndZ hm pl.1 pl.2) ?_;cases lk with
 |here a b c=>exact .here a b c
 |lG _ _ _ g1 _ _ _=>exact absurd D.fn.locals (q.news _ g1).2.1
 |cell z lF mM g1 g2 g3 g4=>
  refine .cell z lF mM g1 (dS.mpr ⟨g2,λe=>?_⟩) g3 g4;rw[(g8 q.rep.ndZ g2 (by rw[show z=B from e];exact hm):lF=o)] at g4;exact gG hn λes ep e1 M=>Data.noConfusion<|g4.symm.trans e1
def St.xE (q:St f)(D:Df q)(hm:(B,o)∈q.Z)(hr:B∉q.ρ)(hn:LCg.NsObj o m₂)(hs:Heap.SameBut B q.h h'):St f:=
 have F:=q.fr.change hs (q.news _ hm).2.1 (q.news _ hm).2.2;have aaL:=sh q.news λz o' e k=>(hs.2 z e).trans k;have pl:=fQ hn;have R:=q.rep.drop hm hr pl.1 pl.2;have L:=gB.xE D hm hn
 {b:=q.b,h:=h',ρ:=q.ρ,Z:=o6 q.Z B,Y:=q.Y,tk:=q.tk,ok:=q.ok,below:=q.below,dicts:=q.dicts,fr:=F,news:=aaL,rep:=R,lo:=L}
theorem Df.xE (D:Df q)(hm:(B,o)∈q.Z)(hr:B∉q.ρ)(hn:LCg.NsObj o m₂)(hs:Heap.SameBut B q.h h')(hB:B∉kG f.env):Df (q.xE D hm hr hn hs):=
 ⟨D.fn,D.cells.own hB λM M h e=>dS.mpr ⟨h,e⟩⟩
theorem vw {nm:Str}{p pos cp:Pos}{i:Nat}{elt iter target:Expr}{ifs:List Expr}{rest:List Comprehension}{sc:Scope}{ts:List Nat}{xi xx:X}{Rf:Addr->Rest}{fn:Loc->List V->af->Res (aH)}(hsl:qd t.ns nm=some i)
  (H:xB t elt iter target ifs rest sc cp ts xi xx Rf fn):gD t W (.Assign [.Name nm p] (.ListComp elt (⟨target,iter,ifs,0⟩::rest) sc cp) pos) (.set (.l i) xx):=λf q Q E e0 D P=>by
 have hb:∃b,swapsWith (.ListComp elt (⟨target,iter,ifs,0⟩::rest) sc cp) (some<|.Name nm p) pos.line f.env=pure b:=⟨_,rfl⟩;refine aN hb λb hb=>?_;cases b with
 |false=>exact nH (H.snd f q _ E e0<|P.bind D λam bM fN bZ aP=>vr hsl f am _ _ _ E e0 fN bZ<|aP.xC λbz bN vt dB=>dB.next bN vt) rfl hb rfl
 |true=>
  subst e0;rw[exec_Assign];refine aw<|gy ?_
  rw[show swapsWithSole [.Name nm p] (.ListComp elt (⟨target,iter,ifs,0⟩::rest) sc cp) pos.line f.env=pure true from hb];refine aw<|aW ?_
  rw[if_pos rfl];refine aJ (vq hsl) λk hk mM=>?_;have P:bE q.bs f ((aV f.t.O xx f.N q.Y).bind λv Y=>.ok (none,f.N.set i<|some v) Y) Q E:=P;rw[H.he,Res.bind_assoc] at P;refine aw<|aw<|cE (xA H.hi H.ht H.hs H.hT H.hF H.hR H.hx ?_) (λM s' q=>aW<|aW q) λM M x=>x
  generalize A4 f.t.O fn (di f.t.ns sc.names) ts xi f.N q.Y=r at P;cases r with
  |stuck=>exact P
  |exc C Y'=>exact jw.less P
  |ok acc Y'=>
   intro q' B C en;obtain⟨ob,m₂,kb⟩:=en.lG;have hBc:B∉kG f.env:=λe=>en.fresh (by obtain⟨o,v,k1,_⟩:=D.cells _ e;exact cD k1);show wpAny Mo f.A (assign (.Name nm p) f.env<|.ref C) _ E _;rw[arm_assign_Name];refine aw<|gy<|qB hk mM (D.step en.st) en.val λm' jT XE es D''=>?_
   have SX:=XE.ext.keep _ kb.mem kb.off hBc<|zb kb.ns
   have hr:=XE.ext.old (cD kb.mem) kb.off;refine bF m₂ (kb.ns.ns (jT.news _ SX).1) λnE EH=>?_;exact P m' .next (jT.xE D'' SX hr kb.ns EH) ⟨((en.st.weak).ext.trans XE.ext).drop en.fresh,KtsTurn.trans en.st.turn XE.turn⟩ (es.trans en.sto) (D''.xE SX hr kb.ns EH hBc) rfl
end
section
variable {f:Fz} {q:St f} {t:Lv} {W:Nat} {env:Env} {E:dz} {ns:Ns} {l:List Expr} {names:db} {O:av}
theorem zd {l:db}:l.eraseDups.length<=l.length:=by
 have:∀(n:Nat) (l:db),l.length<=n->l.eraseDups.length<=l.length:=by
  intro n
  induction n with
  |zero=>intro l h;rw[List.length_eq_zero_iff.mp<|Nat.le_zero.mp h];exact ba _
  |succ n ih=>
   intro l h;cases l with
   |nil=>exact ba _
   |cons a r=>
    rw[List.eraseDups_cons];have h1:=w8 (λb=>!b==a) r;exact Nat.succ_le_succ<|eo (ih (r.filter λb=>!b==a)<|eo h1<|Nat.le_of_succ_le_succ h) h1
 exact this l.length l<|ba _
theorem tV {l:db}(h:l.eraseDups.length=l.length):l.Nodup:=by
 induction l with
 |nil=>exact j6
 |cons a r ih=>
  rw[List.eraseDups_cons] at h;have h:=j7 h;have h3:(r.filter λb=>!b==a).length=r.length:=Nat.le_antisymm (w8 (λb=>!b==a) r) (h▸zd);have h5:=List.length_filter_eq_length_iff.mp h3;rw[List.filter_eq_self.mpr h5] at h;refine iy.mpr ⟨λhm=>?_,ih h⟩;have:=h5 a hm;rw[lx] at this;exact Bool.noConfusion this
inductive Tm (env:Env):List Expr->List Str->Prop
 |nil:Tm env [] []
 |cons {id:Str} {p:Pos} {l:List Expr} {r:db}:env.kindOf id=some .local->Tm env l r->Tm env (.Name id p::l) (id::r)
theorem Rj {F:Expr->Option Str}(hF:∀e x,F e=some x->∃p,e=.Name x p/\env.kindOf x=some .local){l:List Expr}(h:(l.filterMap F).length=l.length):Tm env l (l.filterMap F):=by
 induction l with
 |nil=>exact .nil
 |cons a l ih=>
  cases e:F a with
  |none=>
   rw[List.filterMap_cons_none e] at h;exact absurd (h▸List.length_filterMap_le F l)<|Nat.not_succ_le_self _
  |some b=>
   rw[List.filterMap_cons_some e] at h⊢;refine aJ (hF a b e) λp eA hk=>?_;subst eA;exact .cons hk<|ih<|j7 h
def L9 (env:Env)(l:List Expr)(x:Sem (Option (db))):Prop:=x=pure none∨∃names,x=pure (some names)/\names.Nodup/\Tm env l names
theorem L9.ite {c:Prop}[Decidable c]{x y:Sem (Option (db))}(hx:c->L9 env l x)(h:¬c->L9 env l y):L9 env l (if c then x else y):=by
 by_cases hc:c
 ·rw[if_pos hc];exact hx hc
 ·rw[if_neg hc];exact h hc
variable {k:Nat} {p:Pos}
theorem Dh {value:Expr}(ok:uW value=true):L9 env l (swappedStores [.Tuple l k p] value env):=by
 cases value with
 |Tuple vs k' p'=>
  refine L9.ite (λM=>.inl rfl) λh1=>L9.ite (λM=>.inl rfl) λh2=>L9.ite (λM=>.inl rfl) λh3=>L9.ite (λM=>.inl rfl) λh4=>L9.ite (λh5=>?_) λh5=>?_
  ·exfalso;have ok:(vs.all (foldedForSure 8)||!(vs.all<|constantsAlone 8))=true:=ok;rw[h5] at ok;exact h4<|(MN ok).elim id λq=>Bool.noConfusion q
  ·rw[Bool.not_eq_true,Bool.or_eq_false_iff] at h3;have h32:=eq_of_beq<|Eq.mp (Bool.not_eq_false' _) h3.2
   refine .inr<|lY _ rfl (tV h32)<|Rj (λe x hx=>?_)<|eq_of_beq<|Eq.mp (Bool.not_eq_false' _) h3.1
   cases e with
   |Name id pos=>
    have hx:(if (env.kindOf id==some .local&&pos.line==(l.head?.map (·.pos.line)).getD 0)=true then some id else none)=some x:=hx;by_cases hc:(env.kindOf id==some .local&&pos.line==(l.head?.map (·.pos.line)).getD 0)=true
    ·rw[if_pos hc] at hx;rw[<-aU hx];exact bF pos rfl<|eq_of_beq<|b1 hc
    ·rw[if_neg hc] at hx;exact fP hx
   |_=>exact fP hx
 |_=>exact .inl rfl
noncomputable def kH:List Nat->List V->Loc->Loc
 | [],_,N=>N
 |i::r,vs,N=>kH r vs.tail<|N.set i<|some<|vs.headD .none
variable {is:List Nat} {i:Nat}
theorem Ba {v:V}:∀{vs:aH} {N:Loc},i∉is->kH is vs (N.set i<|some v)=(kH is vs N).set i (some v):=by
 induction is with
 |nil=>exact λM=>rfl
 |cons j is ih=>
  intro vs N h;show kH is vs.tail ((N.set i<|some v).set j _)=(kH is vs.tail<|N.set j _).set i (some v);rw[List.set_comm _ _ (λe=>h (by rw[e];exact .head _)),ih λq=>h<|.tail _ q]
theorem Bb {v:V}:∀{vs:aH} {N:Loc},is.length=vs.length->kH (is++[i]) (vs++[v]) N=(kH is vs N).set i (some v):=by
 induction is with
 |nil=>
  intro vs N h;cases vs with
  |nil=>rfl
  |cons _ _=>exact Nat.noConfusion h
 |cons j is ih=>
  intro vs N h;cases vs with
  |nil=>exact Nat.noConfusion h
  |cons x vs=>exact ih<|j7 h
theorem Di:∀{vs:aH} {N:Loc},is.Nodup->is.length=vs.length->kH is.reverse vs.reverse N=kH is vs N:=by
 induction is with
 |nil=>
  intro vs N _ h;cases vs with
  |nil=>rfl
  |cons _ _=>exact Nat.noConfusion h
 |cons i is ih=>
  intro vs N hn h;cases vs with
  |nil=>exact Nat.noConfusion h
  |cons v vs=>
   have mt:=iy.mp hn;have hl:=j7 h;rw[List.reverse_cons,List.reverse_cons,Bb (by rw[List.length_reverse,List.length_reverse,hl]),ih mt.2 hl];exact(Ba mt.1).symm
theorem GF {Y:af}:∀{vs:aH} {N:Loc},is.length=vs.length->rX O (is.map .l) vs N Y=.ok (kH is vs N) Y:=by
 induction is with
 |nil=>
  intro vs N h;cases vs with
  |nil=>rfl
  |cons _ _=>exact Nat.noConfusion h
 |cons i is ih=>
  intro vs N h;cases vs with
  |nil=>exact Nat.noConfusion h
  |cons v vs=>exact ih<|j7 h
inductive pe (ns:Ns):List Str->List Nat->Prop
 |nil:pe ns [] []
 |cons {x:Str} {i:Nat} {r:db} {is:List Nat}:ns[i]?=some (x,.local)->pe ns r is->pe ns (x::r) (i::is)
theorem pe.len (h:pe ns names is):names.length=is.length:=by
 induction h with
 |nil=>rfl
 |cons _ _ ih=>exact bJ (· +1) ih
theorem pe.snoc {x:Str}{i:Nat}{is:List Nat}(h:pe ns names is)(hx:ns[i]?=some (x,.local)):pe ns (names++[x]) (is++[i]):=by
 induction h with
 |nil=>exact .cons hx .nil
 |cons h _ ih=>exact .cons h ih
theorem pe.rev (h:pe ns names is):pe ns names.reverse is.reverse:=by
 induction h with
 |nil=>exact .nil
 |cons h _ ih=>rw[List.reverse_cons,List.reverse_cons];exact ih.snoc h
theorem pe.mem (h:pe ns names is)(hi:i∈is):∃x∈names,ns[i]?=some (x,.local):=by
 induction h with
 |nil=>exact nomatch hi
 |@cons x j r is h _ ih=>
  refine aZ (aX.mp hi) (λe=>?_) λe=>?_
  ·exact bF x (.head _) (e▸h)
  ·exact aJ (ih e) λy h1 h2=>bF y (.tail _ h1) h2
theorem pe.nodup (h:pe ns names is)(hn:names.Nodup):is.Nodup:=by
 induction h with
 |nil=>exact j6
 |@cons x i r is h hr ih=>
  have mt:=iy.mp hn;refine iy.mpr ⟨λhm=>?_,ih mt.2⟩;refine aJ (hr.mem hm) λy h1 h2=>?_;have e:y=x:=bJ Prod.fst<|aU<|h2.symm.trans h
  exact mt.1 (e▸h1)
theorem Jq (h:pe t.ns names is):∀{f:Fz} (q:St f) {us:List Value} {vs:aH} {Q:Ac},f.t=t->Df q->names.length=us.length->q.pJ us vs->(∀m' (q':St (f.to m'<|kH is vs f.N)),nA (kG f.env) q q'->q'.Y=q.Y->Df q'->Q () q'.s)->wpAny Mo f.A (assignInOrder (names.map λn=>bindName f.env n) us) Q E q.s:=by
 induction h with
 |nil=>
  intro f q us vs Q e0 D hu iu hQ;cases us with
  |nil=>exact aW<|hQ f.m q .refl rfl D
  |cons _ _=>exact Nat.noConfusion hu
 |@cons x i r is h _ ih=>
  intro f q us vs Q e0 D hu iu hQ;cases vs with
  |nil=>rw[iu.kg] at hu;exact Nat.noConfusion hu
  |cons v vs=>
   subst e0;revert hu;exact iu.eF λiu is' hu=>aw<|dJ<|qB h (.inl rfl) D iu λm' q' a e D'=>ih (f:=f.to m'<|f.N.set i<|some v) q' rfl D' (j7 hu) (D.pJ a is') λm'' jT a' e' D''=>hQ m'' jT (Kp.trans (cs:=kG f.env) (f':=f.to m'<|f.N.set i<|some v) (f'':=f.to m''<|kH is vs<|f.N.set i<|some v) (q':=q') (jT:=jT) rfl a a') (e'.trans e) D''
theorem ze {ρ:List Addr}{Z:Led}{us:List Value}{vs:aH}(h:cr ρ Z us vs):cr ρ Z us.reverse vs.reverse:=by
 induction vs generalizing us with
 |nil=>rw[h.kg];exact .nil
 |cons v vs ih=>
  exact h.eF λi is=>by rw[List.reverse_cons,List.reverse_cons];exact gQ (ih is)<|.cons i .nil
theorem Nr {ts:List T}(h:jN t l ts)(X:∀x,(x,NameKind.cell)∈t.ns->env.kindOf x=some .cell)(sw:Tm env l names):∃is:List Nat,ts=is.map .l/\pe t.ns names is:=by
 induction sw generalizing ts with
 |nil=>
  cases ts with
  |nil=>exact bF ([]) rfl .nil
  |cons _ _=>exact Nat.noConfusion h.len
 |@cons id p l r hk _ ih=>
  cases h with
  |@cons _ _ x xs _ hn hx hr=>
   refine aJ (hn id p rfl) λi e1 e2=>aJ (vq e2) λk e3 e4=>aJ (ih hr) λis g1 g2=>?_;refine bF (i::is) (by rw[e1,g1];rfl)<|.cons ?_ g2
   rcases e4 with rfl | rfl
   ·exact e3
   ·exact absurd ((X id<|f8 e3).symm.trans hk) λq=>NameKind.noConfusion<|aU q
theorem xF {e:Expr}(n:Nat)(env:Env):swapsWith e (some<|.Tuple l k p) n env=pure false:=by
 cases e with
 |_=>rfl
theorem wM {ts:List T}{pos:Pos}{e:Expr}{xe:X}(ok:uW e=true)(ht:jN t l ts)(he:cx t e xe):gD t W (.Assign [.Tuple l k p] e pos) (.set (.U ts) xe):=λf q Q E e0 D P=>by
 refine aZ (Dh (env:=f.env) (l:=l) (k:=k) (p:=p) ok) (λhr=>?_) λRk=>?_
 ·exact nH (he f q _ E e0<|P.bind D λam bM fN bZ aP=>xD ht f am _ _ _ E e0 fN bZ<|aP.xC λbz bN vt dB=>dB.next bN vt) rfl (xF _ _) hr
 ·refine j8 Rk λnames hr tZ sw=>?_;refine aJ (Nr ht (e0▸D.fn.cellk) sw) λis mT nm=>?_;subst mT;subst e0;refine Assign_Tuple_swapped (names:=names) (hs:=xF (l:=l) (k:=k) (p:=p) pos.line f.env) (hw:=hr)<|he f q _ E rfl<|P.bind D λ{oj IC} am bM fN bZ aP=>?_
  have aP:bE am.bs f ((fL (kC am.Y oj) λkl=>if kl.2.length=(is.map T.l).length then rX f.t.O (is.map .l) kl.2 f.N am.Y else .stuck).bind λN Y=>.ok (none,N) Y) Q E:=aP;cases e:kC am.Y oj with
  |none=>rw[e] at aP;exact aP.elim
  |some kl=>
   rw[e] at aP;have aP:bE am.bs f ((if kl.2.length=(is.map T.l).length then rX f.t.O (is.map .l) kl.2 f.N am.Y else .stuck).bind λN Y=>.ok (none,N) Y) Q E:=aP;by_cases hl:kl.2.length=(is.map T.l).length
   ·have mu:is.length=kl.2.length:=by rw[hl,cy]
    rw[if_pos hl,GF mu] at aP;rw[show names.length=kl.2.length by rw[nm.len,mu]];refine vj bZ e λus eG hk WV hul=>Jq nm.rev (am.grow hk am.tk) rfl (fN.step (am:=am.grow hk am.tk) ⟨.refl,.refl⟩) (by rw[List.length_reverse,List.length_reverse,hul,nm.len,mu]) (ze WV) ?_;rw[Di (nm.nodup tZ) mu];exact λm' q' a e D'=>aP m' .next q' a e D' rfl
   ·rw[if_neg hl] at aP;exact aP.elim
end
theorem eV:∀(l:Ns) (n:Nat) (acc:wn),(∀p∈acc,p.2<n)->(acc.map (·.2)).Nodup->((cellsFrom n l acc).map (·.2)).Nodup
 | [],_,_,_,h=>h
 |(x,k)::r,n,acc,h1,h2=>by
  unfold cellsFrom;split
  ·refine eV r _ _ (λp hp=>?_) ?_
   ·refine aZ (aX.mp hp) (λe=>?_) λe=>?_
    ·rw[e];exact uG _
    ·exact Nat.lt_succ_of_lt<|h1 p e
   ·rw[eM,iy];refine⟨λhm=>?_,h2⟩;refine aJ (bX.mp hm) λp hp e=>?_;have:=h1 p hp;rw[e] at this;exact sS _ this
  ·exact eV r _ _ h1 h2
theorem iR {L:Nat}:∀(l:Ns) (n:Nat) (acc:wn),L<n->(∀p∈acc,L<p.2)->∀p∈cellsFrom n l acc,L<p.2
 | [],_,_,_,h=>h
 |(x,k)::r,n,acc,h1,h2=>by
  unfold cellsFrom;split
  ·refine iR r _ _ (Nat.lt_succ_of_lt h1) λp hp=>?_;refine aZ (aX.mp hp) (λe=>?_) λe=>?_
   ·rw[e];exact h1
   ·exact h2 p e
  ·exact iR r _ _ h1 h2
theorem lL {x:Str}:∀(l:Ns) (n:Nat) (acc:wn),(∃a,acc.lookup x=some a)->∃a,(cellsFrom n l acc).lookup x=some a
 | [],_,_,h=>h
 |(y,k)::r,n,acc,h=>by
  unfold cellsFrom;split
  ·refine lL r _ _ ?_;rw[lu];cases q:x==y with
   |true=>exact⟨_,rfl⟩
   |false=>exact h
  ·exact lL r _ _ h
theorem eD {x:Str}:∀(l:Ns) (n:Nat) (acc:wn),(x,NameKind.cell)∈l->∃a,(cellsFrom n l acc).lookup x=some a
 |(y,k)::r,n,acc,h=>by
  unfold cellsFrom;refine aZ (aX.mp h) (λe=>?_) λe=>?_
  ·cases e;rw[if_pos<|by rfl];exact lL r _ _ ⟨n,by rw[lu,lx]⟩
  ·split
   ·exact eD r _ _ e
   ·exact eD r _ _ e
theorem hH:∀(l:Ns) (n:Nat) (acc:wn),(l.map (·.1)).Nodup->(∀p∈acc,p.1∉l.map (·.1))->(acc.map (·.1)).Nodup->((cellsFrom n l acc).map (·.1)).Nodup
 | [],_,_,_,_,h=>h
 |(x,k)::r,n,acc,h0,h1,h2=>by
  have W0:=iy.mp h0;unfold cellsFrom;split
  ·refine hH r _ _ W0.2 (λp hp=>?_) ?_
   ·refine aZ (aX.mp hp) (λe=>?_) λe=>?_
    ·rw[e];exact W0.1
    ·exact λq=>h1 p e<|.tail _ q
   ·rw[eM,iy];refine⟨λhm=>?_,h2⟩;refine aJ (bX.mp hm) λp hp e=>?_;exact h1 p hp (by rw[e];exact .head _)
  ·exact hH r _ _ W0.2 (λp hp q=>h1 p hp<|.tail _ q) h2
theorem jZ {cm:lW}:∀{cs:wn} {cells:Led},CellsAre cm cs cells->cells.map (·.1)=cs.map (·.2)
 |_,_,.nil=>rfl
 |_,_,.cons _ t=>by rw[eM,eM,jZ t]
theorem kX {cm:lW}:∀{cs:wn} {cells:Led},CellsAre cm cs cells->∀{n:Str} {c:Addr},(n,c)∈cs->∃o,(c,o)∈cells/\o.data=.cell (cm n)
 |_,_,.nil,_,_,h=>nomatch h
 |_,_,.cons h t,n,c,hm=>by
  refine aZ (aX.mp hm) (λe=>?_) λe=>?_
  ·cases e;exact bF _ (.head _) h
  ·exact aJ (kX t e) λo h1 h2=>bF o (.tail _ h1) h2
section
variable {kd:Str->Option NameKind}
theorem xG {n:Str}:∀{l:List (Str × Value)} {m:lW},n∉l.map (·.1)->bindL kd l m n=m n
 | [],_,_=>rfl
 |(y,v)::r,m,h=>by
  have h':n≠y/\n∉r.map (·.1):=⟨λe=>h (by rw[e];exact .head _),λq=>h<|.tail _ q⟩;rw[bindL,xG h'.2];split
  ·show(if n=y then some v else m n)=m n;rw[if_neg h'.1]
  ·rfl
theorem sj {n:Str}{v:Value}(hk:kd n=some .local):∀{l:List (Str × Value)} {m:lW},(l.map (·.1)).Nodup->(n,v)∈l->bindL kd l m n=some v
 |(y,v')::r,m,hn,h=>by
  have mt:=iy.mp hn;refine aZ (aX.mp h) (λe=>?_) λe=>?_
  ·cases e;rw[bindL,xG mt.1,if_pos hk,if_pos rfl]
  ·rw[bindL];exact sj hk mt.2 e
theorem xH {n:Str}:∀{l:List (Str × Value)} {m:lW},n∉l.map (·.1)->bindC kd l m n=m n
 | [],_,_=>rfl
 |(y,v)::r,m,h=>by
  have h':n≠y/\n∉r.map (·.1):=⟨λe=>h (by rw[e];exact .head _),λq=>h<|.tail _ q⟩;rw[bindC,xH h'.2];split
  ·rfl
  ·show(if n=y then some v else m n)=m n;rw[if_neg h'.1]
theorem xI {n:Str}{v:Value}(hk:kd n≠some .local):∀{l:List (Str × Value)} {m:lW},(l.map (·.1)).Nodup->(n,v)∈l->bindC kd l m n=some v
 |(y,v')::r,m,hn,h=>by
  have mt:=iy.mp hn;refine aZ (aX.mp h) (λe=>?_) λe=>?_
  ·cases e;rw[bindC,xH mt.1,if_neg hk,if_pos rfl]
  ·rw[bindC];exact xI hk mt.2 e
end
theorem ro:∀{ts:List Nat} {l:aH} {N loc':Loc},dP ts l N=some loc'->∀{i:Nat} {v:V},loc'[i]?=some (some v)->N[i]?=some (some v)∨∃j:Nat,ts[j]?=some i/\l[j]?=some v
 | [],[],_,_,h,_,_,e=>by cases h;exact .inl e
 | [],_::_,_,_,h,_,_,_=>by cases h
 |_::_,[],_,_,h,_,_,_=>by cases h
 |t::ts,x::l,N,loc',h,i,v,e=>by
  refine cR (jX h) λh1 h2=>aZ (ro h2 e) (λq=>?_) λUT=>?_
  ·by_cases hi:t=i
   ·subst hi;have nj:=(bP.mp h1).1;rw[uA nj] at q;cases q;exact .inr<|bF 0 rfl rfl
   ·rw[eL hi] at q;exact .inl q
  ·exact aJ UT λj q1 q2=>.inr<|bF (j+1) q1 q2
theorem xJ {ρ:List Addr}{Z:Led}{Y:af}{cells:Led}(h1:∀p∈cells,p.1∉Z.map (·.1))(h2:(cells.map (·.1)).Nodup)(R:Rep ρ Z Y):Rep ρ (cells++Z) Y/\(∀v x,bH ρ Z v x->bH ρ (cells++Z) v x):=by
 induction cells with
 |nil=>exact⟨R,λM M i=>i⟩
 |cons p r ih=>
  have Tq:=iy.mp h2;refine cR (ih (λq hq=>h1 q<|.tail _ hq) Tq.2) λR' f=>?_;have hf:p.1∉(r++Z).map (·.1):=λq=>by
   rw[jB] at q;exact(fu.mp q).elim Tq.1 (h1 p<|.head _)
  exact⟨R'.hide hf,λv x i=>(f v x i).ext (Ext.hide hf R') bK R'.apart⟩
section
variable {s:Shared}
noncomputable def Jr (fl:Flow):Value:=match fl with
 | .ret v=>v
 |_=>.none
theorem tm {A₀ A:Around}{base h₀:Heap}{outer:List Env}{L:Addr}{m:lW}{env:Env}{news:List (Addr × Obj)}{R:Result->Shared->Prop}{name qual:Str}{params:Arguments}{body:List Stmt}{scope:Scope}{dV kV doc pm cdv ct:Value}{an:Option Addr}{fo:Obj}{f:Addr}{args:Args}{binds:List (Str × Value)}
  (B:Below A₀ base outer h₀) (F:Fr h₀ L s.heap m) (aaL:News h₀ L s.heap news) (aaa:h₀.NoLimit) (hA:A.frames=some (env::outer)) (hf:env.frame=some L) (Tn:env.scope.kind=.function)
  (ho:s.heap.get? f=some fo) (hd:fo.data=.func (fnX name qual params body scope [] dV kV doc pm an cdv ct)) (LL:s.heap.CodeRec cdv qual) (LM:A.depth<recursionLimit)
  (qi:BindsTo s (fnX name qual params body scope [] dV kV doc pm an cdv ct) args binds)
  (Cn:∀n,∀x∈binds,scope.names.lookup x.1=some .local∨(scope.names.lookup x.1=some .cell/\((cellsFrom n scope.names []).lookup x.1).isSome=true))
  (tZ:((cellsFrom 0 scope.names []).map (·.1)).Nodup)
  (h:∀g L' bA tk cells,Fr h₀ L g m->Fr g L' bA (bindL (envOfC qual scope L' f cdv).kindOf binds λM=>none)->News g L' bA (cells++news)->
   CellsAre (bindC (envOfC qual scope L' f cdv).kindOf binds λM=>none) (cellsFrom (L'+1) scope.names []) cells->Below A base (env::outer) g->h₀.StaysIn g->(∀p∈news,p.1<L')->
   wpAny Mo (A.deeper<|envOfC qual scope L' f cdv) (execs body<|envOfC qual scope L' f cdv)
    (λfl s'=>R (.ok<|.ret<|Jr fl) s')
    (λe s'=>wpAny Mo (A.deeper<|envOfC qual scope L' f cdv) (leaving (envOfC qual scope L' f cdv) e) (λM rN=>R (.error e) rN) (λe' rN=>R (.error e') rN) s')
    {s with heap:=bA,toks:=tk})
  (Md:scope.isCoroutine=false) (Ed:scope.isGenerator=false) (hk:scope.kind=.function):codeAny Mo A (.call (.ref f) args) R s:=by
 refine yp (groundX (R:=R) B F aaL hA hf Tn) λFG BG st lv=>codeAny_call_function LM ho hd Md Ed rfl LL<|qi _ _ _ _ ?_
 refine wpAny_newFunctionEnv_cells hk (Cn _) λOV he s' x=>?_;subst he;refine⟨(aaa.keeps F.keep).keeps x.toInCall.keep,codeAny_func ?_⟩;refine gG x.done λbA tk eA M=>?_;subst eA;have ji:=x.toInCall.keep;refine aJ (Cl.news (h₀:=s.heap) (ba _) λn c hm=>⟨x.cell n c<|lookup_of_mem_nodup (cellsFrom_names scope.names 0 (s.heap.objs.size+1) [] [] rfl▸tZ) hm,x.above n c hm⟩) λcells NC aaJ=>h _ s.heap.objs.size bA tk cells FG ⟨x.toInCall.ns,λb o e=>ji b o<|of_hideAll _ e,qU<|hideAll_size _ _⟩ (λp hp=>?_) aaJ BG st λp hp=>gJ (aaL p hp).1;refine aZ (fu.mp hp) (λhp=>?_) λhp=>?_
 ·refine⟨(NC p hp).1,(NC p hp).2.1,?_⟩;cases q:(hideAll s.heap<|news.map (·.1)).get? p.1 with
  |none=>rfl
  |some o=>have:=of_hideAll _ q;rw[(NC p hp).2.2] at this;cases this
 ·exact⟨ji _ _ (aaL p hp).1,i9<|gJ (aaL p hp).1,hideAll_none _<|cD hp⟩
end
section
@[reducible] noncomputable def Fz.enter (f:Fz)(A:Around)(t:Lv)(e:Env)(L:Addr)(m:lW)(N:Loc):Fz:={base:=f.base,L:=L,fe:=e,outer:=f.fe::f.outer,A:=A.deeper e,gY:=f.gY,t:=t,env:=e,m:=m,N:=N}
structure tW (f:Fz)(A:Around)(t:Lv):Prop where
 frames:A.frames=f.A.frames
 handled:A.handled=f.A.handled
 depth:A.depth+1+t.n / 2+3<recursionLimit
 units:A.units+3+10 * (t.n / 2)+200<cLine
structure Bc (ns:Ns)(e:Env)(L:Addr):Prop where
 kind:e.scope.kind=.function
 globals:e.globals=mainGlobals
 builtins:e.builtins=builtinsNs
 frame:e.frame=some L
 top:∀x,ns.lookup x=some .globalImplicit->e.kindOf x=some .globalImplicit
 local':∀x,(x,NameKind.local)∈ns->e.kindOf x=some .local
 cell:∀x k,(x,k)∈ns->k=.cell∨k=.free->(e.kindOf x=some .cell∨e.kindOf x=some .free)/\∃a,e.cells.lookup x=some a
variable {f:Fz} {q:St f} {A:Around} {t:Lv} {e:Env} {L:Addr} {m m₂:lW} {N Rm:Loc} {E:dz} {Q:dz} {C:Nat} {Y':af} {cs:List Addr}
theorem Vo {a b x y r:Nat}(h1:a<=b+1)(h2:x+2<=y)(h:b+y+3<r):a+1+x+3<r:=by omega
theorem Vp {a b x y r:Nat}(h1:a<=b+16)(h2:x+2<=y)(h:b+10 * y+200<r):a+3+10 * x+200<r:=by omega
theorem Vq {a x r:Nat}(h:a+1+x+3<r):a<r:=by omega
theorem tW.of (ok:Ok f.toFx f.t f.env)(hf:A.frames=f.A.frames)(hh:A.handled=f.A.handled)(hd:A.depth<=f.A.depth+1)(hu:A.units<=f.A.units+16)(hn:t.n / 2+2<=f.t.n / 2):tW f A t:=
 ⟨hf,hh,Vo hd hn ok.depth,Vp hu hn ok.units⟩
theorem tW.now (r:tW f A t):A.depth<recursionLimit:=Vq r.depth
theorem Ok.enter (ok:Ok f.toFx f.t f.env)(r:tW f A t)(w:t.n % 2=1->uZ (f.enter A t e L m N).toFx)(aaL:Bc t.ns e L):Ok (f.enter A t e L m N).toFx t e where
 inB:=ok.inB
 qj:=ok.qj
 hh:=r.handled.trans ok.hh
 frames:=by show A.frames.map (e::·)= _;rw[r.frames,ok.frames];rfl
 frame:=aaL.frame
 fkind:=aaL.kind
 depth:=r.depth
 units:=r.units
 wordy:=w
 kind:=aaL.kind
 globals:=aaL.globals
 builtins:=aaL.builtins
 eframe:=aaL.frame
 code:=rfl
 qual:=rfl
 top:=aaL.top
 local':=aaL.local'
 cell:=aaL.cell
theorem Be (q:St f){g:Heap}(FG:Fr q.b f.L g f.m)(st:q.b.StaysIn g):KtsDicts ((f.fe::f.outer).filterMap (·.frame)) g:=by
 rw[uf q.ok.frame];intro z hz;refine aZ (aX.mp hz) (λe=>?_) λe=>?_
 ·rw[e];exact kR FG.ns λoL es ep h1 h2 M=>Cw oL es ep h1 h2
 ·exact rR (q.dicts z e) λoz es nz h1 h2=>Cw oz es nz (st _ _ h1) h2
noncomputable def St.enter (q:St f)(tk:Nat)(r:tW f A t)(w:t.n % 2=1->uZ (f.enter A t e L m N).toFx)(aaL:Bc t.ns e L){g bA:Heap}{Z':Led}(FG:Fr q.b f.L g f.m)(BG:∃A₀:Around,Below A₀ f.base (f.fe::f.outer) g)(st:q.b.StaysIn g)(F':Fr g L bA m)(N':News g L bA Z')(R':Rep q.ρ Z' q.Y)(lo:gB (f.enter A t e L m N) q.ρ Z'):St (f.enter A t e L m N):=
 have ok':=q.ok.enter r w aaL;have dc:=Be q FG st
 {b:=g,h:=bA,ρ:=q.ρ,Z:=Z',Y:=q.Y,tk:=tk,ok:=ok',below:=BG,dicts:=dc,fr:=F',news:=N',rep:=R',lo:=lo}
theorem St.down {q':St (f.enter A t e L m N)}(FG:Fr q.b f.L q'.b f.m)(Cs:∀a∈cs,a∉q.Z.map (·.1))(ex:Ext [] q.ρ q.Z q'.ρ q'.Z)(jT:St (f.enter A t e L m₂ Rm))(a:Kp cs q'.bs jT){C:Prop}(k:∀am:St f,nA [] q am->am.Y=jT.Y->(∀u v,jT.iv u v->am.iv u v)->am.s=jT.s->C):C:=by
 refine aN q.below λA₀ Bl=>aJ (rZ Bl FG (uf q.ok.frame▸a.turn:KtsTurn (f.L::f.fs) q'.b jT.b)) λb' wK Fd=>?_;have X:=((ex.weaken λM h=>nomatch h).trans a.ext).fresh Cs;exact k (q.to jT.tk (Fd.keeps jT.fr.keep) (xh Fd jT.news) jT.rep X wK) ⟨X,wK⟩ rfl (λM M i=>i) rfl
theorem jw.left {q':St (f.enter A t e L m N)}(FG:Fr q.b f.L q'.b f.m)(Cs:∀a∈cs,a∉q.Z.map (·.1))(ex:Ext [] q.ρ q.Z q'.ρ q'.Z)(P:q.Fl [] E C Y'):
  jw (f.enter A t e L m N).toFx cs q'.ρ q'.Z q'.b (λx s'=>wpAny Mo (A.deeper e) (leaving e x) (λM rN=>E x rN) (λx' rN=>E x' rN) s') C Y':=by
 intro m' g' x bU Z' h' fb b' F'' Xa U Rp'' Ex T';exact aN q.below λA₀ Bl=>aN q'.below λaaE vk=>aJ (rZ Bl FG (uf q.ok.frame▸T':KtsTurn (f.L::f.fs) q'.b b')) λuY wK Fd=>AE (lH vk T') F'' q'.ok.frame q'.ok.fkind q'.ok.frames Xa U λt7 RS Ub=>P f.m b' x bU Z' t7 fb Fd (.inl RS) Ub Rp'' (((ex.weaken λM h=>nomatch h).trans Ex).fresh Cs) wK
abbrev Js (A:Around)(e:Env)(E:dz):dz:=λx s'=>wpAny Mo (A.deeper e) (leaving e x) (λM rN=>E x rN) (λx' rN=>E x' rN) s'
theorem aF.left {q':St (f.enter A t e L m N)}{r:Res V}(FG:Fr q.b f.L q'.b f.m)(ex:Ext [] q.ρ q.Z q'.ρ q'.Z)(P:aF bH q r Q E):aF bH q' r Q (Js A e E):=by
 cases r with
 |stuck=>exact P
 |ok v Y'=>exact λu jT a es i=>St.down (cs:=[]) FG (λM h=>nomatch h) ex jT a λam d bC iv eh=>eh▸P u am d (bC.trans es) (iv _ _ i)
 |exc C Y'=>exact jw.left FG (λM h=>nomatch h) ex P
theorem bE.left {q':St (f.enter A t e L m N)}{r:Res fA}(FG:Fr q.b f.L q'.b f.m)(Cs:∀a∈kG e,a∉q.Z.map (·.1))(ex:Ext [] q.ρ q.Z q'.ρ q'.Z)(P:aF bH q (r.bind λr Y=>.ok (r.1.getD .none) Y) Q E):
  bE q'.bs (f.enter A t e L m N) r (λ(fl:Flow) s'=>xq Q E (.ok<|.ret<|Jr fl) s') (Js A e E):=by
 cases r with
 |stuck=>exact P
 |exc C Y'=>exact jw.left FG Cs ex P
 |ok fl Y'=>
  intro m' SW jT a es D i;refine St.down FG Cs ex jT a λam d bC iv eh=>?_;have i:=i;have g:∀u,jT.iv u (fl.1.getD .none)->Q u jT.s:=λu iu=>eh▸(P:∀u (q':St f),nA [] q q'->q'.Y=Y'->q'.iv u (fl.1.getD .none)->Q u q'.s) u am d (bC.trans es) (iv _ _ iu);generalize fl.1=rv at i g;cases rv with
  |none=>rw[show SW=.next from i];exact g .none .none
  |some v=>
   refine aJ i λu eA iu=>?_;subst eA;exact g u iu
structure Dj where
 name:Str
 qual:Str
 params:Arguments
 body:List Stmt
 scope:Scope
 dV:Value
 kV:Value
 doc:Value
 pm:Value
 cdv:Value
 ct:Value
 an:Option Addr
 oc:Value
 od:Option Addr
 osl:Array (Option Value)
 pn:db
noncomputable abbrev Dj.fd (D:Dj):FuncData:=fnX D.name D.qual D.params D.body D.scope [] D.dV D.kV D.doc D.pm D.an D.cdv D.ct
structure n8 (gx:Gx)(f:Addr)(i:g7)(D:Dj)(wd:Bool):Prop where
 look:K.lookup f=some ⟨D.oc,D.od,.func D.fd,D.osl⟩
 code:codeIn K D.cdv D.qual=true
 kind:D.scope.kind=.function
 co:D.scope.isCoroutine=false
 gen:D.scope.isGenerator=false
 nodup:(D.scope.names.map (·.1)).Nodup
 nofree:∀p∈D.scope.names,p.2≠.free
 slots:i.slots=D.scope.names.length
 pnd:D.pn.Nodup
 plen:D.pn.length=i.ps.length
 pslots:∀(j:Nat) (nm:Str) (k:Nat),D.pn[j]?=some nm->i.ps[j]?=some k->∃kd,D.scope.names[k]?=some (nm,kd)/\(kd=.local∨kd=.cell)
 body:rY gx i.body wd D.body D.scope.names=true
 bind:∀(s:Shared) (us:List Value),K.In s.heap->us.length<=i.ps.length->i.ps.length<=us.length+i.dflt.length->
  ∃vals,BindsTo s D.fd ⟨us,[]⟩ (D.pn.zip (us++vals))/\cr [] [] vals (i.dflt.drop<|us.length+i.dflt.length - i.ps.length)
def EI (D:Dj):Prop:=∃cc P,D.cdv=.ref cc/\(∀h,K.In h->CodeHd h cc P)/\(P,D.qual++".<locals>."++"<lambda>")∈ii K
theorem Jt {us:List Value}:∀{pn:db},pn.length=us.length->(pn.zip us).map (·.1)=pn:=by
 induction us with
 |nil=>intro pn h;rw[List.length_eq_zero_iff.mp h];rfl
 |cons u us ih=>
  intro pn h;cases pn with
  |nil=>rfl
  |cons p pn=>rw[List.zip_cons_cons,eM,ih<|j7 h]
theorem zip_get {nm:Str}{u:Value}{pn:db}{us:List Value}{j:Nat}(h1:pn[j]?=some nm)(h2:us[j]?=some u):(nm,u)∈pn.zip us:=by
 induction pn generalizing us j with
 |nil=>exact fP h1
 |cons p pn ih=>
  cases us with
  |nil=>exact fP h2
  |cons v us=>
   cases j with
   |zero=>rw[<-(aU h1:p=nm),<-(aU h2:v=u)];exact .head _
   |succ j=>exact .tail _<|ih h1 h2
variable {gx:Gx} {i:g7} {D:Dj} {a:Addr} {wd:Bool} {us:List Value} {vs:aH}
theorem n8.env (X:n8 gx a i D wd):Bc D.scope.names (envOfC D.qual D.scope L a D.cdv) L where
 kind:=X.kind
 globals:=rfl
 builtins:=rfl
 frame:=rfl
 top:=λx h=>h
 local':=λx h=>bB X.nodup h
 cell:=λx k h hk=>by
  rw[(hk.resolve_right λe=>X.nofree _ h (by rw[e]):k=.cell)] at h;exact⟨.inl<|bB X.nodup h,eD _ _ _ h⟩
theorem n8.fn (X:n8 gx a i D wd)(ht:t.ns=D.scope.names):A6 (f.enter A t (envOfC D.qual D.scope L a D.cdv) L m N) where
 locals:=rfl
 cellk:=λx h=>bB X.nodup (ht▸h)
 nodup:=by rw[ht];exact X.nodup
 cnd:=eV _ _ _ (λM h=>nomatch h) j6
structure Bd (X:n8 gx a i D wd)(ρ:List Addr)(Z:Led)(us:List Value)(vs:aH)(N:Loc):Prop where
 iv:cr ρ Z us vs
 set:dP i.ps vs (List.replicate i.slots none)=some N
theorem Bd.keys {X:n8 gx a i D wd}{ρ:List Addr}{Z:Led}(B:Bd X ρ Z us vs N):(D.pn.zip us).map (·.1)=D.pn:=Jt (by rw[X.plen,bd B.iv,<-rl B.set])
theorem n8.kn (X:n8 gx a i D wd){nm:Str}(hnm:nm∈D.pn):D.scope.names.lookup nm=some .local∨(nm,NameKind.cell)∈D.scope.names:=by
 refine aN (jA hnm) λj hj=>aJ (X.pslots j nm _ hj<|i8 (X.plen▸(bP.mp hj).1:j<i.ps.length)) λkd e1 e2=>?_;rcases e2 with rfl | rfl
 ·exact .inl<|bB X.nodup<|f8 e1
 ·exact .inr<|f8 e1
theorem Bd.lo {X:n8 gx a i D wd}{ρ:List Addr}{Z:Led}(B:Bd X ρ Z us vs N)(c:Fx){Z':Led}{cells:Led}(hz:∀z oz,(z,oz)∈cells->(z,oz)∈Z')(hr:∀z∈cells.map (·.1),z∉ρ)(g:∀v x,bH ρ Z v x->bH ρ Z' v x)(ht:t.ns=D.scope.names)
  (aaJ:CellsAre (bindC (envOfC D.qual D.scope c.L a D.cdv).kindOf (D.pn.zip us) λM=>none) (cellsFrom (c.L+1) D.scope.names []) cells):
  gB ⟨c,t,envOfC D.qual D.scope c.L a D.cdv,(bindL (envOfC D.qual D.scope c.L a D.cdv).kindOf (D.pn.zip us) λM=>none),N⟩ ρ Z':=λi' x' k' v' e1 e2=>by
 have e1:=ht▸e1;refine aZ (ro B.set (e2:N[i']?=some (some v'))) (λe=>?_) λRn=>?_
 ·rw[List.getElem?_replicate] at e;by_cases hl:i'<i.slots
  ·rw[if_pos hl] at e;exact fP<|aU e
  ·rw[if_neg hl] at e;exact fP e
 ·refine aJ Rn λj q1 q2=>?_;have hjl:j<D.pn.length:=by rw[X.plen];exact(bP.mp q1).1
  refine aJ (X.pslots j _ i' (i8 hjl) q1) λkd p1 p2=>?_;have ep:=aU<|e1.symm.trans p1
  have ex:x'=D.pn[j]:=bJ Prod.fst ep;have ek:k'=kd:=bJ Prod.snd ep;rw[ek] at e1;refine aJ (oW B.iv q2) λu hu iu=>?_;have Xz:(x',u)∈D.pn.zip us:=zip_get (by rw[ex];exact i8 hjl) hu;have tZ:((D.pn.zip us).map (·.1)).Nodup:=by rw[B.keys];exact X.pnd
  have XF:=bB X.nodup<|f8 e1
  refine bF u (g _ _ iu) ?_;rcases p2 with rfl | rfl
  ·exact .here XF rfl<|sj XF tZ Xz
  ·refine aN (eD _ (c.L+1) []<|f8 e1) λca LU=>aJ (kX aaJ<|mi LU) λoz z1 z2=>?_;rw[xI (λe=>NameKind.noConfusion<|aU<|XF.symm.trans e) tZ Xz] at z2;exact .cell ca oz (.inl XF) LU (hz _ _ z1) (hr _<|cD z1) z2
theorem Ext.above {ρ:List Addr}{Z cells:Led}:Ext [] ρ Z ρ (cells++Z):=⟨λM M h=>h,λp hp M M M=>ll _ hp,λz hz=>by rw[jB];exact ll _ hz,λM h=>.inl h⟩
theorem Bd.call {X:n8 gx a i D wd}{W:Nat}(B:Bd X q.ρ q.Z us vs N){as:List Value}(r:tW f A t)(qi:BindsTo q.s D.fd ⟨as,[]⟩ (D.pn.zip us))(ht:t.ns=D.scope.names)(P3:t.n % 2=1->EI D)(hb:n7 t W D.body i.body)
  (P:aF bH q ((b9 t.O W i.body N q.Y).bind λr Y=>.ok (r.1.getD .none) Y) Q E):codeAny Mo A (.call (.ref a) ⟨as,[]⟩) (xq Q E) q.s:=by
 refine aN q.below λA₀ Bl=>uJ q.top λp loose kL mg mb T=>tm Bl q.fr q.news T.nolimit (r.frames.trans q.ok.frames) q.ok.frame q.ok.fkind (q.s8 _ _ X.look) rfl (codeRec_of q.s8 X.code) r.now qi (λk z hz=>?_)
  (hH _ _ _ X.nodup (λM h=>nomatch h) j6) (λg L' bA tk cells FG F' N' aaJ BG st nj=>?_) X.co X.gen X.kind
 ·refine aZ (X.kn (by rw[<-B.keys];exact cD hz)) (λe=>?_) λe=>?_
  ·exact .inl e
  ·refine aN (eD _ k [] e) λca LU=>?_;exact .inr ⟨bB X.nodup e,by rw[LU];rfl⟩
 ·have sL:=jZ aaJ;have Mc:∀z∈cells.map (·.1),z∉q.Z.map (·.1):=λz hz h=>by
   rw[sL] at hz;refine aJ (bX.mp hz) λpc O0 e1=>aJ (bX.mp h) λpz W2 e2=>?_;have h1:=iR _ _ [] (uG _) (λM h=>nomatch h) pc O0;have h2:=nj pz W2;rw[e1] at h1;rw[e2] at h2;exact Nat.lt_asymm h1 h2
  have cnd:(cells.map (·.1)).Nodup:=by rw[sL];exact eV _ _ _ (λM h=>nomatch h) j6
  refine cR (xJ (λp hp=>Mc p.1<|cD hp) cnd q.rep) λRp' f'=>?_;have wy:t.n % 2=1->uZ (f.enter A t (envOfC D.qual D.scope L' a D.cdv) L' (bindL (envOfC D.qual D.scope L' a D.cdv).kindOf (D.pn.zip us) λM=>none) N).toFx:=λho=>by
   exact de (P3 ho) λcc P w1 w2 w3=>fc cc P w1 (w2 _ q.ok.inB) w3
  let q':=q.enter tk r wy (ht▸X.env) FG ⟨_,BG⟩ st F' N' Rp'<|B.lo ⟨f.base,L',envOfC D.qual D.scope L' a D.cdv,f.fe::f.outer,A.deeper<|envOfC D.qual D.scope L' a D.cdv,f.gY⟩ (λz oz h=>j5 q.Z h) (λz hz=>q.rep.mU<|Mc z hz) f' ht aaJ
  have D':Df q':=⟨X.fn ht,λz hz=>by
   refine aJ (bX.mp hz) λpc O0 e1=>aJ (kX aaJ O0) λoz z1 z2=>?_;rw[e1] at z1;exact⟨oz,_,j5 _ z1,q.rep.mU<|Mc z<|cD z1,z2⟩⟩
  exact hb _ q' _ _ rfl D'<|bE.left FG (λz hz=>Mc z (sL▸hz)) (.above:Ext [] q.ρ q.Z q'.ρ q'.Z) P
theorem zf {tx:Text}{O:av}{n:Nat}(hD:∀f i,tx.fn f=some i->∃D nb wd,n8 gx f i D wd/\nb / 2<=n/\(nb % 2=1->EI D)/\n7 ⟨O,nb,D.scope.names⟩ tx.wh D.body i.body):iJ (bn tx O) (2 * (n+2)):=by
 intro a f q A' Q E us vs hn HF hhd Xx hun is P;have P:aF bH q (fL (tx.fn a) λi=>if vs.length<=i.ps.length/\i.ps.length<=vs.length+i.dflt.length then fL (kD i.slots i.ps<|vs++i.dflt.drop (vs.length+i.dflt.length - i.ps.length)) λN=>(b9 O tx.wh i.body N q.Y).bind λr Y=>.ok (r.1.getD .none) Y else .stuck) Q E:=P;cases hf:tx.fn a with
 |none=>rw[hf] at P;exact P.elim
 |some i=>
  rw[hf] at P;refine uI (hD a i hf) λD nb M X hnb P3 hb=>?_;have P:aF bH q (if vs.length<=i.ps.length/\i.ps.length<=vs.length+i.dflt.length then fL (kD i.slots i.ps<|vs++i.dflt.drop (vs.length+i.dflt.length - i.ps.length)) λN=>(b9 O tx.wh i.body N q.Y).bind λr Y=>.ok (r.1.getD .none) Y else .stuck) Q E:=P;by_cases hl:vs.length<=i.ps.length/\i.ps.length<=vs.length+i.dflt.length
  ·rw[if_pos hl] at P;rw[<-bd is] at P hl;refine aJ (X.bind q.s us q.s8 hl.1 hl.2) λvals qi iv=>?_;cases hp:kD i.slots i.ps (vs++i.dflt.drop (us.length+i.dflt.length - i.ps.length)) with
   |none=>rw[hp] at P;exact P.elim
   |some N=>
    rw[hp] at P;exact Bd.call (X:=X) (t:=⟨O,nb,D.scope.names⟩) ⟨gQ is<|Iu q.rep iv,hp⟩ (tW.of q.ok HF hhd Xx hun (by show nb / 2+2<=f.t.n / 2;rw[hn,Nat.mul_div_cancel_left _ Nat.two_pos];exact nY hnb 2)) qi rfl P3 hb P
  ·rw[if_neg hl] at P;exact P.elim
end
section
theorem Dk {pos:Pos}{cv:Value}(l:List Value){a b:Nat}{c:Value}(ht:TriplesOk l)(h:codeAmong pos (l++[rawInt a,rawInt b,c])=some cv):codeAmong pos l=some cv∨cv=c:=by
 fun_induction TriplesOk l with
 |case1=>
  have h:(if ((a:Int)==(pos.line:Int)&&(b:Int)==(pos.col:Int))=true then some c else none)=some cv:=h;by_cases q:((a:Int)==(pos.line:Int)&&(b:Int)==(pos.col:Int))=true
  ·rw[if_pos q] at h;exact .inr<|aU h.symm
  ·rw[if_neg q] at h;exact nomatch h
 |case2 x t y u z r ih=>
  have h:(if (x==(pos.line:Int)&&y==(pos.col:Int))=true then some z else codeAmong pos (r++[rawInt a,rawInt b,c]))=some cv:=h;show(if (x==(pos.line:Int)&&y==(pos.col:Int))=true then some z else codeAmong pos r)=some cv∨_;by_cases q:(x==(pos.line:Int)&&y==(pos.col:Int))=true
  ·rw[if_pos q] at h⊢;exact .inl h
  ·rw[if_neg q] at h⊢;exact ih ht h
 |case3=>exact ht.elim
section
variable {ρ:List Addr} {Z:Led} {Y:af}
theorem Ext.tab {P:Addr}{ps:Array Value}{o':Obj}(hn:(Z.map (·.1)).Nodup)(hm:(P,tabObj ps)∈Z)(ht:TriplesOk ps.toList):Ext [] ρ Z ρ (gN Z P o'):=
 ⟨λM M h=>h,λp hp M M k=>bX.mpr ⟨p,hp,if_neg λe=>k (by
  have:p.2=tabObj ps:=g8 hn hp (show(p.1,tabObj ps)∈Z by rw[show p.1=P from e];exact hm);rw[this];exact⟨ps,rfl,ht⟩)⟩,λq hq=>by rw[jc];exact hq,λM h=>.inl h⟩
theorem Rep.tab {P cA:Addr}{q:Str}{ps w0:Array Value}{oc:Obj}(tZ:((ii K).map (·.1)).Nodup)(LV:(P,q)∈ii K)(R:Rep ρ Z Y)(hm:(P,tabObj ps)∈Z)(hr:P∉ρ)(ht:TriplesOk ps.toList)(Hx:TriplesOk w0.toList)
  (hc:(cA,oc)∈Z) (hcr:cA∉ρ) (Md:jW q oc) (dZ:cA≠P) (OZ:∀pos cv,codeAmong pos w0.toList=some cv->codeAmong pos ps.toList=some cv∨cv=.ref cA):Rep ρ (gN Z P<|tabObj w0) Y:=by
 refine⟨R.len,R.nd,by rw[jc];exact R.ndZ,R.apart,R.big,λi z hz=>?_,λt hT=>?_⟩
 ·refine de (R.cell i z hz) λce o h1 h2 h3=>?_;exact fc ce o h1 (bX.mpr ⟨_,h2,if_neg λe=>hr (by rw[<-show z=P from e];exact bp hz)⟩)<|h3.ext (Ext.tab R.ndZ hm ht:Ext [] ρ Z ρ (gN Z P<|tabObj w0)) bK R.apart
 ·refine uH (R.tabs t hT) λVr h1 h2 h3 h4=>?_;have LW:∀z oz,(z,oz)∈Z->(∃q,jW q oz)->(z,oz)∈gN Z P (tabObj w0):=λz oz hz hcz=>bX.mpr ⟨_,hz,if_neg λe=>by
   have e:z=P:=e;subst e;have:=g8 R.ndZ hz hm;subst this;refine aN hcz λq hq=>?_;exact AB hq ⟨ps,rfl,ht⟩⟩
  by_cases e:t.1=P
  ·have et:t=(P,q):=by
    refine aN (jA hT) λi hi=>aN (jA LV) λj hj=>?_;have e1:((ii K).map (·.1))[i]?=some P:=by rw[gd,hi];exact bJ some e
    have e2:((ii K).map (·.1))[j]?=some P:=by rw[gd,hj];rfl
    rw[(uF (bP.mp e1).1 tZ).mp<|e1.trans e2.symm,hj] at hi;exact(aU hi).symm
   subst et;have e3:=g8 R.ndZ h1 hm;cases e3;refine oG w0 (gP hm) hr Hx λpos cv Tt=>?_;refine aZ (OZ pos cv Tt) (λk=>?_) λk=>?_
   ·exact tK (h4 pos cv k) λc₁ Bf g1 g2 g3 g4=>Cv c₁ Bf g1 (LW _ _ g2 ⟨_,g4⟩) g3 g4
   ·exact Cv cA oc k (LW _ _ hc ⟨_,Md⟩) hcr Md
  ·refine oG Vr (bX.mpr ⟨_,h1,if_neg e⟩) h2 h3 λpos cv Tt=>?_;exact tK (h4 pos cv Tt) λc₁ Bf g1 g2 g3 g4=>Cv c₁ Bf g1 (LW _ _ g2 ⟨_,g4⟩) g3 g4
end
structure Zg {f:Fz}(q:St f)(fa:Addr)(e:Expr)(sc:Scope)(kM:wn)(params:Arguments)(qn:Str)(pm Ef:Value)(cA:Addr)(oc:Obj):Prop where
 fn:(fa,kla_obj "<lambda>" qn params e sc kM pm cA Ef)∈q.Z
 co:(cA,oc)∈q.Z
 is:jW qn oc
theorem Ext.Zh {P c':Addr}{ps:Array Value}{o o':Obj}(zc:c'∉Z.map (·.1))(R:Rep ρ Z Y)(Nt:Rep ρ ((c',o)::Z) Y)(hP:(P,tabObj ps)∈Z)(ht:TriplesOk ps.toList):Ext [] ρ Z ρ (gN ((c',o)::Z) P o'):=(Ext.hide zc R).trans<|Ext.tab Nt.ndZ (.tail _ hP) ht
variable {f:Fz} {q:St f} {E Q:dz}
theorem Ju {params:Arguments}{e:Expr}{sc:Scope}{pos:Pos}{kM:wn}(tZ:((ii K).map (·.1)).Nodup)(aab:defaultsOf params f.env=([],[]))(zW:closureFor sc f.env=pure kM)(hw:f.t.n % 2=1)
  (hQ:∀fa pm Ef cA oc qn (q':St f),nA [] q q'->q'.Y=q.Y->Zg q' fa e sc kM params qn pm Ef cA oc->Q (.ref fa) q'.s):wpAny Mo f.A (eval (.Lambda params e sc pos) f.env) Q E q.s:=by
 refine de (q.ok.wordy hw) λcc P hcc hCd LV=>?_;rw[<-q.ok.qual] at LV;refine uH (q.rep.tabs _ LV) λps hP Zi ht SY=>aN q.below λA₀ Bl=>uJ q.top λp loose kL mg mb T=>?_;have CH:=(hCd.keeps Bl.stays).keeps q.fr.keep;have hm:=q.news _ hP;have hgs:=T.g.keeps q.fr.keep;refine Mi T.bmain λbm ob zq=>Ek zq λb1 b2 b3 b4 b5 b6=>?_;have hgP:mainGlobals≠P:=λe=>by
  refine kR hgs λo es ep e1 hd M=>?_;rw[e,hm.1] at e1;rw[<-aU e1] at hd;exact Data.noConfusion hd
 have hbP:bm≠P:=λe=>by
  have e1:=q.fr.keep _ _ b3;rw[e,hm.1] at e1;rw[<-aU e1] at b4;exact absurd b4 λh=>nomatch h
 have hbG:bm≠mainGlobals:=λe=>by
  refine kR T.g λo es ep e1 hd M=>?_;rw[e,e1] at b3;rw[<-aU b3,hd] at b6;exact absurd b6 λh=>nomatch h
 have P4:=q.ok.code.trans hcc;refine kla_eval aab ?_;cases hq:codeAmong pos ps.toList with
 |some cv=>
  refine tK (SY pos cv hq) λc₁ Bf eA g2 g3 g4=>?_;subst eA;refine kla_makeFunctionHit zW q.ok.globals hgs P4 CH hm.1 ht hq ⟨bm,ob,b1,b2,hbG,hbP,q.fr.keep _ _ b3,b4,b5,b6⟩ λEf h' tk hk hsz=>?_;let am:=q.grow hk tk;exact hQ _ _ Ef c₁ Bf _ (am.hide (kla_obj "<lambda>" (f.env.qual++"<lambda>") params e sc kM ((mg "__name__").getD .none) c₁ Ef) rfl tk) (am.hidden _ rfl tk) rfl ⟨.head _,.tail _ g2,g4⟩
 |none=>
  refine kla_makeFunction zW q.ok.globals hgs P4 CH hm.1 ht hq hgP ⟨bm,ob,b1,b2,hbG,hbP,q.fr.keep _ _ b3,b4,b5,b6⟩ λc' Ef h' tk hx hge nj aac htb=>TA aac λc₂ oc vs t zq=>L4 zq λe2 hoc hd hv=>?_;rw[<-Value.ref.inj e2] at hoc;have LX:jW (f.env.qual++"<lambda>") oc:=⟨vs,t,hd,hv⟩;have hLc:=dU q.fr.ns.lt hge;have zc:c'∉q.Z.map (·.1):=λe=>by
   refine aJ (bX.mp e) λpz W2 e=>?_;have:=gJ (q.news pz W2).1;rw[e] at this;exact sS _<|dU this hge
  have hcP:c'≠P:=λe=>zc (by rw[e];exact cD hP);have Nt:=q.rep.hide (o:=oc) zc;have Ni:Rep q.ρ (gN ((c',oc)::q.Z) P<|tabObj<|ps++#[rawInt pos.line,rawInt pos.col,.ref c']) q.Y:=by
   refine Rep.tab tZ LV Nt (.tail _ hP) Zi ht ?_ (.head _) (q.rep.mU zc) LX hcP λpos' cv Tt=>?_
   ·rw[Array.toList_append];exact TriplesOk_snoc _ _ _ _ ht
   ·rw[Array.toList_append] at Tt;exact Dk _ ht Tt
  have Zj:News q.b f.L h' (gN ((c',oc)::q.Z) P<|tabObj<|ps++#[rawInt pos.line,rawInt pos.col,.ref c']):=λz hz=>by
   refine aJ (bX.mp hz) λZk Vs Nu=>?_;by_cases e:Zk.1=P
   ·rw[if_pos e] at Nu;rw[<-Nu];exact⟨htb,hm.2⟩
   ·rw[if_neg e] at Nu;rw[<-Nu];exact(aX.mp Vs).elim (λe'=>by rw[e'];exact⟨hoc,mO hLc,(Heap.get?_none_of_le (eo q.fr.above<|Nat.le_of_lt hLc):q.b.get? c'=none)⟩) λe'=>⟨hx _ _ e (q.news _ e').1,(q.news _ e').2⟩
  have ex:=Ext.Zh (o':=tabObj<|ps++#[rawInt pos.line,rawInt pos.col,.ref c']) zc q.rep Nt hP ht;let am:=q.to tk (⟨q.fr.ns.extBut hx hm.2.1.symm,λb o e=>hx b o (λh=>by rw[h,hm.2.2] at e;exact fP e)<|q.fr.keep b o e,q.fr.above⟩:Fr q.b f.L h' f.m) Zj Ni ex .refl;exact hQ _ _ Ef c' oc _ (am.hide (kla_obj "<lambda>" (f.env.qual++"<lambda>") params e sc kM ((mg "__name__").getD .none) c' Ef) rfl tk) ((⟨ex,.refl⟩:nA [] q am).trans rfl (am.hidden _ rfl tk)) rfl ⟨.head _,.tail _ (iK _ _ (.head _) hcP),LX⟩
end
section
def sk (ρ:List Addr)(Z:Led)(kM:wn)(names:Ns)(N:Loc):Prop:=
 ∀(i:Nat) (x:Str) (k:NameKind) (v:V),names[i]?=some (x,k)->N[i]?=some (some v)->k=.free/\∃u a o,bH ρ Z u v/\kM.lookup x=some a/\(a,o)∈Z/\a∉ρ/\o.data=.cell (some u)
noncomputable abbrev noArgs:Arguments:=⟨[],[],none,[],[],none,[]⟩
structure Jv (t:Lv)(sc:Scope)(kM:wn)(e:Expr)(xe:X):Prop where
 ns:t.ns=sc.names
 ev:t.n % 2=0
 kind:sc.kind=.function
 co:sc.isCoroutine=false
 gen:sc.isGenerator=false
 nodup:(sc.names.map (·.1)).Nodup
 nocell:∀p∈sc.names,p.2≠.cell
 free:∀z,(z,NameKind.free)∈sc.names->∃ad,kM.lookup z=some ad
 snd:cx t e xe
variable {f:Fz} {q:St f} {t:Lv} {sc:Scope} {E Q:dz} {kM:wn} {N:Loc}
theorem sk.ext {names:Ns}{q':St f}(h:sk q.ρ q.Z kM names N)(a:nA [] q q'):sk q'.ρ q'.Z kM names N:=λi x k v h1 h2=>by
 exact TJ (h i x k v h1 h2) λe u ad o g1 g2 g3 g4 g5=>TN e u ad o (a.xj g1) g2 (a.ext.keep _ g3 g4 dq (lJ g5).2.2.1) (a.ext.old (cD g3) g4) g5
theorem GG (q:St f)(hi:d9 f.t.ns sc=true):sk q.ρ q.Z (o7 f.env.cells sc.names []) sc.names (eJ (di f.t.ns sc.names) f.N):=λi x k v hx hl=>by
 refine aJ (q.lo.lG (C:=0) hi q.ok i x k v hx hl) λu iu lk=>?_;have hk:=(A1 hx hl).1;rw[hk] at hx⊢;have WX:(f.lG sc 0).env.kindOf x=some .local->False:=λhk=>(((q.ok.lG (C:=0) hi).cell x .free (f8 hx)<|.inr rfl).1).elim (λe=>NameKind.noConfusion<|aU<|e.symm.trans hk) λe=>NameKind.noConfusion<|aU<|e.symm.trans hk
 cases lk with
 |here hk _ _=>exact(WX hk).elim
 |lG _ _ hk _ _ _ _=>exact(WX hk).elim
 |cell ad o _ g1 g2 g3 g4=>exact TN rfl u ad o iu g1 g2 g3 g4
theorem Jv.env {e:Expr}{xe:X}(T:Jv t sc kM e xe){qn:Str}{L fa:Addr}{cv:Value}:Bc t.ns (envX qn sc L fa cv kM) L where
 kind:=T.kind
 globals:=rfl
 builtins:=rfl
 frame:=rfl
 top:=λz h=>by rw[T.ns] at h;exact h
 local':=λz h=>bB T.nodup (T.ns▸h)
 cell:=λz k h hk=>by
  rw[T.ns] at h;rw[(hk.resolve_left (T.nocell _ h):k=.free)] at h;exact⟨.inr<|bB T.nodup h,T.free z h⟩
theorem Jw {A:Around}{e:Expr}{xe:X}{qn:Str}{pm Ef:Value}{fa cA:Addr}{oc:Obj}(T:Jv t sc kM e xe)(r:tW f A t)(H:Zg q fa e sc kM noArgs qn pm Ef cA oc)(Cm:sk q.ρ q.Z kM sc.names N)(P:aF bH q (aV t.O xe N q.Y) Q E):
  codeAny Mo A (.call (.ref fa) ⟨[],[]⟩) (xq Q E) q.s:=by
 refine aN q.below λA₀ Bl=>uJ q.top λp loose kL mg mb TT=>yp (groundX (A:=A) (s:=q.s) (R:=λM M=>True) Bl q.fr q.news (r.frames.trans q.ok.frames) q.ok.frame q.ok.fkind) λFG BG st lv=>?_;have LL:q.h.CodeRec (.ref cA) qn:=by
  exact gG H.is λvs t h1 h2=>Te cA oc vs t<|Mr rfl ((q.news _ H.co).1) h1 h2
 refine kla_callFunE r.now (q.news _ H.fn).1 rfl T.co T.gen rfl LL ?_;rw[show bindArgs (kla_fn "<lambda>" qn noArgs e sc kM pm (.ref cA) Ef) ⟨[],[]⟩=pure [] from rfl];refine aW<|wpAny_newFunctionEnv T.nocell (λM h=>nomatch h) (λbA Cg XD=>⟨((TT.nolimit).keeps q.fr.keep).fresh _ XD,?_⟩) T.kind
 have ji:∀b o,q.h.get? b=some o->bA.get? b=some o:=λb o e=>XD.extBut b o (i9<|gJ e)<|lj _ e
 have N':News (hideAll q.h<|q.Z.map (·.1)) q.h.objs.size bA q.Z:=λp hp=>⟨ji _ _ (q.news p hp).1,i9<|gJ (q.news p hp).1,hideAll_none _<|cD hp⟩;have wy:t.n % 2=1->uZ (f.enter A t (envX qn sc q.h.objs.size fa (.ref cA) kM) q.h.objs.size (λy=>([]:List (Str × Value)).reverse.lookup y) N).toFx:=λho=>absurd (ho.symm.trans T.ev) (by lk);have lo:gB (f.enter A t (envX qn sc q.h.objs.size fa (.ref cA) kM) q.h.objs.size (λy=>([]:List (Str × Value)).reverse.lookup y) N) q.ρ q.Z:=λi z k v h1 h2=>by
  have h1:=T.ns▸h1;refine TJ (Cm i z k v h1 h2) λe u ad o g1 g2 g3 g4 g5=>?_;rw[e] at h1;exact bF u g1<|.cell ad o (.inr<|bB T.nodup<|f8 h1) g2 g3 g4 g5
 let q':=q.enter q.tk r wy T.env FG ⟨_,BG⟩ st (⟨Cg,λb o e=>ji b o<|of_hideAll _ e,qU<|hideAll_size _ _⟩:Fr (hideAll q.h<|q.Z.map (·.1)) q.h.objs.size bA (λy=>([]:List (Str × Value)).reverse.lookup y)) N' q.rep lo;exact kla_codeExpr<|T.snd _ q' _ _ rfl<|aF.left FG .refl P
end
section
structure vx where
 y:Str
 q:Pos
 s:Str
 k:Nat
 r:Pos
 t:Pos
 u:Pos
noncomputable abbrev vx.h (x:vx):ExceptHandler:=.ExceptHandler (some<|.Name x.y x.q) none [.Return (some<|.Constant (.str x.s) x.k x.r) x.t] x.u
structure EJ where
 D:Dj
 cn:Str
 p1:Pos
 p2:Pos
 p3:Pos
 p4:Pos
 h1:vx
 h2:vx
 h3:vx
 look:K.lookup 418=some ⟨D.oc,D.od,.func D.fd,D.osl⟩
 code:codeIn K D.cdv D.qual=true
 kind:D.scope.kind=.function
 co:D.scope.isCoroutine=false
 gen:D.scope.isGenerator=false
 body:D.body=[.Try [.Return (some<|.Call (.Name cn p1) [] [] p2) p3] [h1.h,h2.h,h3.h] [] [] p4]
 nocells:∀k,cellsFrom k D.scope.names []=[]
 lk1:D.scope.names.lookup cn=some .local
 lk2:D.scope.names.lookup h1.y=some .globalImplicit
 lk3:D.scope.names.lookup h2.y=some .globalImplicit
 lk4:D.scope.names.lookup h3.y=some .globalImplicit
 bind:∀(s:Shared) (v:Value),BindsTo s D.fd ⟨[v],[]⟩ [(cn,v)]
 dbg:(cn==("__debug__":Str))=false/\(h1.y==("__debug__":Str))=false/\(h2.y==("__debug__":Str))=false/\(h3.y==("__debug__":Str))=false
 w1:h1.s=Str.ofString "hidden"
 w2:h2.s=Str.ofString "name"
 w3:h3.s=Str.ofString "type"
 n1:KtsName K h1.y (.ref 64)
 n2:KtsName K h2.y (.ref 52)
 n3:KtsName K h3.y (.ref 76)
 e11:exmOne K (.ref 64) (.ref 64)=some true
 e21:exmOne K (.ref 52) (.ref 64)=some false
 e22:exmOne K (.ref 52) (.ref 52)=some true
 e31:exmOne K (.ref 76) (.ref 64)=some false
 e32:exmOne K (.ref 76) (.ref 52)=some false
 e33:exmOne K (.ref 76) (.ref 76)=some true
theorem qD {aaK:Model}{A:Around}{env:Env}{s:Shared}{x:vx}{Q:ys}{E:dz}(h:Q (.ret<|.str x.s s.toks) {s with toks:=s.toks+1}):wpAny aaK A (execs [.Return (some<|.Constant (.str x.s) x.k x.r) x.t] env) Q E s:=
 wpAny_execs_cons (wpAny_Return_some<|wpAny_Constant_str h)
def Vt (A:Around)(env:Env)(Q:ys)(E:dz)(f:Flow)(s:Shared):Prop:=match f with
 | .next=>wpAny Mo A (execs [] env) Q E s
 |f=>Q f s
def Zl (A:Around)(env:Env)(l:List ExceptHandler)(Q:ys)(E:dz)(x:Value)(s:Shared):Prop:=
 wpAny Mo A (noteFrame x env) (λM kU=>wpAny Mo A (setFlight x none) (λM tU=>wpAny Mo A (handleBy x env l) (Vt A env Q E) E tU) E kU) E s
theorem Jx {A:Around}{env:Env}{e:Expr}{p3 p4:Pos}{x:ExceptHandler}{l:List ExceptHandler}{Q:ys}{E:dz}{s:Shared}(h:wpAny Mo A (eval e env) (λv s'=>Q (.ret v) s') (Zl A env (x::l) Q E) s):wpAny Mo A (execs [.Try [.Return (some e) p3] (x::l) [] [] p4] env) Q E s:=
 wpAny_execs_cons (cE (Q:=Vt A env Q E) (wpAny_Try_except<|wpAny_execs_cons<|wpAny_Return_some<|cE h (λM M x=>x) λM M x=>x) (λf M x=>by cases f<;>exact x) λM M x=>x)
variable {f:Fz} {q:St f} {t:Lv} {sc:Scope} {E Q:dz} {kM:wn} {N:Loc}
theorem Nv {P:Res V->Prop}{C:Nat}{Y:af}(hs:¬P .stuck)(h:P (q5 (.exc C Y))):(C=64/\P (.ok (.str (Str.ofString "hidden")) Y))∨(C=52/\P (.ok (.str (Str.ofString "name")) Y))∨(C=76/\P (.ok (.str (Str.ofString "type")) Y)):=by
 have h:P (if C=64 then .ok (.str (Str.ofString "hidden")) Y else if C=52 then .ok (.str (Str.ofString "name")) Y else if C=76 then .ok (.str (Str.ofString "type")) Y else .stuck):=h;by_cases c1:C=64
 ·rw[if_pos c1] at h;exact .inl ⟨c1,h⟩
 ·rw[if_neg c1] at h;by_cases c2:C=52
  ·rw[if_pos c2] at h;exact .inr<|.inl ⟨c2,h⟩
  ·rw[if_neg c2] at h;by_cases c3:C=76
   ·rw[if_pos c3] at h;exact .inr<|.inr ⟨c3,h⟩
   ·rw[if_neg c3] at h;exact absurd h hs
theorem GH (WK:EJ){e:Expr}{xe:X}{qn:Str}{pm Ef:Value}{fa cA:Addr}{oc:Obj}(T:Jv t sc kM e xe)(hn:t.n / 2+4<=f.t.n / 2)(H:Zg q fa e sc kM noArgs qn pm Ef cA oc)(Cm:sk q.ρ q.Z kM sc.names N)(P:aF bH q (q5<|aV t.O xe N q.Y) Q E):
  codeAny Mo f.A (.call (.ref 418) ⟨[.ref fa],[]⟩) (xq Q E) q.s:=by
 refine aN q.below λA₀ Bl=>uJ q.top λp loose kL mg mb TT=>uJ q.ok.qj λpB aad aaz mgB mbB TB=>?_;have nj:2 * (t.n / 2+2) / 2=t.n / 2+2:=Nat.mul_div_cancel_left _ Nat.two_pos;have r:tW f f.A ⟨t.O,2 * (t.n / 2+2),[]⟩:=tW.of q.ok rfl rfl (ly _) (ej _ _) (by show 2 * (t.n / 2+2) / 2+2<=_;rw[nj];exact hn);refine tm (env:=f.fe) Bl q.fr q.news TT.nolimit q.ok.frames q.ok.frame q.ok.fkind (q.s8 _ _ WK.look) rfl (codeRec_of q.s8 WK.code) r.now (WK.bind q.s<|.ref fa) (λk z hz=>?_)
  (by rw[WK.nocells];exact j6) (λg L' bA tk cells FG F' N' aaJ BG st M=>?_) WK.co WK.gen WK.kind
 ·rw[cM.mp hz];exact .inl WK.lk1
 ·have hc:cells=[]:=List.map_eq_nil_iff.mp<|(jZ aaJ).trans (by rw[WK.nocells];rfl)
  rw[hc] at N';have hee:envOfC WK.D.qual WK.D.scope L' 418 WK.D.cdv=envOf WK.D.qual WK.D.scope L' 418 WK.D.cdv:=by unfold envOfC envOf;rw[WK.nocells]
  rw[hee] at F'⊢;have eI:Bc [] (envOf WK.D.qual WK.D.scope L' 418 WK.D.cdv) L':=⟨WK.kind,rfl,rfl,rfl,λM h=>fP h,λM h=>absurd h dq,λM M h=>absurd h dq⟩;have wy:2 * (t.n / 2+2) % 2=1->uZ (f.enter f.A ⟨t.O,2 * (t.n / 2+2),[]⟩ (envOf WK.D.qual WK.D.scope L' 418 WK.D.cdv) L' (bindL (envOf WK.D.qual WK.D.scope L' 418 WK.D.cdv).kindOf [(WK.cn,Value.ref fa)] λM=>none) []).toFx:=λho=>absurd ((Nat.mul_mod_right 2 _).symm.trans ho) (by lk);let q':=q.enter (N:=[]) tk r wy eI FG ⟨_,BG⟩ st F' N' q.rep λi M M M h M=>fP h;have Me:(envOf WK.D.qual WK.D.scope L' 418 WK.D.cdv).kindOf WK.cn=some .local:=WK.lk1;have Vu:bindL (envOf WK.D.qual WK.D.scope L' 418 WK.D.cdv).kindOf [(WK.cn,Value.ref fa)] (λM=>none) WK.cn=some (.ref fa):=sj Me (iy.mpr ⟨dq,j6⟩)<|.head _
  rw[WK.body];refine Jx<|wpAny_Call_ofName<|wpAny_Name (wpAny_loadName_local WK.kind Me F'.ns Vu ?_) WK.dbg.1
  refine callWith_F0 ⟨_,_,_,_,(N' _ H.fn).1⟩<|wpAny_call ?_
  refine Jw (q:=q') T (tW.of q'.ok rfl rfl (ly _) (ej _ _)<|qU nj.symm) ⟨H.fn,H.co,H.is⟩ Cm ?_;have P:aF bH q (q5<|aV t.O xe N q'.Y) Q E:=P;generalize aV t.O xe N q'.Y=rr at P;cases rr with
  |stuck=>exact P
  |ok v Y'=>
   intro u jT a es i;refine St.down (cs:=[]) FG (λM h=>nomatch h) .refl jT a λam d bC iv eh=>?_;show Q u jT.s;rw[<-eh];exact P u am d (bC.trans es)<|iv _ _ i
  |exc C Y'=>
   intro m' g' ex bU Z' h' fb b' F'' Xa U Rp'' Ex T';have vk:=lH BG T';have fN:=q'.dicts.turn T';refine ny (s:={f.gY with heap:=h',toks:=fb}) vk F'' rfl WK.kind q'.ok.frames rfl Xa U λZm eG GI RH Ro=>tK RH λBB a0 hB HE hl hh=>wpAny_landsW hh λnE SM EH=>?_;have RS:RaisedSN f.base Zm (_::f.fe::f.outer) ex (.ref C) Z' nE:=⟨BB,a0,hB,HE,hl,SM⟩;have GC:=Ro.trans EH;have fin:∀(x:vx) (om vy:Heap),aF bH q (.ok (.str x.s) Y') Q E->KtsTurn ((f.fe::f.outer).filterMap (·.frame)) b' vy->Fr vy L' om m'->News vy L' om Z'->Q (.str x.s fb) {f.gY with heap:=om,toks:=fb+1}:=λx om vy P Dl Dm Dn=>by
    have tu:KtsTurn (f.L::f.fs) g vy:=uf q.ok.frame▸(T'.trans Dl);exact aJ (rZ Bl FG tu) λuY wK Fd=>P (.str x.s fb) (q.to (fb+1) (Fd.keeps Dm.keep) (xh Fd Dn) Rp'' Ex wK) ⟨Ex,wK⟩ rfl<|.str _ _
   refine o3 (Nv (P:=λr=>aF bH q r Q E) id P) (λRq=>?_) (λRr=>?_) λRs=>?_
   ·refine cR Rq λeC aP=>?_;rw[<-WK.w1] at aP;rw[eC] at RS;exact hit_SN0 (s':={f.gY with heap:=nE,toks:=fb}) RS GI vk GC q.ok.inB TB fN .refl (test_name WK.n1 WK.e11 WK.kind WK.lk2 WK.dbg.2.1) λom vy Dl Dm Dn M M M M=>qD<|fin WK.h1 om vy aP Dl Dm Dn
   ·refine cR Rr λeC aP=>?_;rw[<-WK.w2] at aP;rw[eC] at RS;exact pass_SN (s':={f.gY with heap:=nE,toks:=fb}) RS GI vk GC q.ok.inB TB fN (test_name WK.n1 WK.e21 WK.kind WK.lk2 WK.dbg.2.1) λvp Jy Rt=>hit_SN0 (s':={f.gY with heap:=vp,toks:=fb}) Jy GI vk Rt q.ok.inB TB fN .refl (test_name WK.n2 WK.e22 WK.kind WK.lk3 WK.dbg.2.2.1) λom vy Dl Dm Dn M M M M=>qD<|fin WK.h2 om vy aP Dl Dm Dn
   ·refine cR Rs λeC aP=>?_;rw[<-WK.w3] at aP;rw[eC] at RS;exact pass_SN (s':={f.gY with heap:=nE,toks:=fb}) RS GI vk GC q.ok.inB TB fN (test_name WK.n1 WK.e31 WK.kind WK.lk2 WK.dbg.2.1) λvp Jy Rt=>pass_SN (s':={f.gY with heap:=vp,toks:=fb}) Jy GI vk Rt q.ok.inB TB fN (test_name WK.n2 WK.e32 WK.kind WK.lk3 WK.dbg.2.2.1) λJh Vv Zn=>hit_SN0 (s':={f.gY with heap:=Jh,toks:=fb}) Vv GI vk Zn q.ok.inB TB fN .refl (test_name WK.n3 WK.e33 WK.kind WK.lk4 WK.dbg.2.2.2) λom vy Dl Dm Dn M M M M=>qD<|fin WK.h3 om vy aP Dl Dm Dn
end
theorem Jz (WK:EJ)(hnt:((ii K).map (·.1)).Nodup){t:Lv}{x:Str}{fp lp pos:Pos}{sc:Scope}{e:Expr}{xe:X}{Nw:Nat}(hn:jb t.ns x=true)(hu:nsIn K mainGlobals x=some (some<|.ref 418))(hk:keepIn K (.ref 418)=true)(hi:d9 t.ns sc=true)(Md:sc.isCoroutine=false)(Ed:sc.isGenerator=false)
  (he:cx ⟨t.O,Nw,sc.names⟩ e xe) (hev:Nw % 2=0) (hle:Nw / 2+4<=t.n / 2) (hw:t.n % 2=1):cx t (.Call (.Name x fp) [.Lambda noArgs e sc lp] [] pos) (.word (di t.ns sc.names) xe):=λf q Q E e0 P=>by
 subst e0;have P:aF bH q (q5<|aV f.t.O xe (eJ (di f.t.ns sc.names) f.N) q.Y) Q E:=P;refine yp (fV hi) λk1 k2 k3 k4=>wpAny_Call_ofName<|oV hn hu<|callWith_of rfl (λh X=>keeps_K hk h X)<|Calls.evalArgs_plain ?_
 refine wpAny_items_cons (Ju hnt rfl (vl<|iX hi q.ok) hw λfa pm Ef cA oc qn q' a es L=>wpAny_items_nil ⟨q'.s8,wpAny_call ?_⟩) rfl;have T:Jv ⟨f.t.O,Nw,sc.names⟩ sc (o7 f.env.cells sc.names []) e xe:=⟨rfl,hev,k1,Md,Ed,k2,k3,λz hz=>by
  refine aN (iX hi q.ok z hz) λad ha=>?_;exact⟨ad,by rw[nG _ _ _ (iX hi q.ok)<|.inl hz,ha]⟩,he⟩
 exact GH WK T hle L ((GG q hi).ext a)<|es▸P.shift a
section
structure pK (gx:Gx):Prop where
 attrs:uj
 meths:EB
 Aw:EC
 val:∀x v,gx.val x=some v->It x v
 fn:∀x f,gx.fn x=some f->nsIn K mainGlobals x=some (some<|.ref f)/\keepIn K (.ref f)=true
 cls:∀x C,gx.cls x=some C->nsIn K mainGlobals x=some (some<|.ref C)
 bi:∀x b,gx.bi x=some b->Iv x b
 bm:∀nm m,gx.bm nm=some m->nm=r9 m
 exc:∀C:Nat,(C==52||C==64||C==76)=true->keepIn K (.ref C)=true/\oH K C/\vu C
structure lM (gx:Gx)(O:av)(n:Nat)(wd:Bool):Prop extends pK gx where
 calls:iJ O n
 word:wd=true->∀(ns:Ns) (sc:Scope) (f:Str) (fp lp pos:Pos) (e:Expr) (xe:X),f=gx.word->jb ns f=true->d9 ns sc=true->sc.isCoroutine=false->sc.isGenerator=false->bV gx xe false e sc.names=true->
  cx ⟨O,n,ns⟩ (.Call (.Name f fp) [.Lambda noArgs e sc lp] [] pos) (.word (di ns sc.names) xe)
structure Sn (t:Lv)(e:Expr)(x:X):Prop where
 v:cx t e x
 t:pX t e x
 s:∀env r,starEach (e::r) env=(false,eval e env)::starEach r env
inductive Cp (t:Lv):Expr->X->Prop
 |mk {elt iter target:Expr} {ifs:List Expr} {rest:List Comprehension} {sc:Scope} {pos:Pos} {ts:List Nat} {xi xx:X} {Rf:Addr->Rest} {fn:Loc->List V->af->Res (aH)} (H:xB t elt iter target ifs rest sc pos ts xi xx Rf fn):Cp t (.ListComp elt (⟨target,iter,ifs,0⟩::rest) sc pos) xx
variable {e:Expr}
theorem rp {ns:Ns}(h:Ay e ns=true):∃nm fp l p,e=.Call (.Name nm fp) l [] p/\jb ns nm=true:=
 @Expr.Call.elim (λe=>Ay e ns=true->∃nm fp l p,e=.Call (.Name nm fp) l [] p/\jb ns nm=true) e (ix<|b1 h) (λf l kw p h=>
  have h:((16:Nat)==16&&(f.ctorIdx==23&&(kw.isEmpty&&jb ns (pt f).nm)))=true:=h
  @Expr.Name.elim (λf=>jb ns (pt f).nm=true->∃nm fp l' p',Expr.Call f l kw p=.Call (.Name nm fp) l' [] p'/\jb ns nm=true) f (ix<|b1<|b2 h) (λnm fp ht=>⟨nm,fp,l,p,by rw[gF<|b1<|b2<|b2 h],ht⟩) (b2<|b2<|b2 h)) h
theorem EK (h:MM e=true):∃o nm ap l p,e=.Call (.Attribute o nm ap) l [] p/\kE o=true/\l.length<30/\(ap.endLine==p.line)=true:=
 @Expr.Call.elim (λe=>MM e=true->∃o nm ap l p,e=.Call (.Attribute o nm ap) l [] p/\kE o=true/\l.length<30/\(ap.endLine==p.line)=true) e (ix<|b1 h) (λf l kw p h=>
  have h:((16:Nat)==16&&(f.ctorIdx==20&&(kw.isEmpty&&(kE (iG f 0)&&(decide (l.length+1<31)&&(pt f).line==p.line)))))=true:=h
  @Expr.Attribute.elim (λf=>(kE (iG f 0)&&(decide (l.length+1<31)&&(pt f).line==p.line))=true->∃o nm ap l' p',Expr.Call f l kw p=.Call (.Attribute o nm ap) l' [] p'/\kE o=true/\l'.length<30/\(ap.endLine==p'.line)=true) f (ix<|b1<|b2 h)
   (λo nm ap h2=>⟨o,nm,ap,l,p,by rw[gF<|b1<|b2<|b2 h],b1 h2,Nat.lt_of_succ_lt_succ<|od<|b1<|b2 h2,b2<|b2 h2⟩) (b2<|b2<|b2 h)) h
theorem rq (h:sX e=true):∀l k p,e≠.Set l k p:=λl k p q=>by subst q;cases h
theorem Nx {fr:List (Option Nat)}{ns:Ns}(h:Qv e fr ns=true):∃b sc lp,e=.Lambda noArgs b sc lp/\d9 ns sc=true/\sc.isCoroutine=false/\sc.isGenerator=false/\fr=di ns sc.names:=
 @Expr.Lambda.elim (λe=>Qv e fr ns=true->∃b sc lp,e=.Lambda noArgs b sc lp/\d9 ns sc=true/\sc.isCoroutine=false/\sc.isGenerator=false/\fr=di ns sc.names) e (ix<|b1 h) (λa b sc lp h=>by
  obtain⟨a1,a2,a3,a4,a5,a6,a7⟩:=a;have h:((4:Nat)==4&&((a1.isEmpty&&a2.isEmpty&&a3.isNone&&a4.isEmpty&&a5.isEmpty&&a6.isNone&&a7.isEmpty)&&(d9 ns sc&&(!sc.isCoroutine&&(!sc.isGenerator&&decide (fr=di ns sc.names))))))=true:=h;have ha:=b1<|b2 h
  have hb:=b2<|b2 h
  have h6:=b1 ha;have h5:=b1 h6;have h4:=b1 h5;have h3:=b1 h4;have h2:=b1 h3;refine Mn b sc lp<|O5 ?_ (b1 hb) (nn<|b1<|b2 hb) (nn<|b1<|b2<|b2 hb)<|od<|b2<|b2<|b2 hb
  rw[gF<|b1 h2,gF<|b2 h2,Option.isNone_iff_eq_none.mp<|b2 h3,gF<|b2 h4,gF<|b2 h5,Option.isNone_iff_eq_none.mp<|b2 h6,gF<|b2 ha]) h
theorem vA {α:Type}{l:List α}(h:l.length=1):∃a,l=[a]:=w5.mp h
theorem JA {α:Type}{l:List α}(h:l.length=2):∃a b,l=[a,b]:=by
 cases l with
 |nil=>cases h
 |cons a r=>
  refine aN (vA<|j7 h) λb eA=>?_;subst eA;exact FF a b rfl
theorem JB {lo hi st:Option Expr}{b:Bool}(h:decide (lo.isSome=b/\(CO lo hi st).length=1)=true):∃e,CO lo hi st=[e]/\((b=false/\lo=none/\hi=some e/\st=none)∨(b=true/\lo=some e/\hi=none/\st=none)):=by
 refine cR (od h) λmT hl=>?_;subst mT;clear h;cases st with
 |some _=>cases hl
 |none=>
  cases lo with
  |none=>
   cases hi with
   |none=>cases hl
   |some e=>exact bF e rfl<|.inl ⟨rfl,rfl,rfl,rfl⟩
  |some e=>
   cases hi with
   |none=>exact bF e rfl<|.inr ⟨rfl,rfl,rfl,rfl⟩
   |some _=>cases hl
section
variable {O:av} {gx:Gx} {n:Nat} {wd:Bool} {ns:Ns}
variable {e:Expr}
theorem Sn.plain {t:Lv}{x:X}(h:cx t e x)(hs:∀env r,starEach (e::r) env=(false,eval e env)::starEach r env)(ht:∀env whole,isTrue e env whole=(do let v<-whole;standAt e.pos;holding [v] (truthy v))):Sn t e x:=⟨h,C5 ht h,hs⟩
theorem Cp.sn {t:Lv}{x:X}(h:Cp t e x):Sn t e x:=by
 induction h with
 |mk H=>exact .plain H.snd (λM M=>rfl) λM M=>rfl
theorem Ny (T:lM gx O n wd){v:V}(h:bV gx (.c v) wd e ns=true):Sn ⟨O,n,ns⟩ e (.c v):=by
 have h:(match ML gx e ns with
  |some u=>V.beq u v
  |none=>false)=true:=h
 cases q:ML gx e ns with
 |none=>rw[q] at h;cases h
 |some u=>
  rw[q] at h;obtain rfl:u=v:=V.beq_eq h;unfold ML at q;by_cases h1:(e.ctorIdx==19)=true
  ·rw[if_pos h1] at q;exact @Expr.Constant.elim (λe=>(pt e).k.bind CN=some u->Sn ⟨O,n,ns⟩ e (.c u)) e (ix h1) (λk j p q=>.plain (snd_const q) (λM M=>rfl) λM M=>rfl) q
  ·rw[if_neg h1] at q;by_cases h2:(e.ctorIdx==23)=true
   ·rw[if_pos h2] at q;refine kQ (pG<|ix h2) λnm p uX=>?_;subst uX;have q:(if ((fh ns nm).isNone&&jb ns nm)=true then gx.val nm else none)=some u:=q;by_cases h3:((fh ns nm).isNone&&jb ns nm)=true
    ·rw[if_pos h3] at q;exact .plain (MU (b2 h3)<|T.val _ _ q) (λM M=>rfl) λM M=>rfl
    ·rw[if_neg h3] at q;cases q
   ·rw[if_neg h2] at q;by_cases h3:(e.ctorIdx==3&&(pt e).uop==some .USub&&(iG e 0).ctorIdx==19)=true
    ·rw[if_pos h3] at q;exact @Expr.UnaryOp.elim (λe=>(e.ctorIdx==3&&(pt e).uop==some .USub&&(iG e 0).ctorIdx==19)=true->(match (pt<|iG e 0).k with
      |some (.int i)=>some<|V.int (-i)
      |_=>none)=some u->Sn ⟨O,n,ns⟩ e (.c u)) e (ix<|b1<|b1 h3) (λop a p h3 q=>by
       have h4:(((3:Nat)==3&&some op==some .USub)&&a.ctorIdx==19)=true:=h3;obtain rfl:op=.USub:=aU<|eq_of_beq<|b2<|b1 h4
       exact @Expr.Constant.elim (λa=>(match (pt a).k with
        |some (.int i)=>some<|V.int (-i)
        |_=>none)=some u->Sn ⟨O,n,ns⟩ (.UnaryOp .USub a p) (.c u)) a (ix<|b2 h4) (λk j pk q=>by
         cases k with
         |int i=>cases q;exact .plain Nc (λM M=>rfl) λM M=>rfl
         |_=>cases q) q) h3 q
    ·rw[if_neg h3] at q;cases q
theorem JC {fr:List (Option Nat)}{ts:List Nat}{it elt:X}{cd:List X}(Hy:∀(e:Expr) (ns:Ns),bV gx it wd e ns=true->Sn ⟨O,n,ns⟩ e it)(W3:∀(es:List Expr) (ns:Ns),lE gx cd wd es ns=true->dC ⟨O,n,ns⟩ es cd)(SZ:∀(e:Expr) (ns:Ns),bV gx elt wd e ns=true->Sn ⟨O,n,ns⟩ e elt)
  {e:Expr} (h:bV gx (.comp fr ts it cd elt) wd e ns=true):Cp ⟨O,n,ns⟩ e (.comp fr ts it cd elt):=
 @Expr.ListComp.elim (λe=>bV gx (.comp fr ts it cd elt) wd e ns=true->Cp ⟨O,n,ns⟩ e (.comp fr ts it cd elt)) e (ix<|b1 h) (λbC gs sc p h=>by
  refine aN (vA<|od<|b1<|b2 h) λp4q Gs=>?_;obtain⟨t,i,ifs,k⟩:=p4q;subst Gs;have h3:=b2<|b2 h
  have h1:(d9 ns sc&&(k==0&&(sX i&&decide (fr=di ns sc.names/\f0 sc.names t=some ts))))=true:=b1 h3;obtain rfl:k=0:=eq_of_beq<|b1<|b2 h1
  refine cR (od<|b2<|b2<|b2 h1) λQ1 LY=>?_;subst Q1;have h4:=b2 h3;exact⟨Ra (b1 h1) LY (rq<|b1<|b2<|b2 h1) (Hy i ns<|b1 h4).v (W3 ifs sc.names<|b1<|b2 h4) (SZ bC sc.names<|b2<|b2 h4).v⟩) h
theorem JD {fr:List (Option Nat)}{ts qP:List Nat}{it qQ elt:X}(Hy:∀(e:Expr) (ns:Ns),bV gx it wd e ns=true->Sn ⟨O,n,ns⟩ e it)(S0:∀(e:Expr) (ns:Ns),bV gx qQ wd e ns=true->Sn ⟨O,n,ns⟩ e qQ)(SZ:∀(e:Expr) (ns:Ns),bV gx elt wd e ns=true->Sn ⟨O,n,ns⟩ e elt)
  {e:Expr} (h:bV gx (.comp2 fr ts it qP qQ elt) wd e ns=true):Cp ⟨O,n,ns⟩ e (.comp2 fr ts it qP qQ elt):=
 @Expr.ListComp.elim (λe=>bV gx (.comp2 fr ts it qP qQ elt) wd e ns=true->Cp ⟨O,n,ns⟩ e (.comp2 fr ts it qP qQ elt)) e (ix<|b1 h) (λbC gs sc p h=>by
  refine kQ (JA<|od<|b1<|b2 h) λp7q p8q Zo=>?_;obtain⟨t,i,ifs,k⟩:=p7q;obtain⟨t2,i2,W4,k2⟩:=p8q;subst Zo;have h3:=b2<|b2 h
  have h1:(d9 ns sc&&(k==0&&(sX i&&decide (fr=di ns sc.names/\f0 sc.names t=some ts))))=true:=b1 h3;obtain rfl:k=0:=eq_of_beq<|b1<|b2 h1
  refine cR (od<|b2<|b2<|b2 h1) λRu LY=>?_;subst Ru;have h2:(k2==0&&(sX i2&&(ifs.isEmpty&&(W4.isEmpty&&decide (f0 sc.names t2=some qP)))))=true:=b1<|b2 h3
  obtain rfl:k2=0:=eq_of_beq<|b1 h2
  obtain rfl:ifs=[]:=gF<|b1<|b2<|b2 h2
  obtain rfl:W4=[]:=gF<|b1<|b2<|b2<|b2 h2
  have h4:=b2<|b2 h3
  exact⟨Rb (b1 h1) LY (od<|b2<|b2<|b2<|b2 h2) (rq<|b1<|b2<|b2 h1) (rq<|b1<|b2 h2) (Hy i ns<|b1 h4).v (S0 i2 sc.names<|b1<|b2 h4).v (SZ bC sc.names<|b2<|b2 h4).v⟩) h
theorem gu (T:lM gx O n wd)(x:X):∀(e:Expr) (ns:Ns),bV gx x wd e ns=true->Sn ⟨O,n,ns⟩ e x:=by
 refine @X.rec (λx=>∀(e:Expr) (ns:Ns),bV gx x wd e ns=true->Sn ⟨O,n,ns⟩ e x) (λl=>∀(es:List Expr) (ns:Ns),lE gx l wd es ns=true->dC ⟨O,n,ns⟩ es l)
  ?l ?c ?U ?s ?dct ?m ?and ?or ?not ?ite ?bin ?i ?slcTo ?slcFrom ?attr ?call ?new ?bI ?bi ?bm ?comp ?comp2 ?word ?nil ?cons x
 case l=>
  intro i e ns h;refine kQ (pG<|ix<|b1 h) λnm p Zp=>?_;subst Zp;exact .plain (MT<|od<|b2 h) (λM M=>rfl) λM M=>rfl
 case c=>exact λv e ns h=>Ny T h
 case U=>
  intro l ih e ns h;exact @Expr.Tuple.elim (λe=>bV gx (.U l) wd e ns=true->Sn ⟨O,n,ns⟩ e (.U l)) e (ix<|b1 h) (λes k p h=>
   have hs:=ih es ns<|b2<|b2 h
   .plain (MW (od<|b1<|b2 h) hs.length hs.C4) (λM M=>rfl) λM M=>rfl) h
 case s=>
  intro l ih e ns h;exact @Expr.List.elim (λe=>bV gx (.s l) wd e ns=true->Sn ⟨O,n,ns⟩ e (.s l)) e (ix<|b1 h) (λes p h=>
   have hs:=ih es ns<|b2<|b2 h
   .plain (MX (od<|b1<|b2 h) hs.length hs.C4) (λM M=>rfl) λM M=>rfl) h
 case dct=>
  intro ks l ih e ns h;exact @Expr.Dict.elim (λe=>bV gx (.dct ks l) wd e ns=true->Sn ⟨O,n,ns⟩ e (.dct ks l)) e (ix<|b1 h) (λkeys es p h=>
   have hd:=od<|b1<|b2<|b2 h
   .plain (Nh (b1<|b2 h) hd.1 hd.2.1 hd.2.2<|ih es ns<|b2<|b2<|b2 h) (λM M=>rfl) λM M=>rfl) h
 case m=>
  intro op a b rO S1 e ns h;exact @Expr.Compare.elim (λe=>bV gx (.m op a b) wd e ns=true->Sn ⟨O,n,ns⟩ e (.m op a b)) e (ix<|b1 h) (λbC ops es p h=>by
   refine cR (od<|b1<|b2 h) λh1 h2=>?_;obtain rfl:ops=[op]:=h1;refine aN (vA<|j7 h2) λcC Zq=>?_;subst Zq;have h3:=b2<|b2 h
   have hm:=nn<|b1 h3
   have ha:=(rO bC ns<|b1<|b2 h3).v;have hb:=(S1 cC ns<|b2<|b2 h3).v;exact⟨M5 hm ha hb,IR hm ha hb,λM M=>rfl⟩) h
 case and=>
  intro l ih e ns h;exact @Expr.BoolOp.elim (λe=>bV gx (.and l) wd e ns=true->Sn ⟨O,n,ns⟩ e (.and l)) e (ix<|b1 h) (λop es p h=>by
   obtain rfl:op=.And:=aU<|od<|b1<|b2 h
   have hs:=ih es ns<|b2<|b2 h
   exact⟨snd_and hs,IY hs,λM M=>rfl⟩) h
 case or=>
  intro l ih e ns h;exact @Expr.BoolOp.elim (λe=>bV gx (.or l) wd e ns=true->Sn ⟨O,n,ns⟩ e (.or l)) e (ix<|b1 h) (λop es p h=>by
   obtain rfl:op=.Or:=aU<|od<|b1<|b2 h
   have hs:=ih es ns<|b2<|b2 h
   exact⟨QU hs,Na hs,λM M=>rfl⟩) h
 case not=>
  intro a ih e ns h;exact @Expr.UnaryOp.elim (λe=>bV gx (.not a) wd e ns=true->Sn ⟨O,n,ns⟩ e (.not a)) e (ix<|b1 h) (λop bC p h=>by
   obtain rfl:op=.Not:=aU<|od<|b1<|b2 h
   have h1:=ih bC ns<|b2<|b2 h
   exact⟨Nb h1.v,IZ h1.t,λM M=>rfl⟩) h
 case ite=>
  intro c a b W3 rO S1 e ns h;exact @Expr.IfExp.elim (λe=>bV gx (.ite c a b) wd e ns=true->Sn ⟨O,n,ns⟩ e (.ite c a b)) e (ix<|b1 h) (λbC cC C6 p h=>
   have h1:=W3 bC ns<|b1<|b2 h
   have h2:=rO cC ns<|b1<|b2<|b2 h
   have h3:=S1 C6 ns<|b2<|b2<|b2 h
   ⟨M6 h1.t h2.v h3.v,I0 h1.t h2.t h3.t,λM M=>rfl⟩) h
 case bin=>
  intro op a b rO S1 e ns h;exact @Expr.BinOp.elim (λe=>bV gx (.bin op a b) wd e ns=true->Sn ⟨O,n,ns⟩ e (.bin op a b)) e (ix<|b1 h) (λbC op' cC p h=>by
   obtain rfl:op'=op:=aU<|od<|b1<|b2 h
   exact .plain (M4 (rO bC ns<|b1<|b2<|b2 h).v (S1 cC ns<|b2<|b2<|b2 h).v) (λM M=>rfl) λM M=>rfl) h
 case i=>
  intro a i rO Hy e ns h;exact @Expr.Subscript.elim (λe=>bV gx (.i a i) wd e ns=true->Sn ⟨O,n,ns⟩ e (.i a i)) e (ix<|b1 h) (λbC cC p h=>
   have h1:(!(cC.ctorIdx==26))=true:=b1<|b2 h
   .plain (M7 (λa b c p q=>by subst q;cases h1) (rO bC ns<|b1<|b2<|b2 h).v (Hy cC ns<|b2<|b2<|b2 h).v) (λM M=>rfl) λM M=>rfl) h
 case slcTo=>
  intro a i rO Hy e ns h;exact @Expr.Subscript.elim (λe=>bV gx (.slcTo a i) wd e ns=true->Sn ⟨O,n,ns⟩ e (.slcTo a i)) e (ix<|b1 h) (λbC cC p h=>
   @Expr.Slice.elim (λcC=>bV gx (.slcTo a i) wd (.Subscript bC cC p) ns=true->Sn ⟨O,n,ns⟩ (.Subscript bC cC p) (.slcTo a i)) cC (ix<|b1<|b2 h) (λlo hi st q h=>by
    obtain⟨e',he,⟨_,rfl,rfl,rfl⟩ | ⟨hf,_⟩⟩:=JB<|b1<|b2<|b2 h
    ·have h2:=b2<|b2<|b2 h
     exact .plain (Gk (rO bC ns<|b1 h2).v (Hy e' ns<|b2 h2).v) (λM M=>rfl) λM M=>rfl
    ·cases hf) h) h
 case slcFrom=>
  intro a i rO Hy e ns h;exact @Expr.Subscript.elim (λe=>bV gx (.slcFrom a i) wd e ns=true->Sn ⟨O,n,ns⟩ e (.slcFrom a i)) e (ix<|b1 h) (λbC cC p h=>
   @Expr.Slice.elim (λcC=>bV gx (.slcFrom a i) wd (.Subscript bC cC p) ns=true->Sn ⟨O,n,ns⟩ (.Subscript bC cC p) (.slcFrom a i)) cC (ix<|b1<|b2 h) (λlo hi st q h=>by
    obtain⟨e',he,⟨hf,_⟩ | ⟨_,rfl,rfl,rfl⟩⟩:=JB<|b1<|b2<|b2 h
    ·cases hf
    ·have h2:=b2<|b2<|b2 h
     exact .plain (AS (rO bC ns<|b1 h2).v (Hy e' ns<|b2 h2).v) (λM M=>rfl) λM M=>rfl) h) h
 case attr=>
  intro a nm ih e ns h;exact @Expr.Attribute.elim (λe=>bV gx (.attr a nm) wd e ns=true->Sn ⟨O,n,ns⟩ e (.attr a nm)) e (ix<|b1 h) (λbC Mf p h=>by
   obtain rfl:Mf=nm:=od<|b1<|b2 h
   exact .plain (IT T.attrs (b1<|b2<|b2 h) (ih bC ns<|b2<|b2<|b2 h).v) (λM M=>rfl) λM M=>rfl) h
 case call=>
  intro f l ih e ns h;refine nk (rp<|b1 h) λnm fp es p Zr ht=>?_;subst Zr;exact cR (T.fn nm f<|od<|b1<|b2 h) λk1 k2=>.plain (I1 T.calls ht k1 k2<|ih es ns<|b2<|b2 h) (λM M=>rfl) λM M=>rfl
 case new=>
  intro C l ih e ns h;refine nk (rp<|b1 h) λnm fp es p Zs ht=>?_;subst Zs;exact .plain (Nd T.calls T.Aw ht (T.cls nm C<|od<|b1<|b2 h)<|ih es ns<|b2<|b2 h) (λM M=>rfl) λM M=>rfl
 case bI=>
  intro a nm l rO ih e ns h;refine Mj (EK<|b1 h) λo Mf ap es p zq=>L4 zq λZt hb hl hp=>?_;subst Zt;obtain rfl:Mf=nm:=od<|b1<|b2 h
  exact .plain (I3 T.calls T.meths hb hl hp (rO o ns<|b1<|b2<|b2 h).v<|ih es ns<|b2<|b2<|b2 h) (λM M=>rfl) λM M=>rfl
 case bi=>
  intro b l ih e ns h;refine nk (rp<|b1 h) λnm fp es p Zu ht=>?_;subst Zu;exact .plain (QV ht (T.bi nm b<|od<|b1<|b2 h)<|ih es ns<|b2<|b2 h) (λM M=>rfl) λM M=>rfl
 case bm=>
  intro a m l rO ih e ns h;refine Mj (EK<|b1 h) λo Mf ap es p zq=>L4 zq λZv hb hl hp=>?_;subst Zv;obtain rfl:Mf=r9 m:=T.bm Mf m<|od<|b1<|b2 h
  exact .plain (QW hb hl hp (rO o ns<|b1<|b2<|b2 h).v<|ih es ns<|b2<|b2<|b2 h) (λM M=>rfl) λM M=>rfl
 case comp=>exact λfr ts it cond elt Hy W3 SZ e ns h=>(JC Hy W3 SZ h).sn
 case comp2=>exact λfr ts it qP qQ elt Hy S0 SZ e ns h=>(JD Hy S0 SZ h).sn
 case word=>
  intro fr a _ e ns h;refine nk (rp<|b1<|b2 h) λnm fp es p Zw ht=>?_;subst Zw;have h3:=b2<|b2 h
  refine cR (od<|b1 h3) λhl hw=>?_;refine aN (vA<|j7 hl) λbC Zx=>?_;subst Zx;refine Mm (Nx<|b1<|b2 h3) λb sc lp Zy k1 k2 k3 Zz=>?_;subst Zy;subst Zz;exact .plain (T.word (b1 h) ns sc nm fp lp p b a hw ht k1 k2 k3<|b2<|b2 h3) (λM M=>rfl) λM M=>rfl
 case nil=>
  intro es ns h;rw[gF h];exact .nil
 case cons=>
  intro a r rO LN es ns h;rw[nX (b1 h) L7];have h1:=rO _ ns<|b1<|b2 h
  exact .cons h1.s h1.v h1.t<|LN _ ns<|b2<|b2 h
theorem Nz (T:lM gx O n wd):∀(l:List X) (es:List Expr) (ns:Ns),lE gx l wd es ns=true->dC ⟨O,n,ns⟩ es l:=by
 intro l
 induction l with
 |nil=>
  intro es ns h;rw[gF h];exact .nil
 |cons a r ih=>
  intro es ns h;rw[nX (b1 h) L7];have h1:=gu T a _ ns<|b1<|b2 h
  exact .cons h1.s h1.v h1.t<|ih _ ns<|b2<|b2 h
end
end
section
variable {O:av} {gx:Gx} {n W:Nat} {wd:Bool} {ns:Ns}
structure Rv (tt:Lv)(e:Expr)(x:T):Prop where
 t:th tt e x
 s:∀env r,assignEach (e::r) env=(false,assign e env)::assignEach r env
 n:∀id p,e=.Name id p->∃i,x=.l i/\qd tt.ns id=some i
theorem zg (TX:lM gx O n wd)(x:Internal.T):∀(e:Expr) (ns:Ns),tQ gx x wd e ns=true->Rv ⟨O,n,ns⟩ e x:=by
 refine @T.rec (λx=>∀(e:Expr) (ns:Ns),tQ gx x wd e ns=true->Rv ⟨O,n,ns⟩ e x) (λl=>∀(es:List Expr) (ns:Ns),Az gx l wd es ns=true->jN ⟨O,n,ns⟩ es l) ?l ?U ?attr ?sub ?nil ?cons x
 case l=>
  intro i e ns h;have h:(e.ctorIdx==23&&decide (qd ns (pt e).nm=some i))=true:=h;refine kQ (pG<|ix<|b1 h) λnm p eA=>?_;subst eA;exact⟨vr<|od<|b2 h,λM M=>rfl,λid p e=>⟨i,rfl,(Expr.Name.inj e).1▸od (b2 h)⟩⟩
 case U=>
  intro l ih e ns h;exact @Expr.Tuple.elim (λe=>tQ gx (.U l) wd e ns=true->Rv ⟨O,n,ns⟩ e (.U l)) e (ix<|b1 h) (λes k p h=>
   have h:((25:Nat)==25&&Az gx l wd es ns)=true:=h
   ⟨xD<|ih es ns<|b2 h,λM M=>rfl,λM M e=>Expr.noConfusion e⟩) h
 case attr=>
  intro a nm e ns h;exact @Expr.Attribute.elim (λe=>tQ gx (.attr a nm) wd e ns=true->Rv ⟨O,n,ns⟩ e (.attr a nm)) e (ix<|b1 h) (λbC Mf p h=>by
   have h:((20:Nat)==20&&(decide (Mf=nm)&&bV gx a wd bC ns))=true:=h;obtain rfl:Mf=nm:=od<|b1<|b2 h
   exact⟨Dd TX.attrs (gu TX a bC ns<|b2<|b2 h).v,λM M=>rfl,λM M e=>Expr.noConfusion e⟩) h
 case sub=>
  intro a i e ns h;exact @Expr.Subscript.elim (λe=>tQ gx (.sub a i) wd e ns=true->Rv ⟨O,n,ns⟩ e (.sub a i)) e (ix<|b1 h) (λbC cC p h=>
   have h:((21:Nat)==21&&(bV gx a wd bC ns&&bV gx i wd cC ns))=true:=h
   ⟨GB (gu TX a bC ns<|b1<|b2 h).v (gu TX i cC ns<|b2<|b2 h).v,λM M=>rfl,λM M e=>Expr.noConfusion e⟩) h
 case nil=>
  intro es ns h;rw[gF h];exact .nil
 case cons=>
  intro a r rO LN es ns h;rw[nX (b1 h) L7];have h1:=rO _ ns<|b1<|b2 h
  exact .cons (λenv=>h1.s env _) h1.n h1.t<|LN _ ns<|b2<|b2 h
theorem JE (TX:lM gx O n wd){l:List Internal.T}:∀{es:List Expr},Az gx l wd es ns=true->jN ⟨O,n,ns⟩ es l:=by
 induction l with
 |nil=>
  intro es h;rw[gF h];exact .nil
 |cons a r ih=>
  intro es h;rw[nX (b1 h) L7];have h1:=zg TX a _ ns<|b1<|b2 h
  exact .cons (λenv=>h1.s env _) h1.n h1.t<|ih<|b2<|b2 h
theorem rt {e:Expr}(h:pF e=true)(t:Option Expr)(l:Nat)(env:Env):swapsWith e t l env=pure false:=
 A7 (λM M M M q=>(by rw[q] at h;exact Bool.noConfusion<|b1 h)) (λM M M M q=>(by rw[q] at h;exact Bool.noConfusion<|b1<|b2 h)) (λM M M M M q=>(by rw[q] at h;exact Bool.noConfusion<|b2<|b2 h)) t l env
theorem Cp.set {t:Lv}{e:Expr}{x:X}{nm:Str}{p pos:Pos}{i:Nat}(h:Cp t e x)(q:qd t.ns nm=some i):gD t W (.Assign [.Name nm p] e pos) (.set (.l i) x):=by
 induction h with
 |mk H=>exact vw q H
theorem Rx (TX:lM gx O n wd){a:X}{e:Expr}(hc:yI a=true)(h:bV gx a wd e ns=true):Cp ⟨O,n,ns⟩ e a:=by
 cases a with
 |comp fr ts it cd elt=>exact JC (gu TX it) (Nz TX cd) (gu TX elt) h
 |comp2 fr ts it qP qQ elt=>exact JD (gu TX it) (gu TX qQ) (gu TX elt) h
 |_=>exact Bool.noConfusion hc
theorem GJ (TX:lM gx O n wd){t:Internal.T}{a:X}{bC e:Expr}{p:Pos}(ok:uW e=true)(hc:(pF e||(yI a&&t.ctorIdx==0))=true)(q1:tQ gx t wd bC ns=true)(q2:bV gx a wd e ns=true):gD ⟨O,n,ns⟩ W (.Assign [bC] e p) (.set t a):=by
 have h1:=zg TX t bC ns q1;have h2:=gu TX a e ns q2;refine aZ (MN hc) (λhn=>?_) λhc=>?_
 ·cases t with
  |U ts=>
   exact @Expr.Tuple.elim (λbC=>tQ gx (.U ts) wd bC ns=true->gD ⟨O,n,ns⟩ W (.Assign [bC] e p) (.set (.U ts) a)) bC (ix<|b1 q1) (λl k tp q1=>wM ok (JE TX<|b2 (a:=(25:Nat)==25) q1) h2.v) q1
  |l i=>
   refine kQ (pG<|ix<|b1 q1) λnm np mT=>?_;subst mT;exact qC (λM=>rfl) (λl env=>rt hn _ _ _) (λM=>rfl) h2.v h1.t
  |attr b nm=>
   exact @Expr.Attribute.elim (λbC=>Rv ⟨O,n,ns⟩ bC (.attr b nm)->gD ⟨O,n,ns⟩ W (.Assign [bC] e p) (.set (.attr b nm) a)) bC (ix<|b1 q1) (λo Mf ap h1=>qC (λM=>rfl) (λl env=>rt hn _ _ _) (λM=>rfl) h2.v h1.t) h1
  |sub b i=>
   exact @Expr.Subscript.elim (λbC=>Rv ⟨O,n,ns⟩ bC (.sub b i)->gD ⟨O,n,ns⟩ W (.Assign [bC] e p) (.set (.sub b i) a)) bC (ix<|b1 q1) (λo i' ap h1=>qC (λM=>rfl) (λl env=>rt hn _ _ _) (λM=>rfl) h2.v h1.t) h1
 ·cases t with
  |l i=>
   refine kQ (pG<|ix<|b1 q1) λnm np uX=>?_;subst uX;exact(Rx TX (b1 hc) q2).set (od<|b2 (a:=(23:Nat)==23) q1)
  |_=>exact Bool.noConfusion<|b2 hc
end
section
variable {O:av} {gx:Gx} {n W:Nat} {wd:Bool} {ns:Ns}
theorem NA (TX:lM gx O n wd)(x:S):∀st:Stmt,wG gx x wd st ns=true->gD ⟨O,n,ns⟩ W st x:=by
 refine @S.rec (λx=>∀st:Stmt,wG gx x wd st ns=true->gD ⟨O,n,ns⟩ W st x) (λl=>∀st:List Stmt,rY gx l wd st ns=true->n7 ⟨O,n,ns⟩ W st l) ?ex ?set ?ret ?ite ?whl ?fr ?raise ?nil ?cons x
 case ex=>
  intro a st h;exact @Stmt.Expr.elim (λst=>wG gx (.ex a) wd st ns=true->gD ⟨O,n,ns⟩ W st (.ex a)) st (ix<|b1<|show(_&&_)=true from h) (λe p h=>
   have h:((24:Nat)==24&&(pF e&&bV gx a wd e ns))=true:=h
   Jo (rt<|b1<|b2 h) (gu TX a e ns<|b2<|b2 h).v) h
 case set=>
  intro t a st h;exact @Stmt.Assign.elim (λst=>wG gx (.set t a) wd st ns=true->gD ⟨O,n,ns⟩ W st (.set t a)) st (ix<|b1<|show(_&&_)=true from h) (λts e p h=>by
   have h:((5:Nat)==5&&(decide (ts.length+1=2)&&(uW e&&((pF e||(yI a&&t.ctorIdx==0))&&(tQ gx t wd (ex (.Assign ts e p) 1) ns&&bV gx a wd e ns)))))=true:=h;refine aN (vA<|j7<|od<|b1<|b2 h) λbC eA=>?_;subst eA;have h2:=b2<|b2 h
   exact GJ TX (b1 h2) (b1<|b2 h2) (b1<|b2<|b2 h2)<|b2<|b2<|b2 h2) h
 case ret=>
  intro a st h;exact @Stmt.Return.elim (λst=>wG gx (.ret a) wd st ns=true->gD ⟨O,n,ns⟩ W st (.ret a)) st (ix<|b1<|show(_&&_)=true from h) (λv p h=>by
   have h:((3:Nat)==3&&(decide (v.toList.length=1)&&bV gx a wd (ex (.Return v p) 0) ns))=true:=h;cases v with
   |none=>exact Nat.noConfusion<|od<|b1<|b2 h
   |some e=>exact De (gu TX a e ns<|b2<|b2 h).v) h
 case ite=>
  intro c a b rO S1 st h;exact @Stmt.If.elim (λst=>wG gx (.ite c a b) wd st ns=true->gD ⟨O,n,ns⟩ W st (.ite c a b)) st (ix<|b1<|show(_&&_)=true from h) (λe l₁ l₂ p h=>
   have h:((12:Nat)==12&&(bV gx c wd e ns&&(rY gx a wd l₁ ns&&rY gx b wd l₂ ns)))=true:=h
   Rd (gu TX c e ns<|b1<|b2 h).t (rO l₁<|b1<|b2<|b2 h) (S1 l₂<|b2<|b2<|b2 h)) h
 case whl=>
  intro c a rO st h;exact @Stmt.While.elim (λst=>wG gx (.whl c a) wd st ns=true->gD ⟨O,n,ns⟩ W st (.whl c a)) st (ix<|b1<|show(_&&_)=true from h) (λe l₁ l₂ p h=>by
   have h:((11:Nat)==11&&(l₂.isEmpty&&(bV gx c wd e ns&&rY gx a wd l₁ ns)))=true:=h;obtain rfl:l₂=[]:=gF<|b1<|b2 h
   exact GD (gu TX c e ns<|b1<|b2<|b2 h).t<|rO l₁<|b2<|b2<|b2 h) h
 case fr=>
  intro t it a rO st h;exact @Stmt.For.elim (λst=>wG gx (.for t it a) wd st ns=true->gD ⟨O,n,ns⟩ W st (.for t it a)) st (ix<|b1<|show(_&&_)=true from h) (λbC cC l₁ l₂ p h=>by
   have h:((9:Nat)==9&&(l₂.isEmpty&&(sX cC&&(tQ gx t wd bC ns&&(bV gx it wd cC ns&&rY gx a wd l₁ ns)))))=true:=h;obtain rfl:l₂=[]:=gF<|b1<|b2 h
   have h3:=b2<|b2 h
   exact No (rq<|b1 h3) (zg TX t bC ns<|b1<|b2 h3).t (gu TX it cC ns<|b1<|b2<|b2 h3).v<|rO l₁<|b2<|b2<|b2 h3) h
 case raise=>
  intro C a b st h;exact @Stmt.Raise.elim (λst=>wG gx (.raise C a b) wd st ns=true->gD ⟨O,n,ns⟩ W st (.raise C a b)) st (ix<|b1<|show(_&&_)=true from h) (λexc cause p h=>by
   have h:((16:Nat)==16&&(decide ((ps<|.Raise exc cause p).es.length=1/\(pt<|ex (.Raise exc cause p) 0).l.length=3)&&(Ay (ex (.Raise exc cause p) 0) ns&&(decide (gx.cls (pt<|iG (ex (.Raise exc cause p) 0) 0).nm=some C)&&((C==52||C==64||C==76)&&(bV gx a wd (iG (ex (.Raise exc cause p) 0) 1) ns&&bV gx b wd (iG (ex (.Raise exc cause p) 0) 2) ns))))))=true:=h;refine cR (od<|b1<|b2 h) λk1 k2=>?_;cases cause with
   |some _=>exact Nat.noConfusion k1
   |none=>
    cases exc with
    |none=>exact Nat.noConfusion k1
    |some e=>
     have h3:=b2<|b2 h
     refine nk (rp<|b1 h3) λnm fp es q mT ht=>?_;subst mT;refine kQ (JA<|j7 k2) λbC cC uX=>?_;subst uX;have h4:=b2<|b2 h3
     have h1:=gu TX a bC ns<|b1<|b2 h4
     have h2:=gu TX b cC ns<|b2<|b2 h4
     refine qV (TX.exc C<|b1 h4) λx0 x1 x2=>?_;exact GE ht (TX.cls nm C<|od<|b1<|b2 h3) x0 x1 x2<|.cons h1.s h1.v h1.t<|.cons h2.s h2.v h2.t .nil) h
 case nil=>
  intro st h;rw[gF h];exact EG
 case cons=>
  intro a r rO LN st h;cases st with
  |nil=>exact Bool.noConfusion h
  |cons s t=>
   have h:=h;exact A8 (rO s<|b1 h)<|LN t<|b2 h
theorem nI (TX:lM gx O n wd):∀(l:List S) (st:List Stmt),rY gx l wd st ns=true->n7 ⟨O,n,ns⟩ W st l:=by
 intro l
 induction l with
 |nil=>
  intro st h;rw[gF h];exact EG
 |cons a r ih=>
  intro st h;cases st with
  |nil=>exact Bool.noConfusion h
  |cons s t=>
   have h:=h;exact A8 (NA TX a s<|b1 h)<|ih t<|b2 h
end
section
variable {O:av} {gx:Gx} {n n':Nat} {f:Fz} {q:St f}
@[reducible] noncomputable def Fz.at (f:Fz)(n:Nat):Fz:={f with t:={f.t with n:=n}}
theorem Ok.at (ok:Ok f.toFx f.t f.env)(h:n / 2<=f.t.n / 2)(hw:n % 2=1->f.t.n % 2=1):Ok f.toFx {f.t with n:=n} f.env:=
 {inB:=ok.inB,qj:=ok.qj,hh:=ok.hh,frames:=ok.frames,frame:=ok.frame,fkind:=ok.fkind,depth:=lm (nY (uC h _) 3) ok.depth,units:=lm (nY (uC (Nat.mul_le_mul_left 10 h) _) 200) ok.units,
  wordy:=λh=>ok.wordy<|hw h,kind:=ok.kind,globals:=ok.globals,builtins:=ok.builtins,eframe:=ok.eframe,code:=ok.code,qual:=ok.qual,top:=ok.top,local':=ok.local',cell:=ok.cell}
noncomputable def St.at (q:St f)(h:n / 2<=f.t.n / 2)(hw:n % 2=1->f.t.n % 2=1):St (f.at n):=
 {b:=q.b,h:=q.h,ρ:=q.ρ,Z:=q.Z,Y:=q.Y,tk:=q.tk,ok:=q.ok.at h hw,below:=q.below,dicts:=q.dicts,fr:=q.fr,news:=q.news,rep:=q.rep,lo:=q.lo}
noncomputable def St.back (q:St f)(q':St (f.at n)):St f:=
 {b:=q'.b,h:=q'.h,ρ:=q'.ρ,Z:=q'.Z,Y:=q'.Y,tk:=q'.tk,ok:=q.ok,below:=q'.below,dicts:=q'.dicts,fr:=q'.fr,news:=q'.news,rep:=q'.rep,lo:=q'.lo}
theorem aF.at {α β:Type}{R:Rl α β}{r:Res β}{Q:α->Shared->Prop}{E:dz}(P:aF R q r Q E)(h:n / 2<=f.t.n / 2)(hw:n % 2=1->f.t.n % 2=1):aF R (q.at h hw) r Q E:=by
 cases r with
 |ok v Y=>exact λu q' a e i=>P u (q.back q') ⟨a.ext,a.turn⟩ e i
 |exc C Y=>exact P
 |stuck=>exact P
theorem iJ.weaken (S:iJ O n)(h:n / 2<=n' / 2)(hw:n % 2=1->n' % 2=1):iJ O n':=
 λa f q A' Q E us vs hn h1 h2 h3 h4 i P=>by
  subst hn;exact S a (f.at n) (q.at h hw) A' Q E us vs rfl h1 h2 h3 h4 i<|P.at h hw
structure zh (gx:Gx):Prop where
 Do:Nonempty EJ
 nd:((ii K).map (·.1)).Nodup
 name:nsIn K mainGlobals gx.word=some (some<|.ref 418)
 keep:keepIn K (.ref 418)=true
def Dp (gx:Gx)(tx:Text):Prop:=∀f i,tx.fn f=some i->∃D,n8 gx f i D (iH.contains f)/\(iH.contains f=true->EI D)
theorem gi (m:Nat):2 * m / 2=m:=Nat.mul_div_cancel_left _ Nat.two_pos
theorem nJ {m:Nat}{P:Prop}(h:2 * m % 2=1):P:=absurd ((Nat.mul_mod_right 2 m).symm.trans h) (by lk)
theorem ru (m:Nat):(2 * m+1) / 2=m:=Nat.mul_add_div Nat.two_pos m 1
theorem lN (aaL:pK gx)(S:iJ O n):lM gx O n false:=⟨aaL,S,λh=>Bool.noConfusion h⟩
theorem so (aaL:pK gx)(WO:zh gx){m:Nat}(S:iJ O (2 * m)):lM gx O (2 * (m+4)+1) true:=by
 refine⟨aaL,S.weaken (by rw[gi,ru];exact ej _ _) nJ,λM ns sc f fp lp pos e xe hf hn hi Md Ed hq=>?_⟩;obtain⟨WK⟩:=WO.Do;subst hf;exact Jz WK WO.nd hn WO.name WO.keep hi Md Ed (gu (lN aaL S) xe e sc.names hq).v (Nat.mul_mod_right 2 m) (by show 2 * m / 2+4<=(2 * (m+4)+1) / 2;rw[gi,ru];exact ba _)<|Nat.mul_add_mod 2 (m+4) 1
theorem NB {tx:Text}(aaL:pK gx)(WO:zh gx)(D:Dp gx tx)(k:Nat):iJ (run tx k) (2 * (6 * k)):=by
 induction k with
 |zero=>exact λM M M M M M M M M M M M M M P=>P.elim
 |succ k S=>
  have:iJ (run tx (k+1)) (2 * ((6 * k+4)+2)):=zf λf i hf=>by
   refine aJ (D f i hf) λDD X hd=>?_;cases hw:iH.contains f with
   |true=>
    rw[hw] at X hd;exact tL DD (2 * (6 * k+4)+1) true X (by rw[ru];exact ba _) (λM=>hd rfl)<|nI (so aaL WO S) _ _ X.body
   |false=>
    rw[hw] at X;exact tL DD (2 * (6 * k+4)) false X (by rw[gi];exact ba _) nJ<|nI (lN aaL<|S.weaken (by rw[gi,gi];exact ej _ _) nJ) _ _ X.body
  exact this
end
mutual
noncomputable def V.mL (p:Nat->Nat):V->V
 | .U l=>.U<|lZ p l
 | .gl l=>.gl<|lZ p l
 | .ref i=>.ref<|p i
 | .none=>.none
 | .bool b=>.bool b
 | .int i=>.int i
 | .str s=>.str s
 | .rng a b=>.rng a b
noncomputable def lZ (p:Nat->Nat):List V->aH
 | []=>[]
 |v::r=>v.mL p::lZ p r
end
mutual
noncomputable def V.rQ (k:Nat):V->Bool
 | .U l=>kY k l
 | .gl l=>kY k l
 | .ref i=>Nat.blt i k
 |_=>true
noncomputable def kY (k:Nat):List V->Bool
 | []=>true
 |v::r=>v.rQ k&&kY k r
end
noncomputable def vB {α:Type}(p:Nat->Nat):List (α × V)->List (α × V)
 | []=>[]
 |(k,v)::r=>(k,v.mL p)::vB p r
noncomputable def Bg {α:Type}(k:Nat):List (α × V)->Bool
 | []=>true
 |(_,v)::r=>v.rQ k&&Bg k r
def ao.mL (p:Nat->Nat):ao->ao
 | .list l=>.list<|lZ p l
 | .dict l=>.dict<|vB p l
 | .dictT l=>.dictT<|vB p l
 | .inst C d=>.inst C<|p d
 | .dictX l k=>.dictX (vB p l) k
def ao.rQ (k:Nat):ao->Bool
 | .list l=>kY k l
 | .dict l=>Bg k l
 | .dictT l=>Bg k l
 | .inst _ d=>Nat.blt d k
 | .dictX l _=>Bg k l
theorem pL (p:Nat->Nat):∀ks:db,lZ p (ks.map V.str)=ks.map V.str
 | []=>rfl
 |k::r=>by rw[eM,lZ,pL p r,V.mL]
theorem sq (k:Nat):∀ks:db,kY k (ks.map V.str)=true
 | []=>rfl
 |s::r=>by rw[eM,kY,sq k r];rfl
section
variable {ρ bU:List Addr} {Z:Led} {p:Nat->Nat} {k:Nat}
structure Unr (p:Nat->Nat)(k:Nat)(ρ bU:List Addr):Prop where
 get:∀i a,i<k->ρ[p i]?=some a->bU[i]?=some a
 sub:∀a∈bU,a∈ρ
theorem bH.kO (H:Unr p k ρ bU)(v:V){u:Value}(h:bH ρ Z u (v.mL p))(c:v.rQ k=true):bH bU Z u v:=
 V.rec (motive_1:=λv=>∀{u:Value},bH ρ Z u (v.mL p)->v.rQ k=true->bH bU Z u v) (motive_2:=λl=>∀{us:List Value},cr ρ Z us (lZ p l)->kY k l=true->cr bU Z us l)
  (λh M=>h.xg▸.none) (λb M h M=>h.AC▸.bool b) (λi M h M=>bH.tR h<|.int i) (λs M h M=>bH.qw h<|.str s)
  (λM ih M h c=>bH.MS h λh1 h2 h3 h4 h5=>.U h1 (λq=>h2<|H.sub _ q) h3 h4<|ih h5 c) (λM ih M h c=>bH.YU h λh1 h3 h4 h5=>.gl h1 h3 h4<|ih h5 c)
  (λM M M h M=>bH.UU h λh1 h2=>.rng h1 λq=>h2<|H.sub _ q) (λM M h c=>bH.QI h λh1=>.ref<|H.get _ _ (aO c) h1)
  (λh M=>h.kg▸.nil) (λM M i j M h c=>cr.eF h λh1 h2=>.cons (i h1<|b1 c)<|j h2<|b2 c) v h c
theorem cr.kO (H:Unr p k ρ bU)(l:aH):∀{us:List Value},cr ρ Z us (lZ p l)->kY k l=true->cr bU Z us l:=by
 induction l with
 |nil=>exact λh M=>h.kg▸.nil
 |cons v r ih=>exact λh c=>cr.eF h λh1 h2=>.cons (bH.kO H v h1<|b1 c)<|ih h2<|b2 c
theorem ky.kO {α:Type}(H:Unr p k ρ bU)(l:List (α × V)):∀{kvs:List (α × Value)},ky ρ Z kvs (vB p l)->Bg k l=true->ky bU Z kvs l:=by
 induction l with
 |nil=>exact λh M=>h.kg▸.nil
 |cons v r ih=>exact λh c=>ky.eF h λh1 h2=>.cons (bH.kO H v.2 h1<|b1 c)<|ih h2<|b2 c
theorem oS.kO (H:Unr p k ρ bU){ks:db}{a:Addr}(h:oS ρ Z ks a):oS bU Z ks a:=by
 refine bH.kO H (.U<|ks.map .str) ?_<|sq k ks
 rw[V.mL,pL];exact h
theorem cV.kO (H:Unr p k ρ bU){c:ao}{o:Obj}(h:cV ρ Z (c.mL p) o)(hc:c.rQ k=true):cV bU Z c o:=by
 cases c with
 |list l=>obtain⟨vs,n,h2,h3⟩:=h;exact⟨vs,n,h2,cr.kO H l h3 hc⟩
 |dict l=>obtain⟨kvs,h1,h2⟩:=h;exact⟨kvs,h1,ky.kO H l h2 hc⟩
 |dictT l=>obtain⟨xs,es,ep,h1,h2,h3,h4,h5,h6⟩:=h;exact⟨xs,es,ep,h1,h2,h3,h4,λx hx=>oS.kO H<|h5 x hx,ky.kO H l h6 hc⟩
 |inst C d=>obtain⟨ad,h1,h2,h3⟩:=h;exact⟨ad,H.get _ _ (by simpa [ao.rQ] using hc) h1,h2,h3⟩
 |dictX l k=>obtain⟨u,kvs,h1,h2⟩:=h;exact⟨u,kvs,h1,ky.kO H l h2 hc⟩
structure Vw (Z:Led)(p:Nat->Nat)(ρ bU:List Addr):Prop where
 get:∀i a,ρ[i]?=some a->bU[p i]?=some a
 U:∀a o vs n,Tj Z a o->a∉ρ->o.cls=.type "tuple"->o.data=.seq vs n->a∉bU
 rng:∀a x y t u v,(a,nw x y t u v)∈Z->a∉ρ->a∉bU
theorem bH.n9 (H:Vw Z p ρ bU)(v:V){u:Value}(h:bH ρ Z u v):bH bU Z u (v.mL p):=
 bH.rec (motive_1:=λu v M=>bH bU Z u<|v.mL p) (motive_2:=λus l M=>cr bU Z us<|lZ p l) .none .bool .int .str (λh1 h2 h3 h4 M ih=>.U h1 (H.U _ _ _ _ h1 h2 h3 h4) h3 h4 ih) (λh1 h3 h4 M ih=>.gl h1 h3 h4 ih) (λh1 h2=>.rng h1<|H.rng _ _ _ _ _ _ h1 h2) (λh=>.ref<|H.get _ _ h) .nil (λM M i j=>.cons i j) h
theorem cr.n9 (H:Vw Z p ρ bU)(l:aH){us:List Value}(h:cr ρ Z us l):cr bU Z us (lZ p l):=by
 induction l generalizing us with
 |nil=>rw[h.kg];exact .nil
 |cons v r ih=>exact cr.eF h λh1 h2=>.cons (bH.n9 H v h1)<|ih h2
theorem ky.n9 {α:Type}(H:Vw Z p ρ bU)(l:List (α × V)){kvs:List (α × Value)}(h:ky ρ Z kvs l):ky bU Z kvs (vB p l):=
 ky.rec (motive:=λkvs l M=>ky bU Z kvs<|vB p l) .nil (λi M j=>.cons (bH.n9 H _ i) j) h
theorem cV.n9 (H:Vw Z p ρ bU){c:ao}{o:Obj}(h:cV ρ Z c o):cV bU Z (c.mL p) o:=by
 cases c with
 |list l=>obtain⟨vs,n,h2,h3⟩:=h;exact⟨vs,n,h2,cr.n9 H l h3⟩
 |dict l=>obtain⟨kvs,h1,h2⟩:=h;exact⟨kvs,h1,ky.n9 H l h2⟩
 |dictT l=>
  obtain⟨xs,es,ep,h1,h2,h3,h4,h5,h6⟩:=h;refine⟨xs,es,ep,h1,h2,h3,h4,λx hx=>?_,ky.n9 H l h6⟩;have:=bH.n9 H _<|h5 x hx
  rw[V.mL,pL] at this;exact this
 |inst C d=>obtain⟨ad,h1,h2,h3⟩:=h;exact⟨ad,H.get _ _ h1,h2,h3⟩
 |dictX l k=>obtain⟨u,kvs,h1,h2⟩:=h;exact⟨u,kvs,h1,ky.n9 H l h2⟩
end
noncomputable abbrev at' (π:List Nat):Nat->Nat:=λi=>π.getD i 0
structure Emb (π:List Nat)(mC Y:af):Prop where
 len:π.length=mC.length
 nd:π.Nodup
 cell:∀(i:Nat) (c:ao),mC[i]?=some c->∃j,π[i]?=some j/\Y[j]?=some (c.mL<|at' π)/\c.rQ mC.length=true
structure Back (π GK:List Nat)(mC Y sr Y':af):Prop where
 le:mC.length<=sr.length
 more:GK=π++(List.range<|sr.length - mC.length).map λk=>Y.length+k
 len:Y'.length=Y.length+(sr.length - mC.length)
 old:∀j,j<Y.length->j∉π->Y'[j]?=Y[j]?
 new:∀(i:Nat) (c:ao),sr[i]?=some c->∃j,GK[i]?=some j/\Y'[j]?=some (c.mL<|at' GK)
noncomputable def dQ (π:List Nat)(ρ:List Addr):List Addr:=π.map λj=>ρ.getD j 0
section
variable {ρ:List Addr} {Z Z':Led} {Y Y' mC sr:af} {π GK:List Nat}
theorem qE {c:ao}{o:Obj}(h:cV ρ Z c o):(o.cls=.type "tuple"->∀vs n,o.data≠.seq vs n)/\CU o:=by
 have dict:∀{es:Array DictEntry} {ep:Nat},o.data=.dict es ep->(o.cls=.type "tuple"->∀vs n,o.data≠.seq vs n)/\CU o:=λhd=>
  ⟨(λM vs n e=>by rw[hd] at e;cases e),oR λvs e=>by rw[hd] at e;cases e⟩
 cases c with
 |list l=>
  obtain⟨vs,n,rfl,_⟩:=h;exact⟨jo.U,jo.odd⟩
 |dict l=>
  obtain⟨kvs,⟨es,ep,h1,h2,_⟩,_⟩:=h;exact dict h2
 |dictT l=>
  obtain⟨xs,es,ep,h1,h2,_⟩:=h;exact dict h2
 |dictX l k=>
  obtain⟨u,kvs,⟨es,ep,h1,h2,_⟩,_⟩:=h;exact dict h2
 |inst C d=>
  obtain⟨ad,_,rfl,_⟩:=h;exact⟨(λe=>by cases e),oR λvs e=>by cases e⟩
variable {i j:Nat}
theorem Emb.lt (E:Emb π mC Y)(h:π[i]?=some j):j<Y.length:=by
 have hi:=E.len▸(bP.mp h).1;refine j8 (E.cell i _<|i8 hi) λj' h1 h2 M=>?_;rw[h] at h1;cases h1;exact(bP.mp h2).1
theorem vC {a:Addr}(h:π[i]?=some j)(ha:ρ[j]?=some a):(dQ π ρ)[i]?=some a:=by
 unfold dQ;rw[gd,h,Option.map_some,z6,ha];rfl
theorem m3 (R:Rep ρ Z Y)(E:Emb π mC Y){a:Addr}(h:(dQ π ρ)[i]?=some a):∃j,π[i]?=some j/\ρ[j]?=some a:=by
 unfold dQ at h;rw[gd] at h;cases q:π[i]? with
 |none=>rw[q] at h;cases h
 |some j=>
  rw[q,Option.map_some,z6] at h;have hj:=R.len▸E.lt q;rw[i8 hj] at h;cases h;exact bF j rfl<|i8 hj
theorem m4 (R:Rep ρ Z Y)(E:Emb π mC Y){a:Addr}(h:a∈dQ π ρ):a∈ρ:=by
 exact aN (jA h) λi hi=>aJ (m3 R E hi) λj M h2=>bp h2
theorem nK (h:π[i]?=some j):at' π i=j:=by
 show π.getD i 0=j;rw[z6,h];rfl
theorem rx (R:Rep ρ Z Y)(E:Emb π mC Y):Unr (at' π) mC.length ρ (dQ π ρ) where
 get:=λi a hi h=>by
  have:π[i]?=some (at' π i):=by
   rw[i8 (E.len▸hi)];exact bJ some (nK<|i8 (E.len▸hi)).symm
  exact vC this h
 sub:=λa h=>m4 R E h
theorem lg {l:List Nat}(hn:l.Nodup){a:Nat}(h1:l[i]?=some a)(h2:l[j]?=some a):i=j:=
 (uF (bP.mp h1).1 hn).mp (h1.trans h2.symm)
theorem ND (R:Rep ρ Z Y)(E:Emb π mC Y):(dQ π ρ).Nodup:=by
 refine List.pairwise_iff_getElem.mpr λi j hi hj FB e=>aJ (m3 R E<|i8 hi) λx h1 h2=>aJ (m3 R E<|i8 hj) λy h3 h4=>?_;rw[e] at h2;have:=lg R.nd h2 h4;subst this;exact absurd (lg E.nd h1 h3)<|i9 FB
theorem Rep.sub (R:Rep ρ Z Y)(E:Emb π mC Y):Rep (dQ π ρ) Z mC where
 len:=by unfold dQ;rw[cy];exact E.len
 nd:=ND R E
 ndZ:=R.ndZ
 apart:=λa h=>R.apart a<|m4 R E h
 big:=λa h=>R.big a<|m4 R E h
 tabs:=R.tabs.mono λa o h hn M=>⟨h,λq=>hn<|m4 R E q⟩
 cell:=λi a h=>by
  refine aJ (m3 R E h) λj h1 h2=>?_;have hi:=E.len▸(bP.mp h1).1;refine j8 (E.cell i _<|i8 hi) λj' g1 g2 g3=>?_;rw[h1] at g1;cases g1;refine de (R.cell j a h2) λc o k1 k2 k3=>?_;rw[g2] at k1;cases k1;exact fc _ o (i8 hi) k2<|k3.kO (rx R E) g3
theorem Rep.xK (R:Rep ρ Z Y){a:Addr}(h:a∈ρ):∃c o,(a,o)∈Z/\cV ρ Z c o:=by
 exact aN (jA h) λi hi=>de (R.cell i a hi) λc o M h2 h3=>kz c o h2 h3
theorem Rep.addr (R:Rep ρ Z Y){a:Addr}(h:a∈ρ):a∈Z.map (·.1):=by
 exact gG (R.xK h) λc o h1 M=>cD h1
noncomputable def wide (ρ ρv pf:List Addr):List Addr:=ρ++pf.drop ρv.length
section
variable {pf:List Addr} (R:Rep ρ Z Y) (E:Emb π mC Y) (R':Rep pf Z' sr) (X:Ext [] (dQ π ρ) Z pf Z')
include R E R' X
variable {a:Addr}
theorem Ry (h:a∈ρ)(hn:a∉pf):∃c o,(a,o)∈Z/\(a,o)∈Z'/\cV ρ Z c o:=by
 refine gG (R.xK h) λc o h1 h2=>?_;have hv:a∉dQ π ρ:=λq=>by
  exact aN (jA q) λi hi=>hn<|bp<|X.pre i a hi
 exact fc c o h1 (X.keep _ h1 hv (by simp) (qE h2).2.2.1) h2
theorem ph (h:a∈pf.drop (dQ π ρ).length):a∈pf/\a∉Z.map (·.1):=by
 have hm:=List.mem_of_mem_drop h;refine⟨hm,?_⟩;refine aZ (X.new a hm) (λq=>?_) λq=>?_
 ·exfalso;refine aN (jA q) λi hi=>aN (jA h) λj hj=>?_;rw[List.getElem?_drop] at hj;have e:=lg R'.nd (X.pre i a hi) hj;exact absurd (bP.mp hi).1<|Nat.not_lt.mpr<|e▸ej _ _
 ·exact q
theorem vD {o:Obj}(hz:(a,o)∈Z')(hn:a∉pf)(k:wH o∨(∃q,jW q o)∨(o.cls=.type "tuple"/\∃vs n,o.data=.seq vs n)∨∃x y t u v,o=nw x y t u v):a∉wide ρ (dQ π ρ) pf:=λh=>by
 refine aZ (fu.mp h) (λh=>?_) λh=>?_
 ·refine de (Ry R E R' X h hn) λc o' h1 h2 h3=>?_;have:=g8 R'.ndZ hz h2;subst this;refine yp (qE h3) λg1 g2 g3 g4=>o4 k (λk=>?_) (λRz=>?_) (λRA=>?_) λZA=>?_
  ·exact g3 k
  ·exact aN Rz λq k=>g4 q k
  ·exact Ms RA λk1 vs n k2=>g1 k1 vs n k2
  ·exact uJ ZA λx y t u v k=>g2 _ _ _ _ _ k
 ·exact hn (ph R E R' X h).1
theorem vE:Ext [] ρ Z (wide ρ (dQ π ρ) pf) Z' where
 pre:=λi a h=>by unfold wide;rw[i7 (bP.mp h).1];exact h
 keep:=λp hp hn hc ht=>X.keep p hp (λq=>hn<|m4 R E q) hc ht
 adr:=X.adr
 new:=λa h=>by
  refine aZ (fu.mp h) (λh=>?_) λh=>?_
  ·exact .inl h
  ·exact .inr (ph R E R' X h).2
theorem vF:(dQ π ρ).length=mC.length:=by unfold dQ;rw[cy];exact E.len
theorem qF:∀a∈wide ρ (dQ π ρ) pf,K.lookup a=none:=λa h=>by
 refine aZ (fu.mp h) (λh=>?_) λh=>?_
 ·exact R.apart a h
 ·exact R'.apart a (ph R E R' X h).1
variable (B:Back π GK mC Y sr Y')
include B
omit R R' X in
theorem EL {j:Nat}(h:mC.length+j<sr.length):GK[mC.length+j]?=some (Y.length+j):=by
 rw[B.more,kN<|E.len▸ej _ _,gd,E.len,sM,uD<|Nat.lt_sub_iff_add_lt'.mpr h];rfl
theorem Bh:Vw Z' (at' GK) pf (wide ρ (dQ π ρ) pf) where
 get:=λi a h=>by
  have hl:=vF R E R' X;by_cases hi:i<(dQ π ρ).length
  ·refine aJ (m3 R E<|i8 hi) λj h1 h2=>?_;have h3:=X.pre i _<|i8 hi
   rw[h] at h3;have h4:GK[i]?=some j:=by rw[B.more,i7 (by rw[E.len,<-hl];exact hi)];exact h1
   rw[nK h4];unfold wide;rw[i7 (bP.mp h2).1,h2,h3]
  ·refine aN (Nat.exists_eq_add_of_le<|Nat.not_lt.mp hi) λj e=>?_;subst e;have XA:=(bP.mp h).1;rw[R'.len,hl] at XA;rw[hl,nK<|EL E B XA];unfold wide;rw[kN<|R.len▸ej _ _,List.getElem?_drop,R.len,sM];exact h
 U:=λa o vs n h hn hc hd=>by
  refine aZ h (λh=>?_) λh=>?_
  ·exact vD R E R' X h hn<|.inr<|.inr<|.inl ⟨hc,vs,n,hd⟩
  ·exact λq=>by rw[qF R E R' X a q] at h;cases h
 rng:=λa x y t u v h hn=>vD R E R' X h hn<|.inr<|.inr<|.inr ⟨_,_,_,_,_,rfl⟩
theorem Bj:Rep (wide ρ (dQ π ρ) pf) Z' Y' where
 len:=by
  unfold wide;rw[cN,List.length_drop,R'.len,R.len,B.len,vF R E R' X]
 nd:=by
  refine sP.mpr ⟨R.nd,R'.nd.sublist<|List.drop_sublist _ _,λa ha b hb e=>?_⟩;subst e;exact(ph R E R' X hb).2 (R.addr ha)
 ndZ:=R'.ndZ
 apart:=qF R E R' X
 big:=λa h=>by
  refine aZ (fu.mp h) (λh=>?_) λh=>?_
  ·exact R.big a h
  ·exact R'.big a (ph R E R' X h).1
 tabs:=R'.tabs.mono λa o h hn k=>⟨h,vD R E R' X h hn<|k.imp id .inl⟩
 cell:=λi a h=>by
  have hl:=vF R E R' X;have seen:∀k:Nat,pf[k]?=some a->GK[k]?=some i->∃c o,Y'[i]?=some c/\(a,o)∈Z'/\cV (wide ρ (dQ π ρ) pf) Z' c o:=λk hk hp=>by
   refine de (R'.cell k a hk) λc o g1 g2 g3=>aJ (B.new k c g1) λj e1 e2=>?_;rw[hp] at e1;cases e1;exact fc _ o e2 g2<|g3.n9<|Bh R E R' X B
  by_cases hi:i<ρ.length
  ·unfold wide at h;rw[i7 hi] at h;by_cases hm:i∈π
   ·refine aN (jA hm) λk hk=>seen k (X.pre k a<|vC hk h) ?_;rw[B.more,i7 (bP.mp hk).1];exact hk
   ·have hn:a∉pf:=λq=>by
     refine aZ (X.new a q) (λq=>?_) λq=>?_
     ·refine aN (jA q) λk hk=>aJ (m3 R E hk) λj h1 h2=>?_;have:=lg R.nd h h2;subst this;exact hm<|bp h1
     ·exact q<|R.addr<|bp h
    refine de (R.cell i a h) λc o g1 g2 g3=>?_;have hv:a∉dQ π ρ:=λq=>by
     exact aN (jA q) λi hi=>hn<|bp<|X.pre i a hi
    exact fc c o (by rw[B.old i (R.len▸hi) hm];exact g1) (X.keep _ g2 hv (by simp) (qE g3).2.2.1)<|g3.ext (vE R E R' X) bK<|qF R E R' X
  ·unfold wide at h;refine aN (Nat.exists_eq_add_of_le<|Nat.not_lt.mp hi) λj e=>?_;subst e;rw[kN<|ej _ _,sM,List.getElem?_drop] at h;have h':=(bP.mp h).1;rw[R'.len,hl] at h';exact seen _ h (by rw[hl,R.len];exact EL E B h')
end
end
def cX (n f:Nat)(vs:aH)(Y:af)(r:Res V):Prop:=∀(fz:Fz) (q:St fz) (A':Around) (Q E:dz) (us:List Value),
 fz.t.n=n->A'.frames=fz.A.frames->A'.handled=fz.A.handled->A'.depth<=fz.A.depth+1->A'.units<=fz.A.units+16->q.Y=Y->q.pJ us vs->aF bH q r Q E->codeAny Mo A' (.call (.ref f) ⟨us,[]⟩) (xq Q E) q.s
section
variable {n f:Nat} {vs FC:aH} {Y Y' mC sr al ay:af} {r:Res V} {π GK:List Nat} {v v':V} {O:av} {C:Nat}
theorem iJ.pY (S:iJ O n):cX n f vs Y (O f vs Y):=λfz q A' Q E us hn e1 e2 e3 e4 e is P=>S f fz q A' Q E us vs hn e1 e2 e3 e4 is (e▸P)
theorem iJ.uk (h:∀f vs Y,cX n f vs Y<|O f vs Y):iJ O n:=λf fz q A' Q E us vs hn e1 e2 e3 e4 is P=>h f vs q.Y fz q A' Q E us hn e1 e2 e3 e4 rfl is P
theorem cX.stuck:cX n f vs Y .stuck:=λM M M M M M M M M M M M M P=>P.elim
theorem cX.by {ax:af}{Pu:aH}{Vx:Res V}(h:cX n f Pu ax Vx)(k:∀(fz:Fz) (q:St fz) (Q E:dz) (us:List Value),q.Y=Y->q.pJ us vs->aF bH q r Q E->∃(W6:Fz) (q':St W6),W6.t.n=fz.t.n/\W6.A=fz.A/\q'.s=q.s/\q'.Y=ax/\q'.pJ us Pu/\aF bH q' Vx Q E):cX n f vs Y r:=λfz q A' Q E us hn e1 e2 e3 e4 e is P=>by
 obtain⟨W6,q',k1,k2,k3,k4,k5,k6⟩:=k fz q Q E us e is P;rw[<-k2] at e1 e2 e3 e4;rw[<-k3];exact h W6 q' A' Q E us (k1.trans hn) e1 e2 e3 e4 k4 k5 k6
structure Gc (π:List Nat)(Y ay al:af):Prop extends Emb π ay al where
 id:∀i,i<Y.length->π[i]?=some i
theorem Gc.ext {ρ bU:List Addr}{Z Z':Led}(G:Gc π Y ay al)(R:Rep ρ Z Y)(R':Rep bU Z' al)(X:Ext [] ρ Z bU Z'):Ext [] ρ Z (dQ π bU) Z' where
 pre:=λi a h=>vC (G.id i<|R.len▸(bP.mp h).1)<|X.pre i a h
 keep:=X.keep
 adr:=X.adr
 new:=λa h=>X.new a<|m4 R' G.toEmb h
theorem cX.gc (h:cX n f vs Y (.ok (v.mL<|at' π) al))(G:Gc π Y ay al)(hv:v.rQ ay.length=true):cX n f vs Y (.ok v ay):=h.by λfz q Q E us e is P=>⟨fz,q,rfl,rfl,rfl,e,is,λu am a bC i=>by
 subst e bC;have X:=G.ext q.rep am.rep a.ext;exact P u (q.to am.tk am.fr am.news (am.rep.sub G.toEmb) X a.turn) ⟨X,a.turn⟩ rfl<|i.kO (rx am.rep G.toEmb) _ hv⟩
theorem cX.gcx (h:cX n f vs Y (.exc C al))(G:Gc π Y ay al):cX n f vs Y (.exc C ay):=h.by λfz q Q E us e is P=>⟨fz,q,rfl,rfl,rfl,e,is,λm' g x bU Z' h' fb b F' L U R' X T=>by
 subst e;exact P m' g x (dQ π bU) Z' h' fb F' L U (R'.sub G.toEmb) (G.ext q.rep R' X) T⟩
def St.view {fz:Fz}(q:St fz)(E:Emb π mC q.Y):St (fz.to fz.m []):=
 have R:=q.rep.sub E
 {b:=q.b,h:=q.h,ρ:=dQ π q.ρ,Z:=q.Z,Y:=mC,tk:=q.tk,ok:=q.ok,below:=q.below,dicts:=q.dicts,fr:=q.fr,news:=q.news,rep:=R,lo:=λi M M M M h=>fP h}
theorem cX.frame (h:cX n f FC mC (.ok v sr))(E:Emb π mC Y)(Mg:kY mC.length FC=true)(B:Back π GK mC Y sr Y'):cX n f (lZ (at' π) FC) Y (.ok (v.mL<|at' GK) Y'):=h.by λfz q Q E' us e is P=>by
 subst e;refine⟨fz.to fz.m [],q.view E,rfl,rfl,rfl,rfl,is.kO (rx q.rep E) _ Mg,λu am a bC i=>?_⟩;subst bC;have X:=vE q.rep E am.rep a.ext;exact P u (q.to am.tk am.fr am.news (Bj q.rep E am.rep a.ext B) X a.turn) ⟨X,a.turn⟩ rfl<|i.n9<|Bh q.rep E am.rep a.ext B
theorem cX.RB (h:cX n f FC mC (.exc C sr))(E:Emb π mC Y)(Mg:kY mC.length FC=true)(B:Back π GK mC Y sr Y'):cX n f (lZ (at' π) FC) Y (.exc C Y'):=h.by λfz q Q E' us e is P=>by
 subst e;refine⟨fz.to fz.m [],q.view E,rfl,rfl,rfl,rfl,is.kO (rx q.rep E) _ Mg,λm' g x bU Z' h' fb b F' L U R' X T=>?_⟩;exact P m' g x (wide q.ρ (dQ π q.ρ) bU) Z' h' fb F' L U (Bj q.rep E R' X B) (vE q.rep E R' X) T
end
section
variable {n n' f:Nat} {vs:aH} {Y al ay:af} {r:Res V} {v:V} {O:av} {ρ:List Addr} {Z:Led} {gx:Gx} {tx:Text}
variable {l:iP}
theorem GL {k:Str}{v:V}:∀{kvs:List (Str × Value)},ky ρ Z kvs (l++[(k,v)])->∃sK u,kvs=sK++[(k,u)]/\ky ρ Z sK l:=by
 induction l with
 |nil=>exact λh=>h.eF λ{u _} M t=>by rw[t.kg];exact⟨[],u,rfl,.nil⟩
 |cons p l ih=>
  exact λh=>h.eF λ{u _} i t=>gG (ih t) λsK u' e h=>kz ((p.1,u)::sK) u' (bJ _ e)<|.cons i h
theorem Rep.Dq {d:Nat}{k:Str}{v:V}(R:Rep ρ Z Y)(h:Y[d]?=some (.dict (l++[(k,v)]))):Rep ρ Z (Y.set d<|.dictX l k):=
 R.QJ h λo ⟨kvs,g1,g2⟩=>by
  refine gG (GL g2) λsK u eA h=>?_;subst eA;exact⟨u,sK,g1,h⟩
def JF (al ay:af):Prop:=∀(ρ:List Addr) (Z:Led),Rep ρ Z al->Rep ρ Z ay
theorem JF.Dq {d:Nat}{k:Str}{v:V}(h:Y[d]?=some (.dict (l++[(k,v)]))):JF Y (Y.set d<|.dictX l k):=λM M R=>R.Dq h
theorem cX.post (h:cX n f vs Y (.ok v al))(L:JF al ay):cX n f vs Y (.ok v ay):=h.by λfz q Q E us e is P=>⟨fz,q,rfl,rfl,rfl,e,is,λu am a bC i=>by
 subst bC;exact P u (q.to am.tk am.fr am.news (L _ _ am.rep) a.ext a.turn) ⟨a.ext,a.turn⟩ rfl i⟩
theorem cX.weaken (h:cX n f vs Y r)(e1:n / 2<=n' / 2)(e2:n % 2=0):cX n' f vs Y r:=λfz q A' Q E us hn g1 g2 g3 g4 e is P=>
 h (fz.at n) (q.at (hn▸e1) λh=>absurd (h.symm.trans e2)<|by lk) A' Q E us rfl g1 g2 g3 g4 e is (P.at _ _)
structure oA (gx:Gx)(tx:Text):Prop where
 names:pK gx
 word:zh gx
 defs:Dp gx tx
theorem oA.step (H:oA gx tx){k:Nat}(S:iJ O (2 * k)):iJ (bn tx O) (2 * (k+6)):=by
 have:iJ (bn tx O) (2 * ((k+4)+2)):=zf λf i hf=>by
  refine aJ (H.defs f i hf) λDD X hd=>?_;cases hw:iH.contains f with
  |true=>
   rw[hw] at X hd;exact tL DD (2 * (k+4)+1) true X (by rw[ru];exact ba _) (λM=>hd rfl)<|nI (so H.names H.word S) _ _ X.body
  |false=>
   rw[hw] at X;exact tL DD (2 * (k+4)) false X (by rw[gi];exact ba _) nJ<|nI (lN H.names<|S.weaken (by rw[gi,gi];exact ej _ _) nJ) _ _ X.body
 exact this
theorem oA.run (H:oA gx tx)(k:Nat):iJ (run tx k) (2 * (6 * k)):=NB H.names H.word H.defs k
def plainT (tx:Text):Text:={tx with fn:=λf=>if iH.contains f=true then none else tx.fn f}
theorem oA.ZB (H:oA gx tx):∀k,iJ (Internal.run (plainT tx) k) (2 * (2 * k)):=by
 intro k
 induction k with
 |zero=>exact λM M M M M M M M M M M M M M P=>P.elim
 |succ k ih=>
  have:iJ (bn (plainT tx)<|Internal.run (plainT tx) k) (2 * (2 * k+2)):=zf λf i hf=>by
   have hf:(if iH.contains f=true then none else tx.fn f)=some i:=hf;by_cases hw:iH.contains f=true
   ·rw[if_pos hw] at hf;exact fP hf
   ·rw[if_neg hw] at hf;refine aJ (H.defs f i hf) λDD X M=>?_;rw[Bool.eq_false_iff.mpr hw] at X;exact tL DD (2 * (2 * k)) false X (by rw[gi];exact ba _) nJ<|nI (lN H.names ih) _ _ X.body
  exact this
def Kn (n:Nat)(T:Nat->List V->af->Res V->Prop):Prop:=
 ∀f vs Y,(∃r,T f vs Y r)->∃r,cX n f vs Y r/\T f vs Y r
end
section
mutual
theorem V.su {p:Nat->Nat}{k:Nat}(h:∀i,i<k->p i=i):∀(v:V),v.rQ k=true->v.mL p=v
 | .none,_=>rfl
 | .bool _,_=>rfl
 | .int _,_=>rfl
 | .str _,_=>rfl
 | .rng _ _,_=>rfl
 | .ref i,c=>by rw[V.mL,h i<|by simpa [V.rQ] using c]
 | .U l,c=>by rw[V.mL,ul h l c]
 | .gl l,c=>by rw[V.mL,ul h l c]
theorem ul {p:Nat->Nat}{k:Nat}(h:∀i,i<k->p i=i):∀(l:aH),kY k l=true->lZ p l=l
 | [],_=>rfl
 |v::r,c=>by
  have c':v.rQ k=true/\kY k r=true:=by simpa [kY] using c
  rw[lZ,V.su h v c'.1,ul h r c'.2]
end
variable {k:Nat}
theorem pM {α:Type}{p:Nat->Nat}(h:∀i,i<k->p i=i):∀(l:List (α × V)),Bg k l=true->vB p l=l
 | [],_=>rfl
 |(_,v)::r,c=>by
  have c':v.rQ k=true/\Bg k r=true:=by simpa [Bg] using c
  rw[vB,V.su h v c'.1,pM h r c'.2]
theorem ao.su {p:Nat->Nat}(h:∀i,i<k->p i=i)(c:ao)(hc:c.rQ k=true):c.mL p=c:=by
 cases c with
 |list l=>rw[ao.mL,ul h l hc]
 |dict l=>rw[ao.mL,pM h l hc]
 |dictT l=>rw[ao.mL,pM h l hc]
 |inst C d=>rw[ao.mL,h d<|by simpa [ao.rQ] using hc]
 |dictX l k=>rw[ao.mL,pM h l hc]
noncomputable def JG (Y:af):Bool:=Y.all λc=>c.rQ Y.length
theorem Bk {i:Nat}(h:i<k):at' (List.range k) i=i:=nK<|uD h
variable {n f:Nat} {vs FC:aH} {Y al J W:af} {r:Res V} {v:V} {O:av} {C:Nat} {π:List Nat} {gx:Gx} {tx:Text}
theorem EM (h:JG al=true):Emb (List.range al.length) al (al++J) where
 len:=List.length_range
 nd:=List.nodup_range
 cell:=λi c hc=>by
  have hi:=(bP.mp hc).1;have zW:=gH.mp h c<|f8 hc
  exact lY i (uD hi) (by rw[ao.su (λM=>Bk) c zW,i7 hi];exact hc) zW
theorem cX.drop (h:cX n f vs Y (.ok v (al++J)))(hc:JG al=true)(hl:Y.length<=al.length)(hv:v.rQ al.length=true):cX n f vs Y (.ok v al):=by
 refine cX.gc (π:=List.range al.length) (al:=al++J) ?_ ⟨EM hc,λi hi=>uD<|eo ‹_› ‹_›⟩ hv
 rwa [V.su (λM=>Bk) v hv]
theorem cX.Pv (h:cX n f vs Y (.exc C (al++J)))(hc:JG al=true)(hl:Y.length<=al.length):cX n f vs Y (.exc C al):=
 cX.gcx h ⟨EM hc,λi hi=>uD<|eo ‹_› ‹_›⟩
theorem xL (E:Emb π W Y):Back π π W Y W Y where
 le:=ba _
 more:=by rw[oF];simp
 len:=by rw[oF];rfl
 old:=λM M M=>rfl
 new:=λi c h=>by
  exact j8 (E.cell i c h) λj h1 h2 M=>bF j h1 h2
theorem cX.keep (h:cX n f FC W (.ok v W))(E:Emb π W Y)(Mg:kY W.length FC=true):cX n f (lZ (at' π) FC) Y (.ok (v.mL<|at' π) Y):=h.frame E Mg<|xL E
theorem cX.Pw (h:cX n f FC W (.exc C W))(E:Emb π W Y)(Mg:kY W.length FC=true):cX n f (lZ (at' π) FC) Y (.exc C Y):=h.RB E Mg<|xL E
def over (tx:Text)(n:Nat)(T:Nat->List V->af->Res V->Prop)(O:av):av:=λf vs Y=>
 open Classical in if h:∃r,cX n f vs Y r/\T f vs Y r then h.choose else bn tx O f vs Y
variable {T:Nat->List V->af->Res V->Prop}
theorem vG (m:Nat):2 * m / 2=m:=Nat.mul_div_cancel_left m Nat.two_pos
theorem Bn (H:oA gx tx)(S:iJ O (2 * k))(e1:n / 2<=k+6)(e2:n % 2=0):iJ (over tx n T O) (2 * (k+6)):=.uk λf vs Y=>by
 unfold over;split
 ·next h=>exact h.choose_spec.1.weaken (by rw[vG];exact e1) e2
 ·exact(H.step S).pY
theorem Bo (h:Kn n T)(t:∃r,T f vs Y r):T f vs Y (over tx n T O f vs Y):=by
 unfold over;have hh:=h f vs Y t;rw[dif_pos hh];exact hh.choose_spec.2
theorem Bp (t:¬∃r,T f vs Y r):over tx n T O f vs Y=bn tx O f vs Y:=by
 unfold over;rw[dif_neg λ⟨r,_,h⟩=>t ⟨r,h⟩]
def overs (tx:Text)(n:Nat)(T:Nat->List V->af->Res V->Prop):Nat->av
 | 0=>λM M M=>.stuck
 |k+1=>over tx n T<|overs tx n T k
theorem xM (H:oA gx tx)(m:Nat)(k:Nat):iJ (overs tx (2 * m) T (k+1)) (2 * (m+6 * (k+1))):=by
 induction k with
 |zero=>exact Bn H (.uk λM M M=>.stuck) (by rw[vG];exact ej _ _)<|Nat.mul_mod_right 2 m
 |succ k h=>exact Bn H h (by rw[vG];exact ej m<|6 * (k+1)+6)<|Nat.mul_mod_right 2 m
end
@[reducible] noncomputable def dj {α:Type}(b:Bool)(x y:α):α:=match b with
 |true=>x
 |false=>y
@[reducible] def Vy (O:av)(W:Nat)(ss:List S)(f:fA)(Y:af):Res fA:=match f with
 |(some v,N)=>.ok (some v,N) Y
 |(none,N)=>b9 O W ss N Y
section
variable {O:av} {N loc':Loc} {Y al ay bD:af} {x y c:X} {l r:List X} {v u:V} {vs all:aH} {R:Res V} {b:Bool} {C:Nat}
theorem aK {α β:Type}{r:Res α}{k:α->af->Res β}{v:α}{R:Res β}(h:r=.ok v al)(e:k v al=R):r.bind k=R:=by rw[h];exact e
theorem dD {α β:Type}{r:Res α}{k:α->af->Res β}(h:r=.exc C al):r.bind k=.exc C al:=by rw[h];rfl
theorem cw {α β:Type}{o:Option α}{k:α->Res β}{v:α}{R:Res β}(h:o=some v)(e:k v=R):fL o k=R:=by rw[h];exact e
theorem ry {α:Type}{p:Prop}[Decidable p]{x y R:α}(h:p)(e:x=R):(if p then x else y)=R:=(if_pos h).trans e
theorem gj {r:Res V}(h:r=.ok u al)(q:br al u=some b):dg r=.ok b al:=aK h<|cw q rfl
theorem xN {α:Type}{x y R:α}(k:dj b x y=R):cond b x y=R:=by cases b<;>exact k
theorem EN {α β:Type}{f:α->β}{x y:α}{R:β}(k:f (dj b x y)=R):cond b (f x) (f y)=R:=by cases b<;>exact k
theorem I {i:Nat}(h:N[i]?=some (some v)):aV O (.l i) N Y=.ok v Y:=by
 show(match N[i]? with
  |some (some v)=>Res.ok v Y
  |_=>Res.stuck)= _
 rw[h]
theorem ag:aV O (.c v) N Y=.ok v Y:=rfl
theorem aT (h:ou O l N Y=.ok vs al):aV O (.U l) N Y=.ok (.U vs) al:=aK h rfl
theorem bk (h:ou O l N Y=.ok vs al):aV O (.s l) N Y=.ok (.ref al.length) (al++[.list vs]):=aK h rfl
theorem mD {ks:db}(h:ou O l N Y=.ok vs al):aV O (.dct ks l) N Y=.ok (.ref al.length) (al++[.dict<|ks.zip vs]):=aK h rfl
theorem ar {op:CmpOp}(h:aV O x N Y=.ok u al)(k:aV O y N al=.ok v ay)(q:cS ay op u v=some b):aV O (.m op x y) N Y=.ok (.bool b) ay:=aK h<|aK k<|cw q rfl
theorem lO (h:aV O x N Y=.ok u al)(q:br al u=some b):aV O (.not x) N Y=.ok (.bool !b) al:=aK (gj h q) rfl
theorem fF (h:aV O c N Y=.ok u al)(q:br al u=some true)(k:aV O x N al=R):aV O (.ite c x y) N Y=R:=aK (gj h q) k
theorem gm (h:aV O c N Y=.ok u al)(q:br al u=some false)(k:aV O y N al=R):aV O (.ite c x y) N Y=R:=aK (gj h q) k
theorem sv (h:aV O c N Y=.ok u al)(q:br al u=some b)(k:aV O (dj b x y) N al=R):aV O (.ite c x y) N Y=R:=aK (gj h q)<|EN (f:=λx=>aV O x N al) k
theorem fj {op:Operator}(h:aV O x N Y=.ok u al)(k:aV O y N al=.ok v ay)(q:jJ ay op u v=R):aV O (.bin op x y) N Y=R:=aK h<|aK k q
theorem aG {w:V}(h:aV O x N Y=.ok u al)(k:aV O y N al=.ok v ay)(q:cq ay u v=some w):aV O (.i x y) N Y=.ok w ay:=aK h<|aK k<|cw q rfl
theorem vH (h:aV O x N Y=.ok u al)(k:aV O y N al=.ok v ay)(q:rW ay u v=R):aV O (.slcTo x y) N Y=R:=aK h<|aK k q
theorem Dr (h:aV O x N Y=.ok u al)(k:aV O y N al=.ok v ay)(q:oN ay u v=R):aV O (.slcFrom x y) N Y=R:=aK h<|aK k q
theorem un {n:Str}(h:aV O x N Y=.ok u al)(k:dh al u n=true)(q:kf al u n=some v):aV O (.attr x n) N Y=.ok v al:=aK h<|ry k<|cw q rfl
theorem aL {f:Nat}(h:ou O l N Y=.ok vs al)(k:O f vs al=R):aV O (.call f l) N Y=R:=aK h k
theorem vI {K f:Nat}(e:uT.init K=some f)(h:ou O l N Y=.ok vs al)(k:O f (.ref (al.length+1)::vs) (al++[.dict [],.inst K al.length])=.ok .none ay):aV O (.new K l) N Y=.ok (.ref (al.length+1)) ay:=cw e<|aK h<|aK k rfl
theorem bR {f:Nat}{n:Str}(h:aV O x N Y=.ok u al)(e:fg al u n=some f)(k:ou O l N al=.ok vs ay)(q:O f (u::vs) ay=R):aV O (.bI x n l) N Y=R:=aK h<|cw e<|aK k q
theorem cP {d:Bi}(h:ou O l N Y=.ok vs al)(k:wp al d vs=R):aV O (.bi d l) N Y=R:=aK h k
theorem km {d:Bm}(h:aV O x N Y=.ok u al)(e:FQ al u d=true)(k:ou O l N al=.ok vs ay)(q:Pe ay u d vs=R):aV O (.bm x d l) N Y=R:=aK h<|ry e<|aK k q
theorem eS {l:List X}(h:n0 O l N Y=R):aV O (.and l) N Y=R:=h
theorem iL {l:List X}(h:uV O l N Y=R):aV O (.or l) N Y=R:=h
theorem iS (h:aV O x N Y=.ok v al):n0 O [x] N Y=.ok v al:=aK h rfl
theorem EO (h:aV O x N Y=.ok v al)(q:br al v=some b)(k:dj b (n0 O (y::l) N al) (.ok v al)=R):n0 O (x::y::l) N Y=R:=aK h<|cw q<|xN k
theorem hJ (h:aV O x N Y=.ok v al)(q:br al v=some true)(k:n0 O (y::l) N al=R):n0 O (x::y::l) N Y=R:=EO h q k
theorem kZ (h:aV O x N Y=.ok v al)(q:br al v=some false):n0 O (x::y::l) N Y=.ok v al:=EO h q rfl
theorem vJ (h:aV O x N Y=.ok v al)(q:br al v=some b)(k:dj b (.ok v al) (uV O (y::l) N al)=R):uV O (x::y::l) N Y=R:=aK h<|cw q<|xN k
theorem mj:br Y (.bool b)=some b:=rfl
theorem gv (h:aV O x N Y=.ok v al):uV O [x] N Y=.ok v al:=aK h rfl
theorem gw (h:aV O x N Y=.ok v al)(q:br al v=some false)(k:uV O (y::l) N al=R):uV O (x::y::l) N Y=R:=vJ h q k
theorem mE (h:aV O x N Y=.ok v al)(q:br al v=some true):uV O (x::y::l) N Y=.ok v al:=vJ h q rfl
theorem ae:ou O [] N Y=.ok [] Y:=rfl
theorem aa (h:aV O x N Y=.ok v al)(k:ou O r N al=.ok vs ay):ou O (x::r) N Y=.ok (v::vs) ay:=aK h<|aK k rfl
theorem cJ:jK O [] N Y=.ok true Y:=rfl
theorem pi (h:aV O x N Y=.ok v al)(q:br al v=some true)(k:jK O r N al=.ok b ay):jK O (x::r) N Y=.ok b ay:=aK (gj h q) k
theorem m5 (h:aV O x N Y=.ok v al)(q:br al v=some false):jK O (x::r) N Y=.ok false al:=aK (gj h q) rfl
def je (O:av)(fr:Loc)(ts:List Nat)(cd:List X)(elt:X)(v:V)(acc:aH)(Y:af):Res (aH):=fL (dA Y ts v fr) λloc'=>(jK O cd loc' Y).bind λb Y=>cond b ((aV O elt loc' Y).bind λv Y=>ma v acc Y)<|.ok acc Y
variable {elt:X}
theorem d7 {fr:List (Option Nat)}{ts:List Nat}{cd:List X}(h:aV O x N Y=.ok u al)(q:cI al u=some all)(k:dr (je O (eJ fr N) ts cd elt) u all all [] al=.ok vs ay):
  aV O (.comp fr ts x cd elt) N Y=.ok (.ref ay.length) (ay++[.list vs]):=aK h<|cw q<|aK k rfl
variable {acc:aH}
theorem cf {f:V->List V->af->Res (aH)}:dr f u all [] acc Y=.ok acc Y:=rfl
theorem bq {f:V->List V->af->Res (aH)}{wZ:aH}{rest:aH}{RL:Res (aH)}(h:f v acc Y=.ok wZ al)(q:same al u all=true)(k:dr f u all rest wZ al=RL):dr f u all (v::rest) acc Y=RL:=aK h<|ry q k
theorem dG {fr:Loc}{ts:List Nat}{cond:List X}{w:V}(h:dA Y ts v fr=some loc')(k:jK O cond loc' Y=.ok true al)(q:aV O elt loc' al=.ok w ay)(hl:acc.length<10000):je O fr ts cond elt v acc Y=.ok (acc++[w]) ay:=cw h<|aK k<|aK q<|ry hl rfl
theorem jO {fr:Loc}{ts:List Nat}{cond:List X}(h:dA Y ts v fr=some loc')(k:jK O cond loc' Y=.ok false al):je O fr ts cond elt v acc Y=.ok acc al:=cw h<|aK k rfl
theorem zi {fr:List (Option Nat)}(h:aV O x (eJ fr N) Y=.ok v al):aV O (.word fr x) N Y=.ok v al:=by
 show q5 (aV O x (eJ fr N) Y)= _;rw[h];rfl
variable {W:Nat} {s:S} {ss tt:List S} {f:fA} {t:T} {ts:List T} {RF:Res fA} {RL:Res Loc}
theorem ic (h:aV O x N Y=.ok .none al):oy O W (.ex x) N Y=.ok (none,N) al:=aK h rfl
theorem aA (h:aV O x N Y=.ok v al)(k:ue O t v N al=.ok loc' ay):oy O W (.set t x) N Y=.ok (none,loc') ay:=aK h<|aK k rfl
theorem bO (h:aV O x N Y=.ok v al):oy O W (.ret x) N Y=.ok (some v,N) al:=aK h rfl
theorem bl (h:aV O x N Y=.ok v al)(q:br al v=some true)(k:b9 O W ss N al=RF):oy O W (.ite x ss tt) N Y=RF:=aK (gj h q) k
theorem aB (h:aV O x N Y=.ok v al)(q:br al v=some false)(k:b9 O W tt N al=RF):oy O W (.ite x ss tt) N Y=RF:=aK (gj h q) k
theorem RC (h:aV O x N Y=.ok v al)(q:br al v=some b)(k:b9 O W (dj b ss tt) N al=RF):oy O W (.ite x ss tt) N Y=RF:=aK (gj h q)<|EN (f:=λx=>b9 O W x N al) k
theorem pj {y:X}{m:Str}{n:Int}(h:aV O x N Y=.ok (.str m) al)(k:aV O y N al=.ok (.int n) ay):oy O W (.raise C x y) N Y=.exc C ay:=aK h<|aK k rfl
theorem az:b9 O W [] N Y=.ok (none,N) Y:=rfl
theorem bS (h:oy O W s N Y=.ok (some v,loc') al):b9 O W (s::ss) N Y=.ok (some v,loc') al:=aK h rfl
theorem ah (h:oy O W s N Y=.ok f al)(k:Vy O W ss f al=RF):b9 O W (s::ss) N Y=RF:=aK h (by
 rcases f with ⟨_ | _,_⟩
 ·exact k
 ·exact k)
theorem cT (h:oy O W s N Y=.exc C al):b9 O W (s::ss) N Y=.exc C al:=dD h
theorem aE {i:Nat}:ue O (.l i) v N Y=.ok (N.set i<|some v) Y:=rfl
theorem eH {k:Bool}{l:aH}(h:kC Y v=some (k,l))(q:l.length=ts.length)(e:rX O ts l N Y=RL):ue O (.U ts) v N Y=RL:=cw h<|ry q e
theorem jp {n:Str}(h:aV O x N Y=.ok u al)(k:dh al u n=true)(q:jl al u n v=some ay):ue O (.attr x n) v N Y=.ok N ay:=aK h<|ry k<|cw q rfl
theorem fW {i:V}(h:aV O x N Y=.ok u al)(k:aV O y N al=.ok i ay)(q:jm ay u i v=some bD):ue O (.sub x y) v N Y=.ok N bD:=aK h<|aK k<|cw q rfl
theorem dk:rX O [] [] N Y=.ok N Y:=rfl
theorem aS (h:ue O t v N Y=.ok loc' al)(k:rX O ts vs loc' al=RL):rX O (t::ts) (v::vs) N Y=RL:=aK h k
theorem gR {src:V}(h:aV O x N Y=.ok src al)(q:cI al src=some all)(k:jz (λv N Y=>(ue O t v N Y).bind λN Y=>b9 O W ss N Y) src all all N al=RF):oy O W (.for t x ss) N Y=RF:=aK h<|cw q k
end
theorem le2 {a b c d:Nat}(h:(a.ble b&&c.ble d)=true):a<=b/\c<=d:=
 have h:=gb.mp h
 ⟨aO h.1,aO h.2⟩
theorem bh {O:av}{f:Nat}{i:g7}{vs:aH}{N:Loc}{Y Y':af}{R:fA}(hf:tx.fn f=some i)(hl:(vs.length.ble i.ps.length&&i.ps.length.ble (vs.length+i.dflt.length))=true)(hb:kD i.slots i.ps (vs++i.dflt.drop (vs.length+i.dflt.length - i.ps.length))=some N)(h:b9 O 400 i.body N Y=.ok R Y'):bn tx O f vs Y=.ok (R.1.getD .none) Y':=cw hf<|ry (le2 hl)<|cw hb<|aK h rfl
theorem gE {C:Nat}{O:av}{f:Nat}{i:g7}{vs:aH}{N:Loc}{Y Y':af}(hf:tx.fn f=some i)(hl:(vs.length.ble i.ps.length&&i.ps.length.ble (vs.length+i.dflt.length))=true)(hb:kD i.slots i.ps (vs++i.dflt.drop (vs.length+i.dflt.length - i.ps.length))=some N)(h:b9 O 400 i.body N Y=.exc C Y'):bn tx O f vs Y=.exc C Y':=cw hf<|ry (le2 hl)<|cw hb<|dD h
section
variable {Y:af} {i j d C f:Nat} {a k v:V} {n:Str} {l:iP} {vs:aH} {c:ao}
theorem jP (h:Y[i]?=some (.list vs)):wo Y i=some vs:=by unfold wo;rw[h]
theorem Ds (h:Y[i]?=some (.dict l)):Pc Y i=some l:=by unfold Pc;rw[h]
theorem nM {α:Type}{f:ao->Option α}(h:Y[i]?=some c):yH Y i f=f c:=by unfold yH;rw[h]
theorem Dt (h:Y[i]?=some (.inst C d))(k:Y[d]?=some (.dict l)):oO Y (.ref i)=some ⟨C,d,l,none⟩:=(nM h).trans<|nM k
theorem Bq (h:Y[i]?=some (.inst C d))(k:Y[d]?=some (.dict l)):uU Y (.ref i) n=some ⟨C,d,l,none⟩:=by unfold uU;rw[Dt h k];rfl
theorem zj (h:Y[i]?=some (.inst C d))(k:Y[d]?=some (.dict l))(e:aM l n=some v):kf Y (.ref i) n=some v:=by unfold kf;rw[Bq h k];exact e
theorem zk (h:Y[i]?=some (.inst C d))(k:Y[d]?=some (.dict l))(e:uT.attrs C n=true)(hl:l.length<499):dh Y (.ref i) n=true:=by
 unfold dh;rw[Dt h k];show(uT.attrs C n&&decide (l.length<499))=true;rw[e,eE hl];rfl
theorem EP (h:Y[i]?=some (.inst C d))(k:Y[d]?=some (.dict l))(e':(aM l n).isSome=false)(e:uT.bI C n=some f):fg Y (.ref i) n=some f:=by
 unfold fg;rw[Bq h k];show(if (aM l n).isSome=true then none else uT.bI C n)=some f;rw[e',if_neg Bool.false_ne_true,e]
theorem vK (h:Y[i]?=some (.inst C d))(k:Y[d]?=some (.dict l)):jl Y (.ref i) n v=some (Y.set d<|.dict<|rV l n v):=by unfold jl;rw[Dt h k];rfl
theorem zl (h:Y[j]?=some c):cq Y (.ref j) k=Uu k c:=nM h
theorem RD {i:Int}:cq Y (.gl vs) (.int i)=CL vs i:=rfl
theorem EQ {i:Int}:cq Y (.U vs) (.int i)=Xp vs i:=rfl
theorem Br {i:Int}(h:Y[j]?=some (.list vs)):cq Y (.ref j) (.int i)=CL vs i:=zl h
theorem pp {n:Str}(h:Y[j]?=some (.dict l)):cq Y (.ref j) (.str n)=aM l n:=zl h
theorem Du (h:Y[j]?=some c):jm Y (.ref j) k v=setC Y j k v c:=nM h
theorem in_of (h:Y[j]?=some c):isIn Y a (.ref j)=inC Y a (.ref j) c:=nM h
theorem mF (h:Y[i]?=some (.list vs)):kC Y (.ref i)=some (false,vs):=bJ (Option.map λl=>(false,l))<|jP h
theorem jQ {m:Nat}(h:Y[i]?=some (.list vs)):dL Y (m+1) (.ref i)=(qp (dL Y m) vs).map .list:=by
 show(wo Y i).bind _= _;rw[jP h];rfl
theorem RE {t t':aH}(h:Y[i]?=some (.list t))(h':Y[j]?=some (.list t'))(e:(t.isEmpty==t'.isEmpty)=false):Pd Y (.ref i) (.ref j)=some false:=by
 have:wE Y (.ref i) (.ref j)=some false:=by
  unfold wE;rw[mF h,mF h'];show(if (false==false&&!(t.isEmpty==t'.isEmpty))=true then some false else none)=some false;rw[e];rfl
 show L6 (wE Y (.ref i)<|.ref j) _= _;rw[this];rfl
theorem vL {t t':aH}(h:Y[i]?=some (.list t))(h':Y[j]?=some (.list t'))(e:(t.isEmpty==t'.isEmpty)=true):Pd Y (.ref i) (.ref j)=yG Y (.ref i) (.ref j):=by
 have:wE Y (.ref i) (.ref j)=none:=by
  unfold wE;rw[mF h,mF h'];show(if (false==false&&!(t.isEmpty==t'.isEmpty))=true then some false else none)=none;rw[e];rfl
 show L6 (wE Y (.ref i)<|.ref j) _= _;rw[this];rfl
theorem uo {x y:PyData}(h1:dL Y 12 a=some x)(h2:dL Y 12 k=some y)(h:(SeqAt.shaped x&&SeqAt.shaped y)=true):yG Y a k=some (PyData.eqv x y):=by
 unfold yG;rw[h1,h2];exact if_pos h
theorem zm {d:PyData}{xs:List PyData}(h1:dL Y 12 k=some (.list xs))(h2:dL Y 12 a=some d)(h:(PyData.canLayAll0 xs&&d.canLay0&&decide (d.depth<=64))=true):Ax Y a k=some (xs.any λy=>PyData.eqv y d):=by
 unfold Ax;rw[h1,h2];exact if_pos h
theorem NE {s:Str}{ts:db}(h:Y[i]?=some (.list vs))(e:eU vs=some ts):FP Y (.str s) (.ref i)=some (jy s ts):=by
 show(kC Y<|.ref i).bind _= _;rw[mF h];show(eU vs).map _= _;rw[e];rfl
variable {kk:Str}
theorem ER (h:Y[i]?=some (.inst C d))(k:Y[d]?=some (.dictX l kk))(e:(aM l kk).isSome=false):oO Y (.ref i)=some ⟨C,d,l,some kk⟩:=(nM h).trans ((nM k).trans (by
 show(if (aM l kk).isSome=true then none else some _)= _;rw[e];rfl))
theorem ES (h:Y[i]?=some (.inst C d))(k:Y[d]?=some (.dictX l kk))(e:(aM l kk).isSome=false)(e':(uT.attrs C n&&decide (l.length<499))=true):dh Y (.ref i) n=true:=by
 unfold dh;rw[ER h k e];exact e'
theorem JH (h:Y[i]?=some (.inst C d))(k:Y[d]?=some (.dictX l kk))(e:(aM l kk).isSome=false)(e':kk≠n):uU Y (.ref i) n=some ⟨C,d,l,some kk⟩:=by
 unfold uU;rw[ER h k e];exact if_neg λq=>e'<|aU q
theorem Bt (h:Y[i]?=some (.inst C d))(k:Y[d]?=some (.dictX l kk))(e:(aM l kk).isSome=false)(e':kk≠n)(hv:aM l n=some v):kf Y (.ref i) n=some v:=by
 unfold kf;rw[JH h k e e'];exact hv
theorem JI (h:Y[i]?=some (.inst C d))(k:Y[d]?=some (.dictX l kk))(e:(aM l kk).isSome=false)(e':kk≠n)(e1:(aM l n).isSome=false)(e2:uT.bI C n=some f):fg Y (.ref i) n=some f:=by
 unfold fg;rw[JH h k e e'];show(if (aM l n).isSome=true then none else uT.bI C n)=some f;rw[e1,if_neg Bool.false_ne_true,e2]
end
section
set_option tactic.hygienic true
abbrev KX:=Nat->af->Prop
def bW {α:Type}(r:Res α)(kx:KX)(k:α->af->Prop):Prop:=@Res.casesOn α (λ_=>Prop) r k kx True
def loW (o:Option (j9))(k:V->Prop):Prop:=@Option.casesOn _ (λ_=>Prop) o True λo=>@Option.casesOn _ (λ_=>Prop) o True k
def Vz (v:V)(P:Prop):Prop:=@V.casesOn (λ_=>Prop) v P (λ_=>True) (λ_=>True) (λ_=>True) (λ_=>True) (λ_=>True) (λ_ _=>True) λ_=>True
def Px (b:Bool)(P Q:Prop):Prop:=@Bool.casesOn (λ_=>Prop) b Q P
mutual
noncomputable def qf (O:av):X->Loc->af->KX->(V->af->Prop)->Prop
 | .l i,N,Y,_,k=>loW N[i]? λv=>k v Y
 | .c v,_,Y,_,k=>k v Y
 | .U l,N,Y,kx,k=>wN O l N Y kx λvs Y=>k (.U vs) Y
 | .s l,N,Y,kx,k=>wN O l N Y kx λvs Y=>k (.ref Y.length)<|Y++[.list vs]
 | .dct ks l,N,Y,kx,k=>wN O l N Y kx λvs Y=>k (.ref Y.length)<|Y++[.dict<|ks.zip vs]
 | .m op a b,N,Y,kx,k=>qf O a N Y kx λx Y=>qf O b N Y kx λy Y=>∀⦃b⦄,cS Y op x y=some b->k (.bool b) Y
 | .and l,N,Y,kx,k=>RG O l N Y kx k
 | .or l,N,Y,kx,k=>RI O l N Y kx k
 | .not a,N,Y,kx,k=>qf O a N Y kx λx Y=>∀⦃b⦄,br Y x=some b->k (.bool !b) Y
 | .ite c a b,N,Y,kx,k=>qf O c N Y kx λx Y=>∀⦃t⦄,br Y x=some t->Px t (qf O a N Y kx k) (qf O b N Y kx k)
 | .bin op a b,N,Y,kx,k=>qf O a N Y kx λx Y=>qf O b N Y kx λy Y=>∀⦃r⦄,jJ Y op x y=r->bW r kx k
 | .i a i,N,Y,kx,k=>qf O a N Y kx λx Y=>qf O i N Y kx λy Y=>∀⦃v⦄,cq Y x y=some v->k v Y
 | .slcTo a h,N,Y,kx,k=>qf O a N Y kx λx Y=>qf O h N Y kx λy Y=>∀⦃r⦄,rW Y x y=r->bW r kx k
 | .slcFrom a h,N,Y,kx,k=>qf O a N Y kx λx Y=>qf O h N Y kx λy Y=>∀⦃r⦄,oN Y x y=r->bW r kx k
 | .attr a n,N,Y,kx,k=>qf O a N Y kx λx Y=>dh Y x n=true->∀⦃v⦄,kf Y x n=some v->k v Y
 | .call f l,N,Y,kx,k=>wN O l N Y kx λvs Y=>∀⦃r⦄,O f vs Y=r->bW r kx k
 | .new C l,N,Y,kx,k=>∀⦃f⦄,uT.init C=some f->wN O l N Y kx λvs Y=>∀⦃r⦄,O f (.ref (Y.length+1)::vs) (Y++[.dict [],.inst C Y.length])=r->bW r kx λv Y'=>Vz v<|k (.ref (Y.length+1)) Y'
 | .bI a n l,N,Y,kx,k=>qf O a N Y kx λx Y=>∀⦃f⦄,fg Y x n=some f->wN O l N Y kx λvs Y=>∀⦃r⦄,O f (x::vs) Y=r->bW r kx k
 | .bi b l,N,Y,kx,k=>wN O l N Y kx λvs Y=>∀⦃r⦄,wp Y b vs=r->bW r kx k
 | .bm a m l,N,Y,kx,k=>qf O a N Y kx λx Y=>FQ Y x m=true->wN O l N Y kx λvs Y=>∀⦃r⦄,Pe Y x m vs=r->bW r kx k
 | .comp fr ts it cd elt,N,Y,kx,k=>∀⦃r⦄,aV O (.comp fr ts it cd elt) N Y=r->bW r kx k
 | .comp2 fr ts it qP qQ elt,N,Y,kx,k=>∀⦃r⦄,aV O (.comp2 fr ts it qP qQ elt) N Y=r->bW r kx k
 | .word fr a,N,Y,kx,k=>∀⦃r⦄,aV O (.word fr a) N Y=r->bW r kx k
noncomputable def wN (O:av):List X->Loc->af->KX->(List V->af->Prop)->Prop
 | [],_,Y,_,k=>k [] Y
 |a::r,N,Y,kx,k=>qf O a N Y kx λv Y=>wN O r N Y kx λvs Y=>k (v::vs) Y
noncomputable def RG (O:av):List X->Loc->af->KX->(V->af->Prop)->Prop
 | [],_,_,_,_=>True
 |a::r,N,Y,kx,k=>qf O a N Y kx λv Y=>Px r.isEmpty (k v Y)<|∀⦃t⦄,br Y v=some t->Px t (RG O r N Y kx k) (k v Y)
noncomputable def RI (O:av):List X->Loc->af->KX->(V->af->Prop)->Prop
 | [],_,_,_,_=>True
 |a::r,N,Y,kx,k=>qf O a N Y kx λv Y=>Px r.isEmpty (k v Y)<|∀⦃t⦄,br Y v=some t->Px t (k v Y) (RI O r N Y kx k)
end
section
variable {α β:Type} {kx:KX} {k k':α->af->Prop} {r:Res α}
theorem dY (h:bW r kx k)(f:∀v Y,k v Y->k' v Y):bW r kx k':=by
 cases r with
 |ok v Y=>exact f v Y h
 |exc C Y=>exact h
 |stuck=>trivial
theorem Dv {kx':KX}(h:bW r kx k)(g:∀C Y,kx C Y->kx' C Y)(f:∀v Y,k v Y->k' v Y):bW r kx' k':=by
 cases r with
 |ok v Y=>exact f v Y h
 |exc C Y=>exact g C Y h
 |stuck=>trivial
theorem bx {f:α->af->Res β}{k:β->af->Prop}(h:bW (r.bind f) kx k):bW r kx λv Y=>bW (f v Y) kx k:=by
 cases r with
 |ok v Y=>exact h
 |exc C Y=>exact h
 |stuck=>trivial
theorem vM {o:Option α}{f:α->Res β}{k:β->af->Prop}(h:bW (fL o f) kx k){v:α}(e:o=some v):bW (f v) kx k:=by
 rw[e] at h;exact h
theorem ET {p:Prop}[Decidable p]{k:α->af->Prop}(h:bW (if p then r else .stuck) kx k)(e:p):bW r kx k:=by
 rw[if_pos e] at h;exact h
theorem NF {b:Bool}{x y:Res α}(h:bW (cond b x y) kx k){P Q:Prop}(f:bW x kx k->P)(g:bW y kx k->Q):Px b P Q:=by
 cases b
 ·exact g h
 ·exact f h
theorem RJ {r:Res V}{f:Bool->af->Res β}{k:β->af->Prop}(h:bW ((dg r).bind f) kx k):bW r kx λv Y=>∀⦃b⦄,br Y v=some b->bW (f b Y) kx k:=
 dY (bx<|bx h) λ_ _ h _ e=>vM h e
theorem tX {r':Res α}(h:bW r kx k)(e:r=r'):bW r' kx k:=e▸h
end
section
variable {O:av}
def SoX (O:av)(x:X):Prop:=∀{N:Loc} {Y:af} {kx:KX} {k:V->af->Prop},bW (aV O x N Y) kx k->qf O x N Y kx k
structure SoL (O:av)(l:List X):Prop where
 s:∀{N:Loc} {Y:af} {kx:KX} {k:List V->af->Prop},bW (ou O l N Y) kx k->wN O l N Y kx k
 a:∀{N:Loc} {Y:af} {kx:KX} {k:V->af->Prop},bW (n0 O l N Y) kx k->RG O l N Y kx k
 o:∀{N:Loc} {Y:af} {kx:KX} {k:V->af->Prop},bW (uV O l N Y) kx k->RI O l N Y kx k
theorem Ma (x:X):SoX O x:=by
 refine X.rec (motive_1:=SoX O) (motive_2:=SoL O) ?l ?c ?U ?s ?dct ?m ?and ?or ?not ?ite ?bin ?i ?slcTo ?slcFrom ?attr ?call ?new ?bI ?bi ?bm ?comp ?comp2 ?word ?nil ?cons x
 case l=>
  intro i N Y kx k h;show loW N[i]? _;have h:bW (match N[i]? with
   |some (some v)=>.ok v Y
   |_=>.stuck) kx k:=h
  cases e:N[i]? with
  |none=>trivial
  |some o=>
   rw[e] at h;cases o with
   |none=>trivial
   |some v=>exact h
 case c=>intro v N Y kx k h;exact h
 case U=>intro l i N Y kx k h;exact i.s<|bx h
 case s=>intro l i N Y kx k h;exact i.s<|bx h
 case dct=>intro ks l i N Y kx k h;exact i.s<|bx h
 case m=>intro op a b i j N Y kx k h;exact i<|dY (bx h) λv Y h=>j<|dY (bx h) λv Y h _ e=>vM h e
 case and=>intro l i N Y kx k h;exact i.a h
 case or=>intro l i N Y kx k h;exact i.o h
 case not=>intro a i N Y kx k h;exact i<|RJ h
 case ite=>intro c a b i j l N Y kx k h;exact i<|dY (RJ h) λv Y h _ e=>NF (h e) j l
 case bin=>intro op a b i j N Y kx k h;exact i<|dY (bx h) λv Y h=>j<|dY (bx h) λv Y h _ e=>tX h e
 case i=>intro a b i j N Y kx k h;exact i<|dY (bx h) λv Y h=>j<|dY (bx h) λv Y h _ e=>vM h e
 case slcTo=>intro a b i j N Y kx k h;exact i<|dY (bx h) λv Y h=>j<|dY (bx h) λv Y h _ e=>tX h e
 case slcFrom=>intro a b i j N Y kx k h;exact i<|dY (bx h) λv Y h=>j<|dY (bx h) λv Y h _ e=>tX h e
 case attr=>intro a n i N Y kx k h;exact i<|dY (bx h) λv Y h e _ e'=>vM (ET h e) e'
 case call=>intro f l i N Y kx k h;exact i.s<|dY (bx h) λv Y h _ e=>tX h e
 case new=>intro C l i N Y kx k h f e;exact i.s (dY (bx<|vM h e) λv Y h r e=>dY (bx (e▸h)) λv Y h=>by
   cases v<;>first | exact h | trivial)
 case bI=>intro a n l i j N Y kx k h;exact i<|dY (bx h) λv Y h _ e=>j.s<|dY (bx<|vM h e) λv Y h _ e=>tX h e
 case bi=>intro f l i N Y kx k h;exact i.s<|dY (bx h) λv Y h _ e=>tX h e
 case bm=>intro a n l i j N Y kx k h;exact i<|dY (bx h) λv Y h e=>j.s<|dY (bx<|ET h e) λv Y h _ e=>tX h e
 case comp=>intro fr ts it cd elt _ _ _ N Y kx k h _ e;exact tX h e
 case comp2=>intro fr ts it qP qQ elt _ _ _ N Y kx k h _ e;exact tX h e
 case word=>intro fr a _ N Y kx k h _ e;exact tX h e
 case nil=>exact⟨λh=>h,λ_=>trivial,λ_=>trivial⟩
 case cons=>
  intro a r i j;refine⟨λh=>i (dY (bx h) λv Y h=>j.s<|bx h),λh=>i (dY (bx h) λv Y h=>?_),λh=>i<|dY (bx h) λv Y h=>?_⟩
  ·cases r with
   |nil=>exact h
   |cons b r=>exact λ_ e=>NF (vM h e) j.a λh=>h
  ·cases r with
   |nil=>exact h
   |cons b r=>exact λ_ e=>NF (vM h e) (λh=>h) j.o
end
mutual
noncomputable def RK (O:av):T->V->Loc->af->KX->(Loc->af->Prop)->Prop
 | .l i,v,N,Y,_,k=>k (N.set i<|some v) Y
 | .U ts,v,N,Y,kx,k=>∀⦃l⦄,kC Y v=some l->l.2.length=ts.length->JJ O ts l.2 N Y kx k
 | .attr a n,v,N,Y,kx,k=>qf O a N Y kx λx Y=>dh Y x n=true->∀⦃Y'⦄,jl Y x n v=some Y'->k N Y'
 | .sub a i,v,N,Y,kx,k=>qf O a N Y kx λx Y=>qf O i N Y kx λy Y=>∀⦃Y'⦄,jm Y x y v=some Y'->k N Y'
noncomputable def JJ (O:av):List T->List V->Loc->af->KX->(Loc->af->Prop)->Prop
 | [],vs,N,Y,_,k=>Px vs.isEmpty (k N Y) True
 |t::ts,vs,N,Y,kx,k=>@List.casesOn V (λ_=>Prop) vs True λv vs=>RK O t v N Y kx λN Y=>JJ O ts vs N Y kx k
end
def goW (f:fA)(P Q:Prop):Prop:=@Option.casesOn _ (λ_=>Prop) f.1 P λ_=>Q
mutual
noncomputable def VA (O:av)(W:Nat):S->Loc->af->KX->(fA->af->Prop)->Prop
 | .ex a,N,Y,kx,k=>qf O a N Y kx λv Y=>Vz v<|k (none,N) Y
 | .set t a,N,Y,kx,k=>qf O a N Y kx λv Y=>RK O t v N Y kx λN Y=>k (none,N) Y
 | .ret a,N,Y,kx,k=>qf O a N Y kx λv Y=>k (some v,N) Y
 | .ite c a b,N,Y,kx,k=>qf O c N Y kx λx Y=>∀⦃t⦄,br Y x=some t->Px t (wO O W a N Y kx k) (wO O W b N Y kx k)
 | .whl c a,N,Y,kx,k=>∀⦃r⦄,oy O W (.whl c a) N Y=r->bW r kx k
 | .for t it a,N,Y,kx,k=>∀⦃r⦄,oy O W (.for t it a) N Y=r->bW r kx k
 | .raise C a b,N,Y,kx,k=>qf O a N Y kx λx Y=>qf O b N Y kx λy Y=>bW (CM C x y Y) kx k
noncomputable def wO (O:av)(W:Nat):List S->Loc->af->KX->(fA->af->Prop)->Prop
 | [],N,Y,_,k=>k (none,N) Y
 |s::r,N,Y,kx,k=>VA O W s N Y kx λf Y=>goW f (wO O W r f.2 Y kx k)<|k f Y
end
def SoT (O:av)(t:T):Prop:=∀{v:V} {N:Loc} {Y:af} {kx:KX} {k:Loc->af->Prop},bW (ue O t v N Y) kx k->RK O t v N Y kx k
def ZC (O:av)(ts:List T):Prop:=∀{vs:aH} {N:Loc} {Y:af} {kx:KX} {k:Loc->af->Prop},bW (rX O ts vs N Y) kx k->JJ O ts vs N Y kx k
theorem soT {O:av}(t:T):SoT O t:=by
 refine T.rec (motive_1:=SoT O) (motive_2:=ZC O) ?l ?U ?attr ?sub ?nil ?cons t
 case l=>intro i v N Y kx k h;exact h
 case U=>intro ts i v N Y kx k h l e e';exact i<|ET (vM h e) e'
 case attr=>intro a n v N Y kx k h;exact Ma a<|dY (bx h) λx Y h e _ e'=>vM (ET h e) e'
 case sub=>intro a b v N Y kx k h;exact Ma a<|dY (bx h) λv Y h=>Ma b<|dY (bx h) λv Y h _ e=>vM h e
 case nil=>
  intro vs N Y kx k h;cases vs with
  |nil=>exact h
  |cons=>trivial
 case cons=>
  intro t ts i j vs N Y kx k h;cases vs with
  |nil=>trivial
  |cons v vs=>exact i<|dY (bx h) λv Y h=>j h
def SoS (O:av)(W:Nat)(s:S):Prop:=∀{N:Loc} {Y:af} {kx:KX} {k:fA->af->Prop},bW (oy O W s N Y) kx k->VA O W s N Y kx k
def SoB (O:av)(W:Nat)(ss:List S):Prop:=∀{N:Loc} {Y:af} {kx:KX} {k:fA->af->Prop},bW (b9 O W ss N Y) kx k->wO O W ss N Y kx k
variable {W:Nat}
theorem Xt {O:av}(ss:List S):SoB O W ss:=by
 refine S.rec_1 (motive_1:=SoS O W) (motive_2:=SoB O W) ?ex ?set ?ret ?ite ?whl ?fr ?raise ?nil ?cons ss
 case ex=>intro a N Y kx k h;exact Ma a (dY (bx h) λv Y h=>by cases v<;>first | exact h | trivial)
 case set=>intro t a N Y kx k h;exact Ma a<|dY (bx h) λv Y h=>soT t<|bx h
 case ret=>intro a N Y kx k h;exact Ma a<|bx h
 case ite=>intro c a b i j N Y kx k h;exact Ma c<|dY (RJ h) λv Y h _ e=>NF (h e) i j
 case whl=>intro c a _ N Y kx k h _ e;exact tX h e
 case fr=>intro t it a _ N Y kx k h _ e;exact tX h e
 case raise=>intro C a b N Y kx k h;exact Ma a<|dY (bx h) λv Y h=>Ma b<|bx h
 case nil=>intro N Y kx k h;exact h
 case cons=>
  intro s r i j N Y kx k h;refine i<|dY (bx h) λf Y h=>?_
  rcases f with ⟨_ | v,l⟩
  ·exact j h
  ·exact h
theorem rz {α:Type}{r:Res α}:bW r (λC Y=>r=.exc C Y) λv Y=>r=.ok v Y:=by
 cases r with
 |ok=>exact rfl
 |exc=>exact rfl
 |stuck=>trivial
variable {f:Nat} {vs:aH} {N:Loc} {Y:af}
theorem VB {O:av}{i:g7}(hf:tx.fn f=some i)(hl:(vs.length.ble i.ps.length&&i.ps.length.ble (vs.length+i.dflt.length))=true)(hb:kD i.slots i.ps (vs++i.dflt.drop (vs.length+i.dflt.length - i.ps.length))=some N):
  wO O 400 i.body N Y (λC Y'=>bn tx O f vs Y=.exc C Y') λR Y'=>bn tx O f vs Y=.ok (R.1.getD .none) Y':=
 Xt i.body (Dv rz (λ_ _ h=>gE hf hl hb h) λ_ _ h=>bh hf hl hb h)
variable {ss:List S}
theorem VC {O:av}:wO O W ss N Y (λC Y'=>b9 O W ss N Y=.exc C Y') λR Y'=>b9 O W ss N Y=.ok R Y':=Xt ss rz
variable {x:X}
theorem VD {O:av}:qf O x N Y (λC Y'=>aV O x N Y=.exc C Y') λR Y'=>aV O x N Y=.ok R Y':=Ma x rz
theorem d8 {O:av}{i:g7}{r:Res V}(hf:tx.fn f=some i)(hl:(vs.length.ble i.ps.length&&i.ps.length.ble (vs.length+i.dflt.length))=true)(hb:kD i.slots i.ps (vs++i.dflt.drop (vs.length+i.dflt.length - i.ps.length))=some N)
  (h:wO O 400 i.body N Y (λC Y'=>bn tx O f vs Y=.exc C Y') (λR Y'=>bn tx O f vs Y=.ok (R.1.getD .none) Y')->bn tx O f vs Y=r):bn tx O f vs Y=r:=h<|VB hf hl hb
theorem bG {O:av}{r:Res fA}(h:wO O W ss N Y (λC Y'=>b9 O W ss N Y=.exc C Y') (λR Y'=>b9 O W ss N Y=.ok R Y')->b9 O W ss N Y=r):b9 O W ss N Y=r:=h VC
theorem dv {O:av}{r:Res V}(h:qf O x N Y (λC Y'=>aV O x N Y=.exc C Y') (λR Y'=>aV O x N Y=.ok R Y')->aV O x N Y=r):aV O x N Y=r:=h VD
theorem JK {O:av}{i:Nat}{v:V}{al:af}{r:Res fA}(h:aV O x N Y=.ok v al)(k:b9 O W ss (N.set i<|some v) al=r):b9 O W (.set (.l i) x::ss) N Y=r:=aK (aA h aE) k
theorem pW {O:av}{i:g7}{al:af}{r:Res V}{n:Nat}{v:V}(h0:aV O x N Y=.ok v al)(hf:tx.fn f=some i)(e:i.body=.set (.l n) x::ss)(hl:(vs.length.ble i.ps.length&&i.ps.length.ble (vs.length+i.dflt.length))=true)(hb:kD i.slots i.ps (vs++i.dflt.drop (vs.length+i.dflt.length - i.ps.length))=some N)
  (h:wO O 400 ss (N.set n<|some v) al (λC Y'=>bn tx O f vs Y=.exc C Y') (λR Y'=>bn tx O f vs Y=.ok (R.1.getD .none) Y')->bn tx O f vs Y=r):bn tx O f vs Y=r:=
 h (Xt ss<|Dv rz (λ_ _ k=>gE hf hl hb (by rw[e];exact JK h0 k)) λ_ _ k=>bh hf hl hb (by rw[e];exact JK h0 k))
theorem EU {O:av}{s:S}:b9 O W [s] N Y=oy O W s N Y:=by
 show(oy O W s N Y).bind _= _;cases oy O W s N Y with
 |ok f Y'=>rcases f with ⟨_ | v,l⟩<;>rfl
 |exc=>rfl
 |stuck=>rfl
theorem dw {O:av}{s:S}{r:Res fA}(h:wO O W [s] N Y (λC Y'=>oy O W s N Y=.exc C Y') (λR Y'=>oy O W s N Y=.ok R Y')->oy O W s N Y=r):oy O W s N Y=r:=
 h (Xt [s]<|Dv rz (λC Y' e=>EU▸e) λR Y' e=>EU▸e)
end
noncomputable def GM {α:Type}:List (List α)->List α
 | []=>[]
 |l::r=>match r with
  | []=>l
  |_::_=>l++GM r
theorem EV {α:Type}(l:List (List α)):GM l=l.flatten:=by
 induction l with
 |nil=>rfl
 |cons a r ih=>
  cases r with
  |nil=>exact(gI a).symm
  |cons b r=>exact bJ (a++·) ih
theorem NG {α:Type}{l:List (List α)}(is:List Nat)(h:is.isPerm (List.range l.length)=true):(GM<|is.map λi=>l.getD i []).Perm (GM l):=by
 rw[EV,EV];refine List.Perm.flatten<|((List.isPerm_iff.mp h).map _).trans<|List.Perm.of_eq ?_
 refine List.ext_getElem (by rw[cy,List.length_range]) λi h1 h2=>?_;rw[List.getElem_map,List.getElem_range,z6,i8 h2];rfl
theorem uq {α:Type}(l:List (List α))(is:List Nat){a b:List α}(h:is.isPerm (List.range l.length)=true)(e:GM l=a)(e':(GM<|is.map λi=>l.getD i [])=b):b.Perm a:=e▸e'▸NG is h
theorem JL {α:Type}(d m k p t1 t2 t3 t4 t5 t g i e ti tl:α):[m,d,k,p,t,g,i,t1,t2,t3,t4,t5,ti,tl,e].Perm [d,m,k,p,t1,t2,t3,t4,t5,t,g,i,e,ti,tl]:=
 uq [[d],[m],[k],[p],[t1],[t2],[t3],[t4],[t5],[t],[g],[i],[e],[ti],[tl]] [1,0,2,3,9,10,11,4,5,6,7,8,13,14,12] (by lk) (by lk) (by lk)
theorem xO {α:Type}(C T1 R U T2:List α)(i1 tl i2:α):(C++(T2++(i2::tl::(T1++(i1::(R++U)))))).Perm (C++(T1++(i1::tl::((R++i2::T2)++U)))):=by
 rw[bT,sQ];exact uq [C,T1,[i1],[tl],R,[i2],T2,U] [0,6,5,3,1,2,4,7] (by lk) (by lk) (by lk)
theorem JM {α:Type}(C T0 T1 T2 U0 U1 U2:List α)(i0 i1 i2 tl e:α):(C++(T2++(T1++(T0++(U0++(U1++(U2++[i0,i1,i2,tl,e]))))))).Perm (C++(T2++(i2::((tl::(T1++(i1::((T0++(i0::([e]++U0)))++U1))))++U2)))):=by
 rw[sQ,bT,sQ,bT,bT,sQ,bT];exact uq [C,T2,[i2],[tl],T1,[i1],T0,[i0],[e],U0,U1,U2] [0,1,4,6,9,10,11,7,5,2,3,8] (by lk) (by lk) (by lk)
theorem JN {α:Type}(C T0 T1 T2 U R:List α)(x:α):(C++(T2++(T1++(T0++((U++[x])++R))))).Perm ((C++(T2++(T1++(T0++(U++R)))))++[x]):=by
 rw[bT U,bT C,bT T2,bT T1,bT T0,bT U];exact uq [C,T2,T1,T0,U,R,[x]] [0,1,2,3,4,6,5] (by lk) (by lk) (by lk)
theorem VE:∀n:Nat,n<7->((n:Int)=0∨(n:Int)=1)∨(n:Int)=2∨(n:Int)=3∨(n:Int)=4∨(n:Int)=5∨(n:Int)=6:=by lk
theorem ZD {d:Int}(h:0<=d)(h':d<7):(d=0∨d=1)∨d=2∨d=3∨d=4∨d=5∨d=6:=by
 obtain⟨n,rfl⟩:=Int.eq_ofNat_of_zero_le h;exact VE n<|Int.ofNat_lt.mp h'
theorem VF:∀n:Nat,n<8->¬(n:Int)<2->(n:Int)=2∨(n:Int)=3∨(n:Int)=4∨(n:Int)=5∨(n:Int)=6∨(n:Int)=7:=by lk
theorem ZE {d:Int}(h:0<=d)(h':d<8)(h2:¬d<2):d=2∨d=3∨d=4∨d=5∨d=6∨d=7:=by
 obtain⟨n,rfl⟩:=Int.eq_ofNat_of_zero_le h;exact VF n (Int.ofNat_lt.mp h') h2
noncomputable abbrev aD (a b:Int):ao:=.list [.int a,.int b]
section
variable {O:av} {Y:af} {s:Nat} {a b top:Int}
theorem JO (h:Y[s]?=some (aD a b)):cq Y (.ref s) (.int 0)=some (.int a):=(zl h).trans rfl
theorem Bu (h:Y[s]?=some (aD a b)):cq Y (.ref s) (.int 1)=some (.int b):=(zl h).trans rfl
theorem Bv (h:Y[s]?=some (aD a b))(v:Int):jm Y (.ref s) (.int 0) (.int v)=some (Y.set s<|aD v b):=(Du h).trans rfl
theorem Bw (h:Y[s]?=some (aD a b))(v:Int):jm Y (.ref s) (.int 1) (.int v)=some (Y.set s<|aD a v):=(Du h).trans rfl
theorem c9 (h:Y[s]?=some (aD a b))(a' b':Int):(Y.set s<|aD a' b')[s]?=some (aD a' b'):=uA (bP.mp h).1
variable {j:Int}
theorem j3 (i:Int)(h:0<j):jJ Y .Mod (.int i) (.int j)=.ok (.int<|i.fmod j) Y:=if_pos h
theorem ur (i:Int)(h:0<j)(h':j<1000000):jJ Y .FloorDiv (.int i) (.int j)=.ok (.int<|i.fdiv j) Y:=if_pos ⟨h,h'⟩
theorem mul_int (i:Int)(h:fK j=true):jJ Y .Mult (.int i) (.int j)=.ok (.int<|i * j) Y:=if_pos (by rw[h,Bool.or_true])
theorem gt_int {i:Int}{r:Bool}(h:decide (j<i)=r):cS Y .Gt (.int i) (.int j)=some r:=by rw[<-h];rfl
theorem xP (h:Y[s]?=some (aD a b))(h0:0<top)(h1:top<1000):
  ∃d a' b',0<=d/\d<top/\bn tx O 385 [.ref s,.int top] Y=.ok (.int d) (Y.set s<|aD a' b'):=by
 have i0:=JO h;have i1:=Bu h;by_cases ha:0<a
 ·refine Ab (a.fmod top) (a.fdiv top) b (Int.fmod_nonneg_of_pos _ h0) (Int.fmod_lt_of_pos _ h0) ?_;apply d8 rfl rfl rfl
  repeat (intro w;first | exact w | refine(?_:_->_) (w<|by first | (with_reducible first | exact i0 | exact gt_int (eE ha) | exact j3 _ h0 | exact ur _ h0 (by omega) | exact Bv h _ | assumption) | first | exact i0 | exact gt_int (eE ha) | exact j3 _ h0 | exact ur _ h0 (by omega) | exact Bv h _ | assumption | exact rfl))
 ·have e1:(0:Int)<2147483647:=by lk
  have e2:(0:Int)<2147483629:=by lk
  have e3:(0:Int)<32:=by lk
  have hb0:=Int.fmod_nonneg_of_pos (b * 39373+7) e1;have hb1:=Int.fmod_lt_of_pos (b * 39373+7) e1;refine Ab _ a ((b * 39373+7).fmod 2147483647) (Int.fmod_nonneg_of_pos ((((b * 39373+7).fmod 2147483647 * (b * 39373+7).fmod 2147483647).fmod 2147483629).fdiv 32) h0) (Int.fmod_lt_of_pos _ h0) ?_;have hs:fK ((b * 39373+7).fmod 2147483647)=true:=by
   unfold fK;simp only[ln,mN];omega
  have i2:=Bu<|c9 h a<|(b * 39373+7).fmod 2147483647
  apply d8 rfl rfl rfl
  repeat (intro w;first | exact w | refine(?_:_->_) (w<|by first | (with_reducible first | exact i0 | exact i1 | exact i2 | exact gt_int (fy ha) | exact j3 _ h0 | exact j3 _ e1 | exact j3 _ e2 | exact ur _ e3 (by lk) | exact mul_int _ hs | exact mul_int _ rfl | exact Bw h _ | assumption) | first | exact i0 | exact i1 | exact i2 | exact gt_int (fy ha) | exact j3 _ h0 | exact j3 _ e1 | exact j3 _ e2 | exact ur _ e3 (by lk) | exact mul_int _ hs | exact mul_int _ rfl | exact Bw h _ | assumption | exact rfl))
theorem nN (h:Y[s]?=some (aD a b)):s<Y.length:=(bP.mp h).1
variable {l:aH}
theorem pN {Y:af}{v:V}{k:Bool}{f:Bool->List V->Res V}(h:kC Y v=some (k,l))(hl:l.length<10000):onSeq Y v f=f k l:=by unfold onSeq;rw[h];exact if_pos hl
theorem Dw {t:V}{k:Bool}(h:kC Y t=some (k,l))(hl:l.length<1000):wp Y .len [t]=.ok (.int l.length) Y:=pN (f:=λM l=>.ok (.int l.length) Y) h<|dU hl<|by lk
structure eT (Y:af)(s:Nat)(t:V)(l:aH):Prop where
 seq:∀c,∃k,kC (Y.set s c) t=some (k,l)
 here:∃k,kC Y t=some (k,l)
 at':∀(c:ao) (i:Nat) (v:V),l[i]?=some v->cq (Y.set s c) t (.int i)=some v
theorem ut {i:Nat}{v:V}(h:l[i]?=some v)(hl:l.length<1000):CL l (.ofNat i)=some v:=by
 have hi:=(bP.mp h).1;unfold CL;rw[if_pos]
 ·exact h
 ·have e:(Int.ofNat i)=(i:Int):=rfl;unfold fK;simp only[ln,mN,e];omega
theorem eT.gl (hl:l.length<1000):eT Y s (.gl l) l:=⟨λM=>⟨_,rfl⟩,⟨_,rfl⟩,λc i v h=>RD.trans<|ut h hl⟩
theorem eT.list {t:Nat}(h:Y[t]?=some (.list l))(dZ:s≠t)(hl:l.length<1000):eT Y s (.ref t) l:=
 have e:∀c:ao,(Y.set s c)[t]?=some (.list l):=λc=>by rw[eL dZ];exact h
 ⟨λc=>⟨false,mF<|e c⟩,⟨false,mF h⟩,λc i v hv=>(Br<|e c).trans<|ut hv hl⟩
theorem Bx {t:V}(hT:∀top:Int,0<top->top<1000->∃d a' b',0<=d/\d<top/\O 385 [.ref s,.int top] Y=.ok (.int d) (Y.set s<|aD a' b'))(ht:eT Y s t l)(h0:0<l.length)(h1:l.length<1000):
  ∃(i:Nat) (v:V) (a' b':Int),l[i]?=some v/\bn tx O 392 [.ref s,t] Y=.ok v (Y.set s<|aD a' b'):=by
 refine kR (hT l.length (by omega)<|by omega) λd a' b' d0 d1 hd=>?_;refine aN (Int.eq_ofNat_of_zero_le d0) λi eA=>?_;subst eA;have hi:i<l.length:=by omega
 refine aN ht.here λk hk=>?_;have e1:=Dw hk h1;have e2:=ht.at' (aD a' b') i _<|i8 hi
 refine TH i (l[i]) a' b' (i8 hi) ?_;apply d8 rfl rfl rfl
 repeat (intro w;first | exact w | refine(?_:_->_) (w<|by first | (with_reducible first | exact e1 | exact hd | exact e2 | assumption) | first | exact e1 | exact hd | exact e2 | assumption | exact rfl))
end
abbrev uu:aH:=[.none,.str fT,.str pE,.str qo,.str rU,.str qo,.str fT,.str kc,.str ke]
inductive wP:V->V->Prop
 |none:wP .none .none
 |any:wP (.str qo) .none
 |named (s:Str):s∈[fT,pE,rU]->wP (.str s) (.str s)
 |bad (s:Str):s∈[kc,ke]->wP (.str s) (.str aI)
section
variable {a b:Int} {v:V}
end
section
structure bj (s:Nat)(Y Y':af):Prop where
 le:Y.length<=Y'.length
 old:∀i c,i≠s->Y[i]?=some c->Y'[i]?=some c
variable {s:Nat} {Y:af}
theorem bj.refl:bj s Y Y:=⟨ba _,λM M M h=>h⟩
theorem bj.trans {Y' CW:af}(h:bj s Y Y')(k:bj s Y' CW):bj s Y CW:=⟨eo h.le k.le,λi c hi hc=>k.old i c hi<|h.old i c hi hc⟩
theorem bj.push {l:List ao}:bj s Y (Y++l):=⟨by rw[cN];exact ej _ _,λi c M h=>by rw[i7 (bP.mp h).1];exact h⟩
variable {c:ao}
theorem bj.set:bj s Y (Y.set s c):=⟨by rw[qT];exact ba _,λi c hi h=>by rw[eL<|gz hi];exact h⟩
theorem aq:(Y++[c])[Y.length]?=some c:=by rw[kN<|ba _,oF];rfl
theorem ak {c':ao}{i:Nat}(h:Y[i]?=some c):(Y++[c'])[i]?=some c:=by rw[i7 (bP.mp h).1];exact h
variable {t:Nat}
theorem hM {l:aH}{i:Nat}{v:V}(h:Y[t]?=some (.list l))(hl:l.length<1000)(hv:l[i]?=some v):cq Y (.ref t) (.int<|.ofNat i)=some v:=by
 exact(Br h).trans (ut hv hl)
theorem cG {l:aH}(h:Y[t]?=some (.list l)):kC Y (.ref t)=some (false,l):=mF h
theorem cK {l:aH}(h:Y[t]?=some (.list l)):cI Y (.ref t)=some l:=jP h
theorem GN (v:V):V.beq v v=true:=
 V.rec (motive_1:=λv=>V.beq v v=true) (motive_2:=λl=>V.qY l l=true) rfl (λb=>lx b) (λb=>lx b) (λb=>lx b) (λM ih=>ih) (λM ih=>ih)
  (λa b=>gb.mpr ⟨lx a,lx b⟩) (λb=>lx b) rfl (λM M i j=>gb.mpr ⟨rfl,gb.mpr ⟨i,j⟩⟩) v
theorem vN (l:aH):V.qY l l=true:=by
 induction l with
 |nil=>rfl
 |cons v r ih=>exact gb.mpr ⟨rfl,gb.mpr ⟨GN v,ih⟩⟩
theorem bc {l:aH}(h:Y[t]?=some (.list l)):same Y (.ref t) l=true:=by
 show(match wo Y t with
  |some l'=>V.qY l' l
  |none=>false)=true
 rw[jP h];exact vN l
inductive Plain:Nat->V->Prop
 |none (n:Nat):Plain n .none
 |bool (n:Nat) (b:Bool):Plain n (.bool b)
 |int (n:Nat) (i:Int):Plain n (.int i)
 |str (n:Nat) (s:Str):PyData.canLay0 (.str s)=true->Plain n (.str s)
 |U (n:Nat) (l:aH):(∀x∈l,Plain n x)->Plain (n+1) (.U l)
theorem Plain.data {n:Nat}{v:V}(h:Plain n v):∃p:PyData,p.canLay0=true/\p.depth<=n/\(∀l,v=.U l->∃ps,p=.tuple ps)/\∀Y m,n<m->dL Y m v=some p:=by
 induction h with
 |none n=>exact oG .none rfl (p9 _) (λM e=>by cases e) (λY m hm=>by cases m with | zero=>omega | succ m=>rfl)
 |bool n b=>exact oG (.bool b) rfl (p9 _) (λM e=>by cases e) (λY m hm=>by cases m with | zero=>omega | succ m=>rfl)
 |int n i=>exact oG (.int i) rfl (p9 _) (λM e=>by cases e) (λY m hm=>by cases m with | zero=>omega | succ m=>rfl)
 |str n s hs=>exact oG (.str s) hs (p9 _) (λM e=>by cases e) (λY m hm=>by cases m with | zero=>omega | succ m=>rfl)
 |U n l hl ih=>
  have key:∃ps:List PyData,PyData.canLayAll0 ps=true/\PyData.depthAll ps<=n/\∀Y m,n<m->qp (dL Y m) l=some ps:=by
   clear hl
   induction l with
   |nil=>exact lY ([]) rfl (p9 _) λY m hm=>rfl
   |cons x r LN=>
    refine uH (ih x<|.head _) λp p1 p2 M p3=>j8 (LN λy hy=>ih y<|.tail _ hy) λps q1 q2 q3=>lY (p::ps) ?_ ?_ λY m hm=>?_
    ·simp only[PyData.canLayAll0,p1,q1,Bool.and_self]
    ·simp only[PyData.depthAll];omega
    ·show(dL Y m x).bind _= _;rw[p3 Y m hm];show(qp (dL Y m) r).map _= _;rw[q3 Y m hm];rfl
  refine j8 key λps q1 q2 q3=>oG (.tuple ps) ?_ ?_ (λM M=>⟨ps,rfl⟩) λY m hm=>?_
  ·simp only[PyData.canLay0,q1]
  ·simp only[PyData.depth];exact Nat.succ_le_succ ‹_›
  ·cases m with
   |zero=>omega
   |succ m=>
    show(qp (dL Y m) l).map PyData.tuple= _;rw[q3 Y m<|Nat.le_of_succ_le_succ ‹_›];rfl
end
abbrev eP (n:Str)(rs ts:V):V:=.U [.str mw,.int 0,.U [.U [.str n,rs,ts]]]
noncomputable def lP:V->Bool
 | .str _=>true
 |_=>false
def fq:V->Bool
 | .str s=>decide (s=aI)
 |_=>false
def qG (rd:V)(m:Bool)(d:V):V:=dj (fq rd) (.str aI)<|dj (lP d) d<|.U [.str qX,rd,.bool m,d]
def vO (n:Int)(d:V):V:=dj (decide (10000<n)) (.str aC)<|dj (lP d) d<|.U [.str kT,d,.int n]
def bg (ds:aH):V:=match ds.find? lP with
 |some f=>f
 |none=>.U ds
def vP (ds:aH):V:=dj (lP<|bg ds) (bg ds)<|.U [.str fE,bg ds]
def fX (rs ds:aH):V:=dj (!rs.isEmpty||!(ds.length==1)) (.str aC)<|dj (lP<|bg ds) (bg ds)<|.U [.str qc,ds.headD .none]
noncomputable def ml (rs jU:aH):aH:=if rs.isEmpty then [.none] else jU
def m6 (rs jU ds:aH):V:=dj (decide (1<rs.length)||!(ds.length==1)) (.str aC)<|dj (fq<|(ml rs jU).headD .none) (.str aI)<|dj (lP<|bg ds) (bg ds)<|.U [.str lB,.str mR,.U [(ml rs jU).headD .none],bg ds]
noncomputable def Dx:aH:=[.int 0,.int 3,.int 9999,.int 10000,.int 10001,.int 18446744073709551616]
inductive oo:List V->List V->Prop
 |nil:oo [] []
 |cons {s:Str} {d:V} {rs ds:aH}:wP (.str s) d->oo rs ds->oo (.str s::rs) (d::ds)
mutual
inductive la:Nat->V->V->Prop
 |u8:la 2 (eP fM (.U []) (.U [])) (.U [.str qa,.str fM])
 |S:la 2 (eP cB (.U []) (.U [])) (.U [.str lB,.str cB,.U [],.U []])
 |ref {k:Nat} {r rd w d:V} (m:Bool):wP r rd->la k w d->la (k+2) (.U [.str qX,.int 0,r,.bool m,w]) (qG rd m d)
 |arr {k:Nat} {w d:V} (n:Int):V.int n∈Dx->la k w d->la (k+2) (.U [.str kT,.int 0,w,.int n]) (vO n d)
 |U {k:Nat} {ws ds:aH}:fB k ws ds->ws.length<=2->la (k+2) (.U [.str fE,.int 0,.U ws]) (vP ds)
 |box {k:Nat} {rs jU ws ds:aH}:oo rs jU->fB k ws ds->ws.length<=2->la (k+2) (eP cY (.U rs) (.U ws)) (fX rs ds)
 |G {k:Nat} {rs jU ws ds:aH}:oo rs jU->fB k ws ds->ws.length<=2->rs.length<=2->la (k+2) (eP mR (.U rs) (.U ws)) (m6 rs jU ds)
inductive fB:Nat->List V->List V->Prop
 |nil (k:Nat):fB k [] []
 |cons {k k':Nat} {w d:V} {ws ds:aH}:la k' w d->k'<=k->fB k ws ds->fB k (w::ws) (d::ds)
end
def gn (k:Nat)(d:V):Prop:=d=.str aI∨d=.str aC∨∃l,d=.U l/\Plain k d
theorem Plain.mono {n m:Nat}{v:V}(h:Plain n v)(hm:n<=m):Plain m v:=by
 induction h generalizing m with
 |none=>exact .none _
 |bool _ b=>exact .bool _ b
 |int _ i=>exact .int _ i
 |str _ s hs=>exact .str _ s hs
 |U n l _ ih=>
  cases m with
  |zero=>omega
  |succ m=>exact .U m l λx hx=>ih x hx<|Nat.le_of_succ_le_succ ‹_›
variable {d:V}
theorem gn.mono {n m:Nat}(h:gn n d)(hm:n<=m):gn m d:=by
 refine o3 h (λh=>?_) (λh=>?_) λUT=>?_
 ·exact .inl h
 ·exact .inr<|.inl h
 ·exact aJ UT λl h p=>.inr<|.inr ⟨l,h,p.mono hm⟩
theorem iM (s:Str)(h:PyData.canLay0 (.str s)=true)(n:Nat):Plain n (.str s):=.str n s h
theorem wP.plain {r:V}(h:wP r d)(n:Nat):Plain n r/\Plain n d:=by
 cases h with
 |none=>exact⟨.none n,.none n⟩
 |any=>exact⟨iM qo (by lk) n,.none n⟩
 |named s hs=>
  have:Plain n (.str s):=by
   rcases aX.mp hs with rfl | hs
   ·exact iM fT (by lk) n
   rcases aX.mp hs with rfl | hs
   ·exact iM pE (by lk) n
   ·rw[cM.mp hs];exact iM rU (by lk) n
  exact⟨this,this⟩
 |bad s hs=>
  refine⟨?_,iM aI (by lk) n⟩;rcases aX.mp hs with rfl | hs
  ·exact iM kc (by lk) n
  ·rw[cM.mp hs];exact iM ke (by lk) n
variable {k:Nat}
theorem gn.plain (h:gn k d):Plain k d:=by
 rcases h with rfl | rfl | UV
 ·exact iM aI (by lk) k
 ·exact iM aC (by lk) k
 ·exact aJ UV λM M h=>h
theorem gn.pick {b:Bool}{x y:V}(h:b=true->gn k x)(h':b=false->gn k y):gn k (dj b x y):=by
 cases b
 ·exact h' rfl
 ·exact h rfl
theorem mm {l:aH}(h:∀x∈l,Plain k x):gn (k+1) (.U l):=.inr<|.inr ⟨l,rfl,.U k l h⟩
variable {ds:aH}
set_option tactic.hygienic true in
theorem gS (h:∀d∈ds,gn k d):gn (k+1) (bg ds):=by
 unfold bg;split
 ·next f hf=>exact(h f<|z9 hf).mono<|ly _
 ·exact mm λx hx=>(h x hx).plain
variable {rs:aH}
theorem wQ {jU:aH}(h:oo rs jU)(n:Nat):Plain n ((ml rs jU).headD .none):=by
 unfold ml;cases h with
 |nil=>exact .none n
 |cons h _=>exact(h.plain n).2
theorem Dy {P:V->Prop}{a b:V}(h1:P a)(h2:P b):∀x∈[a,b],P x:=λx hx=>by
 rcases aX.mp hx with rfl | hx
 ·exact h1
 ·rw[cM.mp hx];exact h2
theorem fY {P:V->Prop}{a:V}{l:aH}(h1:P a)(h2:∀x∈l,P x):∀x∈a::l,P x:=λx hx=>by
 rcases aX.mp hx with rfl | hx
 ·exact h1
 ·exact h2 x hx
theorem NH (ih:∀d∈ds,gn k d):gn (k+2) (fX rs ds):=by
 have h:=gS ih;refine .pick (λM=>.inr<|.inl rfl) λM=>.pick (λM=>h.mono<|ly _) λM=>mm<|Dy (iM qc (by lk) _) ?_
 cases ds with
 |nil=>exact .none _
 |cons d r=>exact((ih d<|.head _).plain).mono<|ly _
theorem VG {jU:aH}(hr:oo rs jU)(ih:∀d∈ds,gn k d):gn (k+2) (m6 rs jU ds):=by
 have h:=gS ih;exact .pick (λM=>.inr<|.inl rfl) λM=>.pick (λM=>.inl rfl) λM=>.pick (λM=>h.mono<|ly _) λM=>mm
  (fY (iM lB (by lk) _)<|fY (iM mR (by lk) _)<|Dy (.U _ _ λy hy=>by rw[cM.mp hy];exact wQ hr _) h.plain)
theorem la.GO {w:V}(h:la k w d):gn k d:=by
 refine la.rec (motive_1:=λk M d M=>gn k d) (motive_2:=λk M ds M=>∀d∈ds,gn k d) ?u8 ?S ?ref ?arr ?U ?box ?G ?nil ?cons h
 case u8=>exact mm<|Dy (iM qa (by lk) 1)<|iM fM (by lk) 1
 case S=>exact mm<|fY (iM lB (by lk) 1)<|fY (iM cB (by lk) 1)<|Dy (.U 0 [] λM h=>False.elim<|dq h)<|.U 0 [] λM h=>False.elim<|dq h
 case ref=>exact λm hr M ih=>.pick (λM=>.inl rfl) λM=>.pick (λM=>ih.mono<|ej _ 2) λM=>mm<|fY (iM qX (by lk) _)<|fY (hr.plain _).2<|Dy (.bool _ _)<|ih.plain.mono<|ly _
 case arr=>exact λn M M ih=>.pick (λM=>.inr<|.inl rfl) λM=>.pick (λM=>ih.mono<|ej _ 2) λM=>mm<|fY (iM kT (by lk) _)<|Dy (ih.plain.mono<|ly _)<|.int _ _
 case U=>exact λM M ih=>.pick (λM=>(gS ih).mono<|ly _) λM=>mm<|Dy (iM fE (by lk) _) (gS ih).plain
 case box=>exact λM M M ih=>NH ih
 case G=>exact λhr M M M ih=>VG hr ih
 case nil=>exact λk d h=>False.elim<|dq h
 case cons=>exact λM hk M i j d hd=>(aX.mp hd).elim (λe=>e▸i.mono hk)<|j d
theorem fB.GO {ws:aH}(h:fB k ws ds):∀d∈ds,gn k d:=by
 refine fB.rec (motive_1:=λM M M M=>True) (motive_2:=λk ws ds M=>∀d∈ds,gn k d) ?u8 ?S ?ref ?arr ?U ?box ?G ?nil ?cons h
 case nil=>exact λk d h=>False.elim<|dq h
 case cons=>exact λh hk M M j d hd=>(aX.mp hd).elim (λe=>e▸h.GO.mono hk)<|j d
 all_goals intros;trivial
abbrev a9:ao:=.list [.str aI,.str aC]
theorem jR {Y:af}{t:Nat}(h:gn k d)(hk:k<12)(ht:Y[t]?=some a9):cS Y .In d (.ref t)=some (lP d):=by
 refine(in_of ht).trans ?_;show Th Y d (.ref t)= _;unfold Th;rcases h with rfl | rfl | YY
 ·unfold FP;dsimp only;rw[mF ht];rfl
 ·unfold FP;dsimp only;rw[mF ht];rfl
 ·refine aJ YY λl eA p=>?_;subst eA;refine uH p.data λq q1 q2 q3 q4=>?_;refine aN (q3 l rfl) λps eA=>?_;subst eA;show Ax Y (.U l) (.ref t)=some false;have e1:dL Y 12 (.ref t)=some (.list [.str aI,.str aC]):=jQ ht;refine(zm e1 (q4 Y 12 hk) ?_).trans ?_
  ·rw[q1];have:PyData.canLayAll0 [PyData.str aI,PyData.str aC]=true:=by lk
   rw[this];simp only[Bool.and_self,Bool.true_and,mN];omega
  ·simp[PyData.eqv]
theorem eq_int {Y:af}{i j:Int}:cS Y .Eq (.int i) (.int j)=some (decide (i=j)):=by
 show yG Y (.int i) (.int j)= _;show(if (SeqAt.shaped (.int i)&&SeqAt.shaped (.int j))=true then some (PyData.eqv (.int i)<|.int j) else none)= _;rw[if_pos<|by rfl];simp only[PyData.eqv];rfl
theorem zwS {α : Type _} {a : Option α} : a = a := rfl
theorem zwT {a : Bool} : a = a := rfl
theorem zwO {α : Type _} {a : Res α} : a = a := rfl
theorem zwN {a : Nat} : a = a := rfl
local macro_rules | `(tactic| room) => `(tactic| (intro w; first | exact w | refine (?_ : _ -> _) (w (by first | (with_reducible assumption) | assumption | exact eq_int | exact zwS | exact zwT | exact zwO | exact zwN))))

def eW (k s:Nat)(Y:af)(r:Res V):Prop:=∃j Y' w d a' b',r=.ok (.ref j) Y'/\bj s Y Y'/\Y'[s]?=some (aD a' b')/\Y'[j]?=some (.list [w,d])/\j≠s/\la k w d
structure lQ (O:av)(s:Nat):Prop where
 take:∀{Y:af} {a b top:Int},Y[s]?=some (aD a b)->0<top->top<1000->∃d a' b',0<=d/\d<top/\O 385 [.ref s,.int top] Y=.ok (.int d) (Y.set s<|aD a' b')
 one:∀{Y:af} {a b:Int} {t:V} {l:aH},Y[s]?=some (aD a b)->eT Y s t l->0<l.length->l.length<1000->∃(i:Nat) (v:V) (a' b':Int),l[i]?=some v/\O 392 [.ref s,t] Y=.ok v (Y.set s<|aD a' b')
 reg:∀{Y:af} {a b:Int},Y[s]?=some (aD a b)->∃j Y' r d a' b',O 493 [.ref s] Y=.ok (.ref j) Y'/\bj s Y Y'/\Y'[s]?=some (aD a' b')/\Y'[j]?=some (.list [r,d])/\j≠s/\wP r d
 path:∀{Y:af} {n r t:V},O 486 [n,r,t] Y=.ok (.U [.str mw,.int 0,.U [.U [n,r,t]]]) Y
section
variable {O:av} {s:Nat} {Y:af} {a b:Int} {deep:Int}
theorem dt {j:Nat}(hs:Y[s]?=some (aD a b))(h:Y.length<=j):j≠s:=λe=>by have:=nN hs;omega
theorem EW (H:lQ O s)(hs:Y[s]?=some (aD a b))(way:Int)(hw:way=0∨way=1){a' b':Int}{x:X}
  (h0:aV O (.ite (.m .Gt (.l 1)<|.xi 0) (.call 385 [.l 0,.xi 7])<|.call 385 [.l 0,.xi 2]) [some<|.ref s,some<|.int deep,ai,ai,ai,ai,ai,ai,ai,ai,ai,ai,ai,ai,ai,ai,ai,ai,ai,ai,ai,ai,ai] Y=.ok (.int way) (Y.set s<|aD a' b')):
  eW 2 s Y (bn tx O 503 [.ref s,.int deep] Y):=by
 have hl:(Y.set s<|aD a' b').length=Y.length:=qT;have Cj:=c9 hs a' b';rcases hw with rfl | rfl
 ·refine rS Y.length (Y.set s (aD a' b')++[.list [eP fM (.U [])<|.U [],.U [.str qa,.str fM]]]) _ _ a' b' ?_ (bj.set.trans .push) (ak Cj) ?_ (dt hs<|ba _) .u8
  ·rw[<-hl];apply pW h0 rfl rfl rfl rfl
   repeat (intro w;first | exact w | refine(?_:_->_) (w<|by first | (with_reducible first | exact H.path | exact eq_int) | first | exact H.path | exact eq_int | exact(rfl:_=some _) | exact(rfl:_=true) | exact(rfl:_=Res.ok _ _) | exact(rfl:(_:Nat)= _)))
  ·rw[<-hl];exact aq
 ·refine rS Y.length (Y.set s (aD a' b')++[.list [eP cB (.U [])<|.U [],.U [.str lB,.str cB,.U [],.U []]]]) _ _ a' b' ?_ (bj.set.trans .push) (ak Cj) ?_ (dt hs<|ba _) .S
  ·rw[<-hl];apply pW h0 rfl rfl rfl rfl
   repeat (intro w;first | exact w | refine(?_:_->_) (w<|by first | (with_reducible first | exact H.path | exact eq_int) | first | exact H.path | exact eq_int | exact(rfl:_=some _) | exact(rfl:_=true) | exact(rfl:_=Res.ok _ _) | exact(rfl:(_:Nat)= _)))
  ·rw[<-hl];exact aq
end
section
variable {O:av} {s:Nat} {Y:af} {a b:Int} {deep:Int} {k:Nat}
theorem NI {r rd:V}(h:wP r rd):cS Y .Eq rd (.str aI)=some (fq rd):=by
 cases h with
 |none=>lk
 |any=>lk
 |named s _=>rfl
 |bad s _=>rfl
noncomputable abbrev tq (s:Nat)(deep:Int):Loc:=[some<|.ref s,some<|.int deep,ai,ai,ai,ai,ai,ai,ai,ai,ai,ai,ai,ai,ai,ai,ai,ai,ai,ai,ai,ai,ai]
noncomputable abbrev zn:X:=.ite (.m .Gt (.l 1)<|.xi 0) (.call 385 [.l 0,.xi 7])<|.call 385 [.l 0,.xi 2]
theorem RM (H:lQ O s)(hs:Y[s]?=some (aD a b)){bM d5:Int}(hk:k<12)
  (h0:aV O zn (tq s deep) Y=.ok (.int 2) (Y.set s<|aD bM d5))
  (hi:eW k s (Y.set s<|aD bM d5) (O 503 [.ref s,.int<|deep - 1]<|Y.set s<|aD bM d5)):
  eW (k+2) s Y (bn tx O 503 [.ref s,.int deep] Y):=by
 refine HB hi λj ay w d bN gp zq=>Ek zq λe2 K2 s2 c2 n2 T2=>HB (H.reg s2) λjr bD r rd mZ pZ zq=>Ek zq λe3 K3 s3 c3 n3 T3=>kR (H.take (top:=2) s3 (by lk)<|by lk) λdm kj l0 M M e4=>?_;have K34:bj s bD (bD.set s<|aD kj l0):=.set;have s4:=c9 s3 kj l0;have O1:=K34.old _ _ n2<|K3.old _ _ n2 c2
 have XG:=K34.old _ _ n3 c3;generalize ZF:bD.set s (aD kj l0)=aY at K34 s4 O1 XG e4;have W7:=ak (c':=a9) O1;have c3p:=ak (c':=a9) XG;have iF:=jR (Y:=aY++[a9]) T2.GO hk aq;have iN:=NI (Y:=aY++[a9]) T3;refine rS ((aY++[a9]).length) ((aY++[a9])++[.list [.U [.str qX,.int 0,r,.bool<|decide (dm=0),w],qG rd (decide (dm=0)) d]]) _ _ kj l0 ?_ ((((bj.set.trans K2).trans K3).trans<|K34.trans .push).trans .push) (ak<|ak s4) aq (dt (ak s4) (ba _):(aY++[a9]).length≠s)<|.ref _ T3 T2
 have i1:cq aY (.ref j) (.int 1)=some d:=hM O1 (dU (by lk:2<3) (by lk:3<=1000)) rfl;have i2:cq (aY++[a9]) (.ref j) (.int 0)=some w:=hM W7 (dU (by lk:2<3) (by lk:3<=1000)) rfl;have i3:cq (aY++[a9]) (.ref j) (.int 1)=some d:=hM W7 (dU (by lk:2<3) (by lk:3<=1000)) rfl;have i4:cq (aY++[a9]) (.ref jr) (.int 0)=some r:=hM c3p (dU (by lk:2<3) (by lk:3<=1000)) rfl;have i5:cq (aY++[a9]) (.ref jr) (.int 1)=some rd:=hM c3p (dU (by lk:2<3) (by lk:3<=1000)) rfl;unfold qG;cases hF:lP d<;>cases hN:fq rd<;>rw[hF] at iF<;>rw[hN] at iN
 all_goals
  apply pW h0 (i:=FW) rfl rfl rfl rfl
  repeat (intro w;first | exact w | refine(?_:_->_) (w<|by first | (with_reducible first | exact eq_int | exact e2 | exact e3 | exact e4 | exact iF | exact iN | exact i1 | exact i2 | exact i3 | exact i4 | exact i5) | first | exact eq_int | exact e2 | exact e3 | exact e4 | exact iF | exact iN | exact i1 | exact i2 | exact i3 | exact i4 | exact i5 | exact(rfl:_=some _) | exact(rfl:_=true) | exact(rfl:_=Res.ok _ _) | exact(rfl:(_:Nat)= _)))
end
section
variable {O:av} {s:Nat} {Y:af} {a b:Int} {deep:Int} {k:Nat}
noncomputable abbrev sx:aH:=[.int 0,.int 3,.int 9999,.int 10000,.int 10001,.int<|(2:Int) ^ Int.toNat 64]
theorem GP {i:Nat}{v:V}(h:sx[i]?=some v):∃n:Int,v=.int n/\V.int n∈Dx:=by
 rw[(by lk:sx=Dx)] at h;have hm:=bp h
 match i,h with
 | 0,h=>cases h;exact bF _ rfl hm
 | 1,h=>cases h;exact bF _ rfl hm
 | 2,h=>cases h;exact bF _ rfl hm
 | 3,h=>cases h;exact bF _ rfl hm
 | 4,h=>cases h;exact bF _ rfl hm
 | 5,h=>cases h;exact bF _ rfl hm
 |_+6,h=>cases h
theorem RN (H:lQ O s)(hs:Y[s]?=some (aD a b)){bM d5:Int}(hk:k<12)
  (h0:aV O zn (tq s deep) Y=.ok (.int 3) (Y.set s<|aD bM d5))
  (hi:eW k s (Y.set s<|aD bM d5) (O 503 [.ref s,.int<|deep - 1]<|Y.set s<|aD bM d5)):
  eW (k+2) s Y (bn tx O 503 [.ref s,.int deep] Y):=by
 refine HB hi λj ay w d bN gp zq=>Ek zq λe2 K2 s2 c2 n2 T2=>?_;have s2p:=ak (c':=ao.list sx) s2;refine nk (H.one s2p (eT.list (t:=ay.length) (l:=sx) aq ((dt s2<|ba _).symm:s≠ay.length)<|by lk) (by lk)<|by lk) λi v kj l0 hv e4=>?_;refine aJ (GP hv) λn eA hn=>?_;subst eA;have K24:bj s ay ((ay++[ao.list sx]).set s<|aD kj l0):=bj.push.trans .set;have s4:=c9 s2p kj l0;have O1:=K24.old _ _ n2 c2;generalize ZF:(ay++[ao.list sx]).set s (aD kj l0)=aY at K24 s4 O1 e4;have W7:=ak (c':=a9) O1;have iF:=jR (Y:=aY++[a9]) T2.GO hk aq;refine rS ((aY++[a9]).length) ((aY++[a9])++[.list [.U [.str kT,.int 0,w,.int n],vO n d]]) _ _ kj l0 ?_ (((bj.set.trans K2).trans<|K24.trans .push).trans .push) (ak<|ak s4) aq (dt (ak s4) (ba _):(aY++[a9]).length≠s)<|.arr _ hn T2
 have i1:cq aY (.ref j) (.int 1)=some d:=hM O1 (dU (by lk:2<3) (by lk:3<=1000)) rfl;have i2:cq (aY++[a9]) (.ref j) (.int 0)=some w:=hM W7 (dU (by lk:2<3) (by lk:3<=1000)) rfl;have i3:cq (aY++[a9]) (.ref j) (.int 1)=some d:=hM W7 (dU (by lk:2<3) (by lk:3<=1000)) rfl;unfold vO;cases hF:lP d<;>cases hN:decide (10000<n)<;>rw[hF] at iF
 all_goals
  have iN:=gt_int (Y:=aY++[a9]) hN;apply pW h0 (i:=FW) rfl rfl rfl rfl
  repeat (intro w;first | exact w | refine(?_:_->_) (w<|by first | (with_reducible first | exact eq_int | exact e2 | exact e4 | exact iF | exact iN | exact i1 | exact i2 | exact i3) | first | exact eq_int | exact e2 | exact e4 | exact iF | exact iN | exact i1 | exact i2 | exact i3 | exact(rfl:_=some _) | exact(rfl:_=true) | exact(rfl:_=Res.ok _ _) | exact(rfl:(_:Nat)= _)))
end
inductive be (s:Nat)(Y:af):List V->List V->List V->Prop
 |nil:be s Y [] [] []
 |cons {j:Nat} {w d:V} {ps ws ds:aH}:j≠s->Y[j]?=some (.list [w,d])->be s Y ps ws ds->be s Y (.ref j::ps) (w::ws) (d::ds)
theorem be.keep {s:Nat}{Y Y':af}{ps ws ds:aH}(K:bj s Y Y')(h:be s Y ps ws ds):be s Y' ps ws ds:=by
 induction h with
 |nil=>exact .nil
 |cons h1 h2 _ ih=>exact .cons h1 (K.old _ _ h1 h2) ih
theorem add_lists {Y:af}{i j:Nat}{l r:aH}(h:Y[i]?=some (.list l))(k:Y[j]?=some (.list r))(hl:l.length+r.length<100000):jJ Y .Add (.ref i) (.ref j)=.ok (.ref Y.length) (Y++[.list (l++r)]):=by
 have e2:jJ.listOf Y (.ref j)=some r:=jP k;show Ig Y _ _= _;exact cw (jP h:jJ.listOf Y (.ref i)=some l)<|cw e2<|if_pos hl
theorem JP {Y:af}{i:Nat}{l:aH}{m:Nat}(h:Y[i]?=some (.list l))(hm:m<=l.length)(hl:l.length<10000):oN Y (.ref i) (.int m)=.ok (.ref Y.length) (Y++[.list<|l.drop m]):=by
 show fL (wo Y i) _= _;exact cw (jP h)<|(if_pos ⟨by exact Int.ofNat_nonneg _,by omega,hl⟩).trans rfl
noncomputable abbrev og:aH:=[.int 0,.int 0,.int 0,.int 1]
theorem GQ {i:Nat}{v:V}(h:og[i]?=some v):v=.int 0∨v=.int 1:=by
 match i,h with
 | 0,h=>cases h;exact .inl rfl
 | 1,h=>cases h;exact .inl rfl
 | 2,h=>cases h;exact .inl rfl
 | 3,h=>cases h;exact .inr rfl
 |_+4,h=>cases h
section
variable {O:av} {s:Nat} {Y:af} {a b:Int} {k:Nat}
structure qH (O:av)(s:Nat):Prop where
 all:∀{Y:af} {t k:Nat} {ps ws ds:aH} {a b:Int},Y[s]?=some (aD a b)->t≠s->Y[t]?=some (.list ps)->be s Y ps ws ds->fB k ws ds->k<12->ps.length<=2->∃Y',O 498 [.ref t] Y=.ok (bg ds) Y'/\bj s Y Y'/\Y'[s]?=Y[s]?
theorem JQ (H:lQ O s)(hs:Y[s]?=some (aD a b)):∃(n:Nat) (a' b':Int),n<=1/\O 392 [.ref s,.ref Y.length] (Y++[ao.list og])=.ok (.int n) ((Y++[ao.list og]).set s<|aD a' b'):=by
 refine nk (H.one (ak (c':=ao.list og) hs) (eT.list (t:=Y.length) (l:=og) aq ((dt hs<|ba _).symm:s≠Y.length)<|by lk) (by lk)<|by lk) λi v a' b' hv e=>?_;rcases GQ hv with rfl | rfl
 ·exact Cw 0 a' b' (by lk) e
 ·exact Cw 1 a' b' (by lk) e
noncomputable abbrev Dz:X:=.bin .Add (.s [.l 3])<|.comp [none,none,none,some 0] [1] (.bi .range [.call 392 [.l 0,.s [.xi 0,.xi 0,.xi 0,.xi 1]]]) []<|.call 503 [.l 3,.xi 0]
noncomputable abbrev DA:X:=.slcFrom (.l 8)<|.call 392 [.l 0,.s [.xi 0,.xi 0,.xi 0,.xi 1]]
theorem VH (H:lQ O s)(hz:∀{Y:af} {a b:Int},Y[s]?=some (aD a b)->eW 2 s Y (O 503 [.ref s,.int 0] Y)){N:Loc}(LZ:N[0]?=some (some<|.ref s))(hs:Y[s]?=some (aD a b)){j:Nat}{w d:V}(XH:N[3]?=some (some<|.ref j))(hj:Y[j]?=some (.list [w,d]))(Tu:j≠s)(hk:2<=k)(hT:la k w d):
  ∃t Y' ps ws ds a' b',aV O Dz N Y=.ok (.ref t) Y'/\bj s Y Y'/\Y'[s]?=some (aD a' b')/\t≠s/\Y'[t]?=some (.list ps)/\be s Y' ps ws ds/\fB k ws ds/\ps.length<=2/\1<=ps.length:=by
 have s1:=ak (c':=ao.list [V.ref j]) hs;refine rR (JQ H s1) λn bN gp hn e2=>?_;have n1:Y.length≠s:=dt hs<|ba _
 have K2:bj s (Y++[ao.list [V.ref j]]) (((Y++[ao.list [V.ref j]])++[ao.list og]).set s<|aD bN gp):=bj.push.trans .set;have s2:=c9 (ak (c':=ao.list og) s1) bN gp;have hj2:=K2.old _ _ Tu<|ak (c':=ao.list [V.ref j]) hj
 have h2:=K2.old _ _ n1 (aq:(Y++[ao.list [V.ref j]])[Y.length]?=some (.list [.ref j]));generalize DB:((Y++[ao.list [V.ref j]])++[ao.list og]).set s (aD bN gp)=ay at K2 s2 hj2 h2 e2;have hf:eJ [none,none,none,some 0] N=[none,none,none,some<|.ref s]:=by
  unfold eJ;simp[LZ]
 have draw:∀{N:Loc} {Y Y':af} {v:V},N[0]?=some (some<|.ref s)->O 392 [.ref s,.ref Y.length] (Y++[ao.list og])=.ok v Y'->aV O (.call 392 [.l 0,.s [.xi 0,.xi 0,.xi 0,.xi 1]]) N Y=.ok v Y':=λh e=>aL (aa (I h)<|aa (bk<|aa ag<|aa ag<|aa ag<|aa ag ae) ae) e;rcases (by omega:n=0∨n=1) with rfl | rfl
 ·-- no more
  have e3:=add_lists (Y:=ay++[ao.list []]) (ak h2:(ay++[ao.list []])[Y.length]?=some (.list [.ref j])) aq (by simp);refine L5 ((ay++[ao.list []]).length) ((ay++[ao.list []])++[.list<|[.ref j]++[]]) _ ([w]) ([d]) bN gp<|Xl ?_ (((bj.push.trans K2).trans .push).trans .push) (ak<|ak s2) (dt (ak s2)<|ba _) aq (.cons Tu (ak<|ak hj2) .nil) (.cons hT (ba _)<|.nil _) (by simp)<|by simp
  exact fj (bk<|aa (I XH) ae) (d7 (cP (aa (draw LZ e2) ae) rfl) rfl cf) e3
 ·refine HB (hz s2) λj' bD w' d' mZ pZ zq=>Ek zq λe4 K3 s3 c3 n3 T3=>?_;have e3:=add_lists (Y:=bD++[ao.list<|[]++[V.ref j']]) (ak (K3.old _ _ n1 h2):(bD++[ao.list<|[]++[V.ref j']])[Y.length]?=some (.list [.ref j])) aq (by simp);refine L5 ((bD++[ao.list<|[]++[V.ref j']]).length) ((bD++[ao.list<|[]++[V.ref j']])++[.list<|[.ref j]++([]++[V.ref j'])]) _ ([w,w']) ([d,d']) mZ pZ<|Xl ?_ ((((bj.push.trans K2).trans K3).trans .push).trans .push) (ak<|ak s3) (dt (ak s3)<|ba _) aq (.cons Tu (ak<|ak<|K3.old _ _ Tu hj2)<|.cons n3 (ak<|ak c3) .nil) (.cons hT (ba _)<|.cons T3 hk<|.nil _) (by simp)<|by simp
  exact fj (bk<|aa (I XH) ae) (d7 (cP (aa (draw LZ e2) ae) rfl) (rfl:cI ay (.rng 0 ((1:Nat):Int))=some [.int 0])<|bq (hf▸dG rfl cJ (aL (aa (I rfl)<|aa ag ae) e4) (aO rfl)) rfl cf) e3
end
theorem be.tail {s:Nat}{Y:af}{ps ws ds:aH}(n:Nat)(h:be s Y ps ws ds):be s Y (ps.drop n) (ws.drop n) (ds.drop n):=by
 induction h generalizing n with
 |nil=>cases n<;>exact .nil
 |cons a b c ih=>cases n with
  |zero=>exact .cons a b c
  |succ n=>exact ih n
theorem fB.tail {k:Nat}{ws:aH}:∀{ds:aH} (n:Nat),fB k ws ds->fB k (ws.drop n) (ds.drop n):=by
 induction ws with
 |nil=>exact λ{ds} n h=>by cases h;cases n<;>exact .nil _
 |cons w ws ih=>
  intro ds n h;cases n with
  |zero=>exact h
  |succ n=>cases h with | cons _ _ h=>exact ih n h
section
variable {O:av} {s:Nat} {Y:af} {a b:Int} {deep:Int} {k:Nat}
theorem VI (H:lQ O s){N:Loc}(LZ:N[0]?=some (some<|.ref s))(hs:Y[s]?=some (aD a b)){t:Nat}{ps ws ds:aH}(hl8:N[8]?=some (some<|.ref t))(ht:Y[t]?=some (.list ps))(LY:t≠s)(hR:be s Y ps ws ds)(hT:fB k ws ds)(hp:ps.length<=2)(hp1:1<=ps.length):
  ∃t' Y' ps ws ds a' b',aV O DA N Y=.ok (.ref t') Y'/\bj s Y Y'/\Y'[s]?=some (aD a' b')/\t'≠s/\Y'[t']?=some (.list ps)/\be s Y' ps ws ds/\fB k ws ds/\ps.length<=2:=by
 refine rR (JQ H hs) λn bN gp hn e2=>?_;have K2:bj s Y ((Y++[ao.list og]).set s<|aD bN gp):=bj.push.trans .set;have s2:=c9 (ak (c':=ao.list og) hs) bN gp;have h2:=K2.old _ _ LY ht;generalize DB:(Y++[ao.list og]).set s (aD bN gp)=ay at K2 s2 h2 e2;have h1:(ps.drop n).length<=2:=by rw[List.length_drop];omega
 refine L5 ay.length (ay++[.list<|ps.drop n]) _ _ _ bN gp<|Tg ?_ (K2.trans .push) (ak s2) (dt s2<|ba _) aq ((hR.keep<|K2.trans .push).tail n) (hT.tail n) h1
 exact Dr (I hl8) (aL (aa (I LZ)<|aa (bk<|aa ag<|aa ag<|aa ag<|aa ag ae) ae) e2)<|JP (m:=n) h2 (eo ‹_› ‹_›)<|eu ‹_› rfl
theorem JR (H:lQ O s)(hA:qH O s)(hz:∀{Y:af} {a b:Int},Y[s]?=some (aD a b)->eW 2 s Y (O 503 [.ref s,.int 0] Y))(hs:Y[s]?=some (aD a b)){j:Nat}{w d:V}(hj:Y[j]?=some (.list [w,d]))(Tu:j≠s)(hk:2<=k)(mM:k<12)(hT:la k w d){way:Int}{rest:List S}:
  ∃t Y' ps ws ds a' b',bj s Y Y'/\Y'[s]?=some (aD a' b')/\t≠s/\Y'[t]?=some (.list ps)/\be s Y' ps ws ds/\fB k ws ds/\ps.length<=2/\
   ∀RF,b9 O 400 rest [some<|.ref s,some<|.int deep,some<|.int way,some<|.ref j,none,none,none,none,some<|.ref t,some<|bg ds,ai,ai,ai,ai,ai,ai,ai,ai,ai,ai,ai,ai,ai] Y'=RF->
    b9 O 400 (.set (.l 8) Dz::.set (.l 8) DA::.set (.l 9) (.call 498 [.l 8])::rest) [some<|.ref s,some<|.int deep,some<|.int way,some<|.ref j,ai,ai,ai,ai,ai,ai,ai,ai,ai,ai,ai,ai,ai,ai,ai,ai,ai,ai,ai] Y=RF:=by
 refine Mk (VH (N:=[some<|.ref s,some<|.int deep,some<|.int way,some<|.ref j,ai,ai,ai,ai,ai,ai,ai,ai,ai,ai,ai,ai,ai,ai,ai,ai,ai,ai,ai]) H hz rfl hs rfl hj Tu hk hT) λZG al aat aau aav bM d5 zq=>xa9 zq λe1 K1 s1 n1 c1 R1 T1 l1 l1'=>Mk (VI (N:=[some<|.ref s,some<|.int deep,some<|.int way,some<|.ref j,none,none,none,none,some<|.ref ZG,ai,ai,ai,ai,ai,ai,ai,ai,ai,ai,ai,ai,ai,ai]) H rfl s1 rfl c1 n1 R1 T1 l1 l1') λZH ay VJ VK VL bN gp zq=>Qe zq λe2 K2 s2 n2 c2 R2 T2 l2=>j8 (hA.all s2 n2 c2 R2 T2 mM l2) λbD e3 K3 s3=>L5 ZH bD VJ VK VL bN gp<|Tg ((K1.trans K2).trans K3) (s3.trans s2) n2 (K3.old _ _ n2 c2) (R2.keep K3) T2 l2 λRF h=>?_
 exact ah (aA e1 aE)<|ah (aA e2 aE)<|ah (aA (aL (aa (I rfl) ae) e3) aE) h
theorem xQ {fr:List (Option Nat)}{src:X}{N:Loc}{t:Nat}{ps ws ds:aH}(he:aV O src N Y=.ok (.ref t) Y)(ht:Y[t]?=some (.list ps))(hR:be s Y ps ws ds)(hf:eJ fr N=[none,none])(hp:ps.length<1000)(i:Nat)(hi:i<2):
  aV O (.comp fr [1] src []<|.i (.l 1)<|.c<|.int i) N Y=.ok (.ref Y.length) (Y++[.list<|if i=0 then ws else ds]):=by
 refine d7 he (cK ht) ?_;rw[hf];have key:∀{w0 HH uz:aH} (acc:aH),acc.length+w0.length<1000->be s Y w0 HH uz->dr (je O [none,none] [1] []<|.i (.l 1)<|.c<|.int i) (.ref t) ps w0 acc Y=.ok (acc++(if i=0 then HH else uz)) Y:=by
  intro w0 HH uz acc hl h
  induction h generalizing acc with
  |nil=>rw[cf];split<;>rw[gI]
  |@cons j w d w0 HH uz h1 h2 _ ih=>
   rw[dI] at hl;have hv:cq Y (.ref j) (.int i)=some (if i=0 then w else d):=by
    refine hM h2 (dU (by lk:2<3) (by lk:3<=1000)) ?_;rcases (by omega:i=0∨i=1) with rfl | rfl<;>rfl
   refine bq (dG rfl cJ (aG (I rfl) ag hv)<|ig ‹_› rfl) (bc ht) ?_;rw[ih _<|gX ‹_›];split<;>simp
 rw[key [] (by simpa using hp) hR];rfl
end
inductive wR:List V->List V->Prop
 |nil:wR [] []
 |cons {r d:V} {rs ds:aH}:wP r d->wR rs ds->wR (r::rs) (d::ds)
noncomputable abbrev By:aH:=[.int 0,.int 1,.int 1,.int 2]
theorem GR {i:Nat}{v:V}(h:By[i]?=some v):∃n:Nat,n<=2/\v=.int n:=by
 match i,h with
 | 0,h=>cases h;exact bF 0 (by lk) rfl
 | 1,h=>cases h;exact bF 1 (by lk) rfl
 | 2,h=>cases h;exact bF 1 (by lk) rfl
 | 3,h=>cases h;exact bF 2 (by lk) rfl
 |_+4,h=>cases h
section
variable {O:av} {s:Nat} {Y:af} {a b:Int} {k:Nat}
noncomputable abbrev Py:X:=.comp [none,none,none,some 0] [1] (.bi .range [.call 392 [.l 0,.s [.xi 0,.xi 1,.xi 1,.xi 2]]]) []<|.call 493 [.l 3]
noncomputable abbrev Pz:X:=.comp [none,none] [1] (.l 10) [.m .IsNot (.i (.l 1)<|.xi 0)<|.c .none]<|.l 1
theorem GS (H:lQ O s){all:aH}{lo hi:Int}:∀(l:aH) {Y:af} {a b:Int} (acc rs ds:aH),Y[s]?=some (aD a b)->be s Y acc rs ds->wR rs ds->acc.length+l.length<=2->
  ∃ps wm uz Y' a' b',dr (je O [none,none,none,some<|.ref s] [1] []<|.call 493 [.l 3]) (.rng lo hi) all l acc Y=.ok ps Y'/\bj s Y Y'/\Y'[s]?=some (aD a' b')/\be s Y' ps wm uz/\wR wm uz/\ps.length<=2:=by
 intro l
 induction l with
 |nil=>
  intro Y a b acc rs ds hs hR hG hl;exact rS acc rs ds Y a b cf .refl hs hR hG (by simpa using hl)
 |cons v r ih=>
  intro Y a b acc rs ds hs hR hG hl;refine HB (H.reg hs) λj al x d bM d5 zq=>Ek zq λe1 K1 s1 c1 n1 T1=>?_;have app:∀{ps rs ds:aH},be s al ps rs ds->wR rs ds->be s al (ps++[.ref j]) (rs++[x]) (ds++[d])/\wR (rs++[x]) (ds++[d]):=by
   intro ps rs ds h
   induction h with
   |nil=>intro _;exact⟨.cons n1 c1 .nil,.cons T1 .nil⟩
   |cons g1 g2 _ ih=>intro g;cases g with | cons g3 g4=>exact⟨.cons g1 g2 (ih g4).1,.cons g3 (ih g4).2⟩
  refine cR (app (hR.keep K1) hG) λhR2 hG2=>?_;rw[dI] at hl;exact HB (ih (acc++[.ref j]) _ _ s1 hR2 hG2<|ua ‹_›) λps wm uz Y' a' b' zq=>Ek zq λe2 K2 s2 R2 G2 l2=>rS ps wm uz Y' a' b' (bq (dG rfl cJ (aL (aa (I rfl) ae) e1)<|ig ‹_› rfl) rfl e2) (K1.trans K2) s2 R2 G2 l2
theorem VM (H:lQ O s){N:Loc}(LZ:N[0]?=some (some<|.ref s))(hs:Y[s]?=some (aD a b)):
  ∃t Y' ps rs ds a' b',aV O Py N Y=.ok (.ref t) Y'/\bj s Y Y'/\Y'[s]?=some (aD a' b')/\t≠s/\Y'[t]?=some (.list ps)/\be s Y' ps rs ds/\wR rs ds/\ps.length<=2:=by
 have s1:=ak (c':=ao.list By) hs;refine nk (H.one s1 (eT.list (t:=Y.length) (l:=By) aq ((dt hs<|ba _).symm:s≠Y.length)<|by lk) (by lk)<|by lk) λi v bN gp hv e2=>?_;refine aJ (GR hv) λn hn eA=>?_;subst eA;have K2:bj s Y ((Y++[ao.list By]).set s<|aD bN gp):=bj.push.trans .set;have s2:=c9 s1 bN gp;generalize DB:(Y++[ao.list By]).set s (aD bN gp)=ay at K2 s2 e2;have iv:∃l:aH,l.length=n/\cI ay (.rng 0 (n:Int))=some l:=by
  refine bF ((List.range<|((n:Int) - 0).toNat).map λ(k:Nat)=>.int (0+(k:Int))) ?_ ?_
  ·rw[cy,List.length_range];exact rfl
  ·unfold cI;dsimp only;rw[if_pos<|by omega]
 refine aJ iv λl hl iv=>?_;refine HB (GS H (all:=l) (lo:=0) (hi:=n) l [] [] [] s2 .nil .nil (by simp;omega)) λps rs ds bD mZ pZ zq=>Ek zq λe3 K3 s3 R3 G3 l3=>?_;refine L5 bD.length (bD++[.list ps]) ps rs ds mZ pZ<|Tg ?_ ((K2.trans K3).trans .push) (ak s3) (dt s3<|ba _) aq (R3.keep .push) G3 l3
 have hf:eJ [none,none,none,some 0] N=[none,none,none,some<|.ref s]:=by
  unfold eJ;simp[LZ]
 refine d7 (cP (aa (aL (aa (I LZ)<|aa (bk<|aa ag<|aa ag<|aa ag<|aa ag ae) ae) e2) ae) rfl) iv ?_;rw[hf];exact e3
theorem VN {N:Loc}{t:Nat}{ps rs ds:aH}(hl:N[10]?=some (some<|.ref t))(ht:Y[t]?=some (.list ps))(hR:be s Y ps rs ds)(hG:wR rs ds)(hp:ps.length<=2):
  ∃w0 wm uz,aV O Pz N Y=.ok (.ref Y.length) (Y++[.list w0])/\be s Y w0 wm uz/\oo wm uz/\w0.length<=2:=by
 have key:∀{l rs ds:aH} (acc:aH),acc.length+l.length<=2->be s Y l rs ds->wR rs ds->∃w0 wm uz,dr (je O [none,none] [1] [.m .IsNot (.i (.l 1)<|.xi 0)<|.c .none]<|.l 1) (.ref t) ps l acc Y=.ok (acc++w0) Y/\be s Y w0 wm uz/\oo wm uz/\acc.length+w0.length<=2:=by
  intro l rs ds acc hl h
  induction h generalizing acc with
  |nil=>intro _;exact tL ([]) ([]) ([]) (by rw[cf,gI]) .nil .nil hl
  |@cons j w d w0 HH uz h1 h2 _ ih=>
   intro hG;rw[dI] at hl;cases hG with
   |cons g1 g2=>
    have hv:cq Y (.ref j) (.int 0)=some w:=hM h2 (dU (by lk:2<3) (by lk:3<=1000)) rfl;by_cases hw:w=.none
    ·subst hw;exact uI (ih acc (Nat.le_of_lt ‹_›) g2) λp r d' e k1 k2 k3=>tL p r d' (bq (jO rfl<|m5 (ar (aG (I rfl) ag hv) ag rfl) rfl) (bc ht) e) k1 k2 k3
    ·obtain⟨x,rfl⟩:∃x,w=.str x:=by
      cases g1 with
      |none=>exact absurd rfl hw
      |any=>exact⟨_,rfl⟩
      |named x _=>exact⟨x,rfl⟩
      |bad x _=>exact⟨x,rfl⟩
     refine uI (ih (acc++[.ref j]) (ua ‹_›) g2) λp r d' e k1 k2 k3=>?_;rw[cN,j4] at k3;refine tL (.ref j::p) (.str x::r) (_::d') ?_ (.cons h1 h2 k1) (.cons g1 k2) (by rw[dI];omega);rw[show acc++V.ref j::p=acc++[V.ref j]++p by simp];exact bq (dG rfl (pi (ar (aG (I rfl) ag hv) ag rfl) rfl cJ) (I rfl)<|ig ‹_› rfl) (bc ht) e
 refine uI (key [] (by simpa using hp) hR hG) λp r d e k1 k2 k3=>tL p r d ?_ k1 k2 (by simpa using k3);exact d7 (I hl) (cK ht) e
end
theorem nO {Y:af}{v:V}{k:Bool}{l:aH}(h:kC Y v=some (k,l))(hl:l.length<10000):wp Y .len [v]=.ok (.int l.length) Y:=pN (f:=λM l=>.ok (.int l.length) Y) h hl
theorem ch {Y:af}{v:V}{k:Bool}{l:aH}(h:kC Y v=some (k,l))(hl:l.length<10000):wp Y .tuple [v]=.ok (.U l) Y:=pN (f:=λM l=>.ok (.U l) Y) h hl
theorem be.len {s:Nat}{Y:af}{ps ws ds:aH}(h:be s Y ps ws ds):ws.length=ps.length/\ds.length=ps.length:=by
 induction h with
 |nil=>exact⟨rfl,rfl⟩
 |cons _ _ _ ih=>simp[ih.1,ih.2]
noncomputable def zo:List S:=FW.body.drop 9
section
variable {O:av} {s:Nat} {Y:af} {a b:Int} {deep:Int} {k:Nat}
noncomputable abbrev RO (s:Nat)(deep way:Int)(j t:Nat)(wh:V):Loc:=[some<|.ref s,some<|.int deep,some<|.int way,some<|.ref j,none,none,none,none,some<|.ref t,some wh,ai,ai,ai,ai,ai,ai,ai,ai,ai,ai,ai,ai,ai]
theorem EX (H:lQ O s)(hA:qH O s)(hz:∀{Y:af} {a b:Int},Y[s]?=some (aD a b)->eW 2 s Y (O 503 [.ref s,.int 0] Y)){bM d5:Int}(hk:2<=k)(mM:k<12){way:Int}(hw:4<=way)
  (h0:aV O zn (tq s deep) Y=.ok (.int way) (Y.set s<|aD bM d5))
  (hi:eW k s (Y.set s<|aD bM d5) (O 503 [.ref s,.int<|deep - 1]<|Y.set s<|aD bM d5)):
  ∃j t Y' ps ws ds a' b',bj s Y Y'/\Y'[s]?=some (aD a' b')/\t≠s/\Y'[t]?=some (.list ps)/\be s Y' ps ws ds/\fB k ws ds/\ps.length<=2/\
   ∀{v:V} {loc':Loc} {ay:af},b9 O 400 zo (RO s deep way j t<|bg ds) Y'=.ok (some v,loc') ay->bn tx O 503 [.ref s,.int deep] Y=.ok v ay:=by
 refine HB hi λj ay w d bN gp zq=>Ek zq λe2 K2 s2 c2 n2 T2=>Mk (JR (way:=way) (deep:=deep) (rest:=zo) H hA hz s2 c2 n2 hk mM T2) λt bD ps ws ds mZ pZ zq=>Qe zq λK3 s3 n3 c3 R3 T3 l3 fin=>Xk j t bD ps ws ds mZ pZ<|Tg ((bj.set.trans K2).trans K3) s3 n3 c3 R3 T3 l3 λ{v loc' ZI} h=>?_
 have e1:decide (way=1)=false:=fy (by omega);have e2':decide (way=2)=false:=fy (by omega);have e3:decide (way=3)=false:=fy (by omega);have q:∀(i:Int) (b:Bool) (x:List S) (N:Loc) (Y:af),N[2]?=some (some<|.int way)->decide (way=i)=b->b=false->oy O 400 (.ite (.m .Eq (.l 2)<|.c<|.int i) x []) N Y=.ok (none,N) Y:=λi b x N Y hl hb hf=>by
  subst hf;exact aB (ar (I hl) ag eq_int) (by rw[hb];rfl) az
 apply bh (i:=FW) (R:=(some v,loc')) rfl rfl rfl;show b9 O 400 (.set (.l 2) zn::.ite (.m .Eq (.l 2)<|.xi 0) _ []::.ite (.m .Eq (.l 2)<|.xi 1) _ []::.set (.l 3) (.call 503 [.l 0,.bin .Sub (.l 1)<|.xi 1])::.ite (.m .Eq (.l 2)<|.xi 2) _ []::.ite (.m .Eq (.l 2)<|.xi 3) _ []::.set (.l 8) Dz::.set (.l 8) DA::.set (.l 9) (.call 498 [.l 8])::zo) _ _= _;refine ah (aA h0 aE)<|ah (q 0 _ _ _ _ rfl (fy (by omega):decide (way=0)=false) rfl)<|ah (q 1 _ _ _ _ rfl e1 rfl)<|ah (aA (aL (aa (I rfl)<|aa (fj (I rfl) ag rfl) ae) e2) aE)<|ah (q 2 _ _ _ _ rfl e2' rfl)<|ah (q 3 _ _ _ _ rfl e3 rfl) ?_
 exact fin _ h
end
section
variable {O:av} {s:Nat} {Y:af} {a b:Int} {deep:Int} {k:Nat}
theorem nP {src:X}{N:Loc}{t:Nat}{ps ws ds:aH}(he:aV O src N Y=.ok (.ref t) Y)(ht:Y[t]?=some (.list ps))(hR:be s Y ps ws ds)(hp:ps.length<=2):
  aV O (.comp [none,none] [1] src []<|.i (.l 1)<|.xi 0) N Y=.ok (.ref Y.length) (Y++[.list ws]):=xQ he ht hR rfl (eu ‹_› rfl) 0 (by lk)
theorem DC {src:X}{N:Loc}{t:Nat}{ps ws ds:aH}(he:aV O src N Y=.ok (.ref t) Y)(ht:Y[t]?=some (.list ps))(hR:be s Y ps ws ds)(hp:ps.length<=2):
  aV O (.comp [none,none] [1] src []<|.i (.l 1)<|.xi 1) N Y=.ok (.ref Y.length) (Y++[.list ds]):=xQ he ht hR rfl (eu ‹_› rfl) 1 (by lk)
set_option tactic.hygienic true in
theorem GT {ds:aH}(h:lP (bg ds)=false):bg ds=.U ds:=by
 unfold bg at h⊢;split at h
 ·next f hf=>have:=List.find?_some hf;rw[h] at this;cases this
 ·rfl
theorem RP (H:lQ O s)(hA:qH O s)(hz:∀{Y:af} {a b:Int},Y[s]?=some (aD a b)->eW 2 s Y (O 503 [.ref s,.int 0] Y)){bM d5:Int}(hk:2<=k)(mM:k<11)
  (h0:aV O zn (tq s deep) Y=.ok (.int 4) (Y.set s<|aD bM d5))
  (hi:eW k s (Y.set s<|aD bM d5) (O 503 [.ref s,.int<|deep - 1]<|Y.set s<|aD bM d5)):
  eW (k+2) s Y (bn tx O 503 [.ref s,.int deep] Y):=by
 refine TC (EX H hA hz hk (cb ‹_› rfl) (by lk) h0 hi) λj t aY ps ws ds kj l0 zq=>Qe zq λK4 s4 n4 c4 R4 T4 l4 fin=>?_;have c5:=ak (c':=a9) c4;have R5:be s (aY++[a9]) ps ws ds:=R4.keep .push;have iF:=jR (Y:=aY++[a9]) (gS T4.GO) (eu ‹_› rfl) aq;have s6:=ak (c':=ao.list ws)<|ak (c':=a9) s4
 have it:wp (aY++[a9]++[ao.list ws]) .tuple [.ref (aY++[a9]).length]=.ok (.U ws) (aY++[a9]++[ao.list ws]):=ch (cG aq) (by have:=R4.len;omega);refine rS ((aY++[a9]++[ao.list ws]).length) ((aY++[a9]++[ao.list ws])++[.list [.U [.str fE,.int 0,.U ws],vP ds]]) _ _ kj l0 ?_ (((K4.trans .push).trans .push).trans .push) (ak s6) aq (dt s6<|ba _)<|.U T4 (by have:=R4.len;omega)
 unfold vP;cases hF:lP (bg ds)<;>rw[hF] at iF
 all_goals
  apply fin;apply bG
  repeat (first | (intro w;refine(?_:_->_) (w<|nP (I rfl) c5 R5 l4)) | room)
end
noncomputable def uv:List S:=FW.body.drop 13
section
variable {O:av} {s:Nat} {Y:af} {a b:Int} {deep:Int} {k:Nat}
noncomputable abbrev RQ (s:Nat)(deep way:Int)(j t:Nat)(wh:V)(t':Nat)(rs ws:aH):Loc:=[some<|.ref s,some<|.int deep,some<|.int way,some<|.ref j,none,none,none,none,some<|.ref t,some wh,some<|.ref t',some<|.U rs,some<|.U ws,ai,ai,ai,ai,ai,ai,ai,ai,ai,ai]
theorem EY (H:lQ O s)(hA:qH O s)(hz:∀{Y:af} {a b:Int},Y[s]?=some (aD a b)->eW 2 s Y (O 503 [.ref s,.int 0] Y)){bM d5:Int}(hk:2<=k)(mM:k<12){way:Int}(hw:5<=way)
  (h0:aV O zn (tq s deep) Y=.ok (.int way) (Y.set s<|aD bM d5))
  (hi:eW k s (Y.set s<|aD bM d5) (O 503 [.ref s,.int<|deep - 1]<|Y.set s<|aD bM d5)):
  ∃j t t' Y' ps qs rs jU ws ds a' b',bj s Y Y'/\Y'[s]?=some (aD a' b')/\Y'[t]?=some (.list ps)/\be s Y' ps ws ds/\fB k ws ds/\ps.length<=2/\Y'[t']?=some (.list qs)/\be s Y' qs rs jU/\oo rs jU/\qs.length<=2/\
   ∀{v:V} {loc':Loc} {ay:af},b9 O 400 uv (RQ s deep way j t (bg ds) t' rs ws) Y'=.ok (some v,loc') ay->bn tx O 503 [.ref s,.int deep] Y=.ok v ay:=by
 refine TC (EX H hA hz hk mM (Int.le_of_lt ‹_›) h0 hi) λj t aY ps ws ds kj l0 zq=>Qe zq λK4 s4 n4 c4 R4 T4 l4 fin=>Mk (VM (N:=RO s deep way j t<|bg ds) H rfl s4) λZJ eQ qs rs jU A9 JS zq=>Qe zq λe5 K5 s5 n5 c5 R5 G5 l5=>uI (VN (N:=(RO s deep way j t<|bg ds).set 10<|some<|.ref ZJ) (O:=O) rfl c5 R5 G5 l5) λHz wm aae e6 R6 G6 l6=>?_;have K6:bj s eQ (eQ++[ao.list Hz]):=.push;have R6':=R6.keep K6;have R6a:=R6'.keep (Y':=(eQ++[ao.list Hz])++[ao.list wm]) .push;have c6a:(eQ++[ao.list Hz]++[ao.list wm])[t]?=some (.list ps):=ak<|ak<|K5.old _ _ n4 c4
 have R4a:be s (eQ++[ao.list Hz]++[ao.list wm]) ps ws ds:=(R4.keep K5).keep<|bj.push.trans .push
 have e8:∀N:Loc,N[8]?=some (some<|.ref t)->aV O (.comp [none,none] [1] (.l 8) []<|.i (.l 1)<|.xi 0) N (eQ++[ao.list Hz]++[ao.list wm])=.ok (.ref (eQ++[ao.list Hz]++[ao.list wm]).length) ((eQ++[ao.list Hz]++[ao.list wm])++[.list ws]):=λN hl=>nP (I hl) c6a R4a l4;refine X1 j t eQ.length ((eQ++[ao.list Hz]++[ao.list wm])++[.list ws]) ps Hz wm aae ws ds A9 JS<|X3 ((((K4.trans K5).trans K6).trans .push).trans .push) (ak<|ak<|ak (c':=ao.list Hz) s5) (ak c6a) (R4a.keep .push) T4 l4 (ak<|ak aq) (R6a.keep .push) G6 l6 λ{v loc' ay} h=>fin (loc':=loc') ?_
 have lr:=R6'.len;have lw:=R4a.len;show b9 O 400 (.ite (.m .Eq (.l 2)<|.xi 4) _ []::.set (.l 10) Py::.set (.l 10) Pz::.set (.U [.l 11,.l 12]) (.U [.bi .tuple [.comp [none,none] [1] (.l 10) []<|.i (.l 1)<|.xi 0],.bi .tuple [.comp [none,none] [1] (.l 8) []<|.i (.l 1)<|.xi 0]])::uv) _ _= _;refine ah (aB (ar (I rfl) ag eq_int) (by rw[fy<|show¬way=4 by omega];rfl) az)<|ah (aA e5 aE)<|ah (aA e6 aE)<|ah (aA (aT<|aa (cP (aa ((λN hl=>nP (I hl) aq R6' l6:∀N:Loc,N[10]?=some (some<|.ref eQ.length)->aV O (.comp [none,none] [1] (.l 10) []<|.i (.l 1)<|.xi 0) N (eQ++[ao.list Hz])=.ok (.ref (eQ++[ao.list Hz]).length) ((eQ++[ao.list Hz])++[.list wm])) _ rfl) ae)<|ch (cG aq)<|by omega)<|aa (cP (aa (e8 _ rfl) ae)<|ch (cG aq)<|by omega) ae)<|eH rfl rfl<|aS aE<|aS aE dk) ?_
 exact h
end
theorem ne_int {Y:af}{i j:Int}:cS Y .NotEq (.int i) (.int j)=some (!decide (i=j)):=by
 have:=eq_int (Y:=Y) (i:=i) (j:=j);show(Pd Y (.int i)<|.int j).map _= _;rw[show Pd Y (.int i) (.int j)=some (decide (i=j)) from this];rfl
theorem mn {Y:af}{l:aH}:cS Y .NotEq (.U l) (.U [])=some (!l.isEmpty):=by
 cases l with
 |nil=>lk
 |cons _ _=>rfl
theorem JT {Y:af}{t u:Nat}{x:V}(hx:x=.none∨∃r,wP r x)(ht:Y[t]?=some (.list [x]))(hu:Y[u]?=some (.list [.str aI])):cS Y .Eq (.ref t) (.ref u)=some (fq x):=by
 have e:∀{i:Nat} {y:V} {p:PyData},Y[i]?=some (.list [y])->(∀m,dL Y (m+1) y=some p)->dL Y 12 (.ref i)=some (.list [p]):=λ{i y p} h hp=>by
  rw[jQ h];show((dL Y 11 y).bind λd=>some [d]).map _= _;rw[hp 10];rfl
 refine(vL ht hu rfl).trans ?_;have key:∀p:PyData,(∀m,dL Y (m+1) x=some p)->SeqAt.shaped (.list [p])=true->PyData.eqv (.list [p]) (.list [.str aI])=fq x->yG Y (.ref t) (.ref u)=some (fq x):=λp hp h1 h2=>by
  rw[uo (e ht hp) (e hu λM=>rfl) (by rw[h1];decide+kernel),h2]
 rcases hx with rfl | YZ
 ·exact key .none (λM=>rfl) (by decide+kernel) (by simp[PyData.eqv,PyData.eqvAll,fq])
 ·refine aN YZ λr h=>?_;cases h with
  |none=>exact key .none (λM=>rfl) (by decide+kernel) (by simp[PyData.eqv,PyData.eqvAll,fq])
  |any=>exact key .none (λM=>rfl) (by decide+kernel) (by simp[PyData.eqv,PyData.eqvAll,fq])
  |named s hs=>
   refine key (.str s) (λM=>rfl) ?_ ?_
   ·rcases aX.mp hs with rfl | hs
    ·decide+kernel
    rcases aX.mp hs with rfl | hs
    ·decide+kernel
    ·rw[cM.mp hs];decide+kernel
   ·simp only[PyData.eqv,PyData.eqvAll,fq,Bool.and_true];rfl
  |bad s hs=>exact key (.str aI) (λM=>rfl) (by decide+kernel) (by decide+kernel)
section
variable {O:av} {s:Nat} {Y:af} {a b:Int} {deep:Int} {k:Nat}
theorem DE {ds:aH}(hF:lP (bg ds)=false)(h:ds.length=1):cq Y (bg ds) (.int 0)=some (ds.headD .none):=by
 refine aN (w5.mp h) λd e=>?_;subst e;rw[GT hF];rfl
theorem PA {n:Nat}{b:Option Bool}(e:b=some !decide ((n:Int)=1))(h:n=1):b=some false:=by rw[e,h];rfl
theorem PB {n:Nat}{b:Option Bool}(e:b=some !decide ((n:Int)=1))(h:¬n=1):b=some true:=by rw[e,fy<|show¬(n:Int)=1 from λq=>h<|Int.ofNat.inj q];rfl
theorem RR (H:lQ O s)(hA:qH O s)(hz:∀{Y:af} {a b:Int},Y[s]?=some (aD a b)->eW 2 s Y (O 503 [.ref s,.int 0] Y)){bM d5:Int}(hk:2<=k)(mM:k<11)
  (h0:aV O zn (tq s deep) Y=.ok (.int 5) (Y.set s<|aD bM d5))
  (hi:eW k s (Y.set s<|aD bM d5) (O 503 [.ref s,.int<|deep - 1]<|Y.set s<|aD bM d5)):
  eW (k+2) s Y (bn tx O 503 [.ref s,.int deep] Y):=by
 refine TD (EY H hA hz hk (cb ‹_› rfl) (by lk) h0 hi) λj t t' aY ps qs rs jU ws ds kj l0 zq=>TE zq λK4 s4 c4 R4 T4 l4 c5 R5 G5 l5 fin=>?_;have c4p:=ak (c':=a9) c4;have iF:=jR (Y:=aY++[a9]) (gS T4.GO) (eu ‹_› rfl) aq;have il:=nO (cG c4)<|eu ‹_› rfl
 have lr:=R4.len;have lw:ws.length<=2:=lr.1▸l4;have e0:=mn (Y:=aY) (l:=rs);have e1:=ne_int (Y:=aY) (i:=ps.length) (j:=1);have Co:fX rs ds=.str aC->bn tx O 503 [.ref s,.int deep] Y=.ok (.ref aY.length) (aY++[.list [eP cY (.U rs)<|.U ws,.str aC]])->eW (k+2) s Y (bn tx O 503 [.ref s,.int deep] Y):=λhd h=>
  ⟨aY.length,_,_,_,kj,l0,h,K4.trans .push,ak s4,aq,dt s4<|ba _,hd▸.box G5 T4 lw⟩
 cases hr:rs with
 |cons r wm=>
  subst hr;refine Co rfl ?_;apply fin;apply bG
  repeat (first | (intro w;refine(?_:_->_) (w (H.path))) | room)
 |nil=>
  subst hr;by_cases h1:ps.length=1
  ·have S2:=PA e1 h1;have XI:=lr.2.trans h1;have Eg:fX [] ds=dj (lP<|bg ds) (bg ds) (.U [.str qc,ds.headD .none]):=by unfold fX;rw[XI];rfl
   have hx:=la.box (k:=k) G5 T4 lw;rw[Eg] at hx;refine rS ((aY++[a9]).length) ((aY++[a9])++[.list [eP cY (.U [])<|.U ws,dj (lP<|bg ds) (bg ds)<|.U [.str qc,ds.headD .none]]]) _ _ kj l0 ?_ ((K4.trans .push).trans .push) (ak<|ak s4) aq (dt (ak (c':=a9) s4)<|ba _) hx;cases hF:lP (bg ds)<;>rw[hF] at iF
   ·have iw:=DE (Y:=aY++[a9]) hF XI;apply fin;apply bG
    repeat (first | (intro w;refine(?_:_->_) (w (H.path))) | room)
   ·apply fin;apply bG
    repeat (first | (intro w;refine(?_:_->_) (w (H.path))) | room)
  ·have S2:=PB e1 h1;refine Co ?_ ?_
   ·unfold fX;have:(ds.length==1)=false:=beq_false_of_ne λe=>h1<|lr.2.symm.trans e
    rw[this];rfl
   apply fin;apply bG
   repeat (first | (intro w;refine(?_:_->_) (w (H.path))) | room)
end
section
variable {O:av} {s:Nat} {Y:af} {a b:Int} {deep:Int} {k:Nat}
theorem NJ {rs jU:aH}(G:oo rs jU)(hr:¬1<rs.length):∃x,(x=.none∨∃r,wP r x)/\ml rs jU=[x]:=by
 cases G with
 |nil=>exact bF .none (.inl rfl) rfl
 |cons g g'=>
  cases g' with
  |nil=>exact bF _ (.inr ⟨_,g⟩) rfl
  |cons _ _=>exact absurd (Nat.succ_lt_succ<|Nat.zero_lt_succ _) hr
theorem GU {N:Loc}{t':Nat}{qs rs jU:aH}{x:V}(hl:N[10]?=some (some<|.ref t'))(mu:N[11]?=some (some<|.U rs))(c5:Y[t']?=some (.list qs))(R5:be s Y qs rs jU)(l5:qs.length<=2)(hK:ml rs jU=[x]):
  aV O (.ite (.m .NotEq (.l 11)<|.U []) (.comp [none,none] [1] (.l 10) []<|.i (.l 1)<|.xi 1)<|.s [.c .none]) N Y=.ok (.ref Y.length) (Y++[.list [x]]):=by
 refine sv (ar (I mu) (aT ae) (mn)) rfl ?_;cases rs with
 |nil=>
  rw[<-(List.cons.inj hK |>.1:V.none=x)];exact bk<|aa ag ae
 |cons r wm=>
  rw[<-(hK:jU=[x])];exact DC (I hl) c5 R5 l5
theorem ZK (H:lQ O s)(hA:qH O s)(hz:∀{Y:af} {a b:Int},Y[s]?=some (aD a b)->eW 2 s Y (O 503 [.ref s,.int 0] Y)){bM d5:Int}(hk:2<=k)(mM:k<11)
  (h0:aV O zn (tq s deep) Y=.ok (.int 6) (Y.set s<|aD bM d5))
  (hi:eW k s (Y.set s<|aD bM d5) (O 503 [.ref s,.int<|deep - 1]<|Y.set s<|aD bM d5)):
  eW (k+2) s Y (bn tx O 503 [.ref s,.int deep] Y):=by
 refine TD (EY H hA hz hk (cb ‹_› rfl) (by lk) h0 hi) λj t t' aY ps qs rs jU ws ds kj l0 zq=>TE zq λK4 s4 c4 R4 T4 l4 c5 R5 G5 l5 fin=>?_;have il:wp aY .len [.ref t]=.ok (.int ps.length) aY:=nO (cG c4)<|eu ‹_› rfl
 have lr:=R4.len;have lq:=R5.len;have lw:ws.length<=2:=lr.1▸l4;have lv:rs.length<=2:=lq.1▸l5;have ir:wp aY .len [.U rs]=.ok (.int rs.length) aY:=nO rfl<|eu lv rfl
 have e0:=mn (Y:=aY) (l:=rs);have e1:=ne_int (Y:=aY) (i:=ps.length) (j:=1);have n4:=dt s4<|ba _
 have Co:m6 rs jU ds=.str aC->bn tx O 503 [.ref s,.int deep] Y=.ok (.ref aY.length) (aY++[.list [eP mR (.U rs)<|.U ws,.str aC]])->eW (k+2) s Y (bn tx O 503 [.ref s,.int deep] Y):=λhd h=>
  ⟨aY.length,_,_,_,kj,l0,h,K4.trans .push,ak s4,aq,n4,hd▸.G G5 T4 lw lv⟩
 by_cases hr:1<rs.length
 ·have g1:=gt_int (Y:=aY) (i:=rs.length) (j:=1)<|eE<|Int.ofNat_lt.mpr hr
  refine Co ?_ ?_
  ·unfold m6;rw[eE hr];rfl
  apply fin;apply bG
  repeat (first | (intro w;refine(?_:_->_) (w (H.path))) | room)
 have g1:=gt_int (Y:=aY) (i:=rs.length) (j:=1)<|fy λh=>hr<|Int.ofNat_lt.mp h
 by_cases h1:ps.length=1
 ·have S2:=PA e1 h1;refine aJ (NJ G5 hr) λx hx hK=>?_;have XI:=lr.2.trans h1;have Eg:m6 rs jU ds=dj (fq x) (.str aI) (dj (lP<|bg ds) (bg ds)<|.U [.str lB,.str mR,.U [x],bg ds]):=by
   unfold m6;rw[XI,fy hr,hK];rfl
  have hT:=la.G (k:=k) G5 T4 lw lv;rw[Eg] at hT;have s5:=ak (c':=ao.list [x]) s4;have s6:=ak (c':=ao.list [V.str aI]) s5;have s7:=ak (c':=a9) s6;have eK:=JT (Y:=aY++[ao.list [x]]++[ao.list [V.str aI]]) hx (ak aq) aq;have iF:=jR (Y:=aY++[ao.list [x]]++[ao.list [V.str aI]]++[a9]) (gS T4.GO) (eu ‹_› rfl) aq;have ik:cq (aY++[ao.list [x]]++[ao.list [V.str aI]]++[a9]) (.ref aY.length) (.int 0)=some x:=hM (l:=[x]) (ak<|ak aq) (dU (by lk:1<3) (by lk:3<=1000)) rfl;have pre:∀{RF:Res fA},b9 O 400 (uv.drop 3) ((RQ s deep 6 j t (bg ds) t' rs ws).set 13<|some<|.ref aY.length) (aY++[ao.list [x]])=RF->b9 O 400 uv (RQ s deep 6 j t (bg ds) t' rs ws) aY=RF:=λ{RF} h=>
   ah (aB (ar (I rfl) ag eq_int) rfl az) (ah (aB (gw (ar (cP (aa (I rfl) ae) ir) ag g1) rfl<|gv<|ar (cP (aa (I rfl) ae) il) ag S2) rfl az)<|ah (aA (GU rfl rfl c5 R5 l5 hK) aE) h)
  cases hN:fq x<;>rw[hN] at eK
  ·cases hF:lP (bg ds)<;>rw[hF] at iF
   ·rw[hN,hF] at hT;refine rS ((aY++[ao.list [x]]++[ao.list [V.str aI]]++[a9]).length) (_++[.list [eP mR (.U rs)<|.U ws,_]]) _ _ kj l0 ?_ ((((K4.trans .push).trans .push).trans .push).trans .push) (ak s7) aq (dt s7<|ba _) hT;apply fin;apply pre;apply bG
    repeat (first | (intro w;refine(?_:_->_) (w (H.path))) | room)
   ·rw[hN,hF] at hT;refine rS ((aY++[ao.list [x]]++[ao.list [V.str aI]]++[a9]).length) (_++[.list [eP mR (.U rs)<|.U ws,_]]) _ _ kj l0 ?_ ((((K4.trans .push).trans .push).trans .push).trans .push) (ak s7) aq (dt s7<|ba _) hT;apply fin;apply pre;apply bG
    repeat (first | (intro w;refine(?_:_->_) (w (H.path))) | room)
  ·rw[hN] at hT;refine rS ((aY++[ao.list [x]]++[ao.list [V.str aI]]).length) (_++[.list [eP mR (.U rs)<|.U ws,_]]) _ _ kj l0 ?_ (((K4.trans .push).trans .push).trans .push) (ak s6) aq (dt s6<|ba _) hT;apply fin;apply pre;apply bG
   repeat (first | (intro w;refine(?_:_->_) (w (H.path))) | room)
 ·have S2:=PB e1 h1;refine Co ?_ ?_
  ·unfold m6;have:(ds.length==1)=false:=beq_false_of_ne λe=>h1<|lr.2.symm.trans e
   rw[this,fy hr];rfl
  apply fin;apply bG
  repeat (first | (intro w;refine(?_:_->_) (w (H.path))) | room)
end
theorem in_str {Y:af}{t:Nat}{s:Str}{l:aH}{ts:db}(ht:Y[t]?=some (.list l))(hl:eU l=some ts):cS Y .In (.str s) (.ref t)=some (jy s ts):=by
 refine(in_of ht).trans ?_;show L6 (FP Y (.str s)<|.ref t) _= _;rw[NE ht hl];rfl
theorem NK {Y:af}{t:Nat}(ht:Y[t]?=some (.list [.str kc,.str ke])):cS Y .In .none (.ref t)=some false:=by
 refine(in_of ht).trans ((zm (jQ ht:dL Y 12 (.ref t)=some (.list [.str kc,.str ke])) rfl<|by lk).trans ?_);simp[PyData.eqv]
section
variable {O:av} {s:Nat} {Y:af} {a b:Int}
def vQ (O:av)(s:Nat):Prop:=∀{Y:af} {a b:Int} {t:V} {l:aH},Y[s]?=some (aD a b)->eT Y s t l->0<l.length->l.length<1000->∃(i:Nat) (v:V) (a' b':Int),l[i]?=some v/\O 392 [.ref s,t] Y=.ok v (Y.set s<|aD a' b')
theorem NL (H1:vQ O s)(hs:Y[s]?=some (aD a b)):∃j Y' r d a' b',bn tx O 493 [.ref s] Y=.ok (.ref j) Y'/\bj s Y Y'/\Y'[s]?=some (aD a' b')/\Y'[j]?=some (.list [r,d])/\j≠s/\wP r d:=by
 have s1:=ak (c':=ao.list uu) hs;refine nk (H1 s1 (eT.list (t:=Y.length) (l:=uu) aq ((dt hs<|ba _).symm:s≠Y.length)<|by lk) (by lk)<|by lk) λi v bN gp hv e2=>?_;have K2:bj s Y ((Y++[ao.list uu]).set s<|aD bN gp):=bj.push.trans .set;have s2:=c9 s1 bN gp;generalize DB:(Y++[ao.list uu]).set s (aD bN gp)=ay at K2 s2 e2;have s3:=ak (c':=ao.list [V.str kc,V.str ke]) s2;have key:∀(b1 b2:Bool),cS (ay++[ao.list [V.str kc,V.str ke]]) .In v (.ref ay.length)=some b1->cS (ay++[ao.list [V.str kc,V.str ke]]) .Eq v (.str qo)=some b2->wP v (dj b1 (.str aI)<|dj b2 .none v)->∃j Y' r d a' b',bn tx O 493 [.ref s] Y=.ok (.ref j) Y'/\bj s Y Y'/\Y'[s]?=some (aD a' b')/\Y'[j]?=some (.list [r,d])/\j≠s/\wP r d:=λb1 b2 f1 f2 hr=>by
  refine rS ((ay++[ao.list [V.str kc,V.str ke]]).length) ((ay++[ao.list [V.str kc,V.str ke]])++[.list [v,dj b1 (.str aI)<|dj b2 .none v]]) v _ bN gp ?_ ((K2.trans .push).trans .push) (ak s3) aq (dt s3<|ba _) hr;cases b1<;>cases b2
  all_goals
   apply d8 (i:=UR) rfl rfl rfl
   repeat (intro w;first | exact w | refine(?_:_->_) (w<|by first | (with_reducible first | exact e2 | exact f1 | exact f2 | assumption) | first | exact e2 | exact f1 | exact f2 | assumption | exact eq_int | exact rfl))
 have zR:∀x:Str,cS (ay++[ao.list [V.str kc,V.str ke]]) .In (.str x) (.ref ay.length)=some (jy x [kc,ke]):=λx=>in_str aq rfl
 match i,hv with
 | 0,hv=>cases hv;exact key false false (NK aq) (by lk) .none
 | 1,hv=>cases hv;exact key false false (zR _) rfl<|.named _<|by lk
 | 2,hv=>cases hv;exact key false false (zR _) rfl<|.named _<|by lk
 | 3,hv=>cases hv;exact key false true (zR _) rfl .any
 | 4,hv=>cases hv;exact key false false (zR _) rfl<|.named _<|by lk
 | 5,hv=>cases hv;exact key false true (zR _) rfl .any
 | 6,hv=>cases hv;exact key false false (zR _) rfl<|.named _<|by lk
 | 7,hv=>cases hv;exact key true false (zR _) rfl<|.bad _<|by lk
 | 8,hv=>cases hv;exact key true false (zR _) rfl<|.bad _<|by lk
 |_+9,hv=>cases hv
theorem Bz {n r t:V}:bn tx O 486 [n,r,t] Y=.ok (.U [.str mw,.int 0,.U [.U [n,r,t]]]) Y:=rfl
end
theorem iO {Y:af}{t u:Nat}{l:aH}(ht:Y[t]?=some (.list l))(hu:Y[u]?=some (.list [])):cS Y .NotEq (.ref t) (.ref u)=some (!l.isEmpty):=by
 refine(?_:(Pd Y (.ref t)<|.ref u).map _= _);cases l with
 |cons x r=>refine(Eq.symm<|RE ht hu rfl)▸?_;rfl
 |nil=>
  have e:∀{i:Nat},Y[i]?=some (.list [])->dL Y 12 (.ref i)=some (.list []):=λ{i} h=>jQ h;refine(Eq.symm<|vL ht hu rfl)▸?_;refine(Eq.symm<|uo (e ht) (e hu)<|by lk)▸?_;simp[PyData.eqv,PyData.eqvAll]
section
variable {O:av} {s:Nat} {Y:af} {a b:Int} {k:Nat}
@[elab_as_elim] theorem be.eF {C:V->List V->List V->Prop}{p:V}{ps ws ds:aH}(h:be s Y (p::ps) ws ds)(k:∀{j:Nat} {w d:V} {ws ds:aH},j≠s->Y[j]?=some (.list [w,d])->be s Y ps ws ds->C (.ref j) (w::ws) (d::ds)):C p ws ds:=by
 cases h with | cons h1 h2 h3=>exact k h1 h2 h3
theorem be.VO {ws ds:aH}(h:be s Y [] ws ds):ds=[]:=by cases h;rfl
theorem zp {j:Nat}{w d:V}(h:Y[j]?=some (.list [w,d])):dA Y [1,2] (.ref j) [none,none,none]=some [none,some w,some d]:=by
 refine(?_:(kC Y<|.ref j).bind (λl=>dP [1,2] l.2 [none,none,none])= _);refine(Eq.symm<|cG h)▸?_;rfl
theorem JU {t:Nat}{qs:aH}{φ:V->Bool}(ps:aH):∀{ws ds:aH} {Y:af} (acc:aH),Y[t]?=some (.list qs)->be s Y ps ws ds->(∀d∈ds,∀(Y:af) (t:Nat),Y[t]?=some a9->cS Y .In d (.ref t)=some (φ d))->acc.length+ps.length<1000->
  ∃J,dr (je O [none,none,none] [1,2] [.m .In (.l 2)<|.s [.xs aI,.xs aC]]<|.l 2) (.ref t) qs ps acc Y=.ok (acc++ds.filter φ) (Y++J):=by
 induction ps with
 |nil=>exact λacc M h M M=>⟨[],by rw[cf,h.VO];simp⟩
 |cons p ps ih=>
  intro ws ds Y acc ht h;refine h.eF λ{j w d HH uz} h1 h2 h3 g hl=>?_;replace hl:=dI▸hl;have iF:=g d (.head _) (Y++[a9]) Y.length aq;have Hx:=ak (c':=a9) ht;cases hF:φ d with
  |false=>
   replace iF:=hF▸iF;refine aN (ih acc Hx (h3.keep .push) (λd hd=>g d<|.tail _ hd)<|yq ‹_›) λJ e=>⟨[a9]++J,?_⟩;rw[List.filter_cons_of_neg (by rw[hF];decide),<-bT];exact bq (jO (zp h2)<|m5 (ar (I rfl) (bk<|aa ag<|aa ag ae) iF) rfl) (bc Hx) e
  |true=>
   replace iF:=hF▸iF;refine aN (ih (acc++[d]) Hx (h3.keep .push) (λd hd=>g d<|.tail _ hd)<|gX ‹_›) λJ e=>⟨[a9]++J,?_⟩;rw[List.filter_cons_of_pos (by rw[hF]),<-bT,List.append_cons];exact bq (dG (zp h2) (pi (ar (I rfl) (bk<|aa ag<|aa ag ae) iF) rfl cJ) (I rfl)<|ig ‹_› rfl) (bc Hx) e
theorem NM {t:Nat}{qs:aH}(ps:aH):∀{ws ds:aH} (acc:aH),Y[t]?=some (.list qs)->be s Y ps ws ds->acc.length+ps.length<1000->
  dr (je O [none,none,none] [1,2] []<|.l 2) (.ref t) qs ps acc Y=.ok (acc++ds) Y:=by
 induction ps with
 |nil=>exact λacc M h M=>by rw[cf,h.VO,gI]
 |cons p ps ih=>
  intro ws ds acc ht h;refine h.eF λ{j w d HH uz} h1 h2 h3 hl=>?_;replace hl:=dI▸hl;rw[List.append_cons];exact bq (dG (zp h2) cJ (I rfl)<|ig ‹_› rfl) (bc ht)<|ih (acc++[d]) ht h3<|gX ‹_›
noncomputable def dy (φ:V->Bool)(ds:aH):V:=match ds.find? φ with
 |some f=>f
 |none=>.U ds
theorem JV {φ:V->Bool}:∀{t:Nat} {ps ws ds:aH},t≠s->Y[t]?=some (.list ps)->be s Y ps ws ds->(∀d∈ds,∀(Y:af) (t:Nat),Y[t]?=some a9->cS Y .In d (.ref t)=some (φ d))->ps.length<900->∃J,bn tx O 498 [.ref t] Y=.ok (dy φ ds) (Y++J):=by
 intro t ps ws ds LY ht hR hT hp;refine aN (JU (O:=O) ps [] ht hR hT<|by simpa using (cb ‹_› rfl:ps.length<1000)) λJ e1=>?_;rw[sR] at e1;have lr:=hR.len;have Ts:=ak (c':=ao.list<|ds.filter φ) ((bj.push (s:=s)).old _ _ LY ht:(Y++J)[t]?=some (.list ps));have ht3:=ak (c':=ao.list []) Ts;have en:=iO (Y:=Y++J++[ao.list<|ds.filter φ]++[ao.list []]) (ak aq) aq;have er:aV O (.comp [none,none,none] [1,2] (.l 0) [.m .In (.l 2)<|.s [.xs aI,.xs aC]]<|.l 2) [some<|.ref t,none,none] Y=.ok (.ref (Y++J).length) (Y++J++[.list<|ds.filter φ]):=d7 (I rfl) (cK ht) e1;have hh:(ds.filter φ).head?=ds.find? φ:=List.head?_filter;cases hf:ds.filter φ with
 |nil=>
  rw[hf] at hh en er Ts ht3;have hw:dy φ ds=.U ds:=by unfold dy;rw[<-hh];rfl
  have e2:=NM (O:=O) ps [] ht3 (hR.keep<|(bj.push.trans .push).trans .push) (by simpa using (cb ‹_› rfl:ps.length<1000));rw[sR] at e2;refine⟨J++[ao.list []]++[ao.list []]++[ao.list ds],?_⟩;rw[hw,<-bT,<-bT,<-bT];apply bh (i:=Ik) (R:=(some<|.U ds,_)) rfl rfl rfl;dsimp only[Ik];refine ah (aA er aE)<|ah (bO<|sv (ar (I rfl) (bk ae) en) rfl<|cP (aa (d7 (I rfl) (cK ht3) e2) ae)<|ch (cG aq)<|by omega) rfl
 |cons f r=>
  rw[hf] at hh en er;have hw:dy φ ds=f:=by unfold dy;rw[<-hh];rfl
  have hl:(f::r).length<1000:=by
   have:=w8 φ ds;replace this:=hf▸this;omega
  refine⟨J++[ao.list (f::r)]++[ao.list []],?_⟩;rw[hw,<-bT,<-bT];apply bh (i:=Ik) (R:=(some f,_)) rfl rfl rfl;dsimp only[Ik];refine ah (aA er aE)<|ah (bO<|sv (ar (I rfl) (bk ae) en) rfl<|aG (I rfl) ag<|hM (i:=0) (ak aq) hl rfl) rfl
theorem NO:∀{t:Nat} {ps ws ds:aH},t≠s->Y[t]?=some (.list ps)->be s Y ps ws ds->fB k ws ds->k<12->ps.length<900->∃J,bn tx O 498 [.ref t] Y=.ok (bg ds) (Y++J):=
 λLY ht hR hT hk hp=>JV LY ht hR (λd hd M M h=>jR (fB.GO hT d hd) hk h) hp
end
section
variable {s:Nat} {Y:af} {a b:Int}
theorem jq (n:Nat)(hn:1<=n){top:Int}(hs:Y[s]?=some (aD a b))(h0:0<top)(h1:top<1000):∃d a' b',0<=d/\d<top/\run tx n 385 [.ref s,.int top] Y=.ok (.int d) (Y.set s<|aD a' b'):=by
 refine aN (oC hn) λn eA=>?_;subst eA;exact xP hs h0 h1
theorem mq (n:Nat)(hn:2<=n):vQ (run tx n) s:=by
 refine aN (oC hn) λn mT=>?_;subst mT;exact λhs ht h0 h1=>Bx (λtop g0 g1=>jq (n+1) (aO rfl) hs g0 g1) ht h0 h1
theorem NP (n:Nat)(hn:3<=n)(hs:Y[s]?=some (aD a b)):∃j Y' r d a' b',run tx n 493 [.ref s] Y=.ok (.ref j) Y'/\bj s Y Y'/\Y'[s]?=some (aD a' b')/\Y'[j]?=some (.list [r,d])/\j≠s/\wP r d:=by
 refine aN (oC hn) λn uX=>?_;subst uX;exact NL (mq (n+2)<|aO rfl) hs
theorem JW (n:Nat)(hn:3<=n):lQ (run tx n) s where
 take:=λhs h0 h1=>jq n (uK ‹_› rfl) hs h0 h1
 one:=mq n<|uK ‹_› rfl
 reg:=λhs=>NP n hn hs
 path:=by
  refine aN (oC hn) λn AQ=>?_;subst AQ;exact Bz
theorem NQ (n:Nat)(hn:1<=n):qH (run tx n) s:=by
 refine aN (oC hn) λn Gs=>?_;subst Gs;refine⟨λ{Y t k ps ws ds a b} hs LY ht hR hT hk hp=>?_⟩;exact aN (NO LY ht hR hT hk<|eu ‹_› rfl) λJ e=>lY _ e .push (by rw[i7<|nN hs])
theorem EZ {m n:Nat}(h:5+m<=n):∃i,n=i+1/\4+m<=i:=pC<|eo (qU<|Nat.add_right_comm 4 m 1) h
theorem RT {d:Int}(h:0<=d)(h':d<2):d=0∨d=1:=(Int.lt_or_eq_of_le<|Int.le_of_lt_add_one (h':d<1+1)).imp (λl=>Int.le_antisymm (Int.le_of_lt_add_one (l:d<0+1)) h) id
theorem E0 {n:Nat}(hn:5+0<=n){Y:af}{a b:Int}(hs:Y[s]?=some (aD a b)):eW 2 s Y (run tx n 503 [.ref s,.int 0] Y):=by
 refine aJ (EZ hn) λn Q1 mt=>?_;subst Q1;exact kR (jq n (eo (aO rfl) mt) (top:=2) hs (by lk)<|by lk) λd a' b' d0 d1 e=>EW (O:=run tx n) (deep:=(0:Nat)) (x:=.c .none) (JW n<|Nat.le_of_succ_le mt) hs d (RT d0 d1)<|gm (ar (I rfl) ag rfl) rfl<|aL (aa (I rfl)<|aa ag ae) e
structure Mid (m n k:Nat):Prop where
 a:k<12
 b:k+2<=2 * (m+1)+2
 c:2<=k+2
 d:k<11
 e:2<=2 * (m+1)+2
theorem RU {m n:Nat}(hm:m+1<=3){k:Nat}(h:k<=2 * m+2):Mid m n k:=have h':=eo h<|nY (Nat.mul_le_mul_left 2<|Nat.le_of_succ_le_succ hm) 2;⟨eu h' rfl,by exact nY ‹_› _,by exact aO rfl,eu h' rfl,by exact aO rfl⟩
theorem sub_one (m:Nat):(m:Int)=((m+1:Nat):Int) - 1:=(Int.add_sub_cancel (m:Int) 1).symm
theorem NR (m:Nat):(0:Int)<((m+1:Nat):Int):=Int.natCast_pos.mpr<|Nat.succ_pos m
structure VP (m n:Nat):Prop where
 a:1<=n
 b:3<=n
 c:5+0<=n
 d:5+m<=n
theorem NS {m n:Nat}(h:4+(m+1)<=n):VP m n:=⟨by exact uK ‹_› rfl,Nat.le_of_lt<|eo (ej 4 _) h,by exact lm (ej _ _) ‹_›,eo (qU<|Nat.add_right_comm 4 1 m) h⟩
theorem NT {m n k:Nat}{a b a' b' d:Int}(Q:Mid m n k)(k1:2<=k)(F:VP m n)(hs:Y[s]?=some (aD a b))(hd:(d=0∨d=1)∨d=2∨d=3∨d=4∨d=5∨d=6)
  (h0:aV (run tx n) zn (tq s ((m+1:Nat):Int)) Y=.ok (.int d) (Y.set s<|aD a' b')) (hi:eW k s (Y.set s<|aD a' b') (run tx n 503 [.ref s,.int<|((m+1:Nat):Int) - 1]<|Y.set s<|aD a' b')):
  ∃k,k<=2 * (m+1)+2/\2<=k/\eW k s Y (bn tx (run tx n) 503 [.ref s,.int ((m+1:Nat):Int)] Y):=by
 have H:=JW (s:=s) n F.b;have hA:=NQ (s:=s) n F.a;have hz:∀{Y:af} {a b:Int},Y[s]?=some (aD a b)->eW 2 s Y (run tx n 503 [.ref s,.int 0] Y):=λhs=>E0 F.c hs;rcases hd with h | rfl | rfl | rfl | rfl | rfl
 ·exact lY 2 Q.e (ba 2)<|EW (x:=.c .none) H hs d h h0
 ·exact lY (k+2) Q.b Q.c<|RM H hs Q.a h0 hi
 ·exact lY (k+2) Q.b Q.c<|RN H hs Q.a h0 hi
 ·exact lY (k+2) Q.b Q.c<|RP H hA hz k1 Q.d h0 hi
 ·exact lY (k+2) Q.b Q.c<|RR H hA hz k1 Q.d h0 hi
 ·exact lY (k+2) Q.b Q.c<|ZK H hA hz k1 Q.d h0 hi
theorem RV (m:Nat):m<=3->∀(n:Nat),5+m<=n->∀{Y:af} {a b:Int},Y[s]?=some (aD a b)->∃k,k<=2 * m+2/\2<=k/\eW k s Y (run tx n 503 [.ref s,.int m] Y):=by
 induction m with
 |zero=>exact λM n hn Y a b hs=>lY 2 (ba 2) (ba 2)<|E0 hn hs
 |succ m ih=>
  intro hm n hn Y a b hs;refine aJ (EZ hn) λn Ve mt=>?_;subst Ve;have F:=NS mt;exact kR (jq n F.a hs (by lk)<|by lk) λd a' b' d0 d1 e=>j8 (ih (Nat.le_of_succ_le hm) n F.d<|c9 hs a' b') λk k1 k2 hi=>NT (RU hm k1) k2 F hs (ZD d0 d1) (fF (ar (I rfl) ag<|gt_int<|eE<|NR m) rfl<|aL (aa (I rfl)<|aa ag ae) e)<|sub_one m▸hi
end
def GV:List (Str × V)->List (Str × V)->Bool
 | [],b=>b.isEmpty
 |p::r,b=>!b.isEmpty&&(decide (p.1=(b.headD (default,.none)).1)&&(V.beq p.2 (b.headD (default,.none)).2&&GV r b.tail))
theorem E1 {a:iP}:∀{b:iP},GV a b=true->a=b:=by
 induction a with
 |nil=>exact λh=>(gF h).symm
 |cons p r ih=>
  intro b h;have h:=h;cases b with
  |nil=>exact Bool.noConfusion<|b1 h
  |cons q t=>
   have h2:=V.beq_eq<|b1<|b2<|b2 h
   rw[ih<|b2<|b2<|b2 h,show p=q from Prod.ext (od<|b1<|b2 h) h2];rfl
noncomputable def ao.s:ao->aH
 | .list l=>l
 |_=>[]
noncomputable def ao.rows:ao->iP
 | .dict l=>l
 | .dictX l _=>l
 |_=>[]
noncomputable def ao.key:ao->Str
 | .dictX _ k=>k
 |_=>default
noncomputable def ao.nums:ao->Nat × Nat
 | .inst C d=>(C,d)
 |_=>(0,0)
def ao.beq (a b:ao):Bool:=match a with
 | .list l=>b.ctorIdx==0&&V.qY l b.s
 | .dict l=>b.ctorIdx==1&&GV l b.rows
 | .dictT _=>false
 | .inst C d=>b.ctorIdx==3&&(C.beq b.nums.1&&d.beq b.nums.2)
 | .dictX l k=>b.ctorIdx==4&&(GV l b.rows&&decide (k=b.key))
theorem ao.beq_eq {a b:ao}(h:a.beq b=true):a=b:=by
 cases a with
 |list l=>exact @ao.list.elim (λb=>V.qY l b.s=true->ao.list l=b) b (ix<|b1 h) (λl' h=>bJ _<|V.ED h)<|b2 h
 |dict l=>exact @ao.dict.elim (λb=>GV l b.rows=true->ao.dict l=b) b (ix<|b1 h) (λl' h=>bJ _<|E1 h)<|b2 h
 |dictT l=>exact Bool.noConfusion h
 |inst C d=>exact @ao.inst.elim (λb=>(C.beq b.nums.1&&d.beq b.nums.2)=true->ao.inst C d=b) b (ix<|b1 h) (λC' d' h=>by rw[show C=C' from Nat.eq_of_beq_eq_true (b1 h),show d=d' from Nat.eq_of_beq_eq_true (b2 h)])<|b2 h
 |dictX l k=>exact @ao.dictX.elim (λb=>(GV l b.rows&&decide (k=b.key))=true->ao.dictX l k=b) b (ix<|b1 h) (λl' k' h=>by rw[show l=l' from E1 (b1 h),show k=k' from od (b2 h)])<|b2 h
noncomputable def DF:af->af->Bool
 | [],_=>true
 |a::r,b=>!b.isEmpty&&(a.beq (b.headD<|.list [])&&DF r b.tail)
theorem rA {a:af}:∀{b:af},DF a b=true->∃J,b=a++J:=by
 induction a with
 |nil=>exact λ{b} M=>⟨b,rfl⟩
 |cons a r ih=>
  intro b h;have h:=h;cases b with
  |nil=>exact Bool.noConfusion<|b1 h
  |cons c t=>
   obtain⟨J,e⟩:=ih<|b2<|b2 h
   exact⟨J,by rw[show t=r++J from e,show a=c from ao.beq_eq (b1<|b2 h)];rfl⟩
def RW (π:List Nat)(mC Y:af):Bool:=decide π.Nodup&&(π.length==mC.length)&&JG mC&&(π.zip mC).all λp=>match Y[p.1]? with
 |some c=>c.beq<|p.2.mL<|at' π
 |none=>false
set_option tactic.hygienic true in
theorem NU {π:List Nat}{mC Y:af}(h:RW π mC Y=true):Emb π mC Y:=by
 unfold RW at h;simp only[ln,mN,beq_iff_eq] at h;obtain⟨⟨⟨h1,h2⟩,h3⟩,h4⟩:=h;refine⟨h2,h1,λi c hc=>?_⟩;have hi:=(bP.mp hc).1;have hp:π[i]?=some (π[i]'(by omega)):=i8 (by omega);have hz:(π.zip mC)[i]?=some (π[i]'(by omega),c):=by rw[List.getElem?_zip_eq_some];exact⟨hp,hc⟩
 have:=gH.mp h4 _<|f8 hz
 dsimp only at this;split at this
 ·next c' e=>exact⟨_,hp,by rw[e,ao.beq_eq this],gH.mp h3 c<|f8 hc⟩
 ·cases this
def JX (d:Nat)(k:Str)(Y:af):Option af:=(Pc Y d).bind λl=>l.getLast?.bind λp=>if p.1=k then some (Y.set d<|.dictX l.dropLast k) else none
theorem JY {d:Nat}{k:Str}{Y Y':af}(h:JX d k Y=some Y'):JF Y Y':=
 jC h λl e h=>jC h λp e' h=>C1 h λhk h=>by
  rw[<-aU h];refine JF.Dq (v:=p.2) ?_;have dZ:l≠[]:=λq=>by rw[q] at e';exact fP e'
  rw[List.getLast?_eq_some_getLast dZ] at e';rw[C0 e,<-((aU e').trans (by rw[<-hk]):l.getLast dZ=(k,p.2)),List.dropLast_concat_getLast dZ]
def W:af:=[.dictX [(dR,.ref 2),(dF,.ref 3),(dO,.ref 9),(bw,.ref 10),(kS,.ref 11)] jH,
 .inst 367 0,
 .dict [(z_,.str bY),(cB,.str bo),(mR,.str bo),(cF,.str iQ),(jk,.str iQ),(uS,.str bY),(gh,.str iQ)],
 .dict [(z_,.bool true),(cB,.bool true),(mR,.bool true),(cF,.bool true),(jk,.bool true),(uS,.bool true),(gh,.bool true)],
 .dict [(gA,.ref 6),(gL,.ref 7),(gM,.ref 8)],
 .inst 236 4,
 .dict [(cB,.str cB),(mR,.str mR),(cF,.str cF),(jk,.str jk),(uS,.str uS)],
 .dict [(cB,.str cB),(mR,.str mR)],
 .dict [],
 .dict [(z_,.ref 5),(uS,.ref 13)],
 .dict [(cB,.U [.U [],.U []]),(mR,.U [.U [.str fT],.U [.str my]]),(cF,.U [.U [],.U []]),(jk,.U [.U [],.U [.str Id]]),(gh,.U [.U [],.U []])],
 .dict [(cB,.U [.str bo,.int 0,.str cB,.U [.U [],.U []],.str nu,.U [],.bool true]),(mR,.U [.str bo,.int 0,.str mR,.U [.U [.str fT],.U [.U [.str my,.U []]]],.str nu,.U [],.bool true]),(cF,.U [.str iQ,.int 0,.str cF,.U [.U [],.U []],.U [],.bool true]),(jk,.U [.str iQ,.int 0,.str jk,.U [.U [],.U [.U [.str Id,.U []]]],.U [],.bool true]),(gh,.U [.str iQ,.int 0,.str cF,.U [.U [],.U []],.U [],.bool true])],
 .dict [(gA,.ref 14),(gL,.ref 15),(gM,.ref 16)],
 .inst 236 12,
 .dict [(cF,.str gh)],
 .dict [],
 .dict []]
noncomputable def PC:List Nat:=[5,6,7,8,9,10,11,12,13,14,15,16,36,37,38,39,40]
noncomputable def VQ (r:Res V)(f:V->af->Bool):Bool:=@Res.casesOn V (λM=>Bool) r f (λM M=>false) false
noncomputable def RX (r:Res V)(f:Nat->af->Bool):Bool:=@Res.casesOn V (λM=>Bool) r (λM M=>false) f false
theorem zr {r:Res V}{f:V->af->Bool}(h:VQ r f=true):∃v Y,r=.ok v Y/\f v Y=true:=by
 cases r with
 |ok v Y=>exact kz v Y rfl h
 |exc C Y=>exact Bool.noConfusion h
 |stuck=>exact Bool.noConfusion h
theorem E2 {r:Res V}{f:Nat->af->Bool}(h:RX r f=true):∃C Y,r=.exc C Y/\f C Y=true:=by
 cases r with
 |ok v Y=>exact Bool.noConfusion h
 |exc C Y=>exact kz C Y rfl h
 |stuck=>exact Bool.noConfusion h
def RY:Bool:=VQ (run tx 20 479 [] []) λv Y=>V.beq v (.ref 6)&&(JX 5 jH Y).elim false λY'=>RW PC W Y'
theorem BA:RY=true:=by lk
def findB (names:db)(path:Str):Bool:=VQ (run tx 12 302 [.ref 1,.str z_,.U<|names.map .str,.str aC,.int 0] W) λv Y=>V.beq v (.str path)&&DF W Y
def VR (names:db):Bool:=RX (run tx 12 302 [.ref 1,.str z_,.U<|names.map .str,.str aC,.int 0] W) λC Y=>Nat.beq C 52&&DF W Y
def RZ:Bool:=VQ (run tx 30 522 [.ref 1] W) λv Y=>V.beq v (.bool true)&&DF W Y
def mG:List (db × Str):=[([cB],cB),([mR],mR),([cF],cF),([uS,cF],gh),([aR,cF],cF),([jk],jk)]
theorem BC:mG.all (λp=>findB p.1 p.2)=true:=by lk
theorem DG:VR [tP]=true:=by lk
theorem BD:RZ=true:=by lk
theorem xR:JG W=true:=by lk
theorem tr:W.length=17:=by lk
section
variable {gx:Gx}
theorem DH (H:oA gx tx):cX (2 * (6 * 20)) 479 [] [] (.ok (.ref 1) W):=by
 have d:=(H.run 20).pY (f:=479) (vs:=[]) (Y:=[]);refine gG (zr BA) λv Y e h=>?_;have h:=gb.mp h;rw[e,V.beq_eq h.1] at d;cases e':JX 5 jH Y with
 |none=>rw[e'] at h;exact Bool.noConfusion h.2
 |some Y'=>
  rw[e'] at h;exact cX.gc (π:=PC) (v:=.ref 1) (al:=Y') (d.post<|JY e') ⟨NU h.2,λi hi=>absurd hi<|Nat.not_lt_zero i⟩ (by rw[tr];rfl)
theorem GW (H:oA gx tx){names:db}{path:Str}(h:(names,path)∈mG):cX (2 * (6 * 12)) 302 [.ref 1,.str z_,.U<|names.map .str,.str aC,.int 0] W (.ok (.str path) W):=by
 have d:=(H.run 12).pY (f:=302) (vs:=[.ref 1,.str z_,.U<|names.map .str,.str aC,.int 0]) (Y:=W);refine gG (zr<|gH.mp BC _ h) λv Y e h=>?_;have h:=gb.mp h;refine aN (rA h.2) λJ e'=>?_;rw[e,V.beq_eq h.1,e'] at d;exact d.drop xR (ba _) rfl
theorem GX (H:oA gx tx):cX (2 * (6 * 12)) 302 [.ref 1,.str z_,.U<|[tP].map .str,.str aC,.int 0] W (.exc 52 W):=by
 have d:=(H.run 12).pY (f:=302) (vs:=[.ref 1,.str z_,.U<|[tP].map .str,.str aC,.int 0]) (Y:=W);refine gG (E2 DG) λC Y e h=>?_;have h:=gb.mp h;refine aN (rA h.2) λJ e'=>?_;rw[e,Nat.eq_of_beq_eq_true h.1,e'] at d;exact d.Pv xR<|ba _
theorem DI (H:oA gx tx):cX (2 * (6 * 30)) 522 [.ref 1] W (.ok (.bool true) W):=by
 have d:=(H.run 30).pY (f:=522) (vs:=[.ref 1]) (Y:=W);refine gG (zr BD) λv Y e h=>?_;have h:=gb.mp h;refine aN (rA h.2) λJ e'=>?_;rw[e,V.beq_eq h.1,e'] at d;exact d.drop xR (ba _) rfl
end
section
variable {O:av} {N loc':Loc} {Y al ay:af} {x y c:X} {l r:List X} {v u:V} {all acc:aH} {C W:Nat} {s:S}
theorem vR (h:aV O x N Y=.exc C al):ou O (x::r) N Y=.exc C al:=dD h
theorem vS (h:aV O x N Y=.ok v al)(k:ou O r N al=.exc C ay):ou O (x::r) N Y=.exc C ay:=aK h<|dD k
theorem vT (h:ou O l N Y=.exc C al):aV O (.U l) N Y=.exc C al:=dD h
theorem E3 {d:Bi}(h:ou O l N Y=.exc C al):aV O (.bi d l) N Y=.exc C al:=dD h
theorem xS {fr:List (Option Nat)}{ts:List Nat}{cond:List X}{elt:X}(h:aV O x N Y=.ok u al)(q:cI al u=some all)(k:dr (je O (eJ fr N) ts cond elt) u all all [] al=.exc C ay):aV O (.comp fr ts x cond elt) N Y=.exc C ay:=aK h<|cw q<|dD k
theorem E4 {f:V->List V->af->Res (aH)}{rest:aH}(h:f v acc Y=.exc C al):dr f u all (v::rest) acc Y=.exc C al:=dD h
theorem E5 {fr:Loc}{ts:List Nat}{elt:X}(h:dA Y ts v fr=some loc')(q:aV O elt loc' Y=.exc C ay):je O fr ts [] elt v acc Y=.exc C ay:=cw h<|aK cJ<|dD q
theorem pq (h:aV O x N Y=.exc C al):oy O W (.ret x) N Y=.exc C al:=dD h
theorem rB {t:T}(h:aV O x N Y=.exc C al):oy O W (.set t x) N Y=.exc C al:=dD h
end
def excOf (s:Str):Nat:=dj (decide (s=aI)) 52 76
def told (d:V)(Y:af):Res V:=match d with
 | .str s=>.exc (excOf s) Y
 |v=>.ok v Y
section
variable {Y J:af} {m r g:Nat}
theorem Emb.push {π:List Nat}{mC:af}(E:Emb π mC Y):Emb π mC (Y++J) where
 len:=E.len
 nd:=E.nd
 cell:=λi c hc=>by
  refine j8 (E.cell i c hc) λj h1 h2 h3=>?_;exact lY j h1 (by rw[i7 (bP.mp h2).1];exact h2) h3
def cu (m:Nat)(Y:af):Prop:=∃π,Emb π W Y/\π[1]?=some m
theorem cu.push (h:cu m Y):cu m (Y++J):=by obtain⟨π,E,e⟩:=h;exact⟨π,E.push,e⟩
abbrev qI (m g:Nat):iP:=[(gZ,.ref m),(lA,.str z_),(bw,.ref g),(ja,.none),(ud,.none)]
structure gT (r m:Nat)(Y:af):Prop where
 m7:cu m Y
 obj:∃d g,Y[r]?=some (.inst 139 d)/\Y[d]?=some (.dict<|qI m g)/\Y[g]?=some (.list [.str my])
theorem cH {i:Nat}{c:ao}(h:Y[i]?=some c):(Y++J)[i]?=some c:=by rw[i7 (bP.mp h).1];exact h
theorem gT.push (h:gT r m Y):gT r m (Y++J):=⟨h.m7.push,by obtain⟨d,g,h1,h2,h3⟩:=h.obj;exact⟨d,g,cH h1,cH h2,cH h3⟩⟩
theorem gT.may (h:gT r m Y){n:Str}(hn:uT.attrs 139 n=true):dh Y (.ref r) n=true:=by
 exact de h.obj λd g h1 h2 M=>zk h1 h2 hn<|aO rfl
theorem gT.attr (h:gT r m Y):∃g,Y[g]?=some (.list [.str my])/\∀n v,aM (qI m g) n=some v->kf Y (.ref r) n=some v:=by
 exact de h.obj λd g h1 h2 h3=>bF g h3 λn v hv=>zj h1 h2 hv
theorem gT.bI (h:gT r m Y){n:Str}{f:Nat}(hn:uT.bI 139 n=some f)(hd:∀g,aM (qI m g) n=none):fg Y (.ref r) n=some f:=by
 refine de h.obj λd g h1 h2 M=>?_;exact EP h1 h2 (by rw[hd g];rfl) hn
theorem cu.facts (h:cu m Y):∃k2 XJ,dh Y (.ref m) dR=true/\kf Y (.ref m) dR=some (.ref k2)/\dh Y (.ref m) bw=true/\kf Y (.ref m) bw=some (.ref XJ)/\fg Y (.ref m) lz=some 302/\
  (∀p v,cq W (.ref 2) (.str p)=some v->cq Y (.ref k2) (.str p)=some v)/\(∀p v,cq W (.ref 10) (.str p)=some v->cq Y (.ref XJ) (.str p)=some v):=by
 refine aJ h fun π E e1=>?_;have hl:=tr;have get:∀i:Nat,i<17->∃j,π[i]?=some j/\at' π i=j:=λi hi=>by
  have:i<π.length:=by rw[E.len];assumption
  exact bF (π[i]) (i8 this)<|nK<|i8 this
 refine aJ (get 0<|aO rfl) λj0 p0 q0=>aJ (get 2<|aO rfl) λj2 p2 q2=>aJ (get 10<|aO rfl) λj10 p10 q10=>?_;have cell:∀(i j:Nat) (c:ao),π[i]?=some j->W[i]?=some c->Y[j]?=some (c.mL<|at' π):=λi j c hp hc=>by
  refine j8 (E.cell i c hc) λj' h1 h2 M=>?_;rw[hp] at h1;cases h1;exact h2
 have c1:=cell 1 m _ e1<|show W[1]?=some (.inst 367 0) by rfl
 have c0:=cell 0 j0 _ p0<|show W[0]?=some (.dictX [(dR,.ref 2),(dF,.ref 3),(dO,.ref 9),(bw,.ref 10),(kS,.ref 11)] jH) by rfl
 obtain⟨kr,hk⟩:∃kr,W[2]?=some (.dict kr):=⟨_,rfl⟩;obtain⟨gr,hg⟩:∃gr,W[10]?=some (.dict gr):=⟨_,rfl⟩;have hkr:vB (at' π) kr=kr:=pM (k:=0) (λi hi=>by omega) kr (by cases hk;rfl);have hgr:vB (at' π) gr=gr:=pM (k:=0) (λi hi=>by omega) gr (by cases hg;rfl);have c2:=cell 2 j2 _ p2 hk;have c10:=cell 10 j10 _ p10 hg;rw[ao.mL,hkr] at c2;rw[ao.mL,hgr] at c10;rw[ao.mL,q0] at c1;have c0:Y[j0]?=some (.dictX [(dR,.ref j2),(dF,.ref<|at' π 3),(dO,.ref<|at' π 9),(bw,.ref j10),(kS,.ref<|at' π 11)] jH):=by
  rw[c0,<-q2,<-q10];rfl
 refine Tc j2 j10<|ya7 (ES c1 c0 rfl rfl) (Bt c1 c0 rfl (by lk) rfl) (ES c1 c0 rfl rfl) (Bt c1 c0 rfl (by lk) rfl) (JI c1 c0 rfl (by lk) rfl rfl) (λp v hv=>?_) λp v hv=>?_
 ·rw[pp hk] at hv;exact(pp c2).trans hv
 ·rw[pp hg] at hv;exact(pp c10).trans hv
end
section
variable {O:av} {Y:af} {m r k:Nat}
theorem VS {rg rd:V}(h:wP rg rd):bn tx O 86 [rg,.int 0] Y=dj (fq rd) (.exc 52 Y) (.ok rd Y):=by
 cases h with
 |none=>lk
 |any=>lk
 |named s hs=>
  rcases aX.mp hs with rfl | hs
  ·lk
  rcases aX.mp hs with rfl | hs
  ·lk
  ·rw[cM.mp hs];lk
 |bad s hs=>
  rcases aX.mp hs with rfl | hs
  ·lk
  ·rw[cM.mp hs];lk
theorem lR {s:Str}:told (.str s) Y=.exc (excOf s) Y:=rfl
theorem mr {d:V}(h:lP d=false):told d Y=.ok d Y:=by
 cases d<;>first | rfl | cases h
theorem j1 {d:V}(h:lP d=true):∃s,d=.str s:=by
 cases d with
 |str s=>exact⟨s,rfl⟩
 |_=>cases h
structure VT (O:av)(r m:Nat):Prop where
 reg:∀{Y:af} {rg rd:V},wP rg rd->O 86 [rg,.int 0] Y=dj (fq rd) (.exc 52 Y) (.ok rd Y)
def jf (r m:Nat)(O:av)(w d:V):Prop:=∀{Y:af},gT r m Y->∃J,O 105 [.ref r,w] Y=told d (Y++J)
theorem pO (h:gT r m Y):fg Y (.ref r) jG=some 105:=h.bI rfl λM=>rfl
theorem NV (h:gT r m Y):fg Y (.ref r) mw=some 117:=h.bI rfl λM=>rfl
theorem iT:Y++[]=Y:=gI Y
theorem JZ (H:VT O r m){rg rd w d:V}(hr:wP rg rd)(hd:gn k d)(h:jf r m O w d)(b:Bool):jf r m (bn tx O) (.U [.str qX,.int 0,rg,.bool b,w]) (qG rd b d):=by
 intro Y fO;have L0:=H.reg (Y:=Y) hr;have em:=pO fO;refine aN (h fO) λJ e=>?_;cases hN:fq rd<;>rw[hN] at L0
 ·cases hF:lP d
  ·rw[mr hF] at e;refine⟨J,?_⟩;unfold qG;rw[hN,hF];show _=Res.ok _ _;apply d8 (i:=CS) rfl rfl rfl
   repeat (intro w;first | exact w | refine(?_:_->_) (w<|by first | (with_reducible first | exact em | exact L0 | exact e | assumption) | first | exact em | exact L0 | exact e | assumption | exact eq_int | exact rfl))
  ·refine aN (j1 hF) λs eA=>?_;subst eA;rw[lR] at e;refine⟨J,?_⟩;unfold qG;rw[hN,hF];show _=Res.exc _ _;apply d8 (i:=CS) rfl rfl rfl
   repeat (intro w;first | exact w | refine(?_:_->_) (w<|by first | (with_reducible first | exact L0 | exact em | exact e | assumption) | first | exact L0 | exact em | exact e | assumption | exact eq_int | exact rfl))
 ·refine⟨[],?_⟩;unfold qG;rw[hN,iT];show _=Res.exc 52 _;apply d8 (i:=CS) rfl rfl rfl
  repeat (intro w;first | exact w | refine(?_:_->_) (w<|by first | (with_reducible first | exact L0 | assumption) | first | exact L0 | assumption | exact eq_int | exact rfl))
theorem J0 {w d:V}{n:Int}(hd:gn k d)(h:jf r m O w d):jf r m (bn tx O) (.U [.str kT,.int 0,w,.int n]) (vO n d):=by
 intro Y fO;have em:=pO fO;refine aN (h fO) λJ e=>?_;unfold vO;cases hN:decide (10000<n)
 ·have eg:=gt_int (Y:=Y) hN;cases hF:lP d
  ·rw[mr hF] at e;refine⟨J,?_⟩;show _=Res.ok _ _;apply d8 rfl rfl rfl
   repeat (intro w;first | exact w | refine(?_:_->_) (w<|by first | (with_reducible first | exact em | exact eg | exact e | assumption) | first | exact em | exact eg | exact e | assumption | exact eq_int | exact rfl))
  ·refine aN (j1 hF) λs mT=>?_;subst mT;rw[lR] at e;refine⟨J,?_⟩;show _=Res.exc _ _;apply d8 rfl rfl rfl
   repeat (intro w;first | exact w | refine(?_:_->_) (w<|by first | (with_reducible first | exact eg | exact em | exact e | assumption) | first | exact eg | exact em | exact e | assumption | exact eq_int | exact rfl))
 ·have eg:=gt_int (Y:=Y) hN;refine⟨[],?_⟩;rw[iT];show _=Res.exc 76 _;apply d8 rfl rfl rfl
  repeat (intro w;first | exact w | refine(?_:_->_) (w<|by first | (with_reducible first | exact eg | assumption) | first | exact eg | assumption | exact eq_int | exact rfl))
theorem GY {src:V}{all:aH}(hs:∀Y,same Y src all=true){ws:aH}:∀{ds:aH} {Y:af} (acc:aH),gT r m Y->(∀p∈ws.zip ds,jf r m O p.1 p.2)->ws.length=ds.length->acc.length+ws.length<1000->
  ∃J,dr (je O [none,none,some<|.ref r] [1] []<|.bI (.l 2) jG [.l 1]) src all ws acc Y=(match ds.find? lP with
   |some (.str s)=>.exc (excOf s) (Y++J)
   |_=>.ok (acc++ds) (Y++J)):=by
 induction ws with
 |nil=>
  intro ds Y acc _ _ hl _;cases ds with
  |nil=>exact⟨[],by rw[cf,iT,gI];rfl⟩
  |cons=>exact Nat.noConfusion hl
 |cons w ws ih=>
  intro ds Y acc fO h hl ha;cases ds with
  |nil=>exact Nat.noConfusion hl
  |cons d ds=>
   rw[dI] at ha;refine aN (h (w,d) (.head _) fO) λJ e=>?_;have ev:∀R,O 105 [.ref r,w] Y=R->aV O (.bI (.l 2) jG [.l 1]) [none,some w,some<|.ref r] Y=R:=λR h=>bR (I rfl) (pO fO) (aa (I rfl) ae) h;cases hF:lP d
   ·dsimp only at e;rw[mr hF] at e;refine aN (ih (ds:=ds) (acc++[d]) (fO.push (J:=J)) (λp hp=>h p<|.tail _ hp) (j7 hl)<|gX ‹_›) λJ' e'=>⟨J++J',?_⟩;rw[w6 (by rw[hF];decide),<-bT,show acc++d::ds=acc++[d]++ds by simp];exact bq (dG rfl cJ (ev _ e)<|ig ‹_› rfl) (hs _) e'
   ·refine aN (j1 hF) λs uX=>?_;subst uX;refine⟨J,?_⟩;rw[List.find?_cons_of_pos<|by rw[hF]];exact E4<|E5 rfl<|ev _ e
theorem BE {N:Loc}{x:X}{ws ds:aH}(hx:∀{Y:af},gT r m Y->aV O x N Y=.ok (.U ws) Y)(hf:eJ [none,none,some 0] N=[none,none,some<|.ref r])(h:∀p∈ws.zip ds,jf r m O p.1 p.2)(hl:ws.length=ds.length)(ha:ws.length<1000)(fO:gT r m Y):
  ∃J,aV O (.bi .tuple [.comp [none,none,some 0] [1] x []<|.bI (.l 2) jG [.l 1]]) N Y=(match ds.find? lP with
   |some (.str s)=>.exc (excOf s) (Y++J)
   |_=>.ok (.U ds) (Y++J)):=by
 refine aN (GY (O:=O) (src:=.U ws) (all:=ws) (λM=>rfl) (ds:=ds) [] fO h hl<|by simpa using ha) λJ e=>?_;rw[<-hf] at e;cases hd:ds.find? lP with
 |none=>
  rw[hd] at e;refine⟨J++[.list ds],?_⟩;rw[<-bT];exact cP (aa (d7 (hx fO) rfl e) ae)<|ch (cG aq)<|by omega
 |some f=>
  refine aN (j1<|List.find?_some hd) λs AQ=>?_;subst AQ;rw[hd] at e;exact⟨J,E3<|vR<|xS (hx fO) rfl e⟩
theorem vU (ds:aH):(∃s,ds.find? lP=some (.str s)/\bg ds=.str s)∨(ds.find? lP=none/\bg ds=.U ds):=by
 cases h:ds.find? lP with
 |none=>exact .inr ⟨rfl,by unfold bg;rw[h]⟩
 |some f=>
  refine aN (j1<|List.find?_some h) λs Gs=>?_;subst Gs;exact .inl<|bF s rfl (by unfold bg;rw[h])
theorem J1 {ws ds:aH}(h:∀p∈ws.zip ds,jf r m O p.1 p.2)(hl:ws.length=ds.length)(ha:ws.length<1000):jf r m (bn tx O) (.U [.str fE,.int 0,.U ws]) (vP ds):=by
 intro Y fO;refine aN (BE (O:=O) (N:=[some<|.ref r,some<|.U [.str fE,.int 0,.U ws],some<|.str fE,some<|.int 0,none,none,none,none]) (x:=.i (.l 1)<|.xi 2) (λM=>aG (I rfl) ag rfl) rfl h hl ha fO) λJ e=>⟨J,?_⟩;unfold vP;rcases vU ds with ⟨s,h1,h2⟩ | ⟨h1,h2⟩<;>rw[h1] at e<;>rw[h2]
 ·show _=Res.exc _ _;apply gE rfl rfl rfl;dsimp only[CS];apply ah
  ·(first | apply dw | apply dv | apply bG)
   repeat room
  apply ah
  ·(first | apply dw | apply dv | apply bG)
   repeat room
  apply ah
  ·(first | apply dw | apply dv | apply bG)
   repeat room
  apply cT;apply bl
  ·(first | apply dw | apply dv | apply bG)
   repeat room
  ·rfl
  apply cT;apply pq;apply vT;apply vS ag;exact vR e
 ·show _=Res.ok (V.U [.str fE,.U ds]) _;apply bh (i:=CS) (R:=(some<|.U [.str fE,.U ds],_)) rfl rfl rfl;dsimp only[CS];apply ah
  ·(first | apply dw | apply dv | apply bG)
   repeat room
  apply ah
  ·(first | apply dw | apply dv | apply bG)
   repeat room
  apply ah
  ·(first | apply dw | apply dv | apply bG)
   repeat room
  apply ah
  ·apply RC
   ·(first | apply dw | apply dv | apply bG)
    repeat room
   ·exact(rfl:_=some true)
   ·apply ah
    ·exact bO<|aT<|aa ag<|aa e ae
    ·rfl
  ·rfl
end
section
variable {O:av} {Y:af} {m r:Nat}
noncomputable abbrev dl (n:Str)(rs ts:V):V:=.U [.str n,rs,ts]
def nQ (r m:Nat)(O:av)(n:Str)(rs ts d:V):Prop:=∀{Y:af},gT r m Y->∃J,O 117 [.ref r,.int 0,.U [dl n rs ts]] Y=told d (Y++J)
variable {n:Str} {rs ts d:V}
theorem pP (hd:lP d=true∨lP d=false)(h:nQ r m O n rs ts d):jf r m (bn tx O) (eP n rs ts) d:=by
 intro Y fO;have em:=NV fO;obtain⟨J,e⟩:=h fO;refine⟨J,?_⟩;rcases hd with hF | hF
 ·obtain⟨s,rfl⟩:=j1 hF;rw[lR] at e⊢;apply d8 rfl rfl rfl
  repeat (intro w;first | exact w | refine(?_:_->_) (w<|by first | (with_reducible first | exact em | exact e | assumption) | first | exact em | exact e | assumption | exact eq_int | exact rfl))
 ·rw[mr hF] at e⊢;apply d8 rfl rfl rfl
  repeat (intro w;first | exact w | refine(?_:_->_) (w<|by first | (with_reducible first | exact em | exact e | assumption) | first | exact em | exact e | assumption | exact eq_int | exact rfl))
theorem xT (h:gT r m Y):fg Y (.ref r) qW=some 124:=h.bI rfl λM=>rfl
theorem J2 (h:gT r m Y):fg Y (.ref r) nq=some 136:=h.bI rfl λM=>rfl
theorem NW (h:gT r m Y):fg Y (.ref r) ql=some 131:=h.bI rfl λM=>rfl
theorem vV {row:V}(aaf:∀Y,cq Y row (.int 0)=some (.str n)){N:Loc}(hl:N[2]?=some (some<|.U [row])):aV O (.bi .tuple [.comp [none,none] [1] (.l 2) []<|.i (.l 1)<|.xi 0]) N Y=.ok (.U [.str n]) (Y++[.list [.str n]]):=
 cP (aa (d7 (I hl) rfl<|bq (dG rfl cJ (aG (I rfl) ag<|aaf Y)<|aO rfl) rfl cf) ae) (ch (cG aq)<|aO rfl)
theorem tz (hd:lP d=true∨lP d=false)(hn:lP d=false->d≠.none)(h:∀{Y:af},gT r m Y->∃J,O 124 [.ref r,.int 0,dl n rs ts] Y=told d (Y++J)):nQ r m (bn tx O) n rs ts d:=by
 intro Y fO;have DJ:=fO.push (J:=[ao.list [V.str n]]);have em:=xT DJ;obtain⟨J,e⟩:=h DJ;have e1:∀N:Loc,N[2]?=some (some<|.U [dl n rs ts])->aV O (.bi .tuple [.comp [none,none] [1] (.l 2) []<|.i (.l 1)<|.xi 0]) N Y=.ok (.U [.str n]) (Y++[.list [.str n]]):=λN hl=>vV (λM=>rfl) hl;refine⟨[.list [.str n]]++J,?_⟩;rw[<-bT];rcases hd with hF | hF
 ·obtain⟨s,rfl⟩:=j1 hF;rw[lR] at e⊢;apply pW (e1 _ rfl) (i:=CT) rfl rfl rfl rfl
  repeat room
 ·rw[mr hF] at e⊢;have e2:cS (Y++[ao.list [V.str n]]++J) .IsNot d .none=some true:=by
   have:=hn hF;cases d<;>first | rfl | exact absurd rfl this
  apply pW (e1 _ rfl) (i:=CT) rfl rfl rfl rfl
  repeat room
theorem vW (hd:lP d=true∨lP d=false)(hs:∀{Y:af},gT r m Y->∃J,O 124 [.ref r,.int 0,dl n rs ts] Y=.ok .none (Y++J))(h:∀{Y:af},gT r m Y->∃J,O 136 [.ref r,.int 0,.U [.str n],dl n rs ts] Y=told d (Y++J)):nQ r m (bn tx O) n rs ts d:=by
 intro Y fO;have DJ:=fO.push (J:=[ao.list [V.str n]]);obtain⟨J,e⟩:=hs DJ;have DB:=DJ.push (J:=J);have em2:=J2 DB;obtain⟨J',e'⟩:=h DB;have e1:∀N:Loc,N[2]?=some (some<|.U [dl n rs ts])->aV O (.bi .tuple [.comp [none,none] [1] (.l 2) []<|.i (.l 1)<|.xi 0]) N Y=.ok (.U [.str n]) (Y++[.list [.str n]]):=λN hl=>vV (λM=>rfl) hl;refine⟨[.list [.str n]]++J++J',?_⟩;rw[<-bT,<-bT];have pre:∀{RF:Res fA},b9 O 400 [.ret<|.bI (.l 0) nq [.l 1,.l 4,.i (.l 2)<|.xi (-1)]] [some<|.ref r,some<|.int 0,some<|.U [dl n rs ts],none,some<|.U [.str n],some .none,none,none,none] (Y++[ao.list [V.str n]]++J)=RF->
   b9 O 400 CT.body [some<|.ref r,some<|.int 0,some<|.U [dl n rs ts],ai,ai,ai,ai,ai,ai] Y=RF:=λ{RF} h=>by
  dsimp only[CT];refine ah (aA (e1 _ rfl) aE)<|ah (bl (ar (cP (aa (I rfl) ae) rfl) ag eq_int) rfl<|ah (aA (bR (I rfl) (xT DJ) (aa (I rfl)<|aa (aG (I rfl) ag rfl) ae) e) aE)<|ah (aB (ar (I rfl) ag rfl) rfl az) az)<|ah (gR (vH (I rfl) ag rfl) rfl rfl) h
 rcases hd with hF | hF
 ·obtain⟨s,rfl⟩:=j1 hF;rw[lR] at e'⊢;apply gE (i:=CT) rfl rfl rfl;apply pre;apply bG
  repeat room
 ·rw[mr hF] at e'⊢;apply bh (i:=CT) (R:=(some d,_)) rfl rfl rfl;apply pre;apply bG
  repeat room
end
section
variable {O:av} {Y:af} {m r:Nat}
theorem J3 {told:V}{n:Str}:bn tx O 131 [.ref r,.int 0,dl n (.U [])<|.U [],told] Y=.ok told Y:=by
 have e0:=mn (Y:=Y) (l:=[]);apply d8 (i:=UH) rfl rfl rfl
 repeat (intro w;first | exact w | refine(?_:_->_) (w<|by first | (with_reducible first | exact e0 | assumption) | first | exact e0 | assumption | exact eq_int | exact rfl))
theorem GZ (hb:∀{Y:af} {told:V} {n:Str},O 131 [.ref r,.int 0,dl n (.U [])<|.U [],told] Y=.ok told Y)(fO:gT r m Y):bn tx O 124 [.ref r,.int 0,dl fM (.U [])<|.U []] Y=.ok (.U [.str qa,.str fM]) Y:=by
 refine aJ fO.attr λg hg ha=>?_;have a1:dh Y (.ref r) bw=true:=fO.may rfl;have a2:kf Y (.ref r) bw=some (.ref g):=ha _ _ rfl;have a3:=in_str (s:=fM) hg (ts:=[my]) rfl;have em:=NW fO;apply d8 (i:=AA) rfl rfl rfl
 repeat (intro w;first | exact w | refine(?_:_->_) (w<|by first | (with_reducible first | exact a1 | exact a2 | exact a3 | exact em | exact hb | assumption) | first | exact a1 | exact a2 | exact a3 | exact em | exact hb | assumption | exact eq_int | exact rfl))
theorem tA {n:Str}(hn:n=cB∨n=mR){rs ts:V}(fO:gT r m Y):bn tx O 124 [.ref r,.int 0,dl n rs ts] Y=.ok .none Y:=by
 refine aJ fO.attr λg hg ha=>?_;have a1:dh Y (.ref r) bw=true:=fO.may rfl;have a2:kf Y (.ref r) bw=some (.ref g):=ha _ _ rfl;have a3:=in_str (s:=n) hg (ts:=[my]) rfl;rcases hn with rfl | rfl
 all_goals
  apply d8 (i:=AA) rfl rfl rfl
  repeat (intro w;first | exact w | refine(?_:_->_) (w<|by first | (with_reducible first | exact a1 | exact a2 | exact a3 | assumption) | first | exact a1 | exact a2 | exact a3 | assumption | exact eq_int | exact rfl))
theorem DK {rs jU ws ds:aH}(hr:oo rs jU)(h:∀p∈ws.zip ds,jf r m O p.1 p.2)(hl:ws.length=ds.length)(ha:ws.length<1000)(fO:gT r m Y):∃J,bn tx O 124 [.ref r,.int 0,dl cY (.U rs)<|.U ws] Y=told (fX rs ds) (Y++J):=by
 refine aJ fO.attr λg hg Tr=>?_;have a1:dh Y (.ref r) bw=true:=fO.may rfl;have a2:kf Y (.ref r) bw=some (.ref g):=Tr _ _ rfl;have a3:=in_str (s:=cY) hg (ts:=[my]) rfl;have em:=pO fO;have e0:=mn (Y:=Y) (l:=rs);have il:wp Y .len [.U ws]=.ok (.int ws.length) Y:=nO rfl<|cb ‹_› rfl
 have e1:=ne_int (Y:=Y) (i:=ws.length) (j:=1);have pre:∀{RF:Res fA},b9 O 400 [.ite (.or [.m .NotEq (.l 4)<|.U [],.m .NotEq (.bi .len [.l 5])<|.xi 1]) [.raise 76 (.xs Ia)<|.l 1] [],.ret<|.U [.xs qc,.bI (.l 0) jG [.i (.l 5)<|.xi 0]]] [some<|.ref r,some<|.int 0,some<|dl cY (.U rs)<|.U ws,some<|.str cY,some<|.U rs,some<|.U ws,none,none,none] Y=RF->
   b9 O 400 AA.body [some<|.ref r,some<|.int 0,some<|dl cY (.U rs)<|.U ws,ai,ai,ai,ai,ai,ai] Y=RF:=λ{RF} h=>by
  dsimp only[AA];apply ah
  ·(first | apply dw | apply dv | apply bG)
   repeat room
  apply ah
  ·(first | apply dw | apply dv | apply bG)
   repeat room
  apply ah
  ·(first | apply dw | apply dv | apply bG)
   repeat room
  apply ah
  ·(first | apply dw | apply dv | apply bG)
   repeat room
  apply ah
  ·(first | apply dw | apply dv | apply bG)
   repeat room
  apply ah
  ·(first | apply dw | apply dv | apply bG)
   repeat room
  exact h
 by_cases hbad:rs.isEmpty=false∨¬ws.length=1
 ·have Eg:fX rs ds=.str aC:=by
   unfold fX;refine aZ hbad (λh0=>?_) λh0=>?_
   ·rw[h0];rfl
   ·have:(ds.length==1)=false:=by simpa using (by omega:¬ds.length=1)
    rw[this,Bool.not_false,Bool.or_true]
  refine⟨[],?_⟩;rw[Eg,iT];show _=Res.exc 76 _;apply gE (i:=AA) rfl rfl rfl;apply pre;apply cT;apply bl (v:=.bool true) (al:=Y)
  ·apply iL;cases he:rs.isEmpty<;>rw[he] at e0
   ·exact mE (ar (I rfl) (aT ae) e0) rfl
   ·have h0:¬ws.length=1:=by
     refine aZ hbad (λh0=>?_) λh0=>?_
     ·rw[he] at h0;cases h0
     ·exact h0
    rw[fy<|show¬((ws.length:Int)=1) by omega] at e1;exact gw (ar (I rfl) (aT ae) e0) rfl<|gv<|ar (cP (aa (I rfl) ae) il) ag e1
  ·rfl
  apply cT
  (first | apply dw | apply dv | apply bG)
  repeat room
 ·have he:rs.isEmpty=true:=by
   cases q:rs.isEmpty
   ·exact absurd (.inl q) hbad
   ·rfl
  have h1:ws.length=1:=by
   apply Classical.byContradiction;exact λq=>hbad<|.inr q
  rw[he] at e0;rw[eE<|show((ws.length:Int)=1) by omega] at e1;refine aN (w5.mp h1) λw eA=>?_;subst eA;refine aN (w5.mp<|hl.symm.trans h1) λd mT=>?_;subst mT;refine aN (h (w,d) (.head _) fO) λJ e=>?_;dsimp only at e;refine⟨J,?_⟩;have hc:oy O 400 (.ite (.or [.m .NotEq (.l 4)<|.U [],.m .NotEq (.bi .len [.l 5])<|.xi 1]) [.raise 76 (.xs Ia)<|.l 1] []) [some<|.ref r,some<|.int 0,some<|dl cY (.U rs)<|.U [w],some<|.str cY,some<|.U rs,some<|.U [w],none,none,none] Y=.ok (none,[some<|.ref r,some<|.int 0,some<|dl cY (.U rs)<|.U [w],some<|.str cY,some<|.U rs,some<|.U [w],none,none,none]) Y:=
   aB (iL<|gw (ar (I rfl) (aT ae) e0) rfl<|gv<|ar (cP (aa (I rfl) ae) il) ag e1) rfl az
  have Eg:fX rs [d]=dj (lP d) d (.U [.str qc,d]):=by
   unfold fX;rw[he];cases hF:lP d
   ·have:bg [d]=.U [d]:=by unfold bg;rw[w6 (by rw[hF];decide)];rfl
    rw[this];rfl
   ·have:bg [d]=d:=by unfold bg;rw[List.find?_cons_of_pos<|by rw[hF]]
    rw[this,hF];rfl
  rw[Eg];cases hF:lP d
  ·rw[mr hF] at e;show _=Res.ok (V.U [.str qc,d]) _;apply bh (i:=AA) (R:=(some<|.U [.str qc,d],_)) rfl rfl rfl;apply pre;apply ah
   ·exact hc
   (first | apply dw | apply dv | apply bG)
   repeat room
  ·refine aN (j1 hF) λs eA=>?_;subst eA;rw[lR] at e;show _=Res.exc (excOf s) _;apply gE (i:=AA) rfl rfl rfl;apply pre;apply ah
   ·exact hc
   apply cT;apply pq;apply vT;apply vS ag;apply vR
   (first | apply dw | apply dv | apply bG)
   repeat room
end
def uw (O:av)(m:Nat):Prop:=∀(Y:af) (names:db) (path:Str),cu m Y->(names,path)∈mG->O 302 [.ref m,.str z_,.U<|names.map .str,.str aC,.int 0] Y=.ok (.str path) Y
def DL (O:av):Prop:=∀(Y:af) (rg rd:V),wP rg rd->O 86 [rg,.int 0] Y=dj (fq rd) (.exc 52 Y) (.ok rd Y)
noncomputable def nR:List S:=FS.body.drop 3
section
variable {O:av} {Y:af} {m r:Nat}
noncomputable abbrev PD (r:Nat)(names row p rs ps:V):Loc:=[some<|.ref r,some<|.int 0,some names,some row,some p,some rs,some ps,none,none,none,none]
theorem sy (hf:uw O m){n:Str}{rs ps row:V}(hn:(([n]:db),n)∈mG)(h1:∃kd,cq W (.ref 2) (.str n)=some kd/\cS Y .NotIn kd (.U [.str bo,.str da])=some false)(h2:cq W (.ref 10) (.str n)=some (.U [rs,ps]))(fO:gT r m Y){RF:Res fA}
  (h:b9 O 400 nR (PD r (.U [.str n]) row (.str n) rs ps) Y=RF):b9 O 400 FS.body [some<|.ref r,some<|.int 0,some<|.U [.str n],some row,ai,ai,ai,ai,ai,ai,ai] Y=RF:=by
 refine aJ fO.attr λg hg Tr=>?_;have a1:dh Y (.ref r) gZ=true:=fO.may rfl;have a2:kf Y (.ref r) gZ=some (.ref m):=Tr _ _ rfl;have a3:dh Y (.ref r) lA=true:=fO.may rfl;have a4:kf Y (.ref r) lA=some (.str z_):=Tr _ _ rfl;refine Mi fO.m7.facts λk2 XJ zq=>XV zq λb1 b2 b3 b4 b5 b6 b7=>aJ h1 λkd hk mM=>?_;have c1:=b6 _ _ hk;have c2:=b7 _ _ h2;have e:=hf Y [n] n fO.m7 hn;dsimp only[FS];apply ah
 ·(first | apply dw | apply dv | apply bG)
  repeat room
 apply ah
 ·(first | apply dw | apply dv | apply bG)
  repeat room
 apply ah
 ·(first | apply dw | apply dv | apply bG)
  repeat room
 exact h
theorem NX (hf:uw O m)(fO:gT r m Y):∃J,bn tx O 136 [.ref r,.int 0,.U [.str cB],dl cB (.U [])<|.U []] Y=.ok (.U [.str lB,.str cB,.U [],.U []]) (Y++J):=by
 have e0:=λY:af=>mn (Y:=Y) (l:=[]);have e1:=ne_int (Y:=Y) (i:=0) (j:=0);refine⟨[.list []],?_⟩;apply bh (i:=FS) (R:=(some<|.U [.str lB,.str cB,.U [],.U []],_)) rfl rfl rfl;apply sy hf (rs:=.U []) (ps:=.U []) (by lk) ⟨_,rfl,rfl⟩ rfl fO;dsimp only[nR,FS,List.drop];have em:=pO fO;have et:wp (Y++[ao.list []]) .tuple [.ref Y.length]=.ok (.U []) (Y++[ao.list []]):=ch (cG aq) (by lk);have ea:jJ Y .Mult (.U [.none]) (.int 0)=.ok (.U []) Y:=rfl
 (first | apply dw | apply dv | apply bG)
 repeat (first | (intro w;refine(?_:_->_) (w<|e0 _)) | room)
end
section
variable {O:av} {Y:af} {m r:Nat}
noncomputable abbrev PE:X:=.ite (.m .NotEq (.i (.l 3)<|.xi 1)<|.U []) (.bi .tuple [.comp [none,none,none,some 1] [1] (.i (.l 3)<|.xi 1) []<|.call 86 [.l 1,.l 3]])<|.bin .Mult (.U [.c .none])<|.bi .len [.l 5]
abbrev oh (r:Nat)(rs ws:aH):Loc:=PD r (.U [.str mR]) (dl mR (.U rs)<|.U ws) (.str mR) (.U [.str fT])<|.U [.str my]
section
variable {rs jU ws ds:aH} {x:V} {RF:Res fA}
theorem J4 (hb:rs.length<1000):aV O (.m .NotEq (.bi .len [.i (.l 3)<|.xi 1])<|.bi .len [.l 5]) (oh r rs ws) Y=.ok (.bool !decide ((rs.length:Int)=1)) Y:=
 ar (cP (aa (aG (I rfl) ag rfl) ae)<|nO rfl<|cb hb rfl) (cP (aa (I rfl) ae) rfl) ne_int
theorem E6 (ha:ws.length<1000):aV O (.m .NotEq (.bi .len [.i (.l 3)<|.xi 2])<|.bi .len [.l 6]) (oh r rs ws) Y=.ok (.bool !decide ((ws.length:Int)=1)) Y:=
 ar (cP (aa (aG (I rfl) ag rfl) ae)<|nO rfl<|cb ha rfl) (cP (aa (I rfl) ae) rfl) ne_int
theorem J5:aV O (.m .NotEq (.i (.l 3)<|.xi 1)<|.U []) (oh r rs ws) Y=.ok (.bool !rs.isEmpty) Y:=ar (aG (I rfl) ag rfl) (aT ae) mn
theorem NY (h1:1<rs.length)(hb:rs.length<1000):b9 O 400 nR (oh r rs ws) Y=.exc 76 Y:=by
 have e1:=J4 (O:=O) (Y:=Y) (r:=r) (ws:=ws) hb;have e0:=J5 (O:=O) (Y:=Y) (r:=r) (ws:=ws) (rs:=rs);rw[fy<|show¬((rs.length:Int)=1) from λe=>mO h1<|Int.ofNat.inj e] at e1;rw[show rs.isEmpty=false by cases rs with
  |nil=>cases h1
  |cons _ _=>rfl] at e0
 refine cT<|bl (eS<|hJ e0 rfl<|iS e1) rfl ?_
 apply bG
 repeat room
theorem zs (h1:¬1<rs.length)(hb:rs.length<1000)(h:b9 O 400 (nR.drop 1) (oh r rs ws) Y=RF):b9 O 400 nR (oh r rs ws) Y=RF:=by
 have e0:=J5 (O:=O) (Y:=Y) (r:=r) (ws:=ws) (rs:=rs);cases rs with
 |nil=>exact ah (aB (eS<|kZ e0 rfl) rfl az) h
 |cons a q=>
  cases q with
  |nil=>exact ah (aB (eS<|hJ e0 rfl<|iS<|J4 (O:=O) (Y:=Y) (r:=r) (ws:=ws) hb) rfl az) h
  |cons b q=>exact absurd (Nat.succ_lt_succ<|Nat.zero_lt_succ _) h1
theorem NZ (h1:¬ws.length=1)(ha:ws.length<1000):b9 O 400 (nR.drop 1) (oh r rs ws) Y=.exc 76 Y:=by
 have e1:=E6 (O:=O) (Y:=Y) (r:=r) (rs:=rs) ha;rw[fy<|show¬((ws.length:Int)=1) from λe=>h1<|Int.ofNat.inj e] at e1;refine cT<|bl e1 rfl ?_
 apply bG
 repeat room
theorem DM (h1:ws.length=1)(ha:ws.length<1000)(h:b9 O 400 (nR.drop 2) (oh r rs ws) Y=RF):b9 O 400 (nR.drop 1) (oh r rs ws) Y=RF:=by
 have e1:=E6 (O:=O) (Y:=Y) (r:=r) (rs:=rs) ha;rw[eE<|show(ws.length:Int)=1 from bJ Int.ofNat h1] at e1;exact ah (aB e1 rfl az) h
theorem N0 (hR:DL O)(hr:oo rs jU)(h1:¬1<rs.length):∃x,ml rs jU=[x]/\((fq x=true/\aV O PE (oh r rs ws) Y=.exc 52 Y)∨(fq x=false/\∃J,aV O PE (oh r rs ws) Y=.ok (.U [x]) (Y++J))):=by
 have e0:=J5 (O:=O) (Y:=Y) (r:=r) (ws:=ws) (rs:=rs);cases hr with
 |nil=>exact bF .none rfl<|.inr ⟨rfl,[],by rw[iT];exact gm e0 rfl<|fj (aT<|aa ag ae) (cP (aa (I rfl) ae) rfl) rfl⟩
 |@cons s d wm uz g g'=>
  cases g' with
  |cons _ _=>exact absurd (Nat.succ_lt_succ<|Nat.zero_lt_succ _) h1
  |nil=>
   have L0:=hR Y _ _ g;refine bF d rfl ?_;cases hN:fq d<;>rw[hN] at L0
   ·exact .inr ⟨rfl,[.list [d]],fF e0 rfl<|cP (aa (d7 (aG (I rfl) ag rfl) rfl<|bq (dG rfl cJ (aL (aa (I rfl)<|aa (I rfl) ae) L0)<|aO rfl) rfl cf) ae)<|ch (cG aq)<|aO rfl⟩
   ·exact .inl ⟨rfl,fF e0 rfl<|E3<|vR<|xS (aG (I rfl) ag rfl) rfl<|E4<|E5 rfl<|aL (aa (I rfl)<|aa (I rfl) ae) L0⟩
theorem R0 (h1:¬1<rs.length)(hd:ds.length=1)(hk:ml rs jU=[x]):m6 rs jU ds=dj (fq x) (.str aI) (dj (lP<|bg ds) (bg ds)<|.U [.str lB,.str mR,.U [x],bg ds]):=by
 unfold m6;rw[hd,fy h1,hk];rfl
theorem N3 (hf:uw O m)(hR:DL O)(hr:oo rs jU)(S4:rs.length=jU.length)(h:∀p∈ws.zip ds,jf r m O p.1 p.2)(hl:ws.length=ds.length)(ha:ws.length<1000)(hb:rs.length<1000)(fO:gT r m Y):∃J,bn tx O 136 [.ref r,.int 0,.U [.str mR],dl mR (.U rs)<|.U ws] Y=told (m6 rs jU ds) (Y++J):=by
 have exc:∀{C:Nat} {Y':af},b9 O 400 nR (oh r rs ws) Y=.exc C Y'->bn tx O 136 [.ref r,.int 0,.U [.str mR],dl mR (.U rs)<|.U ws] Y=.exc C Y':=λ{C Y'} e=>gE rfl rfl rfl<|sy hf (by lk) ⟨_,rfl,rfl⟩ rfl fO e
 by_cases hr1:1<rs.length
 ·refine⟨[],?_⟩;rw[show m6 rs jU ds=.str aC by unfold m6;rw[eE hr1];rfl,iT];exact exc<|NY hr1 hb
 by_cases hw1:ws.length=1
 ·refine aJ (N0 (O:=O) (Y:=Y) (r:=r) (ws:=ws) hR hr hr1) λx hk hx=>?_;rw[R0 hr1 (hl.symm.trans hw1) hk];refine aZ hx (λhx=>?_) λhx=>?_
  ·refine cR hx λhN e=>?_;rw[hN];exact⟨[],by rw[iT];exact exc<|zs hr1 hb<|DM hw1 ha<|cT<|rB e⟩
  ·refine cR hx λhN hx=>aN hx λJ e7=>?_;rw[hN];refine aN (BE (O:=O) (N:=[some<|.ref r,some<|.int 0,some<|.U [.str mR],some<|dl mR (.U rs)<|.U ws,some<|.str mR,some<|.U [.str fT],some<|.U [.str my],some<|.U [x],none,none,none]) (x:=.i (.l 3)<|.xi 2) (λM=>aG (I rfl) ag rfl) rfl h hl ha<|fO.push (J:=J)) λJ' e8=>⟨J++J',?_⟩;rw[<-bT];refine aZ (vU ds) (λq=>?_) λq=>?_
   ·refine aJ q λs h1 h2=>?_;rw[h1] at e8;rw[h2];exact exc<|zs hr1 hb<|DM hw1 ha<|ah (aA e7 aE)<|cT<|pq<|vT<|vS ag<|vS (I rfl)<|vS (I rfl)<|vR e8
   ·refine cR q λh1 h2=>?_;rw[h1] at e8;rw[h2];exact bh rfl rfl rfl
     (sy hf (by lk) ⟨_,rfl,rfl⟩ rfl fO<|zs hr1 hb<|DM hw1 ha<|ah (aA e7 aE)<|ah (bO<|aT<|aa ag<|aa (I rfl)<|aa (I rfl)<|aa e8 ae) rfl)
 ·refine⟨[],?_⟩;rw[show m6 rs jU ds=.str aC by
   unfold m6;rw[show(ds.length==1)=false from beq_eq_false_iff_ne.mpr λe=>hw1<|hl.trans e,Bool.not_false,Bool.or_true],iT]
  exact exc<|zs hr1 hb<|NZ hw1 ha
end
end
def VU:Nat->List V->af->Res V->Prop:=λf vs Y r=>f=302/\∃m names,vs=[.ref m,.str z_,.U<|names.map .str,.str aC,.int 0]/\cu m Y/\
 ((∃path,mG.lookup names=some path/\r=.ok (.str path) Y)∨(names=[tP]/\r=.exc 52 Y))
theorem zt:∀p∈mG,mG.lookup p.1=some p.2:=by decide+kernel
theorem zu {names:db}{path:Str}(h:mG.lookup names=some path):(names,path)∈mG:=by
 have:∀{l:List (db × Str)},l.lookup names=some path->(names,path)∈l:=by
  intro l
  induction l with
  |nil=>intro h;cases h
  |cons p r ih=>
   obtain⟨a,b⟩:=p;intro h;rw[lu] at h;split at h
   ·next e=>cases h;rw[eq_of_beq e];exact .head _
   ·exact .tail _<|ih h
 exact this h
theorem BF:∀{a b:db},a.map V.str=b.map V.str->a=b
 | [],[],_=>rfl
 |x::a,y::b,h=>by
  rw[eM,eM] at h;injection h with h1 h2
  injection h1 with h1
  rw[h1,BF h2]
 | [],_::_,h=>by cases h
 |_::_,[],h=>by cases h
section
variable {gx:Gx}
theorem VV (H:oA gx tx):Kn (2 * 72) VU:=by
 intro f vs Y h;obtain⟨r,rfl,m,names,rfl,⟨π,E,e⟩,hr⟩:=h;have mL:∀ns:db,lZ (at' π) [.ref 1,.str z_,.U<|ns.map .str,.str aC,.int 0]=[.ref m,.str z_,.U<|ns.map .str,.str aC,.int 0]:=λns=>by
  simp only[lZ,V.mL,pL,nK e]
 have rQ:∀ns:db,kY W.length [.ref 1,.str z_,.U<|ns.map .str,.str aC,.int 0]=true:=λns=>by
  rw[tr];simp only[kY,V.rQ,sq];rfl
 refine aZ hr (λY0=>?_) λY1=>?_
 ·refine aJ Y0 λpath hp AQ=>?_;subst AQ;refine⟨_,?_,rfl,m,names,rfl,⟨π,E,e⟩,.inl ⟨path,hp,rfl⟩⟩;have:=(GW H<|zu hp).keep E<|rQ names
  rw[mL names] at this;exact this
 ·refine cR Y1 λGs Q1=>?_;subst Gs;subst Q1;have:=(GX H).Pw E<|rQ [tP]
  rw[mL [tP]] at this;exact⟨_,this,rfl,m,[tP],rfl,⟨π,E,e⟩,.inr ⟨rfl,rfl⟩⟩
def UW:Nat->av:=overs tx (2 * 72) VU
theorem R7 (H:oA gx tx)(i:Nat):iJ (UW (i+1)) (2 * (72+6 * (i+1))):=xM H 72 i
variable {i:Nat}
theorem fk {f:Nat}{vs:aH}{Y:af}(hf:f≠302):UW (i+1) f vs Y=bn tx (UW i) f vs Y:=Bp λ⟨_,h,_⟩=>hf h
theorem E7 (H:oA gx tx)(i m:Nat):uw (UW (i+1)) m:=λY names path hw hp=>by
 have hl:=zt _ hp;have:=Bo (O:=UW i) (tx:=tx) (VV H) (f:=302) (Y:=Y) ⟨_,rfl,m,names,rfl,hw,.inl ⟨path,hl,rfl⟩⟩;refine X7 this λM m' aag e M hr=>?_;injection e with e1 e2
 injection e2 with _ e3
 injection e3 with e4 _
 injection e4 with e4
 have:=BF e4;subst this;refine aZ hr (λY2=>?_) λY3=>?_
 ·refine aJ Y2 λpath' wq hr=>?_;rw[hl] at wq;cases wq;exact hr
 ·refine cR Y3 λVe M=>?_;subst Ve;rw[show mG.lookup [tP]=none by decide+kernel] at hl;cases hl
theorem J6 (i:Nat):DL (UW (i+1)):=λY rg rd h=>by rw[fk<|by lk];exact VS h
variable {rs jU:aH}
theorem oo.len (h:oo rs jU):rs.length=jU.length:=by
 induction h with
 |nil=>rfl
 |cons _ _ ih=>simp[ih]
variable {k:Nat} {ws ds:aH}
theorem fB.len (h:fB k ws ds):ws.length=ds.length:=by
 refine fB.rec (motive_1:=λM M M M=>True) (motive_2:=λk ws ds M=>ws.length=ds.length) ?u8 ?S ?ref ?arr ?U ?box ?G ?nil ?cons h
 case nil=>exact λk=>rfl
 case cons=>exact λM M M M j=>bJ (· +1) j
 all_goals intros;trivial
variable {r m:Nat}
theorem VW (hi:4<=i):jf r m (UW i) (eP fM (.U [])<|.U []) (.U [.str qa,.str fM]):=λ{Y} fO=>by
 refine aN (oC hi) λi AQ=>?_;subst AQ;have hb:∀{Y:af} {told:V} {n:Str},UW (i+1) 131 [.ref r,.int 0,dl n (.U [])<|.U [],told] Y=.ok told Y:=λ{Y told n}=>by rw[fk<|by lk];exact J3
 have S5:∀{Y:af},gT r m Y->∃J,UW (i+2) 124 [.ref r,.int 0,dl fM (.U [])<|.U []] Y=told (.U [.str qa,.str fM]) (Y++J):=λ{Y} fO=>⟨[],by rw[fk (by lk),iT];exact GZ hb fO⟩;have Eh:nQ r m (UW (i+3)) fM (.U []) (.U []) (.U [.str qa,.str fM]):=λ{Y} fO=>by rw[fk<|by lk];exact tz (.inr rfl) (λM e=>by cases e) S5 fO
 rw[fk<|by lk];exact pP (.inr rfl) Eh fO
theorem ZL (H:oA gx tx)(hi:4<=i):jf r m (UW i) (eP cB (.U [])<|.U []) (.U [.str lB,.str cB,.U [],.U []]):=λ{Y} fO=>by
 refine aN (oC hi) λi Gs=>?_;subst Gs;have S6:∀{Y:af},gT r m Y->∃J,UW (i+2) 136 [.ref r,.int 0,.U [.str cB],dl cB (.U [])<|.U []] Y=told (.U [.str lB,.str cB,.U [],.U []]) (Y++J):=λ{Y} fO=>by rw[fk<|by lk];exact NX (E7 H i m) fO
 have Eh:nQ r m (UW (i+3)) cB (.U []) (.U []) (.U [.str lB,.str cB,.U [],.U []]):=λ{Y} fO=>by rw[fk<|by lk];exact vW (.inr rfl) (λ{Y} fO=>⟨[],by rw[fk (by lk),iT];exact tA (.inl rfl) fO⟩:∀{Y:af},gT r m Y->∃J,UW (i+2) 124 [.ref r,.int 0,dl cB (.U [])<|.U []] Y=.ok .none (Y++J)) S6 fO
 rw[fk<|by lk];exact pP (.inr rfl) Eh fO
theorem R8 (H:oA gx tx)(hr:oo rs jU)(ht:fB k ws ds)(h2:ws.length<=2)(hi:4<=i)(T:∀p∈ws.zip ds,jf r m (UW<|i - 3) p.1 p.2):jf r m (UW i) (eP cY (.U rs)<|.U ws) (fX rs ds):=λ{Y} fO=>by
 refine aN (oC hi) λi Zo=>?_;subst Zo;have hF:lP (fX rs ds)=true∨lP (fX rs ds)=false:=by cases lP (fX rs ds)<;>simp
 have hn:lP (fX rs ds)=false->fX rs ds≠.none:=λM e=>by
  have hd:=(la.box hr ht h2).GO;rw[e] at hd;rcases hd with h | h | ⟨l,h,_⟩<;>cases h
 have S5:∀{Y:af},gT r m Y->∃J,UW (i+2) 124 [.ref r,.int 0,dl cY (.U rs)<|.U ws] Y=told (fX rs ds) (Y++J):=λ{Y} fO=>by rw[fk<|by lk];exact DK hr T (fB.len ht) (lm h2<|aO rfl) fO
 have Eh:nQ r m (UW (i+3)) cY (.U rs) (.U ws) (fX rs ds):=λ{Y} fO=>by rw[fk<|by lk];exact tz hF hn S5 fO
 rw[fk<|by lk];exact pP hF Eh fO
theorem ZM (H:oA gx tx)(hr:oo rs jU)(ht:fB k ws ds)(h2:ws.length<=2)(h3:rs.length<=2)(hi:4<=i)(T:∀p∈ws.zip ds,jf r m (UW<|i - 3) p.1 p.2):jf r m (UW i) (eP mR (.U rs)<|.U ws) (m6 rs jU ds):=λ{Y} fO=>by
 refine aN (oC hi) λi Ru=>?_;subst Ru;have hF:lP (m6 rs jU ds)=true∨lP (m6 rs jU ds)=false:=by cases lP (m6 rs jU ds)<;>simp
 have S6:∀{Y:af},gT r m Y->∃J,UW (i+2) 136 [.ref r,.int 0,.U [.str mR],dl mR (.U rs)<|.U ws] Y=told (m6 rs jU ds) (Y++J):=λ{Y} fO=>by rw[fk<|by lk];exact N3 (E7 H i m) (J6 i) hr hr.len T (fB.len ht) (lm h2<|aO rfl) (lm h3<|aO rfl) fO
 have Eh:nQ r m (UW (i+3)) mR (.U rs) (.U ws) (m6 rs jU ds):=λ{Y} fO=>by rw[fk<|by lk];exact vW hF (λ{Y} fO=>⟨[],by rw[fk (by lk),iT];exact tA (.inr rfl) fO⟩:∀{Y:af},gT r m Y->∃J,UW (i+2) 124 [.ref r,.int 0,dl mR (.U rs)<|.U ws] Y=.ok .none (Y++J)) S6 fO
 rw[fk<|by lk];exact pP hF Eh fO
theorem rC (h:2 * (k+2)+6<=i):∃n,i=n+3+1/\2 * k+6<=n+1:=aN (oC h) λn e=>bF (n+(2 * k+6)) e<|Nat.le_succ_of_le<|Nat.le_add_left _ _
theorem E8 (h:2 * k+6<=i):4<=i:=by exact uK ‹_› rfl
theorem N4 {k':Nat}(h:2 * k+6<=i)(h':k'<=k):2 * k'+6<=i:=eo (nY (Nat.mul_le_mul_left 2 h') 6) h
theorem J7 {a n:Nat}(m:Nat)(h:a<=n+1):a<=n+1+m:=eo h<|ej _ _
theorem N5 (H:oA gx tx){ww d:V}(h:la k ww d):∀i,2 * k+6<=i->jf r m (UW i) ww d:=by
 refine la.rec (motive_1:=λk ww d M=>∀i,2 * k+6<=i->jf r m (UW i) ww d) (motive_2:=λk ws ds M=>∀i,2 * k+6<=i->∀p∈ws.zip ds,jf r m (UW i) p.1 p.2) ?u8 ?S ?ref ?arr ?U ?box ?G ?nil ?cons h
 case u8=>exact λi hi=>VW<|E8 hi
 case S=>exact λi hi=>ZL H<|E8 hi
 case ref=>
  intro k x rd w d b hr ht ih i hi Y fO;refine aJ (rC hi) λn e hn=>?_;subst e;rw[fk<|by lk];exact JZ ⟨λh=>J6 (n+2) _ _ _ h⟩ hr ht.GO (ih (n+3)<|J7 2 hn) b fO
 case arr=>
  intro k w d x _ ht ih i hi Y fO;refine aJ (rC hi) λn e hn=>?_;subst e;rw[fk<|by lk];exact J0 ht.GO (ih (n+3)<|J7 2 hn) fO
 case U=>
  intro k ws ds ht h2 ih i hi Y fO;refine aJ (rC hi) λn e hn=>?_;subst e;rw[fk<|by lk];exact J1 (ih (n+3)<|J7 2 hn) ht.len (lm h2<|aO rfl) fO
 case box=>
  intro k rs jU ws ds hr ht h2 ih i hi;refine aJ (rC hi) λn e hn=>?_;subst e;exact R8 H hr ht h2 (Nat.le_add_left 4 n)<|ih (n+1) hn
 case G=>
  intro k rs jU ws ds hr ht h2 h3 ih i hi;refine aJ (rC hi) λn e hn=>?_;subst e;exact ZM H hr ht h2 h3 (Nat.le_add_left 4 n)<|ih (n+1) hn
 case nil=>exact λk i hi p hp=>False.elim<|dq hp
 case cons=>
  intro k k' w d ws ds h hk _ ih j i hi p hp;refine @Or.elim _ _ _ (aX.mp hp) (λe=>?_)<|j i hi p
  subst e;exact ih i<|N4 hi hk
end
section
variable {O:av} {Y:af} {m r k:Nat}
noncomputable abbrev jD (Y:af)(C:Nat)(l:iP):af:=Y++[.dict l,.inst C Y.length]
variable {C:Nat} {l:iP}
theorem sz:(jD Y C l)[Y.length]?=some (.dict l):=by rw[kN<|ba _,oF];rfl
theorem sA:(jD Y C l)[Y.length+1]?=some (.inst C Y.length):=by rw[kN<|ly _,show Y.length.succ - Y.length=1 by omega];rfl
theorem ko {n:Str}(h:uT.attrs C n=true)(hl:l.length<499):dh (jD Y C l) (.ref (Y.length+1)) n=true:=by
 exact zk sA sz h hl
theorem kq {l':iP}{n:Str}{v:V}(h:rV l n v=l'):jl (jD Y C l) (.ref (Y.length+1)) n v=some (jD Y C l'):=by
 rw[vK sA sz,List.set_append_right _ _<|ba _,oF,h];rfl
theorem BH {mo g:V}:bn tx O 100 [.ref (Y.length+1),mo,.str z_,g,.none,.none] (jD Y 139 [])=.ok .none (jD Y 139 [(gZ,mo),(lA,.str z_),(bw,g),(ja,.none),(ud,.none)]):=by
 apply bh (i:=Qw) (R:=(none,_)) rfl rfl rfl;dsimp only[Qw];refine ah (aA (I rfl)<|jp (I rfl) (ko rfl<|aO rfl)<|kq rfl)<|ah (aA (I rfl)<|jp (I rfl) (ko rfl<|aO rfl)<|kq rfl) ?_
 refine ah (aA (I rfl)<|jp (I rfl) (ko rfl<|aO rfl)<|kq rfl)<|ah (aA (I rfl)<|jp (I rfl) (ko rfl<|aO rfl)<|kq rfl) ?_
 exact ah (aA (I rfl)<|jp (I rfl) (ko rfl<|aO rfl)<|kq rfl) az
theorem J8 {gx:Gx}(H:oA gx tx){ww d:V}(hT:la k ww d)(i:Nat)(hi:2 * k+8<=i)(hw:cu m Y){g:Nat}(hg:Y[g]?=some (.list [.str my])):
  ∃J,UW i 151 [.ref m,.str z_,.ref g,.none,ww] Y=told d (Y++J):=by
 refine aN (oC<|show 2<=i by exact uK ‹_› rfl) λi eA=>?_;subst eA;have hR:gT (Y.length+1) m (jD Y 139<|qI m g):=⟨hw.push,Y.length,g,sA,sz,cH hg⟩;refine aN (N5 H hT (i+1) (by omega) hR) λJ e=>?_;have e1:UW (i+1) 100 [.ref (Y.length+1),.ref m,.str z_,.ref g,.none,.none] (jD Y 139 [])=.ok .none (jD Y 139<|qI m g):=by rw[fk<|by lk];exact BH
 have em:=pO hR;refine⟨[.dict<|qI m g,.inst 139 Y.length]++J,?_⟩;rw[<-bT,fk<|by lk];have hn:aV (UW (i+1)) (.new 139 [.l 0,.l 1,.l 2,.l 3,.l 5]) [some<|.ref m,some<|.str z_,some<|.ref g,some .none,some ww,some .none,none] Y=.ok (.ref (Y.length+1)) (jD Y 139<|qI m g):=
  vI rfl (aa (I rfl)<|aa (I rfl)<|aa (I rfl)<|aa (I rfl)<|aa (I rfl) ae) e1
 cases hF:lP d
 ·rw[mr hF] at e⊢;apply d8 rfl rfl rfl
  repeat (intro w;first | exact w | refine(?_:_->_) (w<|by first | (with_reducible assumption) | assumption | exact eq_int | exact rfl))
 ·refine aN (j1 hF) λs mT=>?_;subst mT;rw[lR] at e⊢;apply d8 rfl rfl rfl
  repeat (intro w;first | exact w | refine(?_:_->_) (w<|by first | (with_reducible assumption) | assumption | exact eq_int | exact rfl))
end
noncomputable abbrev pT:V:=.U []
abbrev PF:V:=eP fM (.U [])<|.U []
def bdX:List (X × X):=[(.U [.U [.xs cF,.U [],.U []]],.xs cF),(.U [.U [.xs uS,.U [],.U []],.U [.xs cF,.U [],.U []]],.xs gh),
 (.U [.U [.xs aR,.U [],.U []],.U [.xs cF,.U [],.U []]],.xs cF),(.U [.U [.xs cF,.U [],.U []]],.xs cF),(.U [.U [.xs jk,.U [],.U []]],.xs aI),
 (.U [.U [.xs jk,.U [],.U [.l 1]]],.xs aI),(.U [.U [.xs cF,.U [.xs fT],.U []]],.xs aI),(.U [.U [.xs uS,.U [],.U [.l 1]],.U [.xs cF,.U [],.U []]],.xs aC),
 (.U [.U [.xs uS,.U [.xs fT],.U []],.U [.xs cF,.U [],.U []]],.xs aC),(.U [.U [.xs uS,.U [],.U [.l 1]],.U [.xs cF,.U [],.U [.l 1]]],.xs aI),
 (.U [.U [.xs cB,.U [],.U []]],.xs aI),(.U [.U [.xs tP,.U [],.U []]],.xs aI),(.U [.U [.xs cF,.U [],.U []]],.xs cF)]
def rD:List (V × V):=[(.U [dl cF pT pT],.str cF),(.U [dl uS pT pT,dl cF pT pT],.str gh),(.U [dl aR pT pT,dl cF pT pT],.str cF),(.U [dl cF pT pT],.str cF),(.U [dl jk pT pT],.str aI),
 (.U [dl jk pT<|.U [PF]],.str aI),(.U [dl cF (.U [.str fT]) pT],.str aI),(.U [dl uS pT<|.U [PF],dl cF pT pT],.str aC),(.U [dl uS (.U [.str fT]) pT,dl cF pT pT],.str aC),(.U [dl uS pT<|.U [PF],dl cF pT<|.U [PF]],.str aI),
 (.U [dl cB pT pT],.str aI),(.U [dl tP pT pT],.str aI),(.U [dl cF pT pT],.str cF)]
section
variable {O:av} {s:Nat} {Y:af} {a b:Int}
theorem DN {N:Loc}{xs:List (X × X)}:∀{vs:List (V × V)} {Y:af},(∀p∈xs.zip vs,∀Y,aV O p.1.1 N Y=.ok p.2.1 Y/\aV O p.1.2 N Y=.ok p.2.2 Y)->xs.length=vs.length->s<Y.length->
  ∃ps J,ou O (xs.map λp=>.s [p.1,p.2]) N Y=.ok ps (Y++J)/\be s (Y++J) ps (vs.map (·.1)) (vs.map (·.2)):=by
 induction xs with
 |nil=>
  intro vs Y _ hl _;cases vs with
  |nil=>exact kz [] [] (by rw[iT];exact ae) .nil
  |cons=>exact Nat.noConfusion hl
 |cons x xs ih=>
  intro vs Y h hl hs;cases vs with
  |nil=>exact Nat.noConfusion hl
  |cons v vs=>
   have h12:=h (x,v) (.head _) Y;refine gG (ih (vs:=vs) (Y:=Y++[.list [v.1,v.2]]) (λp hp=>h p<|.tail _ hp) (j7 hl) (by rw[cN];exact dU hs<|ej _ _)) λps J e hR=>?_;refine kz (.ref Y.length::ps) ([.list [v.1,v.2]]++J) ?_ ?_
   ·rw[<-bT];exact aa (bk<|aa h12.1<|aa h12.2 ae) e
   ·rw[<-bT];exact .cons (mO hs) (cH aq) hR
theorem be.nth {ps ws ds:aH}(h:be s Y ps ws ds):∀{i:Nat} {v:V},ps[i]?=some v->∃j w d,v=.ref j/\j≠s/\Y[j]?=some (.list [w,d])/\ws[i]?=some w/\ds[i]?=some d:=by
 induction h with
 |nil=>exact λ{i v} e=>(Option.some_ne_none v<|e.symm.trans List.getElem?_nil).elim
 |cons h1 h2 _ ih=>
  intro i v e;cases i with
  |zero=>exact Mn _ _ _<|O5 (aU e).symm h1 h2 rfl rfl
  |succ i=>exact ih e
theorem G0 (H1:vQ O s)(hp:∀{Y:af} {n r t:V},O 486 [n,r,t] Y=.ok (.U [.str mw,.int 0,.U [.U [n,r,t]]]) Y)(hs:Y[s]?=some (aD a b)):
  ∃j Y' sp d a' b',bn tx O 510 [.ref s] Y=.ok (.ref j) Y'/\bj s Y Y'/\Y'[s]?=some (aD a' b')/\Y'[j]?=some (.list [sp,d])/\j≠s/\(sp,d)∈rD:=by
 have Xb:∀p∈bdX.zip rD,∀Y,aV O p.1.1 [some<|.ref s,some PF,none,none] Y=.ok p.2.1 Y/\aV O p.1.2 [some<|.ref s,some PF,none,none] Y=.ok p.2.2 Y:=by
  intro p hp;simp only[bdX,rD,List.zip_cons_cons,List.zip_nil_right,aX,dq,or_false] at hp;rcases hp with rfl | rfl | rfl | rfl | rfl | rfl | rfl | rfl | rfl | rfl | rfl | rfl | rfl<;>exact λY=>⟨rfl,rfl⟩
 refine gG (DN (s:=s) Xb rfl<|nN hs) λps J e hR=>?_;have s1:=ak (c':=ao.list ps)<|cH (J:=J) hs
 have h13:ps.length=13:=by rw[<-hR.len.1];rfl
 refine nk (H1 s1 (eT.list (t:=(Y++J).length) (l:=ps) aq ((dt (cH hs)<|ba _).symm:s≠(Y++J).length)<|by omega) (by omega)<|by omega) λi v bN gp hv e2=>?_;refine Mm (hR.nth hv) λj sp d eA hj cj g1 g2=>?_;subst eA;have K2:bj s (Y++J++[ao.list ps]) ((Y++J++[ao.list ps]).set s<|aD bN gp):=.set;refine rS j _ sp d bN gp ?_ ((bj.push.trans .push).trans K2) (c9 s1 _ _) (K2.old _ _ hj<|ak cj) hj ?_
 ·apply bh (i:=QH) (R:=(some<|.ref j,[some<|.ref s,some PF,none,none])) rfl rfl rfl;dsimp only[QH];refine ah (aA (aL (aa ag<|aa (aT ae)<|aa (aT ae) ae) hp) aE)<|ah (bO<|aL (aa (I rfl)<|aa (bk e) ae) e2) rfl
 ·rw[gd] at g1 g2;cases hb:rD[i]? with
  |none=>rw[hb] at g1;cases g1
  |some p=>
   rw[hb] at g1 g2;cases g1;cases g2;exact bp hb
end
mutual
theorem V.BI {k k':Nat}(h:k<=k'):∀(v:V),v.rQ k=true->v.rQ k'=true
 | .none,_=>rfl
 | .bool _,_=>rfl
 | .int _,_=>rfl
 | .str _,_=>rfl
 | .rng _ _,_=>rfl
 | .ref i,c=>by
  simp only[V.rQ] at c⊢;have:i<k:=by simpa using c
  simpa using dU this h
 | .U l,c=>sB h l c
 | .gl l,c=>sB h l c
theorem sB {k k':Nat}(h:k<=k'):∀(l:aH),kY k l=true->kY k' l=true
 | [],_=>rfl
 |v::r,c=>by
  have c':v.rQ k=true/\kY k r=true:=by simpa [kY] using c
  rw[kY,V.BI h v c'.1,sB h r c'.2];rfl
end
def pr:List (V × (Str ⊕ Nat)):=[(.U [dl cF pT pT],.inl cF),(.U [dl uS pT pT,dl cF pT pT],.inl gh),(.U [dl aR pT pT,dl cF pT pT],.inl cF),(.U [dl jk pT pT],.inl jk),
 (.U [dl uS pT<|.U [PF],dl cF pT pT],.inr 76),(.U [dl uS (.U [.str fT]) pT,dl cF pT pT],.inr 76),(.U [dl cB pT pT],.inr 52),(.U [dl tP pT pT],.inr 52)]
def ms (sp:V):Option (Str ⊕ Nat):=(pr.find? λp=>V.beq p.1 sp).map (·.2)
def R9 (p:V × (Str ⊕ Nat)):Bool:=@Sum.casesOn Str Nat (λM=>Bool) p.2 (λpath=>VQ (run tx 20 156 [.ref 1,.str z_,p.1,.int 0] W) λv Y=>V.beq v (.str path)&&DF W Y)
 λC=>RX (run tx 20 156 [.ref 1,.str z_,p.1,.int 0] W) λC' Y=>Nat.beq C' C&&DF W Y
theorem wS:pr.all (λp=>R9 p&&p.1.rQ 0)=true:=by lk
noncomputable def E9 (x:Str ⊕ Nat)(Y:af):Res V:=match x with
 | .inl p=>.ok (.str p) Y
 | .inr C=>.exc C Y
section
variable {gx:Gx}
variable {sp:V} {x:Str ⊕ Nat}
theorem DO (H:oA gx tx)(h:(sp,x)∈pr):cX (2 * (6 * 20)) 156 [.ref 1,.str z_,sp,.int 0] W (E9 x W)/\sp.rQ 0=true:=by
 have h:=gb.mp<|gH.mp wS _ h
 refine⟨?_,h.2⟩;have h:=h.1;have d:=(H.run 20).pY (f:=156) (vs:=[.ref 1,.str z_,sp,.int 0]) (Y:=W);cases x with
 |inl p=>
  refine gG (zr h) λv Y e h=>?_;have h:=gb.mp h;refine aN (rA h.2) λJ e'=>?_;rw[e,V.beq_eq h.1,e'] at d;exact d.drop xR (ba _) rfl
 |inr C=>
  refine gG (E2 h) λC' Y e h=>?_;have h:=gb.mp h;refine aN (rA h.2) λJ e'=>?_;rw[e,Nat.eq_of_beq_eq_true h.1,e'] at d;exact d.Pv xR<|ba _
theorem BJ (h:ms sp=some x):(sp,x)∈pr:=by
 unfold ms at h;cases q:pr.find? λp=>V.beq p.1 sp with
 |none=>rw[q] at h;cases h
 |some p=>
  rw[q] at h;cases h;have:=V.beq_eq (List.find?_some (p:=λp:V × (Str ⊕ Nat)=>V.beq p.1 sp) q:V.beq p.1 sp=true);rw[<-this];exact z9 q
def VX:Nat->List V->af->Res V->Prop:=λf vs Y r=>f=156/\∃m sp x,vs=[.ref m,.str z_,sp,.int 0]/\cu m Y/\ms sp=some x/\r=E9 x Y
theorem VY (H:oA gx tx):Kn (2 * 120) VX:=by
 intro f vs Y h;obtain⟨r,rfl,m,sp,x,rfl,⟨π,E,e⟩,hx,rfl⟩:=h;refine cR (DO H<|BJ hx) λd hc=>?_;have Xc:lZ (at' π) [.ref 1,.str z_,sp,.int 0]=[.ref m,.str z_,sp,.int 0]:=by
  simp only[lZ,V.mL,nK e,V.su (λi hi=>absurd hi<|Nat.not_lt_zero i) sp hc]
 have Xd:kY W.length [.ref 1,.str z_,sp,.int 0]=true:=by
  rw[tr];simp only[kY,V.rQ,V.BI (p9 17) sp hc];rfl
 refine⟨_,?_,rfl,m,sp,x,rfl,⟨π,E,e⟩,hx,rfl⟩;cases x with
 |inl p=>
  have:=d.keep E Xd;rw[Xc] at this;exact this
 |inr C=>
  have:=d.Pw E Xd;rw[Xc] at this;exact this
def UB:Nat->av:=overs tx (2 * 120) VX
theorem Sa (H:oA gx tx)(i:Nat):iJ (UB (i+1)) (2 * (120+6 * (i+1))):=xM H 120 i
theorem qJ {i f:Nat}{vs:aH}{Y:af}(hf:f≠156):UB (i+1) f vs Y=bn tx (UB i) f vs Y:=Bp λ⟨_,h,_⟩=>hf h
theorem J9 (H:oA gx tx)(i m:Nat){Y:af}(hw:cu m Y)(hx:ms sp=some x):UB (i+1) 156 [.ref m,.str z_,sp,.int 0] Y=E9 x Y:=by
 have:=Bo (O:=UB i) (tx:=tx) (VY H) (f:=156) (Y:=Y) ⟨_,rfl,m,sp,x,rfl,hw,hx,rfl⟩;refine Qg this λM m' O2 x' e M hx' hr=>?_;injection e with e1 e2
 injection e2 with _ e3
 injection e3 with e4 _
 subst e4;rw[hx] at hx';cases hx';exact hr
end
structure du (Y Y':af):Prop where
 le:Y.length<=Y'.length
 old:∀(i:Nat) (c:ao),Y[i]?=some c->Y'[i]?=some c
section
variable {O:av} {Y Y' CW:af} {m k t:Nat}
theorem du.refl:du Y Y:=⟨ba _,λM M h=>h⟩
theorem du.trans (h:du Y Y')(k:du Y' CW):du Y CW:=⟨eo h.le k.le,λi c hc=>k.old i c<|h.old i c hc⟩
theorem du.push {J:af}(h:du Y Y'):du Y (Y'++J):=⟨by rw[cN];have:=h.le;exact eo ‹_› (ej _ _),λi c hc=>cH<|h.old i c hc⟩
theorem du.set {c:ao}(h:du Y Y')(ht:Y.length<=t):du Y (Y'.set t c):=⟨by rw[qT];exact h.le,λi c' hc=>by
 have:=(bP.mp hc).1;rw[eL<|by exact mO<|dU ‹_› ‹_›];exact h.old i c' hc⟩
theorem du.m7 (h:du Y Y')(w:cu m Y):cu m Y':=by
 refine aJ w fun π E e=>bF π ⟨E.len,E.nd,λi c hc=>?_⟩ e;exact j8 (E.cell i c hc) λj h1 h2 h3=>lY j h1 (h.old _ _ h2) h3
theorem fH {l:aH}{v:V}(h:Y[t]?=some (.list l))(hl:l.length<10000):Pe Y (.ref t) .append [v]=.ok .none (Y.set t<|.list (l++[v])):=by
 show qu Y t (λl=>if l.length<10000 then .ok .none (Y.set t<|.list (l++[v])) else .stuck)= _;exact cw (jP h)<|if_pos hl
theorem hU {d:Bm}{l:aH}(h:Y[t]?=some (.list l))(hd:d=.append∨d=.pop):FQ Y (.ref t) d=true:=by
 rcases hd with rfl | rfl<;>(show(wo Y t).isSome=true;rw[jP h];rfl)
theorem lb {l:ao}{c:ao}(h:Y[t]?=some c):(Y.set t l)[t]?=some l:=uA (bP.mp h).1
def fJ (d:V):Bool:=match d with
 | .str s=>decide (s=aI)||decide (s=aC)
 |_=>false
def G1 (d:V):Nat:=match d with
 | .str s=>excOf s
 |_=>0
theorem zv {l:aH}:∀Y:af,cS Y .NotEq (.U l) (.U [])=some (!l.isEmpty):=λY=>mn
noncomputable abbrev PG:X:=.or [.m .NotEq (.i (.i (.l 9)<|.xi (-1))<|.xi 1)<|.U [],.m .NotEq (.i (.i (.l 9)<|.xi (-1))<|.xi 2)<|.U []]
abbrev DP:List S:=[.ite PG [.raise 52 (.xs Eo)<|.l 3] [],.set (.l 10)<|.call 156 [.l 0,.l 1,.l 9,.l 3],.ite (.m .NotEq (.i (.i (.attr (.l 0) bw)<|.l 10)<|.xi 1)<|.U []) [.raise 52 (.xs Eo)<|.l 3] [],.ex<|.bm (.l 8) .append [.l 10]]
abbrev eX (m:Nat)(g:V)(tf:Nat)(r n p7 tp sp p:j9):Loc:=[some<|.ref m,some<|.str z_,some g,some<|.int 0,some<|.ref tf,r,n,p7,tp,sp,p,none,none,none,none]
def rE (O:av)(m:Nat):Prop:=∀(Y:af) (sp:V) (x:Str ⊕ Nat),cu m Y->ms sp=some x->O 156 [.ref m,.str z_,sp,.int 0] Y=E9 x Y
inductive BdC (Y:af)(sp d:V):Prop
 |a (b1 b2:aH) (x:V) (h1:cq Y sp (.int (-1))=some x) (h2:cq Y x (.int 1)=some (.U b1)) (h3:cq Y x (.int 2)=some (.U b2)) (h4:(!b1.isEmpty||!b2.isEmpty)=true) (hd:d=.str aI)
 |b (x:V) (h1:cq Y sp (.int (-1))=some x) (h2:cq Y x (.int 1)=some (.U [])) (h3:cq Y x (.int 2)=some (.U [])) (h4:ms sp=some (.inr (G1 d))) (hf:fJ d=true)
 |few (x:V) (h1:cq Y sp (.int (-1))=some x) (h2:cq Y x (.int 1)=some (.U [])) (h3:cq Y x (.int 2)=some (.U [])) (q:Str) (gs ps:aH) (h4:ms sp=some (.inl q)) (h5:cq W (.ref 10) (.str q)=some (.U [.U gs,.U ps])) (hp:ps.isEmpty=false) (hd:d=.str aI)
 |ok (x:V) (h1:cq Y sp (.int (-1))=some x) (h2:cq Y x (.int 1)=some (.U [])) (h3:cq Y x (.int 2)=some (.U [])) (q:Str) (gs:aH) (h4:ms sp=some (.inl q)) (h5:cq W (.ref 10) (.str q)=some (.U [.U gs,.U []])) (hd:d=.str q) (hf:fJ d=false)
theorem Ka (Y:af){q:V × V}(hb:q∈rD):BdC Y q.1 q.2:=by
 have no:∀{P:Prop},q∈([]:List (V × V))->P:=λh=>(dq h).elim;unfold rD at hb;exact(aX.mp hb).elim (λe=>e▸.ok _ rfl rfl rfl cF [] (by lk) rfl rfl rfl) λhb=>(aX.mp hb).elim (λe=>e▸.ok _ rfl rfl rfl gh [] (by lk) rfl rfl rfl) λhb=>(aX.mp hb).elim (λe=>e▸.ok _ rfl rfl rfl cF [] (by lk) rfl rfl rfl) λhb=>(aX.mp hb).elim (λe=>e▸.ok _ rfl rfl rfl cF [] (by lk) rfl rfl rfl) λhb=>(aX.mp hb).elim (λe=>e▸.few _ rfl rfl rfl jk [] [.str Id] (by lk) rfl rfl rfl) λhb=>(aX.mp hb).elim (λe=>e▸.a _ _ _ rfl rfl rfl rfl rfl) λhb=>(aX.mp hb).elim (λe=>e▸.a _ _ _ rfl rfl rfl rfl rfl) λhb=>(aX.mp hb).elim (λe=>e▸.b _ rfl rfl rfl (by lk) rfl) λhb=>(aX.mp hb).elim (λe=>e▸.b _ rfl rfl rfl (by lk) rfl) λhb=>(aX.mp hb).elim (λe=>e▸.a _ _ _ rfl rfl rfl rfl rfl) λhb=>(aX.mp hb).elim (λe=>e▸.b _ rfl rfl rfl (by lk) rfl) λhb=>(aX.mp hb).elim (λe=>e▸.b _ rfl rfl rfl (by lk) rfl) λhb=>(aX.mp hb).elim (λe=>e▸.ok _ rfl rfl rfl cF [] (by lk) rfl rfl rfl) no
section
variable {sp d x:V} {g:V} {tf tp:Nat} {r n p7 p:j9} {acc:aH}
theorem Kb {b1 b2:aH}{N:Loc}(hl:N[9]?=some (some sp))(h1:cq Y sp (.int (-1))=some x)(h2:cq Y x (.int 1)=some (.U b1))(h3:cq Y x (.int 2)=some (.U b2)):aV O PG N Y=.ok (.bool (!b1.isEmpty||!b2.isEmpty)) Y:=by
 have e1:=zv (l:=b1) Y;have i1:aV O (.i (.l 9)<|.xi (-1)) N Y=.ok x Y:=aG (I hl) ag h1;cases hb:b1.isEmpty<;>rw[hb] at e1
 ·exact mE (ar (aG i1 ag h2) (aT ae) e1) rfl
 ·exact gw (ar (aG i1 ag h2) (aT ae) e1) rfl<|gv<|ar (aG i1 ag h3) (aT ae)<|zv Y
theorem zw {RF:Res fA}(h1:cq Y sp (.int (-1))=some x)(h2:cq Y x (.int 1)=some (.U []))(h3:cq Y x (.int 2)=some (.U []))(h:b9 O 400 (DP.drop 1) (eX m g tf r n p7 (some<|.ref tp) (some sp) p) Y=RF):b9 O 400 DP (eX m g tf r n p7 (some<|.ref tp) (some sp) p) Y=RF:=
 ah (aB (Kb rfl h1 h2 h3) rfl az) h
theorem vX {R:Res V}(e:O 156 [.ref m,.str z_,sp,.int 0] Y=R):aV O (.call 156 [.l 0,.l 1,.l 9,.l 3]) (eX m g tf r n p7 (some<|.ref tp) (some sp) p) Y=R:=
 aL (aa (I rfl)<|aa (I rfl)<|aa (I rfl)<|aa (I rfl) ae) e
theorem Fa (hw:cu m Y){q:Str}{gs ps:aH}(h5:cq W (.ref 10) (.str q)=some (.U [.U gs,.U ps])):aV O (.m .NotEq (.i (.i (.attr (.l 0) bw)<|.l 10)<|.xi 1)<|.U []) (eX m g tf r n p7 (some<|.ref tp) (some sp)<|some<|.str q) Y=.ok (.bool (!ps.isEmpty)) Y:=by
 exact Mi hw.facts λk2 XJ zq=>XV zq λb1 b2 b3 b4 b5 b6 b7=>ar (aG (aG (un (I rfl) b3 b4) (I rfl)<|b7 _ _ h5) ag rfl) (aT ae)<|zv Y
theorem DQ (hT:rE O m)(hb:(sp,d)∈rD)(hw:cu m Y)(ht:Y[tp]?=some (.list acc))(ha:acc.length<100):
  (fJ d=true/\b9 O 400 DP (eX m g tf r n p7 (some<|.ref tp) (some sp) p) Y=.exc (G1 d) Y)∨
  (fJ d=false/\∃p',b9 O 400 DP (eX m g tf r n p7 (some<|.ref tp) (some sp) p) Y=.ok (none,eX m g tf r n p7 (some<|.ref tp) (some sp) p') (Y.set tp<|.list (acc++[d]))):=by
 have c:BdC Y sp d:=Ka Y hb;cases c with
 |a b1 b2 x h1 h2 h3 h4 hd=>
  have e:=Kb (O:=O) (N:=eX m g tf r n p7 (some<|.ref tp) (some sp) p) rfl h1 h2 h3;rw[h4] at e;rw[hd];exact .inl ⟨rfl,cT<|bl e rfl<|cT<|pj ag<|I rfl⟩
 |b x h1 h2 h3 h4 hf=>exact .inl ⟨hf,zw h1 h2 h3<|cT<|rB<|vX<|hT Y sp _ hw h4⟩
 |few x h1 h2 h3 q gs ps h4 h5 hp hd=>
  have e:=Fa (O:=O) (sp:=sp) (g:=g) (tf:=tf) (tp:=tp) (r:=r) (n:=n) (p7:=p7) hw h5;rw[hp] at e;rw[hd];exact .inl ⟨rfl,zw h1 h2 h3<|ah (aA (vX<|hT Y sp _ hw h4) aE)<|cT<|bl e rfl<|cT<|pj ag<|I rfl⟩
 |ok x h1 h2 h3 q gs h4 h5 hd hf=>
  rw[hd] at hf⊢;exact .inr<|TL hf (some<|.str q)<|zw h1 h2 h3<|ah (aA (vX<|hT Y sp _ hw h4) aE)<|ah (aB (Fa hw h5) rfl az)<|ah (ic<|km (I rfl) (hU ht<|.inl rfl) (aa (I rfl) ae)<|fH ht<|cb ha rfl) az
end
end
section
variable {O:av} {N loc':Loc} {Y al ay:af} {f:V->Loc->af->Res fA} {src v:V} {all rest:aH} {C:Nat} {R:Res fA}
theorem eY:jz f src all [] N Y=.ok (none,N) Y:=rfl
theorem a8 (h:f v N Y=.ok (none,loc') al)(q:same al src all=true)(k:jz f src all rest loc' al=R):jz f src all (v::rest) N Y=R:=aK h<|ry q k
theorem qK (h:f v N Y=.exc C al):jz f src all (v::rest) N Y=.exc C al:=dD h
theorem Kd {x:X}{t:T}{ss:List S}{W:Nat}(h:aV O x N Y=.ok src al)(q:cI al src=some all)(k:jz (λv N Y=>(ue O t v N Y).bind λN Y=>b9 O W ss N Y) src all all N al=.exc C ay):oy O W (.for t x ss) N Y=.exc C ay:=gR h q k
end
section
variable {O:av} {Y ax Y':af} {m t:Nat}
abbrev Sb (O:av):V->Loc->af->Res fA:=λv N Y=>(ue O (.l 9) v N Y).bind λN Y=>b9 O 400 DP N Y
theorem BK (hT:rE O m)(hw:cu m ax){g:V}{tf tp:Nat}{r n p7:j9}{src:V}{all:aH}(nW:∀Y,same Y src all=true)(h0:ax.length<=tp):∀(l:List (V × V)) {Y:af} {acc:aH} {sp p:j9},(∀q∈l,q∈rD)->du ax Y->Y[tp]?=some (.list acc)->acc.length+l.length<100->
  (∃q Y',l.find? (λq=>fJ q.2)=some q/\jz (Sb O) src all (l.map (·.1)) (eX m g tf r n p7 (some<|.ref tp) sp p) Y=.exc (G1 q.2) Y'/\du ax Y')∨
  (l.find? (λq=>fJ q.2)=none/\∃Y' O2 p',jz (Sb O) src all (l.map (·.1)) (eX m g tf r n p7 (some<|.ref tp) sp p) Y=.ok (none,eX m g tf r n p7 (some<|.ref tp) O2 p') Y'/\du ax Y'/\Y'[tp]?=some (.list<|acc++l.map (·.2))/\∀i,i≠tp->Y'[i]?=Y[i]?):=by
 intro l
 induction l with
 |nil=>
  intro Y acc sp p _ hg ht _;exact .inr<|TM rfl Y sp p eY hg (by simpa using ht) λM M=>rfl
 |cons hd l ih=>
  intro Y acc sp p hb hg ht ha;obtain⟨Fb,d⟩:=hd;rw[dI] at ha;have tI:(Sb O) Fb (eX m g tf r n p7 (some<|.ref tp) sp p) Y=b9 O 400 DP (eX m g tf r n p7 (some<|.ref tp) (some Fb) p) Y:=rfl;refine aZ (DQ hT (hb _<|.head _) (hg.m7 hw) (g:=g) (tf:=tf) (r:=r) (n:=n) (p7:=p7) (p:=p) ht<|ig ‹_› rfl) (λY4=>?_) λQX=>?_
  ·exact cR Y4 λhF e=>.inl<|fc (Fb,d) Y (by rw[List.find?_cons_of_pos<|by exact hF]) (qK<|tI.trans e) hg
  ·refine Cx QX λhF p' e=>aZ (ih (sp:=some Fb) (p:=p') (λq hq=>hb q<|.tail _ hq) (hg.set (c:=.list (acc++[d])) h0) (lb ht)<|gX ‹_›) (λQY=>?_) λQ2=>?_
   ·refine de QY λq Y' h1 h2 h3=>?_;exact .inl<|fc q Y' (by rw[w6<|by simpa using hF];exact h1) (a8 (tI.trans e) (nW _) h2) h3
   ·refine Qg Q2 λh1 Y' O2 p'' h2 h3 h4 h5=>?_;refine .inr<|TM (by rw[w6<|by simpa using hF];exact h1) Y' O2 p'' (a8 (tI.trans e) (nW _) h2) h3 (by simpa using h4) λi hi=>?_
    rw[h5 i hi,eL<|gz hi]
abbrev VZ:db:=[mv,iz,iA,iB,fM,gf,iC,iD,dM]
def jS (prev:db)(n:Str):Bool:=jy n prev||(jy n VZ||jy n [uP,ff,cY])
def kt:List Str->List (Str × List (V × V))->j9
 |_,[]=>none
 |prev,(n,bs)::r=>if jS prev n then some (.str aI) else match bs.find? (λq=>fJ q.2) with
  |some q=>some q.2
  |none=>kt (prev++[n]) r
abbrev Ke:X:=.or [.m .In (.l 6)<|.comp [none,none] [1] (.l 4) []<|.i (.l 1)<|.xi 0,.m .In (.l 6)<|.c<|.U [.str mv,.str iz,.str iA,.str iB,.str fM,.str gf,.str iC,.str iD,.str dM],.m .In (.l 6)<|.U [.xs uP,.xs ff,.xs cY]]
noncomputable abbrev iY (l:List (Str × aH)):aH:=l.map λp=>.U [.str p.1,.U p.2]
theorem Kf {tf:Nat}{qs:aH}:∀(l:List (Str × aH)) (acc:aH),Y[tf]?=some (.list qs)->acc.length+l.length<1000->dr (je O [none,none] [1] []<|.i (.l 1)<|.xi 0) (.ref tf) qs (iY l) acc Y=.ok (acc++l.map λp=>.str p.1) Y:=by
 intro l
 induction l with
 |nil=>
  intro acc _ _;show dr _ _ _ [] acc Y= _;rw[cf];simp
 |cons p l ih=>
  intro acc h ha;rw[dI] at ha;rw[show acc++((p::l).map λp=>V.str p.1)=acc++[V.str p.1]++(l.map λp=>V.str p.1) by simp];exact bq (dG rfl cJ (aG (I rfl) ag rfl)<|ig ‹_› rfl) (bc h)<|ih _ h<|gX ‹_›
theorem N6 (l:List (Str × aH)):eU (l.map λp=>V.str p.1)=some (l.map (·.1)):=by
 induction l with
 |nil=>rfl
 |cons p r ih=>rw[eM,eM,eU,ih];rfl
theorem N7 {g:V}{tf:Nat}{r p7 tp sp p:j9}{n:Str}{l:List (Str × aH)}(h:Y[tf]?=some (.list<|iY l))(hl:l.length<900):aV O Ke (eX m g tf r (some<|.str n) p7 tp sp p) Y=.ok (.bool<|jS (l.map (·.1)) n) (Y++[.list<|l.map λp=>.str p.1]):=by
 have e0:=Kf (O:=O) l [] h (by simpa using (cb ‹_› rfl:l.length<1000));rw[sR] at e0;have e1:aV O (.comp [none,none] [1] (.l 4) []<|.i (.l 1)<|.xi 0) (eX m g tf r (some<|.str n) p7 tp sp p) Y=.ok (.ref Y.length) (Y++[.list<|l.map λp=>.str p.1]):=d7 (I rfl) (cK h) e0;have e2:=in_str (Y:=Y++[ao.list<|l.map λp=>V.str p.1]) (t:=Y.length) (s:=n) aq<|N6 l
 unfold jS;refine iL ?_;cases ha:jy n (l.map (·.1))<;>rw[ha] at e2
 ·refine gw (ar (I rfl) e1 e2) rfl ?_;cases hb:jy n VZ
  ·refine gw (ar (I rfl) ag (show _=some false by rw[<-hb];rfl)) rfl ?_;exact gv<|ar (I rfl) (aT<|aa ag<|aa ag<|aa ag ae) rfl
  ·exact mE (ar (I rfl) ag (show _=some true by rw[<-hb];rfl)) rfl
 ·exact mE (ar (I rfl) e1 e2) rfl
end
def hY:db:=[my,Id,gf,cY]
noncomputable abbrev ku:=Str × List (V × V)
noncomputable abbrev fG (l:List ku):aH:=l.map λp=>.U [.str p.1,.U<|p.2.map (·.1)]
noncomputable abbrev vY (l:List ku):List (Str × aH):=l.map λp=>(p.1,p.2.map (·.2))
abbrev V0:X:=.bin .Add (.bin .Add (.xs oM)<|.l 6)<|.xs Pa
abbrev Kg:List S:=[.ite Ke [.raise 52 V0<|.l 3] [],.set (.l 8)<|.s [],.for (.l 9) (.l 7) DP,.ex<|.bm (.l 4) .append [.U [.l 6,.bi .tuple [.l 8]]]]
abbrev outF (O:av):V->Loc->af->Res fA:=λv N Y=>(ue O (.U [.l 6,.l 7]) v N Y).bind λN Y=>b9 O 400 Kg N Y
section
variable {O:av} {Y ax Y':af} {m t:Nat}
theorem Sc {n:Str}(hn:n∈hY){N:Loc}(hl:N[6]?=some (some<|.str n)):∃s,aV O V0 N Y=.ok (.str s) Y:=by
 simp only[hY,aX,dq,or_false] at hn;rcases hn with rfl | rfl | rfl | rfl<;>exact⟨_,fj (fj ag (I hl) rfl) ag rfl⟩
variable {tf:Nat}
theorem DR (hT:rE O m)(hw:cu m ax){g:V}{r:j9}{src:V}{all:aH}(nW:∀Y,same Y src all=true)(h0:ax.length<=tf):∀(l:List ku) {Y:af} {dn:List (Str × aH)} {n p7 tp sp p:j9},(∀q∈l,q.1∈hY/\q.2.length<=2/\∀x∈q.2,x∈rD)->du ax Y->Y[tf]?=some (.list<|iY dn)->dn.length+l.length<100->
  (∃d Y',kt (dn.map (·.1)) l=some d/\jz (outF O) src all (fG l) (eX m g tf r n p7 tp sp p) Y=.exc (G1 d) Y'/\du ax Y')∨
  (kt (dn.map (·.1)) l=none/\∃Y' n' O3 XK O2 p',jz (outF O) src all (fG l) (eX m g tf r n p7 tp sp p) Y=.ok (none,eX m g tf r n' O3 XK O2 p') Y'/\du ax Y'/\Y'[tf]?=some (.list<|iY<|dn++vY l)):=by
 intro l
 induction l with
 |nil=>
  intro Y dn n p7 tp sp p _ hg ht _;exact .inr<|TO rfl Y n p7 tp sp p eY hg<|by simpa using ht
 |cons hd l ih=>
  intro Y dn n p7 tp sp p hb hg ht ha;obtain⟨n₁,bs⟩:=hd;rw[dI] at ha;refine qV (hb _<|.head _) λhn O4 Tv=>?_;have O4:=O4;have tI:(outF O) (.U [.str n₁,.U<|bs.map (·.1)]) (eX m g tf r n p7 tp sp p) Y=b9 O 400 Kg (eX m g tf r (some<|.str n₁) (some<|.U<|bs.map (·.1)) tp sp p) Y:=rfl;have ew:=N7 (O:=O) (m:=m) (g:=g) (r:=r) (p7:=some<|.U<|bs.map (·.1)) (tp:=tp) (sp:=sp) (p:=p) (n:=n₁) ht<|ig ‹_› rfl
  cases hW:jS (dn.map (·.1)) n₁<;>rw[hW] at ew
  ·have ht1:=ak (c':=ao.list<|dn.map λp=>V.str p.1) ht;have Ts:=ak (c':=ao.list []) ht1;have nj:=(bP.mp ht).1;have W0:ax.length<=(Y++[ao.list<|dn.map λp=>V.str p.1]).length:=by have:=hg.push (J:=[ao.list<|dn.map λp=>V.str p.1]).le;exact this
   have dZ:tf≠(Y++[ao.list<|dn.map λp=>V.str p.1]).length:=by rw[cN];omega
   have pre:∀{RF:Res fA},b9 O 400 (Kg.drop 2) (eX m g tf r (some<|.str n₁) (some<|.U<|bs.map (·.1)) (some<|.ref (Y++[ao.list<|dn.map λp=>V.str p.1]).length) sp p) (Y++[ao.list<|dn.map λp=>V.str p.1]++[ao.list []])=RF->b9 O 400 Kg (eX m g tf r (some<|.str n₁) (some<|.U<|bs.map (·.1)) tp sp p) Y=RF:=λ{RF} h=>
    ah (aB ew rfl az) (ah (aA (bk ae) aE) h)
   refine aZ (BK hT hw (g:=g) (tf:=tf) (r:=r) (n:=some<|.str n₁) (p7:=some<|.U<|bs.map (·.1)) (src:=.U<|bs.map (·.1)) (all:=bs.map (·.1)) (λM=>rfl) W0 bs (sp:=sp) (p:=p) Tv (hg.push.push (J:=[ao.list []])) aq<|by simpa using (eu ‹_› rfl:bs.length<100)) (λQ3=>?_) λQ4=>?_
   ·refine de Q3 λq Y' h1 h2 h3=>.inl<|fc q.2 Y' ?_ (qK<|tI.trans<|pre<|cT<|Kd (I rfl) rfl h2) h3
    unfold kt;rw[hW,h1];rfl
   ·refine Qg Q4 λh1 Y' O2 p' h2 h3 h4 h5=>?_;rw[sR] at h4;have h6:Y'[tf]?=some (.list<|iY dn):=by rw[h5 tf dZ];exact Ts
    have e7:b9 O 400 Kg (eX m g tf r (some<|.str n₁) (some<|.U<|bs.map (·.1)) tp sp p) Y=.ok (none,eX m g tf r (some<|.str n₁) (some<|.U<|bs.map (·.1)) (some<|.ref (Y++[ao.list<|dn.map λp=>V.str p.1]).length) O2 p') (Y'.set tf<|.list<|iY dn++[.U [.str n₁,.U<|bs.map (·.2)]]):=by
     refine pre<|ah (gR (I rfl) rfl h2)<|ah (ic<|km (I rfl) (hU h6<|.inl rfl) (aa (aT<|aa (I rfl)<|aa (cP (aa (I rfl) ae)<|ch (cG h4)<|by(rw[cy];exact eu ‹_› rfl)) ae) ae)<|fH h6<|by(rw[cy];exact ig ‹_› rfl)) az
    have hd:iY dn++[V.U [.str n₁,.U<|bs.map (·.2)]]=iY (dn++[(n₁,bs.map (·.2))]):=by simp[iY]
    rw[hd] at e7;rcases ih (dn:=dn++[(n₁,bs.map (·.2))]) (λq hq=>hb q<|.tail _ hq) (h3.set h0) (lb h6) (gX ‹_›) with Q5 | Q6
    ·refine de Q5 λd ay k1 k2 k3=>.inl<|fc d ay ?_ (a8 (tI.trans e7) (nW _) k2) k3
     rw[kt,hW,h1];simpa using k1
    ·refine TK Q6 λk1 ay n' O3 XK aah p'' k2 k3 k4=>.inr<|TO ?_ ay n' O3 XK aah p'' (a8 (tI.trans e7) (nW _) k2) k3<|by simpa using k4
     rw[kt,hW,h1];simpa using k1
  ·refine aN (Sc (O:=O) (Y:=Y++[ao.list<|dn.map λp=>V.str p.1]) hn (N:=eX m g tf r (some<|.str n₁) (some<|.U<|bs.map (·.1)) tp sp p) rfl) λs es=>.inl<|fc (.str aI) (Y++[.list<|dn.map λp=>.str p.1]) ?_ (qK<|tI.trans<|cT<|bl ew rfl<|cT<|pj es<|I rfl) hg.push
   rw[kt,hW];rfl
abbrev V1:List S:=[.ite (.m .Eq (.slcTo (.l 5)<|.xi 2)<|.xs qo) [.raise 52 (.bin .Add (.xs O9)<|.l 5)<|.l 3] []]
def m8:List (aH):=[[],[.str fT],[.str fT,.str rU]]
def sC:List (aH):=[[.str qo],[.str fT,.str kc],[.str ke]]
variable {rs:aH}
theorem G4 (h:rs∈m8){told:aH}:∃r,oy O 400 (.for (.l 5) (.i (.l 2)<|.xi 0) V1) (eX m (.U [.U rs,.U told]) tf none none none none none none) Y=.ok (none,eX m (.U [.U rs,.U told]) tf r none none none none none) Y:=by
 simp only[m8,aX,dq,or_false] at h;rcases h with rfl | rfl | rfl
 ·exact⟨none,by lk⟩
 ·exact⟨some<|.str fT,by lk⟩
 ·exact⟨some<|.str rU,by lk⟩
theorem Kh (h:rs∈sC){told:aH}:oy O 400 (.for (.l 5) (.i (.l 2)<|.xi 0) V1) (eX m (.U [.U rs,.U told]) tf none none none none none none) Y=.exc 52 Y:=by
 simp only[sC,aX,dq,or_false] at h;rcases h with rfl | rfl | rfl<;>lk
theorem DS (hT:rE O m)(hw:cu m Y)(hr:rs∈m8∨rs∈sC){l:List ku}(hl:∀q∈l,q.1∈hY/\q.2.length<=2/\∀x∈q.2,x∈rD)(hlen:l.length<=2):
  (rs∈sC/\∃Y',bn tx O 161 [.ref m,.str z_,.U [.U rs,.U<|fG l],.int 0] Y=.exc 52 Y'/\du Y Y')∨
  (rs∈m8/\((∃d Y',kt [] l=some d/\bn tx O 161 [.ref m,.str z_,.U [.U rs,.U<|fG l],.int 0] Y=.exc (G1 d) Y'/\du Y Y')∨
   (kt [] l=none/\∃t Y',bn tx O 161 [.ref m,.str z_,.U [.U rs,.U<|fG l],.int 0] Y=.ok (.ref t) Y'/\du Y Y'/\Y.length<=t/\Y'[t]?=some (.list<|iY<|vY l)))):=by
 have st:∀{RF:Res fA},b9 O 400 (Qx.body.drop 1) (eX m (.U [.U rs,.U<|fG l]) Y.length none none none none none none) (Y++[ao.list []])=RF->b9 O 400 Qx.body [some<|.ref m,some<|.str z_,some<|.U [.U rs,.U<|fG l],some<|.int 0,ai,ai,ai,ai,ai,ai,ai,ai,ai,ai,ai] Y=RF:=λ{RF} h=>
  ah (aA (bk ae) aE) h
 refine aZ hr (λhr=>?_) λhr=>?_
 ·refine .inr ⟨hr,?_⟩;refine aN (G4 (O:=O) (Y:=Y++[ao.list []]) (m:=m) hr (told:=fG l) (tf:=Y.length)) λr e1=>aZ (DR hT hw (g:=.U [.U rs,.U<|fG l]) (r:=r) (src:=.U<|fG l) (all:=fG l) (λM=>rfl) (ba _) l (dn:=[]) (n:=none) (p7:=none) (tp:=none) (sp:=none) (p:=none) hl (du.refl.push) aq<|by simpa using (eu ‹_› rfl:l.length<100)) (λQ7=>?_) λRk=>?_
  ·refine de Q7 λd Y' h1 h2 h3=>.inl<|fc d Y' h1 ?_ h3
   apply d8 rfl rfl rfl
   repeat (intro w;first | exact w | refine(?_:_->_) (w<|by first | (with_reducible assumption) | assumption | exact eq_int | exact rfl))
  ·refine TK Rk λh1 Y' n' O3 XK O2 p' h2 h3 h4=>.inr<|Ya h1 Y.length Y' ?_ h3 (ba _)<|by simpa using h4
   apply d8 rfl rfl rfl
   repeat (intro w;first | exact w | refine(?_:_->_) (w<|by first | (with_reducible assumption) | assumption | exact eq_int | exact rfl))
 ·refine .inl<|X8 hr (Y++[ao.list []]) ?_ du.refl.push
  apply gE rfl rfl rfl;exact st<|cT<|Kh hr
end
def eZ (s m:Nat)(Y:af):Prop:=∃π,Emb π W Y/\π[1]?=some m/\s∉π
section
variable {O:av} {Y Y':af} {s m k t:Nat} {a b:Int}
theorem eZ.at (h:eZ s m Y):cu m Y:=by obtain⟨π,E,e,_⟩:=h;exact⟨π,E,e⟩
theorem bj.m7 (h:bj s Y Y')(w:eZ s m Y):eZ s m Y':=by
 refine j8 w fun π E e hs=>lY π ⟨E.len,E.nd,λi c hc=>?_⟩ e hs;exact j8 (E.cell i c hc) λj h1 h2 h3=>lY j h1 (h.old _ _ (λe=>hs<|e▸bp h1) h2) h3
theorem bj.Sd {c:ao}(h:bj s Y Y')(ht:Y.length<=t):bj s Y (Y'.set t c):=⟨by rw[qT];exact h.le,λi c' hi hc=>by
 have:=(bP.mp hc).1;rw[eL<|by exact mO<|dU ‹_› ‹_›];exact h.old i c' hi hc⟩
theorem du.keep (h:du Y Y'):bj s Y Y':=⟨h.le,λi c M hc=>h.old i c hc⟩
def sD (O:av)(s:Nat):Prop:=∀(Y:af) (a b:Int),Y[s]?=some (aD a b)->∃j Y' sp d a' b',O 510 [.ref s] Y=.ok (.ref j) Y'/\bj s Y Y'/\Y'[s]?=some (aD a' b')/\Y'[j]?=some (.list [sp,d])/\j≠s/\(sp,d)∈rD
inductive Mb:List V->List V->List (V × V)->Prop
 |nil:Mb [] [] []
 |cons {sp d:V} {ws ds:aH} {bs:List (V × V)}:(sp,d)∈rD->Mb ws ds bs->Mb (sp::ws) (d::ds) ((sp,d)::bs)
theorem Mb.is {ws ds:aH}{bs:List (V × V)}(h:Mb ws ds bs):ws=bs.map (·.1)/\ds=bs.map (·.2)/\∀x∈bs,x∈rD:=by
 induction h with
 |nil=>exact⟨rfl,rfl,λM h=>by cases h⟩
 |cons h _ ih=>exact⟨by rw[eM,<-ih.1],by rw[eM,<-ih.2.1],λx hx=>by
   rcases aX.mp hx with rfl | hx
   ·exact h
   ·exact ih.2.2 x hx⟩
theorem G8 (hB:sD O s){all:aH}{lo hi:Int}:∀(l:aH) {Y:af} {a b:Int} (acc ws ds:aH) (bs:List (V × V)),Y[s]?=some (aD a b)->be s Y acc ws ds->Mb ws ds bs->acc.length+l.length<=2->
  ∃ps HH uz bs' Y' a' b',dr (je O [none,none,none,some<|.ref s] [1] []<|.call 510 [.l 3]) (.rng lo hi) all l acc Y=.ok ps Y'/\bj s Y Y'/\Y'[s]?=some (aD a' b')/\be s Y' ps HH uz/\Mb HH uz bs'/\ps.length<=2:=by
 intro l
 induction l with
 |nil=>
  intro Y a b acc ws ds bs hs hR hG hl;exact L5 acc ws ds bs Y a b<|TG cf .refl hs hR hG<|by simpa using hl
 |cons v r ih=>
  intro Y a b acc ws ds bs hs hR hG hl;refine HB (hB Y a b hs) λj al x d bM d5 zq=>Ek zq λe1 K1 s1 c1 n1 T1=>?_;have app:∀{ps ws ds:aH} {bs:List (V × V)},be s al ps ws ds->Mb ws ds bs->be s al (ps++[.ref j]) (ws++[x]) (ds++[d])/\Mb (ws++[x]) (ds++[d]) (bs++[(x,d)]):=by
   intro ps ws ds bs h
   induction h generalizing bs with
   |nil=>intro g;cases g;exact⟨.cons n1 c1 .nil,.cons T1 .nil⟩
   |cons g1 g2 _ ih=>intro g;cases g with | cons g3 g4=>exact⟨.cons g1 g2 (ih g4).1,.cons g3 (ih g4).2⟩
  refine cR (app (hR.keep K1) hG) λhR2 hG2=>?_;rw[dI] at hl;exact Mk (ih (acc++[.ref j]) _ _ _ s1 hR2 hG2<|ua ‹_›) λps HH uz bs' Y' a' b' zq=>Ek zq λe2 K2 s2 R2 G2 l2=>L5 ps HH uz bs' Y' a' b'<|TG (bq (dG rfl cJ (aL (aa (I rfl) ae) e1)<|ig ‹_› rfl) rfl e2) (K1.trans K2) s2 R2 G2 l2
noncomputable abbrev V2:X:=.comp [none,none,none,some 0] [1] (.bi .range [.call 385 [.l 0,.xi 3]]) []<|.call 510 [.l 3]
def rF (O:av)(s:Nat):Prop:=∀(Y:af) (a b top:Int),Y[s]?=some (aD a b)->0<top->top<1000->∃d a' b',0<=d/\d<top/\O 385 [.ref s,.int top] Y=.ok (.int d) (Y.set s<|aD a' b')
theorem V3 (hB:sD O s)(hK:rF O s){N:Loc}(LZ:N[0]?=some (some<|.ref s))(hs:Y[s]?=some (aD a b)):
  ∃t Y' ps ws ds bs a' b',aV O V2 N Y=.ok (.ref t) Y'/\bj s Y Y'/\Y'[s]?=some (aD a' b')/\Y.length<=t/\Y'[t]?=some (.list ps)/\be s Y' ps ws ds/\Mb ws ds bs/\ps.length<=2:=by
 refine kR (hK Y a b 3 hs (by lk)<|by lk) λd bN gp d0 d1 e2=>?_;refine aN (Int.eq_ofNat_of_zero_le d0) λn eA=>?_;subst eA;have iv:∃l:aH,l.length=n/\cI (Y.set s<|aD bN gp) (.rng 0 (n:Int))=some l:=by
  refine bF ((List.range<|((n:Int) - 0).toNat).map λ(k:Nat)=>.int (0+(k:Int))) ?_ ?_
  ·rw[cy,List.length_range];exact rfl
  ·unfold cI;dsimp only;rw[if_pos<|by omega]
 refine aJ iv λl hl iv=>?_;refine Mk (G8 hB (all:=l) (lo:=0) (hi:=n) l [] [] [] [] (c9 hs bN gp) .nil .nil (by simp;omega)) λps ws ds bs bD mZ pZ zq=>Ek zq λe3 K3 s3 R3 G3 l3=>?_;have K:=bj.set.trans K3;refine Xk bD.length (bD++[.list ps]) ps ws ds bs mZ pZ<|Tg ?_ (K.trans .push) (ak s3) K.le aq (R3.keep .push) G3 l3
 have hf:eJ [none,none,none,some 0] N=[none,none,none,some<|.ref s]:=by
  unfold eJ;simp[LZ]
 refine d7 (cP (aa (aL (aa (I LZ)<|aa ag ae) e2) ae) rfl) iv ?_;rw[hf];exact e3
end
abbrev zx:db:=[mv,iz,iA,iB,fM,gf,iC,iD,dM,ff,cY]
def rowOf (p:ku):V:=.U [.str p.1,dy fJ<|p.2.map (·.2)]
abbrev ie (l:List ku):aH:=l.map rowOf
def rG (prev:db)(p:ku):V:=dj (jS prev p.1) (.str aI)<|dj (fJ<|dy fJ<|p.2.map (·.2)) (dy fJ<|p.2.map (·.2))<|.str z_
def fR:List Str->List ku->aH
 |_,[]=>[]
 |prev,p::r=>rG prev p::fR (prev++[p.1]) r
section
variable {O:av} {Y:af} {t:Nat} {a b:Int}
theorem DT {sp d:V}(h:(sp,d)∈rD):∃x,d=.str x:=by
 simp only[rD,aX,dq,or_false,Prod.mk.injEq] at h;rcases h with ⟨_,h⟩ | ⟨_,h⟩ | ⟨_,h⟩ | ⟨_,h⟩ | ⟨_,h⟩ | ⟨_,h⟩ | ⟨_,h⟩ | ⟨_,h⟩ | ⟨_,h⟩ | ⟨_,h⟩ | ⟨_,h⟩ | ⟨_,h⟩ | ⟨_,h⟩<;>exact⟨_,h⟩
theorem xU {x:Str}{t:Nat}(ht:Y[t]?=some a9):cS Y .In (.str x) (.ref t)=some (fJ<|.str x):=by
 rw[in_str ht rfl];have e:∀a b:Str,decide (a=b)=decide (b=a):=λa b=>by
  by_cases h:a=b
  ·rw[eE h,eE h.symm]
  ·rw[fy h,fy λq=>h q.symm]
 simp only[jy,fJ,Bool.or_false];rw[e aI x,e aC x]
theorem BL {x:V × V}(h:x∈rD)(n:Nat):Plain n x.2:=by
 simp only[rD,aX,dq,or_false] at h;rcases h with rfl | rfl | rfl | rfl | rfl | rfl | rfl | rfl | rfl | rfl | rfl | rfl | rfl<;>exact iM _ (by lk) n
theorem rH {bs:List (V × V)}(hb:∀x∈bs,x∈rD):(∃x,dy fJ (bs.map (·.2))=.str x/\fJ (.str x)=true/\bs.find? (λq=>fJ q.2)≠none/\∀q,bs.find? (λq=>fJ q.2)=some q->q.2=.str x)∨
  (dy fJ (bs.map (·.2))=.U (bs.map (·.2))/\bs.find? (λq=>fJ q.2)=none):=by
 have hm:(bs.map (·.2)).find? fJ=(bs.find? λq=>fJ q.2).map (·.2):=by rw[List.find?_map];rfl
 unfold dy;rw[hm];cases hf:bs.find? (λq=>fJ q.2) with
 |none=>exact .inr ⟨rfl,rfl⟩
 |some q=>
  refine aN (DT<|hb q<|z9 hf) λx hx=>?_;refine .inl<|oG x hx (hx▸(List.find?_some (p:=λq:V × V=>fJ q.2) hf:fJ q.2=true)) (by simp) (λq' h=>by cases h;exact hx)
theorem Ki {bs:List (V × V)}(hb:∀x∈bs,x∈rD){t:Nat}(ht:Y[t]?=some a9):cS Y .In (dy fJ<|bs.map (·.2)) (.ref t)=some (fJ<|dy fJ<|bs.map (·.2)):=by
 rcases rH hb with ⟨x,h,_⟩ | ⟨h,_⟩<;>rw[h]
 ·exact xU ht
 ·have p:Plain 1 (.U<|bs.map (·.2)):=.U 0 _ λx hx=>by
   refine aJ (bX.mp hx) λq hq eA=>?_;subst eA;exact BL (hb q hq) 0
  exact jR (.inr<|.inr ⟨_,rfl,p⟩) (by lk) ht
theorem V4 {x:Str}:cS Y .In (.str x) (.gl [.str mv,.str iz,.str iA,.str iB,.str fM,.str gf,.str iC,.str iD,.str dM,.str ff,.str cY])=some (jy x zx):=rfl
theorem Kj {n:Str}(hn:n∈hY)(prev:db):(jy n prev||jy n zx)=jS prev n:=by
 unfold jS
 congr 1
 simp only[hY,aX,dq,or_false] at hn;rcases hn with rfl | rfl | rfl | rfl<;>decide+kernel
noncomputable abbrev Kk:X:=.comp [none,none] [1] (.slcTo (.l 3)<|.xi (-1)) []<|.i (.l 1)<|.xi 0
theorem DU {tf:Nat}{qs:aH}:∀(l:List ku) (acc:aH),Y[tf]?=some (.list qs)->acc.length+l.length<1000->dr (je O [none,none] [1] []<|.i (.l 1)<|.xi 0) (.ref tf) qs (ie l) acc Y=.ok (acc++l.map λp=>.str p.1) Y:=by
 intro l
 induction l with
 |nil=>
  intro acc _ _;show dr _ _ _ [] acc Y= _;rw[cf];simp
 |cons p l ih=>
  intro acc h ha;rw[dI] at ha;rw[show acc++((p::l).map λp=>V.str p.1)=acc++[V.str p.1]++(l.map λp=>V.str p.1) by simp];exact bq (dG rfl cJ (aG (I rfl) ag rfl)<|ig ‹_› rfl) (bc h)<|ih _ h<|gX ‹_›
theorem Se {i:Nat}{l:aH}(h:Y[i]?=some (.list l))(hl:l.length<10000):rW Y (.ref i) (.int (-1))=.ok (.ref Y.length) (Y++[.list l.dropLast]):=by
 show fL (wo Y i) _= _;exact cw (jP h)<|(if_pos ⟨rfl,hl⟩).trans rfl
theorem Sf {N:Loc}{t3:Nat}{l:List ku}{p:ku}(XH:N[3]?=some (some<|.ref t3))(h:Y[t3]?=some (.list<|ie (l++[p])))(hl:l.length<900):aV O Kk N Y=.ok (.ref (Y++[ao.list<|ie l]).length) (Y++[ao.list<|ie l]++[.list<|l.map λp=>.str p.1]):=by
 have e0:=DU (O:=O) (Y:=Y++[ao.list<|ie l]) (tf:=Y.length) l [] aq (by simpa using (cb ‹_› rfl:l.length<1000));rw[sR] at e0;have e1:=Se h (by rw[cy,cN,j4];omega);rw[show(ie (l++[p])).dropLast=ie l by simp[ie]] at e1;exact d7 (vH (I XH) ag e1) (cK aq) e0
theorem Kl (l:List ku):eU (l.map λp=>V.str p.1)=some (l.map (·.1)):=by
 induction l with
 |nil=>rfl
 |cons p r ih=>rw[eM,eM,eU,ih];rfl
end
abbrev V5:List S:=[.set (.l 6) V2,.ex<|.bm (.l 12) .append [.U [.l 5,.bi .tuple [.comp [none,none] [1] (.l 6) []<|.i (.l 1)<|.xi 0]]],.set (.l 7)<|.call 498 [.l 6],.ex<|.bm (.l 3) .append [.U [.l 5,.l 7]],
 .set (.l 8) (.or [.m .In (.l 5) Kk,.m .In (.l 5)<|.c<|.gl [.str mv,.str iz,.str iA,.str iB,.str fM,.str gf,.str iC,.str iD,.str dM,.str ff,.str cY]]),
 .ex (.bm (.l 4) .append [.ite (.l 8) (.xs aI)<|.ite (.m .In (.l 7)<|.s [.xs aI,.xs aC]) (.l 7)<|.xs z_])]
abbrev Sg (O:av):V->Loc->af->Res fA:=λv N Y=>(ue O (.l 5) v N Y).bind λN Y=>b9 O 400 V5 N Y
noncomputable abbrev oi (s m:Nat)(names:V)(t3 t4:Nat)(n x6 x7 x8:j9)(rs:V)(lV:Nat):Loc:=[some<|.ref s,some<|.ref m,some names,some<|.ref t3,some<|.ref t4,n,x6,x7,x8,none,none,some rs,some<|.ref lV,ai,ai,ai,ai,ai,ai,ai]
def Fc (O:av)(s:Nat):Prop:=∀(Y:af) (t:Nat) (ps ws ds:aH),t≠s->Y[t]?=some (.list ps)->be s Y ps ws ds->(∀d∈ds,∃x,d=.str x)->ps.length<=2->∃J,O 498 [.ref t] Y=.ok (dy fJ ds) (Y++J)
section
variable {O:av} {Y ax Y':af} {s m t:Nat} {a b:Int}
theorem be.put {t:Nat}{L:aH}{c:ao}{ps ws ds:aH}(h:be s Y ps ws ds)(ht:Y[t]?=some (.list L))(hd:∀d∈ds,∃x,d=.str x)(hL:∀w x,L≠[w,.str x]):be s (Y.set t c) ps ws ds:=by
 induction h with
 |nil=>exact .nil
 |@cons j w d ps ws ds h1 h2 _ ih=>
  refine .cons h1 ?_<|ih λd zY=>hd d<|.tail _ zY
  rw[eL]
  ·exact h2
  ·rintro rfl;replace h2:=ht▸h2;refine aN (hd d<|.head _) λx eA=>?_;subst eA;injection h2 with h2
   injection h2 with h2
   exact hL w x h2
theorem N8 {l:List ku}(w:V)(x:Str):fG l≠[w,.str x]:=by
 intro h
 match l,h with
 | [_,_],h=>cases h
theorem vZ:∀(prev:db) (l:List ku) (p:ku),fR prev (l++[p])=fR prev l++[rG (prev++l.map (·.1)) p]
 |prev,[],p=>by simp[fR]
 |prev,q::l,p=>by
  rw[sQ,fR,vZ (prev++[q.1]) l p,fR];simp
structure xV (s:Nat)(ax:af)(lV t3 t4:Nat)(l:List ku)(Y:af):Prop where
 keep:bj s ax Y
 src:∃a b,Y[s]?=some (aD a b)
 told:Y[lV]?=some (.list<|fG l)
 rows:Y[t3]?=some (.list<|ie l)
 dues:Y[t4]?=some (.list<|fR [] l)
structure Sh (s:Nat)(ax:af)(lV t3 t4:Nat):Prop where
 s0:s<ax.length
 h12:ax.length<=lV
 h3:ax.length<=t3
 h4:ax.length<=t4
 n1:lV≠t3
 n2:lV≠t4
 n3:t3≠t4
theorem Km (hB:sD O s)(hK:rF O s)(hA:Fc O s){ax Y:af}{lV t3 t4:Nat}(T:Sh s ax lV t3 t4){l:List ku}(hl:l.length<=2)(h:xV s ax lV t3 t4 l Y){n:Str}(hn:n∈hY){names rs:V}{x5 x6 x7 x8:j9}:
  ∃bs XL XM XN Y',(∀x∈bs,x∈rD)/\bs.length<=2/\(Sg O) (.str n) (oi s m names t3 t4 x5 x6 x7 x8 rs lV) Y=.ok (none,oi s m names t3 t4 (some<|.str n) XL XM XN rs lV) Y'/\xV s ax lV t3 t4 (l++[(n,bs)]) Y':=by
 refine kQ h.src λa b hs=>?_;have Tx:lV≠s:=by have:=T.s0;have:=T.h12;exact mO<|dU ‹_› ‹_›
 have d3:t3≠s:=by have:=T.s0;have:=T.h3;exact mO<|dU ‹_› ‹_›
 have d4:t4≠s:=by have:=T.s0;have:=T.h4;exact mO<|dU ‹_› ‹_›
 refine TC (V3 (N:=oi s m names t3 t4 (some<|.str n) x6 x7 x8 rs lV) hB hK rfl hs) λt6 al ps ws ds bs bM d5 zq=>Qe zq λe1 K1 s1 h6 c6 R6 G6 l6=>?_;refine qV G6.is λmT uX Tv=>?_;subst mT;subst uX;have lr:=R6.len;rw[cy] at lr;have nj:∀{t:Nat} {c:ao},Y[t]?=some c->t<Y.length:=λh=>(bP.mp h).1;have d6:t6≠s:=by have:=nN hs;exact mO<|dU ‹_› ‹_›
 have aai:lV≠t6:=by have:=nj h.told;exact i9<|dU ‹_› ‹_›
 have d63:t3≠t6:=by have:=nj h.rows;exact i9<|dU ‹_› ‹_›
 have c12:=ak (c':=ao.list<|bs.map (·.1))<|K1.old _ _ Tx h.told
 have e2:aV O (.bi .tuple [.comp [none,none] [1] (.l 6) []<|.i (.l 1)<|.xi 0]) (oi s m names t3 t4 (some<|.str n) (some<|.ref t6) x7 x8 rs lV) al=.ok (.U<|bs.map (·.1)) (al++[.list<|bs.map (·.1)]):=
  cP (aa (nP (I rfl) c6 R6 l6) ae) (ch (cG aq) (by rw[cy];omega))
 let ay:=(al++[ao.list<|bs.map (·.1)]).set lV<|.list<|fG (l++[(n,bs)])
 have s2:ay[s]?=some (aD bM d5):=by show(List.set _ _ _)[s]?= _;rw[eL Tx];exact ak s1
 have c6':ay[t6]?=some (.list ps):=by show(List.set _ _ _)[t6]?= _;rw[eL aai];exact ak c6
 have XG:ay[t3]?=some (.list<|ie l):=by show(List.set _ _ _)[t3]?= _;rw[eL T.n1];exact ak<|K1.old _ _ d3 h.rows
 have c4':ay[t4]?=some (.list<|fR [] l):=by show(List.set _ _ _)[t4]?= _;rw[eL T.n2];exact ak<|K1.old _ _ d4 h.dues
 have SS:∀d∈bs.map (·.2),∃x,d=.str x:=λd hd=>by
  refine aJ (bX.mp hd) λq hq AQ=>?_;subst AQ;exact DT<|Tv q hq
 refine aN (hA ay t6 ps _ _ d6 c6' ((R6.keep .push).put c12 SS λw x=>N8 w x:be s ay ps (bs.map (·.1)) (bs.map (·.2))) SS l6) λJ e4=>?_;let aY:=(ay++J).set t3<|.list<|ie (l++[(n,bs)])
 have S7:(ay++J)[t3]?=some (.list<|ie l):=cH XG;have K4:bj s ax aY:=bj.Sd ((bj.Sd ((h.keep.trans K1).trans .push) T.h12:bj s ax ay).trans .push) T.h3;have s4:aY[s]?=some (aD bM d5):=by show(List.set _ _ _)[s]?= _;rw[eL d3];exact cH s2
 have f3:aY[t3]?=some (.list<|ie (l++[(n,bs)])):=lb S7;have f12:aY[lV]?=some (.list<|fG (l++[(n,bs)])):=by show(List.set _ _ _)[lV]?= _;rw[eL<|gz T.n1];exact cH (lb c12:ay[lV]?=some (.list<|fG (l++[(n,bs)])))
 have f4:aY[t4]?=some (.list<|fR [] l):=by show(List.set _ _ _)[t4]?= _;rw[eL T.n3];exact cH c4'
 let eQ:=aY++[ao.list<|ie l]++[ao.list<|l.map λp=>V.str p.1];have e6:=Sf (O:=O) (N:=oi s m names t3 t4 (some<|.str n) (some<|.ref t6) (some<|dy fJ<|bs.map (·.2)) x8 rs lV) (Y:=aY) rfl f3<|eu ‹_› rfl
 have i6:=in_str (Y:=eQ) (t:=(aY++[ao.list<|ie l]).length) (s:=n) aq<|Kl l
 have e7:aV O (.or [.m .In (.l 5) Kk,.m .In (.l 5)<|.c<|.gl [.str mv,.str iz,.str iA,.str iB,.str fM,.str gf,.str iC,.str iD,.str dM,.str ff,.str cY]]) (oi s m names t3 t4 (some<|.str n) (some<|.ref t6) (some<|dy fJ<|bs.map (·.2)) x8 rs lV) aY=.ok (.bool<|jS (l.map (·.1)) n) eQ:=by
  rw[<-Kj hn];refine iL ?_;cases ha:jy n (l.map (·.1))<;>rw[ha] at i6
  ·exact gw (ar (I rfl) e6 i6) rfl<|gv<|ar (I rfl) ag V4
  ·exact mE (ar (I rfl) e6 i6) rfl
 have s5:eQ[s]?=some (aD bM d5):=ak<|ak s4
 have g3:eQ[t3]?=some (.list<|ie (l++[(n,bs)])):=ak<|ak f3
 have g12:eQ[lV]?=some (.list<|fG (l++[(n,bs)])):=ak<|ak f12
 have g4:eQ[t4]?=some (.list<|fR [] l):=ak<|ak f4
 have hlen:(fR [] l).length<10000:=by
  have:∀(prev:db) (l:List ku),(fR prev l).length=l.length:=λprev l=>by
   induction l generalizing prev with
   |nil=>rfl
   |cons p r ih=>rw[fR,dI,dI,ih]
  rw[this];exact eu ‹_› rfl
 have fin:∀(xW:af) (y:V),bj s eQ xW->y=rG (l.map (·.1)) (n,bs)->aV O (.ite (.l 8) (.xs aI)<|.ite (.m .In (.l 7)<|.s [.xs aI,.xs aC]) (.l 7)<|.xs z_) (oi s m names t3 t4 (some<|.str n) (some<|.ref t6) (some<|dy fJ<|bs.map (·.2)) (some<|.bool<|jS (l.map (·.1)) n) rs lV) eQ=.ok y xW->xW[s]?=some (aD bM d5)->
   (Sg O) (.str n) (oi s m names t3 t4 x5 x6 x7 x8 rs lV) Y=.ok (none,oi s m names t3 t4 (some<|.str n) (some<|.ref t6) (some<|dy fJ<|bs.map (·.2)) (some<|.bool<|jS (l.map (·.1)) n) rs lV) (xW.set t4<|.list<|fR [] (l++[(n,bs)]))/\xV s ax lV t3 t4 (l++[(n,bs)]) (xW.set t4<|.list<|fR [] (l++[(n,bs)])):=λxW y K6 hy ey s6=>by
  have k4:=K6.old _ _ d4 g4;have ed:fR [] l++[y]=fR [] (l++[(n,bs)]):=by rw[vZ,hy];simp
  refine⟨?_,bj.Sd (((K4.trans .push).trans .push:bj s ax eQ).trans K6) T.h4,⟨bM,d5,by rw[eL d4];exact s6⟩,by rw[eL<|gz T.n2];exact K6.old _ _ Tx g12,by rw[eL<|gz T.n3];exact K6.old _ _ d3 g3,lb k4⟩;refine(?_:b9 O 400 V5 (oi s m names t3 t4 (some<|.str n) x6 x7 x8 rs lV) Y= _);refine ah (aA e1 aE) ?_;refine ah (ic<|km (I rfl) (hU (K1.old _ _ Tx h.told)<|.inl rfl) (aa (aT<|aa (I rfl)<|aa e2 ae) ae)<|(fH c12<|by(rw[cy];exact eu ‹_› rfl)).trans<|by rw[(by simp[fG]:fG l++[V.U [.str n,.U<|bs.map (·.1)]]=fG (l++[(n,bs)]))]) ?_;refine ah (aA (aL (aa (I rfl) ae) e4) aE) ?_;refine ah (ic<|km (I rfl) (hU S7<|.inl rfl) (aa (aT<|aa (I rfl)<|aa (I rfl) ae) ae)<|(fH S7<|by(rw[cy];exact eu ‹_› rfl)).trans<|by rw[(by simp[ie,rowOf]:ie l++[V.U [.str n,dy fJ<|bs.map (·.2)]]=ie (l++[(n,bs)]))]) ?_;refine ah (aA e7 aE)<|ah (ic<|km (I rfl) (hU g4<|.inl rfl) (aa ey ae)<|(fH k4 hlen).trans<|by rw[ed]) ?_
  exact az
 have O4:bs.length<=2:=by omega
 cases hW:jS (l.map (·.1)) n
 ·have iF:=Ki (Y:=eQ++[a9]) (t:=eQ.length) Tv aq;have hy:dj (fJ<|dy fJ<|bs.map (·.2)) (dy fJ<|bs.map (·.2)) (.str z_)=rG (l.map (·.1)) (n,bs):=by unfold rG;rw[hW]
  obtain⟨f1,f2⟩:=fin (eQ++[a9]) _ .push hy (by
   refine(Eq.symm hW)▸(gm (I rfl) rfl ?_);cases hF:fJ (dy fJ<|bs.map (·.2))<;>rw[hF] at iF
   ·exact gm (ar (I rfl) (bk<|aa ag<|aa ag ae) iF) rfl ag
   ·exact fF (ar (I rfl) (bk<|aa ag<|aa ag ae) iF) rfl<|I rfl) (ak s5)
  exact Mp bs _ _ _ _<|Mr Tv O4 f1 f2
 ·refine cR (fin eQ (.str aI) .refl (by unfold rG;rw[hW]) (by rw[hW];exact fF (I rfl) rfl ag) s5) λf1 f2=>?_;exact Mp bs _ _ _ _<|Mr Tv O4 f1 f2
end
def xX (v:V):Bool:=match v with
 | .str x=>!decide (x=z_)
 |_=>true
section
variable {O:av} {Y ax Y':af} {s m t:Nat} {a b:Int}
theorem Ha (hB:sD O s)(hK:rF O s)(hA:Fc O s){ax:af}{lV t3 t4:Nat}(T:Sh s ax lV t3 t4){names rs src:V}{all:aH}(nW:∀Y,same Y src all=true):∀(ns:db) {l:List ku} {Y:af} {x5 x6 x7 x8:j9},(∀n∈ns,n∈hY)->l.length+ns.length<=2->(∀q∈l,q.1∈hY/\q.2.length<=2/\∀x∈q.2,x∈rD)->xV s ax lV t3 t4 l Y->
  ∃l' x5' XL XM XN Y',(∀q∈l',q.1∈hY/\q.2.length<=2/\∀x∈q.2,x∈rD)/\l'.length=l.length+ns.length/\jz (Sg O) src all (ns.map .str) (oi s m names t3 t4 x5 x6 x7 x8 rs lV) Y=.ok (none,oi s m names t3 t4 x5' XL XM XN rs lV) Y'/\xV s ax lV t3 t4 l' Y':=by
 intro ns
 induction ns with
 |nil=>
  intro l Y x5 x6 x7 x8 _ _ hl h;exact TF l x5 x6 x7 x8 Y<|Mr hl rfl eY h
 |cons n ns ih=>
  intro l Y x5 x6 x7 x8 hn hlen hl h;rw[dI] at hlen;refine Mj (Km (m:=m) hB hK hA T (eo (ej _ _) ‹_›) h (hn n<|.head _) (names:=names) (rs:=rs) (x5:=x5) (x6:=x6) (x7:=x7) (x8:=x8)) λbs XL XM XN al zq=>L4 zq λhb O4 e1 h1=>?_;obtain⟨l',y5,y6,y7,y8,Y',k1,k2,k3,k4⟩:=ih (λx hx=>hn x<|.tail _ hx) (ua ‹_›) (λq hq=>by
   refine aZ (fu.mp hq) (λhq=>?_) λhq=>?_
   ·exact hl q hq
   ·rw[cM.mp hq];exact⟨hn n<|.head _,O4,hb⟩) h1
  refine TF l' y5 y6 y7 y8 Y'<|Mr k1 ?_ (a8 e1 (nW _) k3) k4
  rw[k2,cN,j4,dI];omega
theorem Hb {prev:db}{p:ku}(hb:∀x∈p.2,x∈rD):∃x,rG prev p=.str x:=by
 unfold rG;cases jS prev p.1
 ·refine aZ (rH hb) (λRn=>?_) λRq=>?_
  ·refine j8 Rn λx h hx M=>?_;rw[h,hx];exact⟨x,rfl⟩
  ·refine cR Rq λh M=>?_;rw[h];exact⟨z_,rfl⟩
 ·exact⟨aI,rfl⟩
theorem v0:∀(l:List ku) (prev:db),(∀q∈l,∀x∈q.2,x∈rD)->(fR prev l).find? xX=kt prev l:=by
 intro l
 induction l with
 |nil=>
  intro _ _;exact rfl
 |cons hd l ih=>
  intro prev h;obtain⟨n,bs⟩:=hd;rw[fR,kt];unfold rG;dsimp only;cases hW:jS prev n
  ·refine aZ (rH<|h (n,bs)<|.head _) (λRr=>?_) λRs=>?_
   ·refine uH Rr λx hx hF hq hq'=>?_;rw[hx,hF];cases hf:bs.find? (λq=>fJ q.2) with
    |none=>exact absurd hf hq
    |some q=>
     have dZ:xX (.str x)=true:=by
      simp only[fJ,Bool.or_eq_true,mN] at hF;rcases hF with rfl | rfl<;>decide+kernel
     show List.find? xX (V.str x::_)= _;rw[List.find?_cons_of_pos dZ];show some (V.str x)=some q.2;rw[hq' q hf]
   ·refine cR Rs λhx hq=>?_;rw[hx,hq];show List.find? xX (V.str z_::_)= _;rw[w6<|by decide+kernel];exact ih _ λq hq=>h q<|.tail _ hq
  ·show List.find? xX (V.str aI::_)= _;rw[List.find?_cons_of_pos<|by decide+kernel];rfl
theorem DV:∀(l:List ku) (prev:db),(∀q∈l,∀x∈q.2,x∈rD)->∀d∈fR prev l,∃x,d=.str x:=by
 intro l
 induction l with
 |nil=>
  intro _ _ d hd;cases hd
 |cons p l ih=>
  intro prev h d hd;rw[fR] at hd;rcases aX.mp hd with rfl | hd
  ·exact Hb<|h p<|.head _
  ·exact ih _ (λq hq=>h q<|.tail _ hq) d hd
theorem Ko {x:Str}:cS Y .NotEq (.str x) (.str z_)=some (xX<|.str x):=rfl
theorem BM {t:Nat}{qs:aH}:∀(l acc:aH),(∀d∈l,∃x,d=.str x)->Y[t]?=some (.list qs)->acc.length+l.length<1000->dr (je O [none,none] [1] [.m .NotEq (.l 1)<|.xs z_]<|.l 1) (.ref t) qs l acc Y=.ok (acc++l.filter xX) Y:=by
 intro l
 induction l with
 |nil=>
  intro acc _ _ _;rw[cf];simp
 |cons d l ih=>
  intro acc h ht ha;rw[dI] at ha;refine aN (h d<|.head _) λx eA=>?_;subst eA;have hc:=Ko (Y:=Y) (x:=x);cases hN:xX (.str x)<;>rw[hN] at hc
  ·rw[List.filter_cons_of_neg (by rw[hN];decide)];exact bq (jO rfl<|m5 (ar (I rfl) ag hc) rfl) (bc ht)<|ih acc (λd hd=>h d<|.tail _ hd) ht<|yq ‹_›
  ·rw[List.filter_cons_of_pos (by rw[hN]),show acc++V.str x::l.filter xX=acc++[V.str x]++l.filter xX by simp];exact bq (dG rfl (pi (ar (I rfl) ag hc) rfl cJ) (I rfl)<|ig ‹_› rfl) (bc ht)<|ih _ (λd hd=>h d<|.tail _ hd) ht<|gX ‹_›
abbrev qg:aH:=[.U [],.U [.str fT],.U [.str fT,.str rU]]
theorem BN {rs:aH}{t:Nat}(ht:Y[t]?=some (.list qg)):(rs∈m8->cS Y .NotIn (.U rs) (.ref t)=some false)/\(rs∈sC->cS Y .NotIn (.U rs) (.ref t)=some true):=by
 have e:∀rs:aH,cS Y .NotIn (.U rs) (.ref t)=(Ax Y (.U rs)<|.ref t).map λb=>!b:=λrs=>by
  show(isIn Y (.U rs)<|.ref t).map _= _;rw[in_of ht];rfl
 have e1:dL Y 12 (.ref t)=some (.list [.tuple [],.tuple [.str fT],.tuple [.str fT,.str rU]]):=jQ ht;refine⟨λh=>?_,λh=>?_⟩
 ·rw[e];simp only[m8,aX,dq,or_false] at h;unfold Ax;rw[e1];rcases h with rfl | rfl | rfl<;>lk
 ·rw[e];simp only[sC,aX,dq,or_false] at h;unfold Ax;rw[e1];rcases h with rfl | rfl | rfl<;>lk
end
abbrev xY:aH:=[.U [],.U [.str fT],.U [.str fT,.str rU],.U [.str qo],.U [.str fT,.str kc],.U [.str ke]]
abbrev names6:aH:=[.U [.str my],.U [.str my,.str Id],.U [.str my,.str Id],.U [.str my,.str my],.U [.str my,.str gf],.U [.str cY]]
def xZ (O:av)(m:Nat):Prop:=∀(Y:af) (rs:aH) (l:List ku),cu m Y->(rs∈m8∨rs∈sC)->(∀q∈l,q.1∈hY/\q.2.length<=2/\∀x∈q.2,x∈rD)->l.length<=2->
  (rs∈sC/\∃Y',O 161 [.ref m,.str z_,.U [.U rs,.U<|fG l],.int 0] Y=.exc 52 Y'/\du Y Y')∨
  (rs∈m8/\((∃d Y',kt [] l=some d/\O 161 [.ref m,.str z_,.U [.U rs,.U<|fG l],.int 0] Y=.exc (G1 d) Y'/\du Y Y')∨
   (kt [] l=none/\∃t Y',O 161 [.ref m,.str z_,.U [.U rs,.U<|fG l],.int 0] Y=.ok (.ref t) Y'/\du Y Y'/\Y.length<=t/\Y'[t]?=some (.list<|iY<|vY l))))
section
variable {Y:af} {t:Nat} {a b:Int}
theorem Hc {i:Nat}{v:V}(h:xY[i]?=some v):∃rs,v=.U rs/\(rs∈m8∨rs∈sC):=by
 match i,h with
 | 0,h=>cases h;exact bF _ rfl<|.inl<|.head _
 | 1,h=>cases h;exact bF _ rfl<|.inl<|.tail _<|.head _
 | 2,h=>cases h;exact bF _ rfl<|.inl<|.tail _<|.tail _<|.head _
 | 3,h=>cases h;exact bF _ rfl<|.inr<|.head _
 | 4,h=>cases h;exact bF _ rfl<|.inr<|.tail _<|.head _
 | 5,h=>cases h;exact bF _ rfl<|.inr<|.tail _<|.tail _<|.head _
 |_+6,h=>cases h
theorem DW {i:Nat}{v:V}(h:names6[i]?=some v):∃ns:db,v=.U (ns.map .str)/\(∀n∈ns,n∈hY)/\ns.length<=2/\1<=ns.length:=by
 match i,h with
 | 0,h=>cases h;exact oG ([my]) rfl (by lk) (by lk) (by lk)
 | 1,h=>cases h;exact oG ([my,Id]) rfl (by lk) (by lk) (by lk)
 | 2,h=>cases h;exact oG ([my,Id]) rfl (by lk) (by lk) (by lk)
 | 3,h=>cases h;exact oG ([my,my]) rfl (by lk) (by lk) (by lk)
 | 4,h=>cases h;exact oG ([my,gf]) rfl (by lk) (by lk) (by lk)
 | 5,h=>cases h;exact oG ([cY]) rfl (by lk) (by lk) (by lk)
 |_+6,h=>cases h
theorem Kq {n:Nat}{t u:Nat}{l:aH}(hn:n<11)(ht:Y[t]?=some (.list l))(hu:Y[u]?=some (.list l))(hp:∀x∈l,Plain n x):cS Y .Eq (.ref t) (.ref u)=some true:=by
 refine uH ((Plain.U n l hp).data) λq q1 q2 q3 q4=>?_;refine aN (q3 l rfl) λps eA=>?_;subst eA;have hm:qp (dL Y 11) l=some ps:=by
  have:=q4 Y 12<|eu ‹_› rfl
  show qp (dL Y 11) l=some ps;have e:dL Y 12 (.U l)=(qp (dL Y 11) l).map .tuple:=rfl;rw[e] at this;cases hq:qp (dL Y 11) l with
  |none=>rw[hq] at this;cases this
  |some r=>rw[hq] at this;cases this;rfl
 have e:∀{i:Nat},Y[i]?=some (.list l)->dL Y 12 (.ref i)=some (.list ps):=λ{i} h=>by
  rw[jQ h,hm];rfl
 have c1:PyData.canLay0 (.list ps)=true:=by simpa [PyData.canLay0] using q1
 have c2:SeqAt.shaped (.list ps)=true:=by
  unfold SeqAt.shaped;rw[c1,Bool.true_and,mN];simp only[PyData.depth] at q2⊢;omega
 refine(vL ht hu<|lx _).trans ?_;rw[uo (e ht) (e hu) (by rw[c2];rfl),(SeqAt.eqv_refl _ c1:PyData.eqv (.list ps) (.list ps)=true)]
end
abbrev Kr:X:=.comp [none,none] [1] (.bin .Add (.s [.ite (.m .NotIn (.l 11)<|.s [.U [],.U [.xs fT],.U [.xs fT,.xs rU]]) (.xs aI)<|.xs z_])<|.l 4) [.m .NotEq (.l 1)<|.xs z_]<|.l 1
abbrev V6:X:=.word [some 1,some 11,some 12,none,none]<|.call 161 [.l 0,.xs z_,.U [.l 1,.bi .tuple [.l 2]],.xi 0]
noncomputable abbrev ZN:X:=.m .Eq (.l 10)<|.ite (.m .NotEq (.l 9)<|.s []) (.i (.l 9)<|.xi 0)<|.l 3
section
variable {O:av} {Y Y':af} {k t:Nat} {a b:Int}
theorem Ks {N:Loc}{rs:aH}{t4:Nat}{ds:aH}(aaj:N[11]?=some (some<|.U rs))(hl4:N[4]?=some (some<|.ref t4))(h4:Y[t4]?=some (.list ds))(hd:∀d∈ds,∃x,d=.str x)(hlen:ds.length<=2)(hr:rs∈m8∨rs∈sC):
  ∃u J,aV O Kr N Y=.ok (.ref u) (Y++J)/\Y.length<=u/\((rs∈sC/\∃r,(Y++J)[u]?=some (.list (.str aI::r))/\r.length<=2)∨(rs∈m8/\(Y++J)[u]?=some (.list<|ds.filter xX))):=by
 have key:∀(w:Str) (bb:Bool),cS (Y++[ao.list qg]) .NotIn (.U rs) (.ref Y.length)=some bb->w=dj bb aI z_->∃J,aV O Kr N Y=.ok (.ref (Y++J).length) (Y++J++[.list<|(.str w::ds).filter xX]):=λw bb hb hw=>by
  have e1:aV O (.s [.ite (.m .NotIn (.l 11)<|.s [.U [],.U [.xs fT],.U [.xs fT,.xs rU]]) (.xs aI)<|.xs z_]) N Y=.ok (.ref (Y++[ao.list qg]).length) (Y++[ao.list qg]++[.list [.str w]]):=by
   refine bk<|aa (sv (ar (I aaj) (bk<|aa (aT ae)<|aa (aT<|aa ag ae)<|aa (aT<|aa ag<|aa ag ae) ae) hb) rfl ?_) ae
   subst hw;cases bb<;>exact ag
  have e3:=BM (O:=O) (Y:=Y++[ao.list qg]++[ao.list [V.str w]]++[ao.list<|[V.str w]++ds]) (t:=(Y++[ao.list qg]++[ao.list [V.str w]]).length) ([V.str w]++ds) [] (λd zY=>by
   rcases aX.mp zY with rfl | zY
   ·exact⟨w,rfl⟩
   ·exact hd d zY) aq (by simp;omega)
  rw[sR] at e3;refine⟨[.list qg]++[.list [.str w]]++[.list<|[.str w]++ds],?_⟩;rw[<-bT,<-bT];exact d7 (fj e1 (I hl4)<|add_lists (Y:=Y++[ao.list qg]++[ao.list [V.str w]]) (i:=(Y++[ao.list qg]).length) (j:=t4) aq (ak<|ak h4) (by simp;omega)) (cK aq) e3
 have hN:=BN (Y:=Y++[ao.list qg]) (rs:=rs) (t:=Y.length) aq;refine aZ hr (λhr=>?_) λhr=>?_
 ·refine aN (key z_ false (hN.1 hr) rfl) λJ e=>?_;refine fc _ (J++[.list<|(.str z_::ds).filter xX]) (by rw[<-bT];exact e) (by rw[cN];omega)<|.inr ⟨hr,?_⟩
  rw[<-bT,aq,List.filter_cons_of_neg<|by decide+kernel]
 ·refine aN (key aI true (hN.2 hr) rfl) λJ e=>?_;refine fc _ (J++[.list<|(.str aI::ds).filter xX]) (by rw[<-bT];exact e) (by rw[cN];omega)<|.inl ⟨hr,ds.filter xX,?_,eo (w8 _ _) hlen⟩
  rw[<-bT,aq,List.filter_cons_of_pos<|by lk]
theorem v1 {rs:aH}(h:rs∈m8)(k:rs∈sC):False:=by
 have key:∀{a b:aH},V.qY a b=false->rs=a->rs=b->False:=λ{a b} h e1 e2=>by
  rw[<-e1,<-e2,vN] at h;cases h
 simp only[m8,aX,dq,or_false] at h;simp only[sC,aX,dq,or_false] at k;rcases h with h | h | h<;>rcases k with k | k | k<;>exact key (by lk) h k
def Kt (C:Nat):V:=if C=64 then .str lC else if C=52 then .str aI else .str aC
theorem pQ {fr:List (Option Nat)}{x:X}{N:Loc}{C:Nat}(hC:C=64∨C=52∨C=76)(h:aV O x (eJ fr N) Y=.exc C Y'):aV O (.word fr x) N Y=.ok (Kt C) Y':=by
 unfold Kt;rcases hC with rfl | rfl | rfl
 ·show q5 (aV O x (eJ fr N) Y)= _;rw[h,<-(by lk:Str.ofString "hidden"=lC)];rfl
 ·show q5 (aV O x (eJ fr N) Y)= _;rw[h,<-(by lk:Str.ofString "name"=aI)];rfl
 ·show q5 (aV O x (eJ fr N) Y)= _;rw[h,<-(by lk:Str.ofString "type"=aC)];rfl
theorem BO:∀(l:List ku) (prev:db) {d:V},(∀q∈l,∀x∈q.2,x∈rD)->kt prev l=some d->d=.str aI∨d=.str aC:=by
 intro l
 induction l with
 |nil=>
  intro _ _ _ h;cases h
 |cons hd l ih=>
  intro prev d hb h;obtain⟨n,bs⟩:=hd;rw[kt] at h;split at h
  ·cases h;exact .inl rfl
  ·split at h
   ·next q hq=>
    cases h;refine aN (DT<|hb _ (.head _) q<|z9 hq) λx hx=>?_;have h1:=List.find?_some hq;rw[hx] at h1⊢;simp only[fJ,Bool.or_eq_true,mN] at h1;rcases h1 with rfl | rfl
    ·exact .inl rfl
    ·exact .inr rfl
   ·exact ih _ (λq hq=>hb q<|.tail _ hq) h
theorem BP {x:Str}:cS Y .Eq (.str x) (.str x)=some true:=by
 show some (decide (x=x))= _;rw[eE rfl]
theorem Hd {l:List ku}(hb:∀q∈l,∀x∈q.2,x∈rD):∀(prev:db),kt prev l=none->ie l=iY (vY l):=by
 induction l with
 |nil=>intro _ _;rfl
 |cons p r ih=>
  obtain⟨n,bs⟩:=p;intro prev h;rw[kt] at h;split at h
  ·cases h
  ·split at h
   ·cases h
   ·next hq=>
    refine aZ (rH<|hb (n,bs)<|.head _) (λRz=>?_) λRA=>?_
    ·exact uH Rz λx M M dZ M=>absurd hq dZ
    ·refine cR RA λhw M=>?_;show rowOf (n,bs)::ie r=.U [.str n,.U<|bs.map (·.2)]::iY (vY r);rw[(ih (λq hq=>hb q<|.tail _ hq) _ h)]
     congr 1
     unfold rowOf;dsimp only;rw[hw]
end
section
variable {O:av} {Y Y':af} {s m t:Nat} {a b:Int}
noncomputable abbrev Ku (s m:Nat)(names:V)(t3 t4:Nat)(x5 x6 x7 x8 x9 Ei:j9)(rs:V)(lV:Nat):Loc:=[some<|.ref s,some<|.ref m,some names,some<|.ref t3,some<|.ref t4,x5,x6,x7,x8,x9,Ei,some rs,some<|.ref lV,ai,ai,ai,ai,ai,ai,ai]
theorem Fe {c:ao}:Y.length<(Y++[c]).length:=by rw[cN];exact uG _
theorem zy (hK:rF O s)(hO:vQ O s)(hB:sD O s)(hA:Fc O s)(hG:xZ O m)(hs:Y[s]?=some (aD a b))(hw:eZ s m Y):
  ∃Y' a' b',bn tx O 515 [.ref s,.ref m] Y=.ok (.bool true) Y'/\bj s Y Y'/\Y'[s]?=some (aD a' b'):=by
 have dZ:s≠Y.length:=(dt hs<|ba _).symm;have s1:=ak (c':=ao.list xY) hs;refine nk (hO s1 (eT.list (t:=Y.length) (l:=xY) aq dZ<|by lk) (by lk)<|by lk) λi v bM d5 hv e1=>?_;refine aJ (Hc hv) λrs eA hr=>?_;subst eA;have K1:bj s Y ((Y++[ao.list xY]).set s<|aD bM d5):=bj.push.trans .set;have s1:=c9 s1 bM d5;generalize DJ:(Y++[ao.list xY]).set s (aD bM d5)=al at K1 s1 e1;have aak:s≠al.length:=(dt s1<|ba _).symm;have s2:=ak (c':=ao.list names6) s1;refine nk (hO s2 (eT.list (t:=al.length) (l:=names6) aq aak<|by lk) (by lk)<|by lk) λi v bN gp hv e2=>?_;refine uH (DW hv) λns mT Cg hn2 hn1=>?_;subst mT;have K2:bj s al ((al++[ao.list names6]).set s<|aD bN gp):=bj.push.trans .set;have s2:=c9 s2 bN gp;generalize DB:(al++[ao.list names6]).set s (aD bN gp)=ay at K2 s2 e2;let lV:=ay.length;let t3:=(ay++[ao.list []]).length;let t4:=(ay++[ao.list []]++[ao.list []]).length;have h3:ay.length<t3:=Fe;have h4:t3<t4:=Fe;have T:Sh s ay lV t3 t4:=⟨nN s2,ba _,Nat.le_of_lt h3,Nat.le_of_lt<|Nat.lt_trans h3 h4,i9 h3,i9<|Nat.lt_trans h3 h4,i9 h4⟩;have st:xV s ay lV t3 t4 [] (ay++[ao.list []]++[ao.list []]++[ao.list []]):=⟨(bj.push.trans .push).trans .push,⟨bN,gp,ak<|ak<|ak s2⟩,ak<|ak aq,ak aq,aq⟩;refine HB (Ha (m:=m) hB hK hA T (names:=.U<|ns.map .str) (rs:=.U rs) (src:=.U<|ns.map .str) (all:=ns.map .str) (λM=>rfl) ns (l:=[]) (x5:=none) (x6:=none) (x7:=none) (x8:=none) Cg (by simpa using hn2) (λq hq=>by cases hq) st) λl x5 x6 x7 x8 bD zq=>L4 zq λhl hlen e3 S3=>kQ S3.src λmZ pZ s3=>?_;rw[List.length_nil,Nat.zero_add] at hlen;have hl2:l.length<=2:=hlen▸hn2;have Ty:∀q∈l,∀x∈q.2,x∈rD:=λq hq=>(hl q hq).2.2;have hdl:∀(l:List ku) (prev:db),(fR prev l).length=l.length:=λl=>by
  induction l with
  |nil=>intro _;rfl
  |cons p r ih=>intro prev;rw[fR,dI,dI,ih]
 refine de (Ks (O:=O) (N:=Ku s m (.U<|ns.map .str) t3 t4 x5 x6 x7 x8 none none (.U rs) lV) rfl rfl S3.dues (DV l [] Ty) (by rw[hdl];exact HM hl2 rfl) hr) λu J e4 hu hF=>?_;have K3:bj s Y bD:=(K1.trans K2).trans S3.keep;have KJ:bj s Y (bD++J):=K3.trans .push;have wJ:eZ s m (bD++J):=KJ.m7 hw;have sJ:(bD++J)[s]?=some (aD mZ pZ):=cH s3;have Tx:(bD++J)[lV]?=some (.list<|fG l):=cH S3.told;have aal:wp (bD++J) .tuple [.ref lV]=.ok (.U<|fG l) (bD++J):=ch (cG Tx) (by rw[cy];exact eu hl2 rfl);have pre:∀{RF:Res fA},b9 O 400 [.set (.l 10) V6,.ret ZN] (Ku s m (.U<|ns.map .str) t3 t4 x5 x6 x7 x8 (some<|.ref u) none (.U rs) lV) (bD++J)=RF->b9 O 400 MR.body [some<|.ref s,some<|.ref m,ai,ai,ai,ai,ai,ai,ai,ai,ai,ai,ai,ai,ai,ai,ai,ai,ai,ai] Y=RF:=λ{RF} h=>by
  refine ah (aA (aL (aa (I rfl)<|aa (bk (vs:=xY) (al:=Y) rfl) ae) e1) aE)<|ah (aA (aL (aa (I rfl)<|aa (bk (vs:=names6) (al:=al) rfl) ae) e2) aE) ?_
  refine ah (aA (aT<|aa (bk ae)<|aa (bk ae)<|aa (bk ae) ae)<|eH rfl rfl<|aS aE<|aS aE<|aS aE dk)<|ah (gR (I rfl) rfl e3) ?_
  exact ah (aA e4 aE) h
 have P6:∀{r:Res V},O 161 [.ref m,.str z_,.U [.U rs,.U<|fG l],.int 0] (bD++J)=r->aV O (.call 161 [.l 0,.xs z_,.U [.l 1,.bi .tuple [.l 2]],.xi 0]) (eJ [some 1,some 11,some 12,none,none]<|Ku s m (.U<|ns.map .str) t3 t4 x5 x6 x7 x8 (some<|.ref u) none (.U rs) lV) (bD++J)=r:=λ{r} h=>
  aL (aa (I rfl)<|aa ag<|aa (aT<|aa (I rfl)<|aa (cP (aa (I rfl) ae) aal) ae)<|aa ag ae) h
 have bad:∀(w:Str) (aY:af) (r:aH) (C:Nat),(C=64∨C=52∨C=76)->Kt C=.str w->(bD++J)[u]?=some (.list (.str w::r))->r.length<900->O 161 [.ref m,.str z_,.U [.U rs,.U<|fG l],.int 0] (bD++J)=.exc C aY->du (bD++J) aY->∃Y' a' b',bn tx O 515 [.ref s,.ref m] Y=.ok (.bool true) Y'/\bj s Y Y'/\Y'[s]?=some (aD a' b'):=λw aY r C hC P3 HI S4 e5 hg=>by
  have e6:=pQ hC<|P6 e5
  rw[P3] at e6;have u4:=hg.old _ _ HI;have en:=iO (Y:=aY++[ao.list []]) (ak u4) aq;have ei:cq (aY++[ao.list []]) (.ref u) (.int 0)=some (.str w):=hM (i:=0) (ak u4) (cb (Nat.succ_lt_succ S4) rfl) rfl;refine Ab (aY++[.list []]) mZ pZ ?_ ((KJ.trans hg.keep).trans .push)<|ak<|hg.old _ _ sJ
  apply bh (i:=MR) (R:=(some<|.bool true,Ku s m (.U<|ns.map .str) t3 t4 x5 x6 x7 x8 (some<|.ref u) (some<|.str w) (.U rs) lV)) rfl rfl rfl;apply pre;refine ah (aA e6 aE)<|ah (bO<|ar (I rfl) (fF (ar (I rfl) (bk ae) en) rfl<|aG (I rfl) ag ei) BP) rfl
 have fl:∀(ds:aH),(ds.filter xX).head?=ds.find? xX:=λds=>List.head?_filter;rcases hG (bD++J) rs l wJ.at hr hl hl2 with ⟨Xe,aY,e5,hg⟩ | ⟨XO,⟨d,aY,hd,e5,hg⟩ | ⟨hd,t,aY,e5,hg,ht,hf⟩⟩
 ·rcases hF with ⟨_,r,HI,hr2⟩ | ⟨XO,_⟩
  ·have S4:r.length<900:=by exact eu ‹_› rfl
   exact bad aI aY r 52 (.inr<|.inl rfl) rfl HI S4 e5 hg
  ·exact(v1 XO Xe).elim
 ·rcases hF with ⟨Xe,_⟩ | ⟨_,HI⟩
  ·exact(v1 XO Xe).elim
  ·have h1:=v0 l [] Ty;rw[hd,<-fl] at h1;cases hq:(fR [] l).filter xX with
   |nil=>rw[hq] at h1;cases h1
   |cons y r=>
    rw[hq] at h1 HI;cases h1;have S4:r.length<900:=by
     have:=w8 xX<|fR [] l
     rw[hq,hdl,dI] at this;exact dU this<|HM hl2 rfl
    rcases BO l [] Ty hd with rfl | rfl
    ·exact bad aI aY r 52 (.inr<|.inl rfl) rfl HI S4 e5 hg
    ·exact bad aC aY r 76 (.inr<|.inr rfl) rfl HI S4 e5 hg
 ·rcases hF with ⟨Xe,_⟩ | ⟨_,HI⟩
  ·exact(v1 XO Xe).elim
  ·have h1:=v0 l [] Ty;rw[hd,<-fl] at h1;cases hq:(fR [] l).filter xX with
   |cons y r=>rw[hq] at h1;cases h1
   |nil=>
    rw[hq] at HI;have e6:=zi<|P6 e5
    have u4:=hg.old _ _ HI;have en:=iO (Y:=aY++[ao.list []]) (ak u4) aq;have r4:aY[t3]?=some (.list<|ie l):=hg.old _ _<|cH S3.rows
    rw[Hd Ty [] hd] at r4;have hp:∀x∈iY (vY l),Plain 2 x:=λx hx=>by
     simp only[iY,vY,List.map_map,bX] at hx;refine aJ hx λq hq uX=>?_;subst uX;refine .U 1 _ λy hy=>?_;rcases aX.mp hy with rfl | hy
     ·have:=(hl q hq).1;simp only[hY,aX,dq,or_false] at this;show Plain 1 (.str q.1);rcases this with h | h | h | h<;>rw[h]<;>exact iM _ (by lk) 1
     ·rw[cM.mp hy];refine .U 0 _ λz hz=>?_;refine aJ (bX.mp hz) λp hp AQ=>?_;subst AQ;exact BL (Ty q hq p hp) 0
    have ee:=Kq (Y:=aY++[ao.list []]) (n:=2) (by lk) (ak hf) (ak r4) hp;refine Ab (aY++[.list []]) mZ pZ ?_ ((KJ.trans hg.keep).trans .push)<|ak<|hg.old _ _ sJ
    apply bh (i:=MR) (R:=(some<|.bool true,Ku s m (.U<|ns.map .str) t3 t4 x5 x6 x7 x8 (some<|.ref u) (some<|.ref t) (.U rs) lV)) rfl rfl rfl;apply pre;refine ah (aA e6 aE)<|ah (bO<|ar (I rfl) (gm (ar (I rfl) (bk ae) en) rfl<|I rfl) ee) rfl
end
section
variable {gx:Gx} {s m:Nat} {Y:af} {a b:Int}
theorem Ff (i:Nat):rF (UB (i+1)) s:=λY a b top hs h0 h1=>by rw[qJ<|by lk];exact xP hs h0 h1
theorem Kv (i:Nat):vQ (UB (i+2)) s:=λ{Y a b t l} hs ht h0 h1=>by
 rw[qJ<|by lk];exact Bx (λtop g0 g1=>Ff i Y a b top hs g0 g1) ht h0 h1
theorem Si (i:Nat):sD (UB (i+3)) s:=λY a b hs=>by
 rw[qJ<|by lk];exact G0 (Kv i) (λ{Y n r t}=>by rw[qJ<|by lk];exact Bz) hs
theorem Sj (i:Nat):Fc (UB (i+1)) s:=λY t ps ws ds ht hl hR hd hp=>by
 rw[qJ<|by lk];exact JV ht hl hR (λd zY Y t h=>by
  refine aN (hd d zY) λx eA=>?_;subst eA;exact xU h) (eu ‹_› rfl)
theorem He (H:oA gx tx)(i:Nat):xZ (UB (i+2)) m:=λY rs l hw hr hl hlen=>by
 rw[qJ<|by lk];exact DS (λY sp x hw hx=>J9 H i m hw hx) hw hr hl hlen
theorem Hf (H:oA gx tx)(hs:Y[s]?=some (aD a b))(hw:eZ s m Y):
  ∃Y' a' b',UB 5 515 [.ref s,.ref m] Y=.ok (.bool true) Y'/\bj s Y Y'/\Y'[s]?=some (aD a' b'):=by
 rw[qJ<|by lk];exact zy (Ff 3) (Kv 2) (Si 1) (Sj 3) (He H 2) hs hw
end
noncomputable abbrev lc:aH:=[.int 1,.int 2,.int 9,.int 28,.int 29]
structure DX (O:av)(script:List Int):Prop where
 pool:∃j Y' a b,O 378 [.gl<|script.map .int,.int 0] []=.ok (.ref j) Y'/\Y'[j]?=some (aD a b)
 m7:∀Y:af,∃m Y',O 479 [] Y=.ok (.ref m) Y'/\du Y Y'/\∀s,s<Y.length->eZ s m Y'
 fixed:∀(Y:af) (m:Nat),cu m Y->O 522 [.ref m] Y=.ok (.bool true) Y
 chain:∀(Y:af) (n:Int),(n=30∨n=31∨V.int n∈lc)->O 472 [.int n] Y=.ok (.bool true) Y
 publics:∀(Y:af) (s:Nat) (a b:Int),Y[s]?=some (aD a b)->∃Y' a' b',O 458 [.ref s] Y=.ok (.bool true) Y'/\bj s Y Y'/\Y'[s]?=some (aD a' b')
 plain:∀(Y:af) (s:Nat) (a b:Int),Y[s]?=some (aD a b)->∃Y' a' b',O 465 [.ref s] Y=.ok (.bool true) Y'/\bj s Y Y'/\Y'[s]?=some (aD a' b')
 type:∀(Y:af) (s:Nat) (a b:Int),Y[s]?=some (aD a b)->∃k,k<=8/\eW k s Y (O 503 [.ref s,.int 3] Y)
 read:∀(Y:af) (m g k:Nat) (ww d:V),k<=8->la k ww d->cu m Y->Y[g]?=some (.list [.str my])->∃J,O 151 [.ref m,.str z_,.ref g,.none,ww] Y=told d (Y++J)
 bounds:∀(Y:af) (s m:Nat) (a b:Int),Y[s]?=some (aD a b)->eZ s m Y->∃Y' a' b',O 515 [.ref s,.ref m] Y=.ok (.bool true) Y'/\bj s Y Y'/\Y'[s]?=some (aD a' b')
 one:∀(Y:af) (s:Nat) (a b:Int) (t:V) (l:aH),Y[s]?=some (aD a b)->eT Y s t l->0<l.length->l.length<1000->∃(i:Nat) (v:V) (a' b':Int),l[i]?=some v/\O 392 [.ref s,t] Y=.ok v (Y.set s<|aD a' b')
section
variable {O:av} {Y:af} {s m:Nat} {a b:Int} {script:List Int} {g:V}
theorem N9 {k:Nat}{d:V}(h:gn k d)(hk:k<12):cS Y .NotEq d d=some false:=by
 rcases h with rfl | rfl | ZO
 ·lk
 ·lk
 ·refine aJ ZO λl eA p=>?_;subst eA;refine uH p.data λq q1 q2 q3 q4=>?_;have e:=q4 Y 12 hk;have c:SeqAt.shaped q=true:=by
   unfold SeqAt.shaped;rw[q1,Bool.true_and,mN];omega
  have h0:wE Y (.U l) (.U l)=none:=by
   show(if (true==true&&!(l.isEmpty==l.isEmpty))=true then some false else none)=none;rw[lx l.isEmpty];rfl
  show(L6 (wE Y (.U l)<|.U l)<|yG Y (.U l)<|.U l).map _= _;rw[h0];show(yG Y (.U l)<|.U l).map _= _;rw[uo e e (by rw[c];rfl),SeqAt.eqv_refl _ q1];rfl
noncomputable abbrev Fg (g:V)(s m:Nat)(x2 x3 x5:j9):Loc:=[some g,some<|.ref s,x2,x3,some<|.ref m,x5,ai,ai,ai,ai,ai,ai,ai,ai,ai,ai,ai]
abbrev V7:List S:=[.ite (.or [.not<|.call 458 [.l 1],.not<|.call 465 [.l 1]]) [.ret<|.c<|.bool false] [],.set (.U [.l 5,.l 3])<|.call 503 [.l 1,.xi 3],
 .ite (.m .NotEq (.word [some 4,some 5,none]<|.call 151 [.l 0,.xs z_,.s [.xs my],.c .none,.l 1])<|.l 3) [.ret<|.c<|.bool false] [],.ite (.not<|.call 515 [.l 1,.l 4]) [.ret<|.c<|.bool false] []]
theorem BQ (H:DX O script)(hs:Y[s]?=some (aD a b))(hw:eZ s m Y){x2 x3 x5:j9}:∃x3' x5' Y' a' b',b9 O 400 V7 (Fg g s m x2 x3 x5) Y=.ok (none,Fg g s m x2 x3' x5') Y'/\bj s Y Y'/\Y'[s]?=some (aD a' b'):=by
 refine kR (H.publics Y s a b hs) λal bM d5 e1 K1 s1=>kR (H.plain al s bM d5 s1) λay bN gp e2 K2 s2=>?_;obtain⟨k,hk,j,bD,ww,d,mZ,pZ,e3,K3,s3,c3,n3,T3⟩:=H.type ay s bN gp s2;have KA:bj s Y bD:=(K1.trans K2).trans K3;have w4:cu m (bD++[ao.list [V.str my]]):=(KA.m7 hw:eZ s m bD).at.push;refine aN (H.read (bD++[ao.list [V.str my]]) m bD.length k ww d hk T3 w4 aq) λJ e4=>?_;have KB:bj s Y (bD++[ao.list [V.str my]]++J):=(KA.trans .push).trans .push;refine kR (H.bounds _ s m mZ pZ (cH (ak s3):(bD++[ao.list [V.str my]]++J)[s]?=some (aD mZ pZ))<|KB.m7 hw) λeQ A9 JS e5 K5 s5=>?_;have ec:aV O (.call 151 [.l 0,.xs z_,.s [.xs my],.c .none,.l 1]) [some<|.ref m,some ww,none] bD=told d (bD++[ao.list [V.str my]]++J):=
  aL (aa (I rfl)<|aa ag<|aa (bk<|aa ag ae)<|aa ag<|aa (I rfl) ae) e4
 have ew:aV O (.word [some 4,some 5,none]<|.call 151 [.l 0,.xs z_,.s [.xs my],.c .none,.l 1]) (Fg g s m x2 (some d)<|some ww) bD=.ok d (bD++[ao.list [V.str my]]++J):=by
  rcases T3.GO with rfl | rfl | ZP
  ·exact pQ (C:=52) (.inr<|.inl rfl) ec
  ·exact pQ (C:=76) (.inr<|.inr rfl) ec
  ·refine aJ ZP λl mT M=>?_;subst mT;exact zi ec
 refine Mp (some d) (some ww) eQ A9 JS<|Mq ?_ (KB.trans K5) s5
 refine ah (aB (iL<|gw (lO (aL (aa (I rfl) ae) e1) rfl) rfl<|gv<|lO (aL (aa (I rfl) ae) e2) rfl) rfl az)<|ah (aA (aL (aa (I rfl)<|aa ag ae) e3)<|eH (cG c3) rfl<|aS aE<|aS aE dk) ?_
 exact ah (aB (ar ew (I rfl)<|N9 (Y:=bD++[ao.list [V.str my]]++J) T3.GO<|eu ‹_› rfl) rfl az)<|ah (aB (lO (aL (aa (I rfl)<|aa (I rfl) ae) e5) rfl) rfl az) az
theorem Oa (H:DX O script):∃Y',bn tx O 529 [.gl<|script.map .int] []=.ok (.bool true) Y':=by
 refine nk H.pool λs al bM d5 e1 s1=>de (H.m7 al) λm ay e2 G2 w2=>?_;have w2:=w2 s<|nN s1
 refine Mj (BQ (g:=.gl<|script.map .int) H (G2.old _ _ s1) w2 (x2:=some<|.int 0) (x3:=none) (x5:=none)) λx3 x5 bD mZ pZ zq=>HK zq λe3 K3 s3=>Mj (BQ (g:=.gl<|script.map .int) H s3 (K3.m7 w2) (x2:=some<|.int 1) (x3:=x3) (x5:=x5)) λy3 y5 aY kj l0 zq=>HK zq λe4 K4 s4=>?_;have s5:=ak (c':=ao.list lc) s4;refine nk (H.one _ s kj l0 _ _ s5 (eT.list (t:=aY.length) (l:=lc) aq ((dt s4<|ba _).symm:s≠aY.length)<|by lk) (by lk)<|by lk) λi v A9 JS hv e5=>?_;obtain⟨n,rfl,hn⟩:∃n:Int,v=.int n/\V.int n∈lc:=by
  have hm:=bp hv
  match i,hv with
  | 0,h=>cases h;exact bF _ rfl hm
  | 1,h=>cases h;exact bF _ rfl hm
  | 2,h=>cases h;exact bF _ rfl hm
  | 3,h=>cases h;exact bF _ rfl hm
  | 4,h=>cases h;exact bF _ rfl hm
  |_+5,h=>cases h
 refine⟨(aY++[ao.list lc]).set s<|aD A9 JS,?_⟩;apply bh (i:=US) (R:=(some<|.bool true,Fg (.gl<|script.map .int) s m (some<|.int 1) y3 y5)) rfl rfl rfl;refine ah (aA (aT<|aa (aL (aa (I rfl)<|aa ag ae) e1)<|aa (aL ae e2) ae)<|eH rfl rfl<|aS aE<|aS aE dk)<|ah (aB (iL<|gw (lO (aL (aa (I rfl) ae)<|H.fixed ay m w2.at) rfl) rfl<|gw (lO (aL (aa ag ae)<|H.chain ay 30<|.inl rfl) rfl) rfl<|gv<|lO (aL (aa ag ae)<|H.chain ay 31<|.inr<|.inl rfl) rfl) rfl az) ?_
 exact ah (gR (cP (aa ag ae) rfl) (all:=[.int 0,.int 1]) rfl<|a8 e3 rfl<|a8 e4 rfl eY)<|ah (bO<|aL (aa (aL (aa (I rfl)<|aa (bk<|aa ag<|aa ag<|aa ag<|aa ag<|aa ag ae) ae) e5) ae)<|H.chain _ n<|.inr<|.inr hn) rfl
end
def names13:aH:=[.str mv,.str iz,.str iA,.str iB,.str fM,.str gf,.str iC,.str iD,.str dM,.str ff,.str cY,.str yE,.str CK]
abbrev Sk:aH:=[.str yE,.str CK]
noncomputable def Fh (o:j9):Bool:=match o with
 |some v=>v.ctorIdx==1&&v.Qp
 |none=>false
noncomputable def ZQ (l:aH):Bool:=match l with
 | []=>false
 |a::r=>r.length==1&&(a.ctorIdx==2&&(r.headD .none).ctorIdx==2)
def ZR (c:ao):Bool:=match c with
 | .list l=>ZQ l
 |_=>false
def V8 (Y:af):Bool:=match Y with
 | []=>false
 |c::_=>ZR c
def PH (r:Res fA):Bool:=match r with
 | .ok f Y=>Fh f.1&&V8 Y
 |_=>false
theorem Kw {v:V}(h:(v.ctorIdx==2)=true):∃i,v=.int i:=@V.int.elim (λv=>∃i,v=.int i) v (ix h) λi=>⟨i,rfl⟩
theorem DY {o:j9}(h:Fh o=true):o=some (.bool true):=by
 cases o with
 |none=>exact Bool.noConfusion h
 |some v=>
  have h:=h;exact @V.bool.elim (λv=>v.Qp=true->some v=some (.bool true)) v (ix<|b1 h) (λb e=>by rw[show b=true from e])<|b2 h
theorem Ob {Y:af}(h:V8 Y=true):∃x y J,Y=aD x y::J:=by
 cases Y with
 |nil=>exact Bool.noConfusion h
 |cons c J=>
  cases c with
  |list l=>
   cases l with
   |nil=>exact Bool.noConfusion h
   |cons a r=>
    have h:(r.length==1&&(a.ctorIdx==2&&(r.headD .none).ctorIdx==2))=true:=h;refine aN (w5.mp<|eq_of_beq<|b1 h) λb eA=>?_;subst eA;refine aN (Kw<|b1<|b2 h) λx mT=>?_;subst mT;refine aN (Kw<|b2<|b2 h) λy uX=>?_;subst uX;exact Aa x y J rfl
  |_=>exact Bool.noConfusion h
theorem Kx {r:Res fA}(h:PH r=true):∃N x y J,r=.ok (some<|.bool true,N) (aD x y::J):=by
 cases r with
 |ok f Y=>
  have h:=h;refine HL (Ob<|b2 h) λx y J AQ=>?_;subst AQ;obtain⟨a,N⟩:=f;exact X5 N x y J (by rw[show a= _ from DY (b1 h)])
 |_=>exact Bool.noConfusion h
def Ky (a b:Int)(i d:Nat):Res fA:=b9 (run tx 30) 400 (QG.body.drop 1) [some<|.ref 0,some<|names13.getD i .none,some<|.int d,ai,ai,ai,ai,ai,ai,ai,ai,ai] [aD a b,.list Sk,.list names13]
theorem plain_all (a b:Int):((List.range 13).all λi=>(List.range 7).all λd=>PH<|Ky a b i d)=true:=by lk
theorem BR {a b:Int}:∃a' b' J,run tx 31 465 [.ref 0] [aD a b]=.ok (.bool true) (aD a' b'::J):=by
 have hs:([aD a b]:af)[0]?=some (aD a b):=rfl;refine nk (mq (s:=0) 30 (by lk) (rfl:([aD a b,.list Sk,.list names13]:af)[0]?=some (aD a b)) (eT.list (t:=2) (l:=names13) rfl (by lk)<|by lk) (by lk)<|by lk) λi v bM d5 hv e1=>kR (jq (s:=0) (Y:=[aD bM d5,.list Sk,.list names13]) 30 (by lk) (top:=7) rfl (by lk)<|by lk) λd bN gp d0 d1 e2=>?_;refine aN (Int.eq_ofNat_of_zero_le d0) λd Gs=>?_;subst Gs;have h:=gH.mp (gH.mp (plain_all bN gp) i<|List.mem_range.mpr ((bP.mp hv).1:i<13)) d<|List.mem_range.mpr<|by omega
 refine XY (Kx h) λN x y J e3=>?_;have hn:names13.getD i .none=v:=by rw[z6,hv];rfl
 unfold Ky at e3;rw[hn] at e3;refine Aa x y J ?_;show bn tx (run tx 30) 465 [.ref 0] [aD a b]= _;apply bh (i:=QG) (R:=(some<|.bool true,N)) rfl rfl rfl;exact ah (aA (aT<|aa (aL (aa (I rfl)<|aa (fj ag (bk<|aa ag<|aa ag ae) rfl) ae) e1)<|aa (aL (aa (I rfl)<|aa ag ae) e2) ae)<|eH rfl rfl<|aS aE<|aS aE dk) e3
section
variable {gx:Gx} {s:Nat} {Y:af} {a b:Int}
theorem Oc {x y:Int}(h:Y[s]?=some (aD x y)):Emb [s] [aD x y] Y where
 len:=rfl
 nd:=by simp
 cell:=λi c hc=>by
  cases i with
  |zero=>cases hc;exact lY s rfl h rfl
  |succ i=>cases hc
theorem Kz {x y x' y':Int}(h:Y[s]?=some (aD x y)):Back [s] [s] [aD x y] Y [aD x' y'] (Y.set s<|aD x' y') where
 le:=ba _
 more:=rfl
 len:=by rw[qT];rfl
 old:=λj M hj=>eL (by simpa [eq_comm] using hj)
 new:=λi c hc=>by
  cases i with
  |zero=>cases hc;exact bF s rfl<|c9 h x' y'
  |succ i=>cases hc
theorem DZ (H:oA gx tx)(hs:Y[s]?=some (aD a b)):∃a' b',cX (2 * (6 * 31)) 465 [.ref s] Y (.ok (.bool true)<|Y.set s<|aD a' b'):=by
 refine HL (BR (a:=a) (b:=b)) λa' b' J e=>?_;have d:=(H.run 31).pY (f:=465) (vs:=[.ref 0]) (Y:=[aD a b]);rw[e] at d;exact FF a' b'<|(cX.drop (J:=J) d rfl (ba _) rfl:cX (2 * (6 * 31)) 465 [.ref 0] [aD a b] (.ok (.bool true) [aD a' b'])).frame (Oc hs) rfl<|Kz hs
end
section
variable {O:av}
theorem ya {Y:af}{c:Int}{script:V}(hc:aV O (.ite (.m .Lt (.l 1)<|.bi .len [.l 0]) (.i (.l 0)<|.l 1)<|.xi 0) [some script,some<|.int 0,ai,ai,ai,ai,ai,ai] Y=.ok (.int c) Y):∃a b,bn tx O 378 [script,.int 0] Y=.ok (.ref Y.length) (Y++[aD a b]):=by
 have e1:(0:Int)<2147483629:=by lk
 have e2:(0:Int)<2147483647:=by lk
 let g:Int:=if c < -1 - c then -1 - c else c;have eg:wp Y .max [.int c,.int<|-1 - c]=.ok (.int g) Y:=rfl;have key:∀bb:Bool,cS Y .GtE (.int g) (.int<|(10:Int) ^ Int.toNat 18)=some bb->∃a b,bn tx O 378 [script,.int 0] Y=.ok (.ref Y.length) (Y++[aD a b]):=λbb hb=>by
  have ei:wp Y .int [.bool bb]=.ok (.int<|if bb then 1 else 0) Y:=rfl;have em:jJ Y .Mult (.int g) (.int<|if bb then 1 else 0)=.ok (.int<|g * (if bb then 1 else 0)) Y:=mul_int _ (by cases bb<;>rfl)
  refine FF (g * (if bb then 1 else 0)) (((((g.fmod 2147483629+7919 * 0 * 0)+31 * 0)+17) * 48271).fmod 2147483647) ?_;apply bh (i:=QE) (R:=(some<|.ref Y.length,_)) rfl rfl rfl;dsimp only[QE];refine ah (aA hc aE) ?_
  (first | apply dw | apply dv | apply bG)
  repeat (first | (intro w;refine(?_:_->_) (w<|j3 _ e1)) | (intro w;refine(?_:_->_) (w<|j3 _ e2)) | (intro w;refine(?_:_->_) (w<|mul_int _ rfl)) | room)
 exact key _ rfl
theorem KC {script:List Int}(hl:script.length<1000):∃a b,bn tx O 378 [.gl<|script.map .int,.int 0] []=.ok (.ref 0) [aD a b]:=by
 have e1:wp [] .len [.gl<|script.map V.int]=.ok (.int script.length) []:=by
  have:=nO (Y:=[]) (v:=.gl<|script.map V.int) (k:=false) (l:=script.map V.int) rfl (by(rw[cy];exact cb ‹_› rfl));rw[cy] at this;exact this
 cases script with
 |nil=>exact ya<|gm (ar (I rfl) (cP (aa (I rfl) ae) e1) rfl) rfl ag
 |cons c r=>
  refine ya (c:=c)<|fF (ar (b:=true) (I rfl) (cP (aa (I rfl) ae) e1) ?_) rfl<|aG (I rfl) (I rfl)<|ut (i:=0) (l:=(c::r).map V.int) rfl (by rw[cy];exact hl)
  show some (decide ((0:Int)<((c::r).length:Int)))=some true;rw[eE (by rw[dI];omega)]
end
section
set_option tactic.hygienic true
def kI (n:Int):Bool:=match bn tx (run (plainT tx) 139) 472 [.int n] [] with
 | .ok (.bool true) _=>true
 |_=>false
theorem Sl:kI 1=true:=by lk
theorem Sm:kI 2=true:=by lk
theorem So:kI 9=true:=by lk
theorem Od:kI 28=true:=by lk
theorem Oe:kI 29=true:=by lk
theorem Of:kI 30=true:=by lk
theorem Og:kI 31=true:=by lk
section
variable {gx:Gx} {Y:af}
theorem D0 (H:oA gx tx){n:Int}(h:kI n=true):cX (2 * (2 * 139+6)) 472 [.int n] Y (.ok (.bool true) Y):=by
 have d:=(H.step (k:=2 * 139)<|H.ZB 139).pY (f:=472) (vs:=[.int n]) (Y:=[]);unfold kI at h;split at h
 ·next J e=>
  rw[e] at d;have d':cX (2 * (2 * 139+6)) 472 [.int n] [] (.ok (.bool true) []):=cX.drop (J:=J) d rfl (ba _) rfl;exact d'.keep (π:=[]) ⟨rfl,by simp,λi c hc=>by cases hc⟩ rfl
 ·cases h
theorem pu {n k:Int}(e:V.int n=V.int k)(h:kI k=true):kI n=true:=by rw[show n=k from bJ V.Qq e];exact h
theorem Hg {n:Int}(h:n=30∨n=31∨V.int n∈lc):kI n=true:=by
 rcases h with rfl | rfl | h
 ·exact Of
 ·exact Og
 ·refine aZ (aX.mp h) (λe=>?_) λh=>?_
  ·exact pu e Sl
  refine aZ (aX.mp h) (λe=>?_) λh=>?_
  ·exact pu e Sm
  refine aZ (aX.mp h) (λe=>?_) λh=>?_
  ·exact pu e So
  refine aZ (aX.mp h) (λe=>?_) λh=>?_
  ·exact pu e Od
  ·exact pu (cM.mp h) Oe
end
end
section
variable {gx:Gx} {Y:af} {s m:Nat} {a b:Int}
theorem KD (H:oA gx tx):∃m Y',cX (2 * (6 * 20)) 479 [] Y (.ok (.ref m) Y')/\du Y Y'/\∀s,s<Y.length->eZ s m Y':=by
 let π:List Nat:=(List.range 17).map λk=>Y.length+k;have ZS:∀i,i<17->π[i]?=some (Y.length+i):=λi hi=>by
  show((List.range 17).map _)[i]?= _;rw[gd,uD hi];rfl
 let Y':af:=Y++W.map λc=>c.mL<|at' π
 have Xf:∀(i:Nat) (c:ao),W[i]?=some c->∃j,π[i]?=some j/\Y'[j]?=some (c.mL<|at' π):=λi c hc=>by
  have hi:i<17:=by have:=(bP.mp hc).1;rwa [tr] at this
  refine bF (Y.length+i) (ZS i hi) ?_;show(Y++_)[_]?= _;rw[kN<|ej _ _,sM,gd,hc];rfl
 have B:Back [] π [] Y W Y':=⟨p9 _,by show π=[]++_;rw[tr];rfl,by show(Y++_).length= _;rw[cN,cy];rfl,λj hj M=>i7 hj,Xf⟩;have d:=(DH H).frame (⟨rfl,by simp,λi c hc=>by cases hc⟩:Emb [] [] Y) rfl B;refine fc (Y.length+1) Y' ?_ du.refl.push λs hs=>⟨π,⟨?_,?_,λi c hc=>?_⟩,ZS 1<|aO rfl,?_⟩
 ·have:V.mL (at' π) (.ref 1)=.ref (Y.length+1):=by rw[V.mL,(nK (ZS 1<|aO rfl):at' π 1=Y.length+1)]
  rw[this] at d;exact d
 ·show((List.range 17).map _).length= _;rw[cy,List.length_range,tr]
 ·show((List.range 17).map λk=>Y.length+k).Nodup;rw[List.nodup_iff_pairwise_ne,List.pairwise_map];exact List.nodup_range.imp λh e=>h (by omega)
 ·exact aJ (Xf i c hc) λj h1 h2=>lY j h1 h2<|gH.mp xR c<|f8 hc
 ·intro hm;refine aJ (bX.mp hm) λk M hk=>?_;omega
theorem KE (H:oA gx tx)(hw:cu m Y):cX (2 * (6 * 30)) 522 [.ref m] Y (.ok (.bool true) Y):=by
 refine aJ hw fun π E e=>?_;have d:=(DI H).keep E (by rw[tr];rfl);have:lZ (at' π) [.ref 1]=[.ref m]:=by simp only[lZ,V.mL,nK e]
 rw[this] at d;exact d
end
noncomputable def BS {α:Type}(Q:α->Prop):List α->Prop
 | []=>True
 |a::r=>Q a/\BS Q r
theorem BS.get {α:Type}{Q:α->Prop}{l:List α}(h:BS Q l):∀a∈l,Q a:=by
 induction l with
 |nil=>exact λa h=>nomatch h
 |cons x r ih=>exact λa ha=>(aX.mp ha).elim (λe=>e▸h.1) λha=>ih h.2 a ha
structure Ct where
 g:Nat
 C:List V->af->Res V->Prop
def Ct.pY (n:Nat)(c:Ct):Prop:=∀vs Y,∃r,cX n c.g vs Y r/\c.C vs Y r
def Ct.ok (O:av)(c:Ct):Prop:=∀vs Y,c.C vs Y<|O c.g vs Y
theorem Hh {n:Nat}{l:List Ct}(nd:(l.map (·.g)).Nodup)(h:BS (Ct.pY n) l):∃O,iJ O n/\∀c∈l,c.ok O:=by
 induction l with
 |nil=>exact bF (λM M M=>.stuck) (.uk λM M M=>.stuck) λM h=>nomatch h
 |cons c r ih=>
  have nd':=iy.mp nd;refine aJ (ih nd'.2 h.2) λO S hO=>bF (λf vs Y=>if f=c.g then (h.1 vs Y).choose else O f vs Y) (.uk λf vs Y=>?_) λd hd vs Y=>?_
  ·by_cases e:f=c.g
   ·rw[if_pos e,e];exact(h.1 vs Y).choose_spec.1
   ·rw[if_neg e];exact S.pY
  ·show d.C vs Y (if d.g=c.g then (h.1 vs Y).choose else O d.g vs Y);refine aZ (aX.mp hd) (λe=>?_) λhd=>?_
   ·rw[e,if_pos rfl];exact(h.1 vs Y).choose_spec.2
   ·have hn:d.g≠c.g:=λe=>nd'.1 (show c.g∈r.map (·.g) by rw[<-e];exact cD hd);rw[if_neg hn];exact hO d hd vs Y
theorem px {n g:Nat}{vs:aH}{Y:af}{p:Prop}{C:Res V->Prop}(h:p->∃r,cX n g vs Y r/\C r)(h0:¬p->C .stuck):∃r,cX n g vs Y r/\C r:=by
 by_cases hp:p
 ·exact h hp
 ·exact bF .stuck .stuck<|h0 hp
def D1 (s:Nat)(Y:af)(r:Res V):Prop:=∃Y' a' b',r=.ok (.bool true) Y'/\bj s Y Y'/\Y'[s]?=some (aD a' b')
abbrev PI:Ct:=⟨378,λvs Y r=>∀script:List Int,script.length<1000->vs=[.gl<|script.map .int,.int 0]->Y=[]->∃a b,r=.ok (.ref 0) [aD a b]⟩
abbrev KG:Ct:=⟨479,λvs Y r=>vs=[]->∃m Y',r=.ok (.ref m) Y'/\du Y Y'/\∀s,s<Y.length->eZ s m Y'⟩
abbrev KH:Ct:=⟨522,λvs Y r=>∀m,vs=[.ref m]->cu m Y->r=.ok (.bool true) Y⟩
abbrev KI:Ct:=⟨472,λvs Y r=>∀n:Int,vs=[.int n]->(n=30∨n=31∨V.int n∈lc)->r=.ok (.bool true) Y⟩
abbrev V9:Ct:=⟨458,λvs Y r=>∀s a b,vs=[.ref s]->Y[s]?=some (aD a b)->D1 s Y r⟩
abbrev KK:Ct:=⟨465,λvs Y r=>∀s a b,vs=[.ref s]->Y[s]?=some (aD a b)->D1 s Y r⟩
abbrev PJ:Ct:=⟨503,λvs Y r=>∀s a b,vs=[.ref s,.int 3]->Y[s]?=some (aD a b)->∃k,k<=8/\eW k s Y r⟩
abbrev PK:Ct:=⟨151,λvs Y r=>∀m g k ww d,vs=[.ref m,.str z_,.ref g,.none,ww]->k<=8->la k ww d->cu m Y->Y[g]?=some (.list [.str my])->∃J,r=told d (Y++J)⟩
abbrev PL:Ct:=⟨515,λvs Y r=>∀s m a b,vs=[.ref s,.ref m]->Y[s]?=some (aD a b)->eZ s m Y->D1 s Y r⟩
abbrev Wa:Ct:=⟨392,λvs Y r=>∀s a b t l,vs=[.ref s,t]->Y[s]?=some (aD a b)->eT Y s t l->0<l.length->l.length<1000->∃(i:Nat) (v:V) (a' b':Int),l[i]?=some v/\r=.ok v (Y.set s<|aD a' b')⟩
noncomputable def D2:List Ct:=[PI,KG,KH,KI,V9,KK,PJ,PK,PL,Wa]
section
variable {gx:Gx} {Y:af} {s m:Nat} {a b:Int}
theorem Oh {O:av}(h:∀c∈D2,c.ok O){script:List Int}(hl:script.length<1000):DX O script:=
 have g:∀(i:Nat) (c:Ct),D2[i]?=some c->c.ok O:=λi c e=>h c<|f8 e
 {pool:=by
   exact kQ (g 0 PI rfl [.gl<|script.map .int,.int 0] [] script hl rfl rfl) λa b e=>TH 0 _ a b e rfl
  m7:=λY=>g 1 KG rfl [] Y rfl
  fixed:=λY m hw=>g 2 KH rfl _ Y m rfl hw
  chain:=λY n hn=>g 3 KI rfl _ Y n rfl hn
  publics:=λY s a b hs=>g 4 V9 rfl _ Y s a b rfl hs
  plain:=λY s a b hs=>g 5 KK rfl _ Y s a b rfl hs
  type:=λY s a b hs=>g 6 PJ rfl _ Y s a b rfl hs
  read:=λY m g' k ww d hk hT hw hg=>g 7 PK rfl _ Y m g' k ww d rfl hk hT hw hg
  bounds:=λY s m a b hs hw=>g 8 PL rfl _ Y s m a b rfl hs hw
  one:=λY s a b t l hs ht h0 h1=>g 9 Wa rfl _ Y s a b t l rfl hs ht h0 h1}
def Fi (n:Nat):Prop:=∀(Y:af) (s:Nat) (a b:Int),Y[s]?=some (aD a b)->∃Y' a' b',cX n 458 [.ref s] Y (.ok (.bool true) Y')/\bj s Y Y'/\Y'[s]?=some (aD a' b')
def yb (n:Nat):Prop:=∀(Y:af) (m:Int),(m=30∨m=31∨V.int m∈lc)->cX n 472 [.int m] Y (.ok (.bool true) Y)
theorem Wb {s s':Nat}(e:[V.ref s]=[V.ref s']):s=s':=bJ V.Uq<|List.head_eq_of_cons_eq e
theorem Wc {k:Nat}{vs:aH}{f:Nat}{r:Res V}(d:cX (2 * k) f vs Y r)(h:k<=600):cX (2 * 600) f vs Y r:=d.weaken (by rw[gi,gi];exact h)<|Nat.mul_mod_right 2 k
theorem v5 (H:oA gx tx)(f:Nat)(vs:aH):cX (2 * 600) f vs Y (run tx 30 f vs Y):=Wc (H.run 30).pY (by lk)
theorem Sp (H:oA gx tx)(hP:Fi (2 * 600))(hC:yb (2 * 600)):BS (Ct.pY<|2 * 600) D2:=
 ⟨λvs Y=>⟨_,v5 H 378 vs,λM hl e1 e2=>by rw[e1,e2];exact KC (O:=run tx 29) hl⟩,
 λvs Y=>px (p:=vs=[]) (λe=>by
  refine de (KD H (Y:=Y)) λm Y' d g1 g2=>?_;rw[e];exact⟨_,d.weaken (by lk) (by lk),λM=>⟨m,Y',rfl,g1,g2⟩⟩) λn e=>absurd e n,
 λvs Y=>px (p:=∃m,vs=[.ref m]/\cu m Y) (λ⟨m,e,hw⟩=>by
  rw[e];exact⟨_,(KE H hw).weaken (by lk) (by lk),λM M M=>rfl⟩) λn m e hw=>absurd ⟨m,e,hw⟩ n,
 λvs Y=>px (p:=∃n:Int,vs=[.int n]/\(n=30∨n=31∨V.int n∈lc)) (λ⟨n,e,hn⟩=>by
  rw[e];exact⟨_,hC Y n hn,λM M M=>rfl⟩) λn m e hw=>absurd ⟨m,e,hw⟩ n,
 λvs Y=>px (p:=∃s a b,vs=[.ref s]/\Y[s]?=some (aD a b)) (λ⟨s,a,b,e,hs⟩=>by
  refine kR (hP Y s a b hs) λY' a' b' d g1 g2=>?_;rw[e];exact⟨_,d,λs' M M e M=>Wb e▸⟨Y',a',b',rfl,g1,g2⟩⟩) λn s a b e hs=>absurd ⟨s,a,b,e,hs⟩ n,
 λvs Y=>px (p:=∃s a b,vs=[.ref s]/\Y[s]?=some (aD a b)) (λ⟨s,a,b,e,hs⟩=>by
  refine kQ (DZ H hs) λa' b' d=>?_;rw[e];exact⟨_,d.weaken (by lk) (by lk),λs' M M e M=>Wb e▸⟨_,a',b',rfl,.set,c9 hs a' b'⟩⟩) λn s a b e hs=>absurd ⟨s,a,b,e,hs⟩ n,
 λvs Y=>⟨_,v5 H 503 vs,λs a b e hs=>by
  rw[e];refine j8 (RV 3 (by lk) 30 (by lk) hs) λk k1 M h=>?_;exact⟨k,k1,h⟩⟩,
 λvs Y=>⟨UW 30 151 vs Y,((R7 H 29).pY).weaken (by lk) (by lk),λm g k ww d e hk hT hw hg=>by rw[e];exact J8 H hT 30 (by omega) hw hg⟩,
 λvs Y=>⟨UB 5 515 vs Y,((Sa H 4).pY).weaken (by lk) (by lk),λs m a b e hs hw=>by rw[e];exact Hf H hs hw⟩,
 λvs Y=>⟨_,v5 H 392 vs,λs a b t l e hs ht g0 g1=>by rw[e];exact mq 30 (by lk) hs ht g0 g1⟩,trivial⟩
end
noncomputable abbrev fC:Str:=⟨#[97,58,58,102]⟩
noncomputable abbrev ez:Str:=⟨#[97,58,58,83]⟩
noncomputable abbrev gq:Str:=⟨#[97,58,58,69]⟩
noncomputable abbrev im:Str:=⟨#[97,58,58,98,58,58,102]⟩
noncomputable abbrev io:Str:=⟨#[97,58,58,98,58,58,83]⟩
noncomputable abbrev nS:Str:=⟨#[97,58,58,98,58,58,69]⟩
noncomputable abbrev qh:Str:=⟨#[69,58,58,86]⟩
noncomputable abbrev pR:Str:=⟨#[97,58,58,69,58,58,86]⟩
noncomputable abbrev BU:Str:=⟨#[97,58,58,98,58,58,69,58,58,86]⟩
inductive Pl where
 |o | a | ab
inductive Nm where
 |f | S | E
def Pl.str:Pl->Str
 | .o=>z_
 | .a=>dK
 | .ab=>aQ
def Nm.str:Nm->Str
 | .f=>dX
 | .S=>cB
 | .E=>eN
def Pl.parts:Pl->db
 | .o=>[]
 | .a=>[dK]
 | .ab=>[dK,Cq]
def jn:Pl->Nm->Str
 | .o,n=>n.str
 | .a,.f=>fC
 | .a,.S=>ez
 | .a,.E=>gq
 | .ab,.f=>im
 | .ab,.S=>io
 | .ab,.E=>nS
noncomputable def jx:Pl->Nm->Nat
 | .o,.f=>2
 | .o,.S=>3
 | .o,.E=>4
 | .a,.f=>5
 | .a,.S=>6
 | .a,.E=>7
 | .ab,.f=>8
 | .ab,.S=>9
 | .ab,.E=>10
abbrev Oi:db:=[dK,aQ,dX,cB,eN,fC,ez,gq,im,io,nS]
abbrev rI (pb:Nat->Bool):iP:=[(dK,.bool<|pb 0),(aQ,.bool<|pb 1),(dX,.bool<|pb 2),(cB,.bool<|pb 3),(eN,.bool<|pb 4),(fC,.bool<|pb 5),(ez,.bool<|pb 6),(gq,.bool<|pb 7),(im,.bool<|pb 8),(io,.bool<|pb 9),(nS,.bool<|pb 10)]
theorem rJ (pb:Nat->Bool):∀p n,aM (rI pb) (jn p n)=some (.bool<|pb<|jx p n)
 | .o,.f=>by lk
 | .o,.S=>by lk
 | .o,.E=>by lk
 | .a,.f=>by lk
 | .a,.S=>by lk
 | .a,.E=>by lk
 | .ab,.f=>by lk
 | .ab,.S=>by lk
 | .ab,.E=>by lk
structure Hs (ax Y:af)(l:mK):Prop where
 nd:(l.map (·.1)).Nodup
 ge:∀q∈l,ax.length<=q.1
 told:∀q∈l,Y[q.1]?=some q.2
 grow:du ax Y
section
variable {ax Y:af} {l:mK} {a i:Nat} {c c':ao}
theorem Hs.get (h:Hs ax Y l)(i:Nat)(e:l[i]?=some (a,c)):Y[a]?=some c:=h.told _<|f8 e
theorem Hs.push (h:Hs ax Y l){J:af}:Hs ax (Y++J) l:=⟨h.nd,h.ge,λq hq=>cH<|h.told q hq,h.grow.push⟩
theorem Hs.add (h:Hs ax Y l):Hs ax (Y++[c]) (l++[(Y.length,c)]):=by
 refine⟨?_,?_,?_,h.grow.push⟩
 ·rw[jB,sP];refine⟨h.nd,by simp,?_⟩;intro x hx y hy e;refine aJ (bX.mp hx) λq hq eA=>?_;subst eA;have:=(bP.mp<|h.told q hq).1;simp only[eM,List.map_nil,cM] at hy;omega
 ·intro q hq;refine aZ (fu.mp hq) (λhq=>?_) λhq=>?_
  ·exact h.ge q hq
  ·rw[cM.mp hq];exact h.grow.le
 ·intro q hq;refine aZ (fu.mp hq) (λhq=>?_) λhq=>?_
  ·exact cH<|h.told q hq
  ·rw[cM.mp hq];exact aq
theorem Hs.set (h:Hs ax Y l)(i:Nat)(e:l[i]?=some (a,c)):Hs ax (Y.set a c') (l.set i (a,c')):=by
 refine aN (bP.mp e) λhi e'=>?_;have hm:(l.set i (a,c')).map (·.1)=l.map (·.1):=by
  rw[List.map_set];refine List.ext_getElem? λj=>?_;rw[List.getElem?_set];split
  ·next hj=>subst hj;rw[if_pos (by rw[cy];exact hi),gd,e];rfl
  ·rfl
 refine⟨by rw[hm];exact h.nd,λq hq=>?_,λq hq=>?_,h.grow.set<|h.ge _<|f8 e⟩
 ·rcases List.mem_or_eq_of_mem_set hq with hq | rfl
  ·exact h.ge q hq
  ·exact h.ge (a,c)<|f8 e
 ·refine aN (List.mem_iff_getElem?.mp hq) λj hj=>?_;rw[List.getElem?_set] at hj;split at hj
  ·next FB=>
   cases hj;exact uA (bP.mp<|h.get i e).1
  ·next FB=>
   have dZ:a≠q.1:=λhh=>FB<|lg h.nd (by rw[gd,e];rfl)<|by rw[gd,hj,Option.map_some,hh]
   rw[eL dZ];exact h.told q<|f8 hj
end
section
variable {Y:af} {m d t C:Nat} {l l':iP} {n s:Str} {v:V}
theorem v6 (h:Y[m]?=some (.inst C d))(k:Y[d]?=some (.dict l))(e:uT.attrs C n=true)(hl:l.length<499):dh Y (.ref m) n=true:=zk h k e hl
theorem Fj (h:Y[m]?=some (.inst C d))(k:Y[d]?=some (.dict l))(e:aM l n=some v):kf Y (.ref m) n=some v:=zj h k e
theorem b0 {O:av}{N:Loc}{i:Nat}{n:Str}(hl:N[i]?=some (some<|.ref m))(h:Y[m]?=some (.inst C d))(k:Y[d]?=some (.dict l))(e:uT.attrs C n=true)(hn:l.length.blt 499=true)(hv:aM l n=some v):aV O (.attr (.l i) n) N Y=.ok v Y:=un (I hl) (zk h k e<|aO hn)<|zj h k hv
theorem b8 {f:Nat}(h:Y[m]?=some (.inst C d))(k:Y[d]?=some (.dict l))(e:uT.bI C n=some f)(e':aM l n=none):fg Y (.ref m) n=some f:=EP h k (by rw[e'];rfl) e
theorem D3 (h:Y[m]?=some (.inst C d))(k:Y[d]?=some (.dict l))(e:rV l n v=l'):jl Y (.ref m) n v=some (Y.set d<|.dict l'):=by rw[<-e];exact vK h k
theorem fD (h:Y[t]?=some (.dict l))(e:aM l s=some v):cq Y (.ref t) (.str s)=some v:=(pp h).trans e
theorem wT (h:Y[t]?=some (.dict l)){b:Bool}(e:(aM l s).isSome=b):cS Y .In (.str s) (.ref t)=some b:=(in_of h).trans (by rw[<-e];rfl)
theorem We (h:Y[t]?=some (.dict l)):FQ Y (.ref t) .get=true:=by show(Pc Y t).isSome=true;rw[Ds h];rfl
theorem PM (h:Y[t]?=some (.dict l))(e:(aM l s).getD .none=v):Pe Y (.ref t) .get [.str s]=.ok v Y:=by rw[<-e];exact cw (Ds h) rfl
theorem js (h:Y[t]?=some (.dict l))(hl:l.length<10000)(e:rV l s v=l'):jm Y (.ref t) (.str s) v=some (Y.set t<|.dict l'):=(Du h).trans (by rw[<-e];exact if_pos hl)
end
abbrev tB (ck cp ct cg ci ce:Nat):iP:=[(dR,.ref ck),(dF,.ref cp),(dO,.ref ct),(bw,.ref cg),(kS,.ref ci),(jH,.ref ce)]
abbrev tC (tt tv tu:Nat):iP:=[(gA,.ref tt),(gL,.ref tv),(gM,.ref tu)]
theorem dE (k f:Nat)(vs:aH)(Y:af):run tx (k+1) f vs Y=bn tx (run tx k) f vs Y:=rfl
section
variable {k:Nat} {Y:af} {t td tt tv tu:Nat} {s:Str}
theorem pS (h:Y[t]?=some (.inst 236 td))(h':Y[td]?=some (.dict<|tC tt tv tu)):run tx (k+1) 228 [.ref t,.str aC] Y=.ok (.ref tt) Y:=by
 rw[dE];apply bh (i:=Qy) (R:=(some<|.ref tt,_)) rfl rfl rfl;exact ah (bO<|fF (ar (I rfl) ag rfl) rfl<|b0 rfl h h' rfl rfl rfl) rfl
theorem rK (h:Y[t]?=some (.inst 236 td))(h':Y[td]?=some (.dict<|tC tt tv tu)):run tx (k+1) 228 [.ref t,.str g6] Y=.ok (.ref tv) Y:=by
 rw[dE];apply bh (i:=Qy) (R:=(some<|.ref tv,_)) rfl rfl rfl;exact ah (bO<|gm (ar (I rfl) ag rfl) rfl<|b0 rfl h h' rfl rfl rfl) rfl
theorem Fk (h:Y[t]?=some (.inst 236 td))(h':Y[td]?=some (.dict<|tC tt tv tu)){src:V}{all:aH}(nW:same Y src all=true):∀(l:aH),(∀x∈l,∃q rows,run tx (k+1) 228 [.ref t,x] Y=.ok (.ref q) Y/\Y[q]?=some (.dict rows)/\aM rows s=none)->
  dr (je (run tx (k+1)) [none,none,some<|.str s,some<|.ref t] [1] [.m .In (.l 2)<|.bI (.l 3) pD [.l 1]]<|.l 1) src all l [] Y=.ok [] Y
 | [],_=>cf
 |x::l,hx=>by
  refine de (hx x<|.head _) λq rows e1 e2 e3=>bq (jO rfl<|m5 (v:=.bool false) (al:=Y) ?_ rfl) nW<|Fk h h' nW l λy hy=>hx y<|.tail _ hy
  exact ar (I rfl) (bR (I rfl) (b8 h h' rfl rfl) (aa (I rfl) ae) e1) (wT e2 (by rw[e3];rfl):cS Y .In (.str s) (.ref q)=some false)
theorem rL (h:Y[t]?=some (.inst 236 td))(h':Y[td]?=some (.dict<|tC tt tv tu)){us:iP}(hu:Y[tu]?=some (.dict us))(hn:aM us s=none){l:aH}(hx:∀x∈l,∃q rows,run tx (k+1) 228 [.ref t,x] Y=.ok (.ref q) Y/\Y[q]?=some (.dict rows)/\aM rows s=none):
  run tx (k+2) 233 [.ref t,.str s,.U l] Y=.ok (.bool false) (Y++[.list []]++[.list []]):=by
 rw[dE];apply bh (i:=UL) (R:=(some<|.bool false,_)) rfl rfl rfl;exact ah (bO<|iL<|gw (ar (I rfl) (b0 rfl h h' rfl rfl rfl) (wT hu (by rw[hn];rfl):cS Y .In (.str s) (.ref tu)=some false)) rfl<|gv<|ar (d7 (I rfl) rfl<|Fk h h' rfl l hx) (bk ae)<|iO (ak aq) aq) rfl
end
structure Ad where
 (m d ck cp ct cg ci ce:Nat)
structure Td where
 (t td tt tv tu:Nat)
structure Rw where
 (k p tab g i:iP)
structure Tw where
 (t v u:iP)
abbrev m9 (A:Ad)(r:Rw):mK:=[(A.m,.inst 367 A.d),(A.d,.dict<|tB A.ck A.cp A.ct A.cg A.ci A.ce),(A.ck,.dict r.k),(A.cp,.dict r.p),(A.ct,.dict r.tab),(A.cg,.dict r.g),(A.ci,.dict r.i)]
abbrev nf (B:Td)(q:Tw):mK:=[(B.t,.inst 236 B.td),(B.td,.dict<|tC B.tt B.tv B.tu),(B.tt,.dict q.t),(B.tv,.dict q.v),(B.tu,.dict q.u)]
abbrev iZ (A:Ad)(B:Td)(r:Rw)(q:Tw)(R:mK):mK:=m9 A r++(nf B q++R)
abbrev dT (names:aH)(pub:Bool):iP:=[(jj,.U names),(ka,.bool pub),(mx,.int 0)]
abbrev zz (names:aH)(n:Str)(pub:Bool):V:=.U [.str sW,.int 0,.U names,.str n,.bool pub]
def jt (n:Str):Bool:=!(jy n zx)&&!(jy n [aR,dN,df])
section
variable {k:Nat} {Y ax:af} {A:Ad} {B:Td} {r:Rw} {q:Tw} {R:mK} {l:mK}
theorem Hs.pair (h:Hs ax Y l){c c':ao}:Hs ax (Y++[c,c']) (l++[(Y.length,c),(Y.length+1,c')]):=by
 have:=(h.add (c:=c)).add (c:=c');rw[bT,bT,cN] at this;exact this
theorem KL {names:aH}{pub:Bool}:run tx (k+1) 200 [.ref (Y.length+1),.U names,.bool pub,.int 0] (jD Y 203 [])=.ok .none (jD Y 203<|dT names pub):=by
 rw[dE];apply bh (i:=UJ) (R:=(none,_)) rfl rfl rfl;refine ah (aA (I rfl)<|jp (I rfl) (ko rfl<|aO rfl)<|kq rfl)<|ah (aA (I rfl)<|jp (I rfl) (ko rfl<|aO rfl)<|kq rfl) ?_
 exact ah (aA (I rfl)<|jp (I rfl) (ko rfl<|aO rfl)<|kq rfl) az
theorem cZ {l:iP}{s:Str}{v:V}(h:aM l s=none):rV l s v=l++[(s,v)]:=by
 unfold rV;rw[if_neg];intro ha;unfold aM at h;rw[List.any_eq_true] at ha;refine aJ ha λp hp e=>?_;rw[Option.map_eq_none_iff,List.find?_eq_none] at h;exact h p hp e
theorem Hi (h:Hs ax Y (iZ A B r q R)){names:aH}(hl:names.length<100){md:Str}(hm:aM r.tab md=some (.ref B.t)){n:Str}(hf:jt n=true)(h1:aM q.t n=none)(h2:aM q.v n=none)(h3:aM q.u n=none)(hu:q.u.length<100){pub:Bool}:
  ∃Y' e,run tx (k+3) 287 [.ref A.m,.str md,zz names n pub] Y=.ok .none Y'/\Hs ax Y' (iZ A B r ⟨q.t,q.v,q.u++[(n,.ref (e+1))]⟩<|R++[(e,.dict<|dT names pub),(e+1,.inst 203 e)])/\du ax Y':=by
 unfold jt at hf;rw[ln,oE,oE] at hf;have hp:cS Y .In (.str n) (.U [.str mv,.str iz,.str iA,.str iB,.str fM,.str gf,.str iC,.str iD,.str dM,.str ff,.str cY])=some false:=by rw[<-hf.1];rfl
 have hw:cS Y .In (.str n) (.U [.str aR,.str dN,.str df])=some false:=by rw[<-hf.2];rfl
 have tk:=rL (k:=k) (l:=[.str aC,.str g6]) (h.get 7 rfl) (h.get 8 rfl) (h.get 11 rfl) h3 (λx hx=>by
  rcases aX.mp hx with rfl | hx
  ·exact fc _ _ (pS (h.get 7 rfl)<|h.get 8 rfl) (h.get 9 rfl) h1
  ·rw[cM.mp hx];exact⟨_,_,rK (h.get 7 rfl)<|h.get 8 rfl,h.get 10 rfl,h2⟩)
 have g:=(h.push (J:=[.list []])).push (J:=[.list []]);have g':=g.pair (c:=.dict<|dT names pub) (c':=.inst 203 (Y++[ao.list []]++[ao.list []]).length);have g'':=g'.set 11 rfl (c':=.dict<|q.u++[(n,.ref<|(Y++[ao.list []]++[ao.list []]).length+1)]);refine fc _ ((Y++[ao.list []]++[ao.list []]).length) ?_ ?_ g''.grow
 rotate_left
 ·exact g''
 rw[dE];apply bh (i:=UN) (R:=(none,_)) rfl rfl rfl;refine ah (aA (aT<|aa (aG (I rfl) ag rfl)<|aa (aG (I rfl) ag rfl)<|aa (aG (I rfl) ag rfl)<|aa (aG (I rfl) ag rfl) ae)<|eH rfl rfl<|aS aE<|aS aE<|aS aE<|aS aE dk)<|ah (aA (gm (ar (I rfl) ag rfl) rfl<|I rfl) aE) ?_
 refine ah (aA (aG (b0 rfl (h.get 0 rfl) (h.get 1 rfl) rfl rfl rfl) (I rfl)<|fD (h.get 4 rfl) hm) aE)<|ah (aB (ar (I rfl) ag hp) rfl az) ?_
 exact ah (aB (iL<|gw (ar (I rfl) ag hw) rfl<|gv<|bR (I rfl) (b8 (h.get 7 rfl) (h.get 8 rfl) rfl rfl) (aa (I rfl)<|aa (aT<|aa ag<|aa ag ae) ae) tk) rfl az)<|ah (aA (vI rfl (aa (cP (aa (I rfl) ae)<|ch rfl<|cb ‹_› rfl)<|aa (I rfl)<|aa (I rfl) ae) KL)<|fW (b0 rfl (g'.get 7 rfl) (g'.get 8 rfl) rfl rfl rfl) (I rfl)<|js (g'.get 11 rfl) (cb ‹_› rfl)<|cZ h3) az
end
section
variable {k:Nat} {Y ax:af} {A:Ad} {B:Td} {r:Rw} {q:Tw} {R:mK} {l:mK}
variable {md n path kind:Str} {pv:V}
theorem yc (h:Hs ax Y (iZ A B r q R))(hj:∀(Y:af) (k:Nat),run tx (k+1) 172 [.str md,.str n] Y=.ok (.str path) Y)(hm:aM r.tab md=some (.ref B.t))(hf:jt n=true)(h1:aM q.t n=none)(h3:aM q.u n=none)(h4:aM r.k path=none)(h5:aM r.p path=none)(hl:r.k.length<1000/\r.p.length<1000/\q.t.length<1000/\q.v.length<1000):
  ∃Y',run tx (k+3) 268 [.ref A.m,.str md,.str n,.str kind,.U [.str aC],pv,.int 0] Y=.ok .none Y'/\Hs ax Y' (iZ A B ⟨r.k++[(path,.str kind)],r.p++[(path,pv)],r.tab,r.g,r.i⟩ ⟨q.t++[(n,.str path)],q.v,q.u⟩ R):=by
 unfold jt at hf;rw[ln,oE,oE] at hf;have hp:cS Y .In (.str n) (.U [.str mv,.str iz,.str iA,.str iB,.str fM,.str gf,.str iC,.str iD,.str dM,.str ff,.str cY])=some false:=by rw[<-hf.1];rfl
 have tk:=rL (k:=k) (l:=[.str aC]) (h.get 7 rfl) (h.get 8 rfl) (h.get 11 rfl) h3 (λx hx=>by
  rw[cM.mp hx];exact⟨_,_,pS (h.get 7 rfl)<|h.get 8 rfl,h.get 9 rfl,h1⟩)
 have g:=(h.push (J:=[.list []])).push (J:=[.list []]);have g0:=g.set 9 rfl (c':=.dict<|q.t++[(n,.str path)]);have gk:=g0.set 2 rfl (c':=.dict<|r.k++[(path,.str kind)]);refine bF _ ?_<|gk.set 3 rfl (c':=.dict (r.p++[(path,pv)]))
 rw[dE];apply bh (i:=MO) (R:=(none,_)) rfl rfl rfl;refine ah (aA (aT<|aa (aG (b0 rfl (h.get 0 rfl) (h.get 1 rfl) rfl rfl rfl) (I rfl)<|fD (h.get 4 rfl) hm)<|aa (aL (aa (I rfl)<|aa (I rfl) ae)<|hj _ _) ae)<|eH rfl rfl<|aS aE<|aS aE dk)<|ah (aB (eS<|hJ (ar ag (I rfl) rfl) rfl<|iS<|ar (I rfl) ag hp) rfl az) ?_
 refine ah (aB (iL<|gw (bR (I rfl) (b8 (h.get 7 rfl) (h.get 8 rfl) rfl rfl) (aa (I rfl)<|aa (I rfl) ae) tk) rfl<|gv<|ar (I rfl) (b0 rfl (g.get 0 rfl) (g.get 1 rfl) rfl rfl rfl) (wT (g.get 2 rfl) (by rw[h4];rfl):cS (Y++[ao.list []]++[ao.list []]) .In (.str path) (.ref A.ck)=some false)) rfl az)<|ah (gR (I rfl) rfl<|a8 (ah (aA (I rfl)<|fW (bR (I rfl) (b8 (g.get 7 rfl) (g.get 8 rfl) rfl rfl) (aa (I rfl) ae)<|pS (g.get 7 rfl)<|g.get 8 rfl) (I rfl)<|js (g.get 9 rfl) (by omega)<|cZ h1) az) rfl eY) ?_
 exact ah (aA (I rfl)<|fW (b0 rfl (g0.get 0 rfl) (g0.get 1 rfl) rfl rfl rfl) (I rfl)<|js (g0.get 2 rfl) (by omega)<|cZ h4)<|ah (aA (I rfl)<|fW (b0 rfl (gk.get 0 rfl) (gk.get 1 rfl) rfl rfl rfl) (I rfl)<|js (gk.get 3 rfl) (by omega)<|cZ h5) az
theorem Hj (h:Hs ax Y (iZ A B r q R))(hj:∀(Y:af) (k:Nat),run tx (k+1) 172 [.str md,.str n] Y=.ok (.str path) Y)(hm:aM r.tab md=some (.ref B.t))(hf:jt n=true)(h2:aM q.v n=none)(h3:aM q.u n=none)(h4:aM r.k path=none)(h5:aM r.p path=none)(hl:r.k.length<1000/\r.p.length<1000/\q.t.length<1000/\q.v.length<1000):
  ∃Y',run tx (k+3) 268 [.ref A.m,.str md,.str n,.str kind,.U [.str g6],pv,.int 0] Y=.ok .none Y'/\Hs ax Y' (iZ A B ⟨r.k++[(path,.str kind)],r.p++[(path,pv)],r.tab,r.g,r.i⟩ ⟨q.t,q.v++[(n,.str path)],q.u⟩ R):=by
 unfold jt at hf;rw[ln,oE,oE] at hf;have hp:cS Y .In (.str n) (.U [.str mv,.str iz,.str iA,.str iB,.str fM,.str gf,.str iC,.str iD,.str dM,.str ff,.str cY])=some false:=by rw[<-hf.1];rfl
 have tk:=rL (k:=k) (l:=[.str g6]) (h.get 7 rfl) (h.get 8 rfl) (h.get 11 rfl) h3 (λx hx=>by
  rw[cM.mp hx];exact⟨_,_,rK (h.get 7 rfl)<|h.get 8 rfl,h.get 10 rfl,h2⟩)
 have g:=(h.push (J:=[.list []])).push (J:=[.list []]);have g0:=g.set 10 rfl (c':=.dict<|q.v++[(n,.str path)]);have gk:=g0.set 2 rfl (c':=.dict<|r.k++[(path,.str kind)]);refine bF _ ?_<|gk.set 3 rfl (c':=.dict (r.p++[(path,pv)]))
 rw[dE];apply bh (i:=MO) (R:=(none,_)) rfl rfl rfl;refine ah (aA (aT<|aa (aG (b0 rfl (h.get 0 rfl) (h.get 1 rfl) rfl rfl rfl) (I rfl)<|fD (h.get 4 rfl) hm)<|aa (aL (aa (I rfl)<|aa (I rfl) ae)<|hj _ _) ae)<|eH rfl rfl<|aS aE<|aS aE dk)<|ah (aB (eS<|kZ (ar ag (I rfl) rfl) rfl) rfl az) ?_
 refine ah (aB (iL<|gw (bR (I rfl) (b8 (h.get 7 rfl) (h.get 8 rfl) rfl rfl) (aa (I rfl)<|aa (I rfl) ae) tk) rfl<|gv<|ar (I rfl) (b0 rfl (g.get 0 rfl) (g.get 1 rfl) rfl rfl rfl) (wT (g.get 2 rfl) (by rw[h4];rfl):cS (Y++[ao.list []]++[ao.list []]) .In (.str path) (.ref A.ck)=some false)) rfl az)<|ah (gR (I rfl) rfl<|a8 (ah (aA (I rfl)<|fW (bR (I rfl) (b8 (g.get 7 rfl) (g.get 8 rfl) rfl rfl) (aa (I rfl) ae)<|rK (g.get 7 rfl)<|g.get 8 rfl) (I rfl)<|js (g.get 10 rfl) (by omega)<|cZ h2) az) rfl eY) ?_
 exact ah (aA (I rfl)<|fW (b0 rfl (g0.get 0 rfl) (g0.get 1 rfl) rfl rfl rfl) (I rfl)<|js (g0.get 2 rfl) (by omega)<|cZ h4)<|ah (aA (I rfl)<|fW (b0 rfl (gk.get 0 rfl) (gk.get 1 rfl) rfl rfl rfl) (I rfl)<|js (gk.get 3 rfl) (by omega)<|cZ h5) az
theorem D4 (h:Hs ax Y (iZ A B r q R))(hj:∀(Y:af) (k:Nat),run tx (k+1) 172 [.str md,.str n] Y=.ok (.str path) Y)(hm:aM r.tab md=some (.ref B.t))(hf:jt n=true)(h1:aM q.t n=none)(h2:aM q.v n=none)(h3:aM q.u n=none)(h4:aM r.k path=none)(h5:aM r.p path=none)(hl:r.k.length<1000/\r.p.length<1000/\q.t.length<1000/\q.v.length<1000):
  ∃Y',run tx (k+3) 268 [.ref A.m,.str md,.str n,.str kind,.U [.str aC,.str g6],pv,.int 0] Y=.ok .none Y'/\Hs ax Y' (iZ A B ⟨r.k++[(path,.str kind)],r.p++[(path,pv)],r.tab,r.g,r.i⟩ ⟨q.t++[(n,.str path)],q.v++[(n,.str path)],q.u⟩ R):=by
 unfold jt at hf;rw[ln,oE,oE] at hf;have hp:cS Y .In (.str n) (.U [.str mv,.str iz,.str iA,.str iB,.str fM,.str gf,.str iC,.str iD,.str dM,.str ff,.str cY])=some false:=by rw[<-hf.1];rfl
 have tk:=rL (k:=k) (l:=[.str aC,.str g6]) (h.get 7 rfl) (h.get 8 rfl) (h.get 11 rfl) h3 (λx hx=>by
  rcases aX.mp hx with rfl | hx
  ·exact fc _ _ (pS (h.get 7 rfl)<|h.get 8 rfl) (h.get 9 rfl) h1
  ·rw[cM.mp hx];exact⟨_,_,rK (h.get 7 rfl)<|h.get 8 rfl,h.get 10 rfl,h2⟩)
 have g:=(h.push (J:=[.list []])).push (J:=[.list []]);have g0:=g.set 9 rfl (c':=.dict<|q.t++[(n,.str path)]);have g1:=g0.set 10 rfl (c':=.dict<|q.v++[(n,.str path)]);have gk:=g1.set 2 rfl (c':=.dict<|r.k++[(path,.str kind)]);refine bF _ ?_<|gk.set 3 rfl (c':=.dict (r.p++[(path,pv)]))
 rw[dE];apply bh (i:=MO) (R:=(none,_)) rfl rfl rfl;refine ah (aA (aT<|aa (aG (b0 rfl (h.get 0 rfl) (h.get 1 rfl) rfl rfl rfl) (I rfl)<|fD (h.get 4 rfl) hm)<|aa (aL (aa (I rfl)<|aa (I rfl) ae)<|hj _ _) ae)<|eH rfl rfl<|aS aE<|aS aE dk)<|ah (aB (eS<|hJ (ar ag (I rfl) rfl) rfl<|iS<|ar (I rfl) ag hp) rfl az) ?_
 refine ah (aB (iL<|gw (bR (I rfl) (b8 (h.get 7 rfl) (h.get 8 rfl) rfl rfl) (aa (I rfl)<|aa (I rfl) ae) tk) rfl<|gv<|ar (I rfl) (b0 rfl (g.get 0 rfl) (g.get 1 rfl) rfl rfl rfl) (wT (g.get 2 rfl) (by rw[h4];rfl):cS (Y++[ao.list []]++[ao.list []]) .In (.str path) (.ref A.ck)=some false)) rfl az)<|ah (gR (I rfl) rfl<|a8 (ah (aA (I rfl)<|fW (bR (I rfl) (b8 (g.get 7 rfl) (g.get 8 rfl) rfl rfl) (aa (I rfl) ae)<|pS (g.get 7 rfl)<|g.get 8 rfl) (I rfl)<|js (g.get 9 rfl) (by omega)<|cZ h1) az) rfl<|a8 (ah (aA (I rfl)<|fW (bR (I rfl) (b8 (g0.get 7 rfl) (g0.get 8 rfl) rfl rfl) (aa (I rfl) ae)<|rK (g0.get 7 rfl)<|g0.get 8 rfl) (I rfl)<|js (g0.get 10 rfl) (by omega)<|cZ h2) az) rfl eY) ?_
 exact ah (aA (I rfl)<|fW (b0 rfl (g1.get 0 rfl) (g1.get 1 rfl) rfl rfl rfl) (I rfl)<|js (g1.get 2 rfl) (by omega)<|cZ h4)<|ah (aA (I rfl)<|fW (b0 rfl (gk.get 0 rfl) (gk.get 1 rfl) rfl rfl rfl) (I rfl)<|js (gk.get 3 rfl) (by omega)<|cZ h5) az
end
noncomputable abbrev cQ:V:=.U [.U [],.U []]
theorem Oj {a:Nat}(h:a<1000):a<10000:=by exact cb ‹_› rfl
section
variable {k:Nat} {Y ax:af} {A:Ad} {B:Td} {r:Rw} {q:Tw} {R:mK} {l:mK}
theorem Ol (h:Hs ax Y (iZ A B r q R)){md n path kind:Str}{pv item:V}(i0:∀Y,cq Y item (.int 0)=some (.str kind))(i1:∀Y,cq Y item (.int 1)=some (.int 0))(i2:∀Y,cq Y item (.int 2)=some (.str n))(i3:∀Y,cq Y item (.int 3)=some cQ)(hj:∀(Y:af) (k:Nat),run tx (k+1) 172 [.str md,.str n] Y=.ok (.str path) Y)(hm:aM r.tab md=some (.ref B.t))(hf:jt n=true)(h1:aM q.t n=none)(h3:aM q.u n=none)(h4:aM r.k path=none)(h5:aM r.p path=none)(h6:aM r.g path=none)(h7:aM r.i path=none)(hl:r.k.length<1000/\r.p.length<1000/\q.t.length<1000/\q.v.length<1000)(mu:r.g.length<1000/\r.i.length<1000):
  ∃Y',run tx (k+4) 273 [.ref A.m,.str md,item,.U [.str aC],pv] Y=.ok .none Y'/\Hs ax Y' (iZ A B ⟨r.k++[(path,.str kind)],r.p++[(path,pv)],r.tab,r.g++[(path,cQ)],r.i++[(path,item)]⟩ ⟨q.t++[(n,.str path)],q.v,q.u⟩ R):=by
 refine aJ (yc (k:=k) h (kind:=kind) (pv:=pv) hj hm hf h1 h3 h4 h5 hl) λal e g=>?_;have g1:=g.push (J:=[.list []]);have g2:=g1.set 5 rfl (c':=.dict (r.g++[(path,cQ)]));refine bF _ ?_<|g2.set 6 rfl (c':=.dict (r.i++[(path,item)]))
 rw[dE];apply bh (i:=QA) (R:=(none,_)) rfl rfl rfl;refine ah (ic<|bR (I rfl) (b8 (h.get 0 rfl) (h.get 1 rfl) rfl rfl) (aa (I rfl)<|aa (aG (I rfl) ag<|i2 _)<|aa (aG (I rfl) ag<|i0 _)<|aa (I rfl)<|aa (I rfl)<|aa (aG (I rfl) ag<|i1 _) ae) e)<|ah (aA (aL (aa (I rfl)<|aa (aG (I rfl) ag<|i2 _) ae)<|hj _ _) aE) ?_
 refine ah (aA (aG (I rfl) ag<|i3 _)<|eH rfl rfl<|aS aE<|aS aE dk)<|ah (aA (aT<|aa (cP (aa (I rfl) ae)<|ch rfl<|aO rfl)<|aa (cP (aa (d7 (I rfl) rfl cf) ae)<|ch (cG aq)<|aO rfl) ae)<|fW (b0 rfl (g1.get 0 rfl) (g1.get 1 rfl) rfl rfl rfl) (I rfl)<|js (g1.get 5 rfl) (Oj mu.1)<|cZ h6) ?_
 exact ah (aA (I rfl)<|fW (b0 rfl (g2.get 0 rfl) (g2.get 1 rfl) rfl rfl rfl) (I rfl)<|js (g2.get 6 rfl) (Oj mu.2)<|cZ h7) az
theorem KM (h:Hs ax Y (iZ A B r q R)){md n path kind:Str}{pv item:V}(i0:∀Y,cq Y item (.int 0)=some (.str kind))(i1:∀Y,cq Y item (.int 1)=some (.int 0))(i2:∀Y,cq Y item (.int 2)=some (.str n))(i3:∀Y,cq Y item (.int 3)=some cQ)(hj:∀(Y:af) (k:Nat),run tx (k+1) 172 [.str md,.str n] Y=.ok (.str path) Y)(hm:aM r.tab md=some (.ref B.t))(hf:jt n=true)(h1:aM q.t n=none)(h2:aM q.v n=none)(h3:aM q.u n=none)(h4:aM r.k path=none)(h5:aM r.p path=none)(h6:aM r.g path=none)(h7:aM r.i path=none)(hl:r.k.length<1000/\r.p.length<1000/\q.t.length<1000/\q.v.length<1000)(mu:r.g.length<1000/\r.i.length<1000):
  ∃Y',run tx (k+4) 273 [.ref A.m,.str md,item,.U [.str aC,.str g6],pv] Y=.ok .none Y'/\Hs ax Y' (iZ A B ⟨r.k++[(path,.str kind)],r.p++[(path,pv)],r.tab,r.g++[(path,cQ)],r.i++[(path,item)]⟩ ⟨q.t++[(n,.str path)],q.v++[(n,.str path)],q.u⟩ R):=by
 refine aJ (D4 (k:=k) h (kind:=kind) (pv:=pv) hj hm hf h1 h2 h3 h4 h5 hl) λal e g=>?_;have g1:=g.push (J:=[.list []]);have g2:=g1.set 5 rfl (c':=.dict (r.g++[(path,cQ)]));refine bF _ ?_<|g2.set 6 rfl (c':=.dict (r.i++[(path,item)]))
 rw[dE];apply bh (i:=QA) (R:=(none,_)) rfl rfl rfl;refine ah (ic<|bR (I rfl) (b8 (h.get 0 rfl) (h.get 1 rfl) rfl rfl) (aa (I rfl)<|aa (aG (I rfl) ag<|i2 _)<|aa (aG (I rfl) ag<|i0 _)<|aa (I rfl)<|aa (I rfl)<|aa (aG (I rfl) ag<|i1 _) ae) e)<|ah (aA (aL (aa (I rfl)<|aa (aG (I rfl) ag<|i2 _) ae)<|hj _ _) aE) ?_
 refine ah (aA (aG (I rfl) ag<|i3 _)<|eH rfl rfl<|aS aE<|aS aE dk)<|ah (aA (aT<|aa (cP (aa (I rfl) ae)<|ch rfl<|aO rfl)<|aa (cP (aa (d7 (I rfl) rfl cf) ae)<|ch (cG aq)<|aO rfl) ae)<|fW (b0 rfl (g1.get 0 rfl) (g1.get 1 rfl) rfl rfl rfl) (I rfl)<|js (g1.get 5 rfl) (Oj mu.1)<|cZ h6) ?_
 exact ah (aA (I rfl)<|fW (b0 rfl (g2.get 0 rfl) (g2.get 1 rfl) rfl rfl rfl) (I rfl)<|js (g2.get 6 rfl) (Oj mu.2)<|cZ h7) az
end
abbrev cU (n:Str)(pv:V):V:=.U [.str jh,.int 0,.str n,cQ,.none,.U [],.none,.none,pv]
abbrev bf (n:Str)(pv:V):V:=.U [.str bo,.int 0,.str n,cQ,.str nu,.U [],pv]
abbrev bQ (n:Str)(pv:V):V:=.U [.str da,.int 0,.str n,cQ,.U [.U [.str Qo,.str nu,.U []]],pv]
abbrev hV (n:Str)(items:aH)(pv:V):V:=.U [.str bY,.int 0,.str n,.U items,pv]
abbrev Sq (n:Nat):af:=[.dict<|tC (n+2) (n+3) (n+4),.inst 236 n,.dict [],.dict [],.dict []]
section
variable {k:Nat} {Y ax:af} {A:Ad} {B:Td} {r:Rw} {q:Tw} {R:mK} {l l':mK}
theorem Hs.perm (h:Hs ax Y l)(p:l'.Perm l):Hs ax Y l':=⟨(p.map _).nodup_iff.mpr h.nd,λq hq=>h.ge q<|p.mem_iff.mp hq,λq hq=>h.told q<|p.mem_iff.mp hq,h.grow⟩
theorem KN {L:af}(i:Nat):(Y++L)[Y.length+i]?=L[i]?:=by rw[kN<|ej _ _,sM]
theorem Om {L:af}(i:Nat)(c:ao):(Y++L).set (Y.length+i) c=Y++L.set i c:=by rw[List.set_append_right _ _<|ej _ _,sM]
theorem v7:run tx (k+1) 221 [.ref (Y.length+1)] (jD Y 236 [])=.ok .none (Y++Sq Y.length):=by
 have st:∀(L:af) (rows tJ:iP) (s:Str) {N:Loc} {ss:List S} {RF:Res fA} (hl:N[0]?=some (some<|.ref (Y.length+1))) (h0:L[0]?=some (.dict rows)) (h1:L[1]?=some (.inst 236 Y.length)) (ha:uT.attrs 236 s=true) (hr:rows.length<499) (hd:rV rows s (.ref (Y++L).length)=tJ),
   b9 (run tx k) 400 ss N (Y++(L++[ao.dict []]).set 0 (.dict tJ))=RF->b9 (run tx k) 400 (.set (.attr (.l 0) s) (.dct [] [])::ss) N (Y++L)=RF:=λL rows tJ s {N ss RF} hl h0 h1 ha hr hd hk=>by
  have g0:(Y++L++[ao.dict []])[Y.length]?=some (.dict rows):=ak (by rw[show Y.length=Y.length+0 from rfl,KN];exact h0);have g1:(Y++L++[ao.dict []])[Y.length+1]?=some (.inst 236 Y.length):=ak (by rw[KN];exact h1);refine ah (aA (mD ae)<|jp (I hl) (v6 g1 g0 ha hr)<|D3 g1 g0 hd) ?_;rw[bT,show Y.length=Y.length+0 from rfl,Om];exact hk
 have l5:∀(L:af),(Y++L).length=Y.length+L.length:=λL=>cN;rw[dE];apply bh (i:=UK) (R:=(none,_)) rfl rfl rfl;refine st [.dict [],.inst 236 Y.length] [] [(gA,.ref (Y.length+2))] gA rfl rfl rfl rfl (aO rfl) (by rw[l5];rfl) ?_;refine st [.dict [(gA,.ref (Y.length+2))],.inst 236 Y.length,.dict []] [(gA,.ref (Y.length+2))] [(gA,.ref (Y.length+2)),(gL,.ref (Y.length+3))] gL rfl rfl rfl rfl (aO rfl) (by rw[l5];rfl) ?_;refine st [.dict [(gA,.ref (Y.length+2)),(gL,.ref (Y.length+3))],.inst 236 Y.length,.dict [],.dict []] [(gA,.ref (Y.length+2)),(gL,.ref (Y.length+3))] (tC (Y.length+2) (Y.length+3) (Y.length+4)) gM rfl rfl rfl rfl (aO rfl) (by rw[l5];rfl) ?_;exact az
theorem Hs.tab (h:Hs ax Y l):Hs ax (Y++Sq Y.length) (l++nf ⟨Y.length+1,Y.length,Y.length+2,Y.length+3,Y.length+4⟩ ⟨[],[],[]⟩):=by
 have h2:=(h.pair (c:=.dict<|tC (Y.length+2) (Y.length+3) (Y.length+4)) (c':=.inst 236 Y.length)).add (c:=.dict []);have h4:=(h2.add (c:=.dict [])).add (c:=.dict []);simp only[bT,cN,dI,List.length_nil,sQ,sR] at h4;exact h4.perm<|(List.Perm.append_left l<|List.Perm.swap _ _ _)
theorem wU (h:Hs ax Y (iZ A B r q R)){path eP n:Str}{pv:V}(hj:∀(Y:af) (k:Nat),run tx (k+1) 172 [.str path,.str Qo] Y=.ok (.str eP) Y)(h4:aM r.k eP=none)(hl:r.k.length<1000):
  ∃Y',run tx (k+2) 280 [.ref A.m,.str path,bQ n pv] Y=.ok .none Y'/\Hs ax Y' (iZ A B ⟨r.k++[(eP,.str cz)],r.p,r.tab,r.g,r.i⟩ q R):=by
 refine⟨_,?_,h.set 2 rfl⟩;rw[dE];apply bh (i:=UM) (R:=(none,_)) rfl rfl rfl;refine ah (gR (aG (I rfl) ag rfl) rfl<|a8 (ah (aB (ar (aL (aa (I rfl)<|aa (aG (I rfl) ag rfl) ae)<|hj _ _) (b0 rfl (h.get 0 rfl) (h.get 1 rfl) rfl rfl rfl) (wT (h.get 2 rfl) (by rw[h4];rfl):cS Y .In (.str eP) (.ref A.ck)=some false)) rfl az)<|ah (aA ag<|fW (b0 rfl (h.get 0 rfl) (h.get 1 rfl) rfl rfl rfl) (aL (aa (I rfl)<|aa (aG (I rfl) ag rfl) ae)<|hj _ _)<|js (h.get 2 rfl) (Oj hl)<|cZ h4) az) rfl eY) az
end
section
variable {k:Nat} {Y ax:af} {A:Ad} {B:Td} {r:Rw} {q:Tw} {R:mK} {l:mK}
theorem PN {a:Nat}(h:a<900):a<1000:=by exact cb ‹_› rfl
theorem Wf {a b:Nat}(h:a<900/\b<900):a<1000/\b<1000:=⟨PN h.1,PN h.2⟩
theorem On {a b c d:Nat}(h:a<900/\b<900/\c<900/\d<900):a<1000/\b<1000/\c<1000/\d<1000:=⟨PN h.1,PN h.2.1,PN h.2.2.1,PN h.2.2.2⟩
theorem ZT {a b:iP}{x:Str × V}(h:a.length<900):(a++[x]).length<1000:=by rw[cN,j4];exact eu ‹_› rfl
variable {md n:Str}
theorem Hk (h:Hs ax Y (iZ A B r q R)){names:aH}(hl:names.length<100)(hm:aM r.tab md=some (.ref B.t))(hf:jt n=true)(h1:aM q.t n=none)(h2:aM q.v n=none)(h3:aM q.u n=none)(hu:q.u.length<100){pub:Bool}:
  ∃Y' e,run tx (k+4) 261 [.ref A.m,.str md,zz names n pub] Y=.ok .none Y'/\Hs ax Y' (iZ A B r ⟨q.t,q.v,q.u++[(n,.ref (e+1))]⟩<|R++[(e,.dict<|dT names pub),(e+1,.inst 203 e)]):=by
 refine de (Hi (k:=k) h hl hm hf h1 h2 h3 hu (pub:=pub)) λY' e e1 g M=>kz Y' e ?_ g;rw[dE];apply bh (i:=FT) (R:=(none,_)) rfl rfl rfl;exact ah (aA (aT<|aa (aG (I rfl) ag rfl)<|aa (aG (I rfl) ag rfl) ae)<|eH rfl rfl<|aS aE<|aS aE dk)<|(ah (bl (ar (I rfl) ag rfl) rfl<|ah (ic<|bR (I rfl) (b8 (h.get 0 rfl) (h.get 1 rfl) rfl rfl) (aa (I rfl)<|aa (I rfl) ae) e1) az) az)
variable {path:Str} {pv:V}
theorem v8 (h:Hs ax Y (iZ A B r q R))(hj:∀(Y:af) (k:Nat),run tx (k+1) 172 [.str md,.str n] Y=.ok (.str path) Y)(hm:aM r.tab md=some (.ref B.t))(hf:jt n=true)(h2:aM q.v n=none)(h3:aM q.u n=none)(h4:aM r.k path=none)(h5:aM r.p path=none)(h7:aM r.i path=none)(hl:r.k.length<900/\r.p.length<900/\q.t.length<900/\q.v.length<900)(mu:r.g.length<900/\r.i.length<900):
  ∃Y',run tx (k+4) 261 [.ref A.m,.str md,cU n pv] Y=.ok .none Y'/\Hs ax Y' (iZ A B ⟨r.k++[(path,.str jh)],r.p++[(path,pv)],r.tab,r.g,r.i++[(path,cU n pv)]⟩ ⟨q.t,q.v++[(n,.str path)],q.u⟩ R):=by
 refine aJ (Hj (k:=k) h (kind:=jh) (pv:=pv) hj hm hf h2 h3 h4 h5<|On hl) λal e1 g=>bF _ ?_<|g.set 6 rfl (c':=.dict<|r.i++[(path,cU n pv)])
 rw[dE];apply bh (i:=FT) (R:=(none,_)) rfl rfl rfl;exact ah (aA (aT<|aa (aG (I rfl) ag rfl)<|aa (aG (I rfl) ag rfl) ae)<|eH rfl rfl<|aS aE<|aS aE dk)<|(ah (aB (ar (I rfl) ag rfl) rfl<|ah (aB (ar (I rfl) ag rfl) rfl<|ah (aB (ar (I rfl) ag rfl) rfl<|ah (aB (ar (I rfl) ag rfl) rfl<|ah (aB (ar (I rfl) ag rfl) rfl<|ah (bl (ar (I rfl) (aT<|aa ag<|aa ag ae) rfl) rfl<|ah (ic<|bR (I rfl) (b8 (h.get 0 rfl) (h.get 1 rfl) rfl rfl) (aa (I rfl)<|aa (aG (I rfl) ag rfl)<|aa (I rfl)<|aa (aT<|aa ag ae)<|aa (fF (ar (I rfl) ag rfl) rfl<|aG (I rfl) ag rfl)<|aa (I rfl) ae) e1)<|ah (aA (I rfl)<|fW (b0 rfl (g.get 0 rfl) (g.get 1 rfl) rfl rfl rfl) (aL (aa (I rfl)<|aa (aG (I rfl) ag rfl) ae)<|hj _ _)<|js (g.get 6 rfl) (Oj<|PN mu.2)<|cZ h7) az) az) az) az) az) az) az)
theorem nT (h:Hs ax Y (iZ A B r q R))(hj:∀(Y:af) (k:Nat),run tx (k+1) 172 [.str md,.str n] Y=.ok (.str path) Y)(hm:aM r.tab md=some (.ref B.t))(hf:jt n=true)(h1:aM q.t n=none)(h2:aM q.v n=none)(h3:aM q.u n=none)(h4:aM r.k path=none)(h5:aM r.p path=none)(h6:aM r.g path=none)(h7:aM r.i path=none)(hl:r.k.length<900/\r.p.length<900/\q.t.length<900/\q.v.length<900)(mu:r.g.length<900/\r.i.length<900):
  ∃Y',run tx (k+5) 261 [.ref A.m,.str md,bf n pv] Y=.ok .none Y'/\Hs ax Y' (iZ A B ⟨r.k++[(path,.str bo)],r.p++[(path,pv)],r.tab,r.g++[(path,cQ)],r.i++[(path,bf n pv)]⟩ ⟨q.t++[(n,.str path)],q.v++[(n,.str path)],q.u⟩ R):=by
 refine aJ (KM (k:=k) h (kind:=bo) (pv:=pv) (item:=bf n pv) (λM=>rfl) (λM=>rfl) (λM=>rfl) (λM=>rfl) hj hm hf h1 h2 h3 h4 h5 h6 h7 (On hl)<|Wf mu) λal e1 g=>bF _ ?_ g;rw[dE];apply bh (i:=FT) (R:=(none,_)) rfl rfl rfl;exact ah (aA (aT<|aa (aG (I rfl) ag rfl)<|aa (aG (I rfl) ag rfl) ae)<|eH rfl rfl<|aS aE<|aS aE dk)<|(ah (aB (ar (I rfl) ag rfl) rfl<|ah (aB (ar (I rfl) ag rfl) rfl<|ah (bl (ar (I rfl) ag rfl) rfl<|ah (aA (gm (ar (aG (I rfl) ag rfl) ag rfl) rfl<|aT<|aa ag<|aa ag ae) aE)<|ah (ic<|bR (I rfl) (b8 (h.get 0 rfl) (h.get 1 rfl) rfl rfl) (aa (I rfl)<|aa (I rfl)<|aa (I rfl)<|aa (aG (I rfl) ag rfl) ae) e1) az) az) az) az)
theorem qL (h:Hs ax Y (iZ A B r q R)){eP:Str}(hj:∀(Y:af) (k:Nat),run tx (k+1) 172 [.str md,.str n] Y=.ok (.str path) Y)(hjV:∀(Y:af) (k:Nat),run tx (k+1) 172 [.str path,.str Qo] Y=.ok (.str eP) Y)(hm:aM r.tab md=some (.ref B.t))(hf:jt n=true)(h1:aM q.t n=none)(h3:aM q.u n=none)(h4:aM r.k path=none)(h4V:aM (r.k++[(path,.str da)]) eP=none)(h5:aM r.p path=none)(h6:aM r.g path=none)(h7:aM r.i path=none)(hl:r.k.length<900/\r.p.length<900/\q.t.length<900/\q.v.length<900)(mu:r.g.length<900/\r.i.length<900):
  ∃Y',run tx (k+5) 261 [.ref A.m,.str md,bQ n pv] Y=.ok .none Y'/\Hs ax Y' (iZ A B ⟨r.k++[(path,.str da)]++[(eP,.str cz)],r.p++[(path,pv)],r.tab,r.g++[(path,cQ)],r.i++[(path,bQ n pv)]⟩ ⟨q.t++[(n,.str path)],q.v,q.u⟩ R):=by
 refine aJ (Ol (k:=k) h (kind:=da) (pv:=pv) (item:=bQ n pv) (λM=>rfl) (λM=>rfl) (λM=>rfl) (λM=>rfl) hj hm hf h1 h3 h4 h5 h6 h7 (On hl)<|Wf mu) λal e1 g=>aJ (wU (k:=k+2) g (n:=n) (pv:=pv) hjV h4V<|ZT (b:=[]) hl.1) λay e2 g2=>bF _ ?_ g2;rw[dE];apply bh (i:=FT) (R:=(none,_)) rfl rfl rfl;exact ah (aA (aT<|aa (aG (I rfl) ag rfl)<|aa (aG (I rfl) ag rfl) ae)<|eH rfl rfl<|aS aE<|aS aE dk)<|(ah (aB (ar (I rfl) ag rfl) rfl<|ah (aB (ar (I rfl) ag rfl) rfl<|ah (aB (ar (I rfl) ag rfl) rfl<|ah (bl (ar (I rfl) ag rfl) rfl<|ah (ic<|bR (I rfl) (b8 (h.get 0 rfl) (h.get 1 rfl) rfl rfl) (aa (I rfl)<|aa (I rfl)<|aa (aT<|aa ag ae)<|aa (aG (I rfl) ag rfl) ae) e1)<|ah (ic<|bR (I rfl) (b8 (g.get 0 rfl) (g.get 1 rfl) rfl rfl) (aa (aL (aa (I rfl)<|aa (aG (I rfl) ag rfl) ae)<|hj _ _)<|aa (I rfl) ae) e2) az) az) az) az) az)
theorem Hl (h:Hs ax Y (iZ A B r q R)){items:aH}(hj:∀(Y:af) (k:Nat),run tx (k+1) 172 [.str md,.str n] Y=.ok (.str path) Y)(hm:aM r.tab md=some (.ref B.t))(hf:jt n=true)(h1:aM q.t n=none)(h3:aM q.u n=none)(h4:aM r.k path=none)(h5:aM r.p path=none)(h8:aM r.tab path=none)(hl:r.k.length<900/\r.p.length<900/\q.t.length<900/\q.v.length<900)(mu:r.tab.length<900):
  ∃Y' B',run tx (k+4) 261 [.ref A.m,.str md,hV n items pv] Y=.ok .none Y'/\Hs ax Y' (iZ A B ⟨r.k++[(path,.str bY)],r.p++[(path,pv)],r.tab++[(path,.ref B'.t)],r.g,r.i⟩ ⟨q.t++[(n,.str path)],q.v,q.u⟩<|R++nf B' ⟨[],[],[]⟩):=by
 refine aJ (yc (k:=k) h (kind:=bY) (pv:=pv) hj hm hf h1 h3 h4 h5<|On hl) λal e1 g=>?_;have g1:=g.tab;refine kz _ ⟨al.length+1,al.length,al.length+2,al.length+3,al.length+4⟩ ?_<|g1.set 4 rfl (c':=.dict<|r.tab++[(path,.ref (al.length+1))])
 rw[dE];apply bh (i:=FT) (R:=(none,_)) rfl rfl rfl;exact ah (aA (aT<|aa (aG (I rfl) ag rfl)<|aa (aG (I rfl) ag rfl) ae)<|eH rfl rfl<|aS aE<|aS aE dk)<|(ah (aB (ar (I rfl) ag rfl) rfl<|ah (bl (ar (I rfl) ag rfl) rfl<|ah (ic<|bR (I rfl) (b8 (h.get 0 rfl) (h.get 1 rfl) rfl rfl) (aa (I rfl)<|aa (aG (I rfl) ag rfl)<|aa (I rfl)<|aa (aT<|aa ag ae)<|aa (aG (I rfl) ag rfl)<|aa (I rfl) ae) e1)<|ah (aA (vI rfl ae v7)<|fW (b0 rfl (g1.get 0 rfl) (g1.get 1 rfl) rfl rfl rfl) (aL (aa (I rfl)<|aa (aG (I rfl) ag rfl) ae)<|hj _ _)<|js (g1.get 4 rfl) (Oj<|PN mu)<|cZ h8) az) az) az)
end
noncomputable def Pl.is:Pl->Pl->Bool
 | .o,.o=>true
 | .a,.a=>true
 | .ab,.ab=>true
 |_,_=>false
structure Lk where
 (place:Pl) (names:db) (i:Nat) (pub opn:Bool)
def uN (i:Nat):Str:=Xn++Str.ofString (toString<|Int.ofNat i)
abbrev Lk.item (l:Lk):V:=zz (l.names.map .str) (uN l.i) l.pub
noncomputable def cL (p:Pl)(ls:List Lk):List Lk:=ls.filter λl=>p.is l.place
abbrev ju (p:Pl)(pb:Nat->Bool):aH:=[cU dX<|.bool<|pb<|jx p .f,bf cB<|.bool<|pb<|jx p .S,bQ eN<|.bool<|pb<|jx p .E]
def iU (pb:Nat->Bool)(ls:List Lk):aH:=ju .ab pb++(cL .ab ls).map Lk.item
def jv (pb:Nat->Bool)(ls:List Lk):aH:=ju .a pb++hV Cq (iU pb ls) (.bool<|pb 1)::(cL .a ls).map Lk.item
def kJ (pb:Nat->Bool)(ls:List Lk):aH:=ju .o pb++hV dK (jv pb ls) (.bool<|pb 0)::(cL .o ls).map Lk.item
structure BV (R:mK)(row:Str × V)(l:Lk):Prop where
 name:row.1=uN l.i
 cells:∃e,row.2=.ref (e+1)/\(e,.dict<|dT (l.names.map .str) l.pub)∈R/\(e+1,.inst 203 e)∈R
inductive fZ (R:mK):List (Str × V)->List Lk->Prop
 |nil:fZ R [] []
 |snoc {rows ls row l}:fZ R rows ls->BV R row l->fZ R (rows++[row]) (ls++[l])
abbrev zA:List S:=[.ite (.m .Eq (.i (.l 5)<|.xi 0)<|.xs bY) [.ex<|.bm (.l 2) .append [.U [.call 172 [.l 3,.i (.l 5)<|.xi 2],.bi .list [.i (.l 5)<|.xi 3]]]] [],.ex<|.bI (.l 0) uc [.l 3,.l 5]]
abbrev mH (O:av):V->Loc->af->Res fA:=λv N Y=>(ue O (.l 5) v N Y).bind λN Y=>b9 O 400 zA N Y
noncomputable abbrev nU (m it tl:Nat)(md:Str)(ti:Nat)(x:j9):Loc:=[some<|.ref m,some<|.ref it,some<|.ref tl,some<|.str md,some<|.ref ti,x,none,none,none]
section
variable {O:av} {k:Nat} {Y ax Y':af} {A:Ad} {B:Td} {r:Rw} {q:Tw} {R R':mK} {l:mK}
theorem BV.mono {row:Str × V}{u:Lk}(h:BV R row u)(k:∀x∈R,x∈R'):BV R' row u:=⟨h.name,by obtain⟨e,h1,h2,h3⟩:=h.cells;exact⟨e,h1,k _ h2,k _ h3⟩⟩
theorem fZ.mono {rows:iP}{us:List Lk}(h:fZ R rows us)(k:∀x∈R,x∈R'):fZ R' rows us:=by
 induction h with
 |nil=>exact .nil
 |snoc _ h2 ih=>exact .snoc ih<|h2.mono k
theorem fm {m it tl ti:Nat}{md kind:Str}{x:j9}{item:V}(h0:Y[m]?=some (.inst 367 A.d))(h1:Y[A.d]?=some (.dict<|tB A.ck A.cp A.ct A.cg A.ci A.ce))(hx:cq Y item (.int 0)=some (.str kind))(hn:decide (kind=bY)=false)(e:O 261 [.ref m,.str md,item] Y=.ok .none Y'):
  mH O item (nU m it tl md ti x) Y=.ok (none,nU m it tl md ti<|some item) Y':=by
 have h:b9 O 400 zA (nU m it tl md ti<|some item) Y=.ok (none,nU m it tl md ti<|some item) Y':=
  ah (aB (ar (aG (I rfl) ag hx) ag (show cS Y .Eq (.str kind) (.str bY)=some false by rw[<-hn];rfl)) rfl az) (ah (ic<|bR (I rfl) (b8 h0 h1 rfl rfl) (aa (I rfl)<|aa (I rfl) ae) e) az)
 exact h
theorem sE {it tl ti:Nat}{md:Str}(hm:aM r.tab md=some (.ref B.t)){all:aH}:∀(us:List Lk) {Y:af} {U:mK} {rows:iP} {done:List Lk} {x:j9},
  Hs ax Y (iZ A B r ⟨q.t,q.v,rows⟩ ((ti,.list all)::(R++U)))->fZ U rows done->rows.length+us.length<100->
  (∀u∈us,u.names.length<100/\jt (uN u.i)=true/\aM q.t (uN u.i)=none/\aM q.v (uN u.i)=none)->(us.map λu=>uN u.i).Nodup->(∀u∈us,aM rows (uN u.i)=none)->
  ∃Y' U' tJ x',jz (mH<|run tx (k+4)) (.ref ti) all (us.map Lk.item) (nU A.m it tl md ti x) Y=.ok (none,nU A.m it tl md ti x') Y'/\Hs ax Y' (iZ A B r ⟨q.t,q.v,tJ⟩ ((ti,.list all)::(R++U')))/\fZ U' tJ (done++us):=by
 intro us
 induction us with
 |nil=>
  intro Y U rows done x h hu _ _ _ _;exact Te Y U rows x<|Mq eY h (by rw[gI];exact hu)
 |cons u us ih=>
  intro Y U rows done x h hu hlen HJ tZ HF;rw[dI] at hlen;refine yp (HJ u<|.head _) λo1 o2 o3 o4=>?_;refine gG (Hk (k:=k) h (names:=u.names.map .str) (by rw[cy];exact o1) hm (n:=uN u.i) o2 o3 o4 (HF u<|.head _) (lm (ej _ _) hlen) (pub:=u.pub)) λal e e1 g=>?_;rw[eM,iy] at tZ;have HI:fZ (U++[(e,.dict<|dT (u.names.map .str) u.pub),(e+1,.inst 203 e)]) (rows++[(uN u.i,.ref (e+1))]) (done++[u]):=
   .snoc (hu.mono λx hx=>j5 _ hx) ⟨rfl,e,rfl,ll _<|.head _,ll _<|.tail _<|.head _⟩
  have g':Hs ax al (iZ A B r ⟨q.t,q.v,rows++[(uN u.i,.ref (e+1))]⟩ ((ti,.list all)::(R++(U++[(e,.dict<|dT (u.names.map .str) u.pub),(e+1,.inst 203 e)])))):=by
   rw[<-bT R];exact g
  obtain⟨ay,U',tJ,x',f1,f2,f3⟩:=ih g' HI (gX ‹_›) (λv hv=>HJ v<|.tail _ hv) tZ.2 (λv hv=>by
   have h1:=HF v<|.tail _ hv
   unfold aM at h1⊢;rw[Option.map_eq_none_iff] at h1⊢;rw[List.find?_append,h1,Option.none_or,w6]
   ·rfl
   ·rw[mN];intro he;exact tZ.1<|bX.mpr ⟨v,hv,he.symm⟩)
  refine Te ay U' tJ x'<|Mq (a8 (fm (h.get 0 rfl) (h.get 1 rfl) rfl (by decide+kernel) e1) (bc<|g.get 12 rfl) f1) f2 ?_
  rw[show done++u::us=done++[u]++us by simp];exact f3
end
abbrev Wg (pb:Nat->Bool)(tab:iP):Rw:=⟨[(z_,.str bY)],[(z_,.bool true)],tab,[],[]⟩
abbrev Wh (pb:Nat->Bool)(tab:iP):Rw:=⟨[(z_,.str bY),(dX,.str jh)],[(z_,.bool true),(dX,.bool<|pb 2)],tab,[],[(dX,cU dX<|.bool<|pb 2)]⟩
abbrev Wi (pb:Nat->Bool)(tab:iP):Rw:=⟨[(z_,.str bY),(dX,.str jh),(cB,.str bo)],[(z_,.bool true),(dX,.bool<|pb 2),(cB,.bool<|pb 3)],tab,[(cB,cQ)],[(dX,cU dX<|.bool<|pb 2),(cB,bf cB<|.bool<|pb 3)]⟩
abbrev Wj (pb:Nat->Bool)(tab:iP):Rw:=⟨[(z_,.str bY),(dX,.str jh),(cB,.str bo),(eN,.str da),(qh,.str cz)],[(z_,.bool true),(dX,.bool<|pb 2),(cB,.bool<|pb 3),(eN,.bool<|pb 4)],tab,[(cB,cQ),(eN,cQ)],[(dX,cU dX<|.bool<|pb 2),(cB,bf cB<|.bool<|pb 3),(eN,bQ eN<|.bool<|pb 4)]⟩
abbrev PO (pb:Nat->Bool)(tab:iP):Rw:=⟨[(z_,.str bY),(dX,.str jh),(cB,.str bo),(eN,.str da),(qh,.str cz),(dK,.str bY)],[(z_,.bool true),(dX,.bool<|pb 2),(cB,.bool<|pb 3),(eN,.bool<|pb 4),(dK,.bool<|pb 0)],tab,[(cB,cQ),(eN,cQ)],[(dX,cU dX<|.bool<|pb 2),(cB,bf cB<|.bool<|pb 3),(eN,bQ eN<|.bool<|pb 4)]⟩
abbrev Wk (pb:Nat->Bool)(tab:iP):Rw:=⟨[(z_,.str bY),(dX,.str jh),(cB,.str bo),(eN,.str da),(qh,.str cz),(dK,.str bY),(fC,.str jh)],[(z_,.bool true),(dX,.bool<|pb 2),(cB,.bool<|pb 3),(eN,.bool<|pb 4),(dK,.bool<|pb 0),(fC,.bool<|pb 5)],tab,[(cB,cQ),(eN,cQ)],[(dX,cU dX<|.bool<|pb 2),(cB,bf cB<|.bool<|pb 3),(eN,bQ eN<|.bool<|pb 4),(fC,cU dX<|.bool<|pb 5)]⟩
abbrev Wl (pb:Nat->Bool)(tab:iP):Rw:=⟨[(z_,.str bY),(dX,.str jh),(cB,.str bo),(eN,.str da),(qh,.str cz),(dK,.str bY),(fC,.str jh),(ez,.str bo)],[(z_,.bool true),(dX,.bool<|pb 2),(cB,.bool<|pb 3),(eN,.bool<|pb 4),(dK,.bool<|pb 0),(fC,.bool<|pb 5),(ez,.bool<|pb 6)],tab,[(cB,cQ),(eN,cQ),(ez,cQ)],[(dX,cU dX<|.bool<|pb 2),(cB,bf cB<|.bool<|pb 3),(eN,bQ eN<|.bool<|pb 4),(fC,cU dX<|.bool<|pb 5),(ez,bf cB<|.bool<|pb 6)]⟩
abbrev Wm (pb:Nat->Bool)(tab:iP):Rw:=⟨[(z_,.str bY),(dX,.str jh),(cB,.str bo),(eN,.str da),(qh,.str cz),(dK,.str bY),(fC,.str jh),(ez,.str bo),(gq,.str da),(pR,.str cz)],[(z_,.bool true),(dX,.bool<|pb 2),(cB,.bool<|pb 3),(eN,.bool<|pb 4),(dK,.bool<|pb 0),(fC,.bool<|pb 5),(ez,.bool<|pb 6),(gq,.bool<|pb 7)],tab,[(cB,cQ),(eN,cQ),(ez,cQ),(gq,cQ)],[(dX,cU dX<|.bool<|pb 2),(cB,bf cB<|.bool<|pb 3),(eN,bQ eN<|.bool<|pb 4),(fC,cU dX<|.bool<|pb 5),(ez,bf cB<|.bool<|pb 6),(gq,bQ eN<|.bool<|pb 7)]⟩
abbrev PP (pb:Nat->Bool)(tab:iP):Rw:=⟨[(z_,.str bY),(dX,.str jh),(cB,.str bo),(eN,.str da),(qh,.str cz),(dK,.str bY),(fC,.str jh),(ez,.str bo),(gq,.str da),(pR,.str cz),(aQ,.str bY)],[(z_,.bool true),(dX,.bool<|pb 2),(cB,.bool<|pb 3),(eN,.bool<|pb 4),(dK,.bool<|pb 0),(fC,.bool<|pb 5),(ez,.bool<|pb 6),(gq,.bool<|pb 7),(aQ,.bool<|pb 1)],tab,[(cB,cQ),(eN,cQ),(ez,cQ),(gq,cQ)],[(dX,cU dX<|.bool<|pb 2),(cB,bf cB<|.bool<|pb 3),(eN,bQ eN<|.bool<|pb 4),(fC,cU dX<|.bool<|pb 5),(ez,bf cB<|.bool<|pb 6),(gq,bQ eN<|.bool<|pb 7)]⟩
abbrev Sr (pb:Nat->Bool)(tab:iP):Rw:=⟨[(z_,.str bY),(dX,.str jh),(cB,.str bo),(eN,.str da),(qh,.str cz),(dK,.str bY),(fC,.str jh),(ez,.str bo),(gq,.str da),(pR,.str cz),(aQ,.str bY),(im,.str jh)],[(z_,.bool true),(dX,.bool<|pb 2),(cB,.bool<|pb 3),(eN,.bool<|pb 4),(dK,.bool<|pb 0),(fC,.bool<|pb 5),(ez,.bool<|pb 6),(gq,.bool<|pb 7),(aQ,.bool<|pb 1),(im,.bool<|pb 8)],tab,[(cB,cQ),(eN,cQ),(ez,cQ),(gq,cQ)],[(dX,cU dX<|.bool<|pb 2),(cB,bf cB<|.bool<|pb 3),(eN,bQ eN<|.bool<|pb 4),(fC,cU dX<|.bool<|pb 5),(ez,bf cB<|.bool<|pb 6),(gq,bQ eN<|.bool<|pb 7),(im,cU dX<|.bool<|pb 8)]⟩
abbrev Ss (pb:Nat->Bool)(tab:iP):Rw:=⟨[(z_,.str bY),(dX,.str jh),(cB,.str bo),(eN,.str da),(qh,.str cz),(dK,.str bY),(fC,.str jh),(ez,.str bo),(gq,.str da),(pR,.str cz),(aQ,.str bY),(im,.str jh),(io,.str bo)],[(z_,.bool true),(dX,.bool<|pb 2),(cB,.bool<|pb 3),(eN,.bool<|pb 4),(dK,.bool<|pb 0),(fC,.bool<|pb 5),(ez,.bool<|pb 6),(gq,.bool<|pb 7),(aQ,.bool<|pb 1),(im,.bool<|pb 8),(io,.bool<|pb 9)],tab,[(cB,cQ),(eN,cQ),(ez,cQ),(gq,cQ),(io,cQ)],[(dX,cU dX<|.bool<|pb 2),(cB,bf cB<|.bool<|pb 3),(eN,bQ eN<|.bool<|pb 4),(fC,cU dX<|.bool<|pb 5),(ez,bf cB<|.bool<|pb 6),(gq,bQ eN<|.bool<|pb 7),(im,cU dX<|.bool<|pb 8),(io,bf cB<|.bool<|pb 9)]⟩
abbrev zC (pb:Nat->Bool)(tab:iP):Rw:=⟨[(z_,.str bY),(dX,.str jh),(cB,.str bo),(eN,.str da),(qh,.str cz),(dK,.str bY),(fC,.str jh),(ez,.str bo),(gq,.str da),(pR,.str cz),(aQ,.str bY),(im,.str jh),(io,.str bo),(nS,.str da),(BU,.str cz)],[(z_,.bool true),(dX,.bool<|pb 2),(cB,.bool<|pb 3),(eN,.bool<|pb 4),(dK,.bool<|pb 0),(fC,.bool<|pb 5),(ez,.bool<|pb 6),(gq,.bool<|pb 7),(aQ,.bool<|pb 1),(im,.bool<|pb 8),(io,.bool<|pb 9),(nS,.bool<|pb 10)],tab,[(cB,cQ),(eN,cQ),(ez,cQ),(gq,cQ),(io,cQ),(nS,cQ)],[(dX,cU dX<|.bool<|pb 2),(cB,bf cB<|.bool<|pb 3),(eN,bQ eN<|.bool<|pb 4),(fC,cU dX<|.bool<|pb 5),(ez,bf cB<|.bool<|pb 6),(gq,bQ eN<|.bool<|pb 7),(im,cU dX<|.bool<|pb 8),(io,bf cB<|.bool<|pb 9),(nS,bQ eN<|.bool<|pb 10)]⟩
abbrev tw (p:Pl)(us:iP):Tw:=⟨[(cB,.str<|jn p .S),(eN,.str<|jn p .E)],[(dX,.str<|jn p .f),(cB,.str<|jn p .S)],us⟩
section
variable {O:av} {k:Nat} {Y ax Y':af} {A:Ad} {B:Td} {R:mK} {pb:Nat->Bool} {tab:iP}
variable {it tl ti:Nat} {all:aH} {x:j9}
theorem Oo (hm:aM tab z_=some (.ref B.t))(h:Hs ax Y (iZ A B (Wg pb tab) ⟨[],[],[]⟩ ((ti,.list all)::R))):
  ∃Y' x',(∀(rest:aH) (RF:Res fA),jz (mH<|run tx (k+5)) (.ref ti) all rest (nU A.m it tl z_ ti x') Y'=RF->jz (mH<|run tx (k+5)) (.ref ti) all (ju .o pb++rest) (nU A.m it tl z_ ti x) Y=RF)/\Hs ax Y' (iZ A B (Wj pb tab) (tw .o []) ((ti,.list all)::R)):=by
 refine aJ (v8 (k:=k+1) (path:=dX) (n:=dX) (pv:=.bool<|pb 2) h (λM M=>by lk) hm (by lk) (by lk) (by lk) (by lk) (by lk) (by lk) ⟨aO rfl,aO rfl,aO rfl,aO rfl⟩ ⟨aO rfl,aO rfl⟩) λal e1 g1=>?_;have g1:Hs ax al (iZ A B (Wh pb tab) ⟨[],[(dX,.str dX)],[]⟩ ((ti,.list all)::R)):=g1;refine aJ (nT (k:=k) (path:=cB) (n:=cB) (pv:=.bool<|pb 3) g1 (λM M=>by lk) hm (by lk) (by lk) (by lk) (by lk) (by lk) (by lk) (by lk) (by lk) ⟨aO rfl,aO rfl,aO rfl,aO rfl⟩ ⟨aO rfl,aO rfl⟩) λay e2 g2=>?_;have g2:Hs ax ay (iZ A B (Wi pb tab) ⟨[(cB,.str cB)],[(dX,.str dX),(cB,.str cB)],[]⟩ ((ti,.list all)::R)):=g2;refine aJ (qL (k:=k) (path:=eN) (eP:=qh) (n:=eN) (pv:=.bool<|pb 4) g2 (λM M=>by lk) (λM M=>by lk) hm (by lk) (by lk) (by lk) (by lk) (by lk) (by lk) (by lk) (by lk) ⟨aO rfl,aO rfl,aO rfl,aO rfl⟩ ⟨aO rfl,aO rfl⟩) λbD e3 g3=>kz bD (some<|bQ eN<|.bool<|pb 4) (λrest RF hk=>?_) g3;have s2:=fm (A:=A) (it:=it) (tl:=tl) (ti:=ti) (x:=some<|cU dX<|.bool<|pb 2) (kind:=bo) (item:=bf cB<|.bool<|pb 3) (O:=run tx (k+5)) (g1.get 0 rfl) (g1.get 1 rfl) rfl (by lk) e2;have s3:=fm (A:=A) (it:=it) (tl:=tl) (ti:=ti) (x:=some<|bf cB<|.bool<|pb 3) (kind:=da) (item:=bQ eN<|.bool<|pb 4) (O:=run tx (k+5)) (g2.get 0 rfl) (g2.get 1 rfl) rfl (by lk) e3;exact a8 (fm (A:=A) (it:=it) (tl:=tl) (ti:=ti) (x:=x) (kind:=jh) (item:=cU dX<|.bool<|pb 2) (O:=run tx (k+5)) (h.get 0 rfl) (h.get 1 rfl) rfl (by lk) e1) (bc<|g1.get 12 rfl)<|a8 s2 (bc<|g2.get 12 rfl)<|a8 s3 (bc<|g3.get 12 rfl) hk
theorem Op (hm:aM tab dK=some (.ref B.t))(h:Hs ax Y (iZ A B (PO pb tab) ⟨[],[],[]⟩ ((ti,.list all)::R))):
  ∃Y' x',(∀(rest:aH) (RF:Res fA),jz (mH<|run tx (k+5)) (.ref ti) all rest (nU A.m it tl dK ti x') Y'=RF->jz (mH<|run tx (k+5)) (.ref ti) all (ju .a pb++rest) (nU A.m it tl dK ti x) Y=RF)/\Hs ax Y' (iZ A B (Wm pb tab) (tw .a []) ((ti,.list all)::R)):=by
 refine aJ (v8 (k:=k+1) (path:=fC) (n:=dX) (pv:=.bool<|pb 5) h (λM M=>by lk) hm (by lk) (by lk) (by lk) (by lk) (by lk) (by lk) ⟨aO rfl,aO rfl,aO rfl,aO rfl⟩ ⟨aO rfl,aO rfl⟩) λal e1 g1=>?_;have g1:Hs ax al (iZ A B (Wk pb tab) ⟨[],[(dX,.str fC)],[]⟩ ((ti,.list all)::R)):=g1;refine aJ (nT (k:=k) (path:=ez) (n:=cB) (pv:=.bool<|pb 6) g1 (λM M=>by lk) hm (by lk) (by lk) (by lk) (by lk) (by lk) (by lk) (by lk) (by lk) ⟨aO rfl,aO rfl,aO rfl,aO rfl⟩ ⟨aO rfl,aO rfl⟩) λay e2 g2=>?_;have g2:Hs ax ay (iZ A B (Wl pb tab) ⟨[(cB,.str ez)],[(dX,.str fC),(cB,.str ez)],[]⟩ ((ti,.list all)::R)):=g2;refine aJ (qL (k:=k) (path:=gq) (eP:=pR) (n:=eN) (pv:=.bool<|pb 7) g2 (λM M=>by lk) (λM M=>by lk) hm (by lk) (by lk) (by lk) (by lk) (by lk) (by lk) (by lk) (by lk) ⟨aO rfl,aO rfl,aO rfl,aO rfl⟩ ⟨aO rfl,aO rfl⟩) λbD e3 g3=>kz bD (some<|bQ eN<|.bool<|pb 7) (λrest RF hk=>?_) g3;have s2:=fm (A:=A) (it:=it) (tl:=tl) (ti:=ti) (x:=some<|cU dX<|.bool<|pb 5) (kind:=bo) (item:=bf cB<|.bool<|pb 6) (O:=run tx (k+5)) (g1.get 0 rfl) (g1.get 1 rfl) rfl (by lk) e2;have s3:=fm (A:=A) (it:=it) (tl:=tl) (ti:=ti) (x:=some<|bf cB<|.bool<|pb 6) (kind:=da) (item:=bQ eN<|.bool<|pb 7) (O:=run tx (k+5)) (g2.get 0 rfl) (g2.get 1 rfl) rfl (by lk) e3;exact a8 (fm (A:=A) (it:=it) (tl:=tl) (ti:=ti) (x:=x) (kind:=jh) (item:=cU dX<|.bool<|pb 5) (O:=run tx (k+5)) (h.get 0 rfl) (h.get 1 rfl) rfl (by lk) e1) (bc<|g1.get 12 rfl)<|a8 s2 (bc<|g2.get 12 rfl)<|a8 s3 (bc<|g3.get 12 rfl) hk
theorem KO (hm:aM tab aQ=some (.ref B.t))(h:Hs ax Y (iZ A B (PP pb tab) ⟨[],[],[]⟩ ((ti,.list all)::R))):
  ∃Y' x',(∀(rest:aH) (RF:Res fA),jz (mH<|run tx (k+5)) (.ref ti) all rest (nU A.m it tl aQ ti x') Y'=RF->jz (mH<|run tx (k+5)) (.ref ti) all (ju .ab pb++rest) (nU A.m it tl aQ ti x) Y=RF)/\Hs ax Y' (iZ A B (zC pb tab) (tw .ab []) ((ti,.list all)::R)):=by
 refine aJ (v8 (k:=k+1) (path:=im) (n:=dX) (pv:=.bool<|pb 8) h (λM M=>by lk) hm (by lk) (by lk) (by lk) (by lk) (by lk) (by lk) ⟨aO rfl,aO rfl,aO rfl,aO rfl⟩ ⟨aO rfl,aO rfl⟩) λal e1 g1=>?_;have g1:Hs ax al (iZ A B (Sr pb tab) ⟨[],[(dX,.str im)],[]⟩ ((ti,.list all)::R)):=g1;refine aJ (nT (k:=k) (path:=io) (n:=cB) (pv:=.bool<|pb 9) g1 (λM M=>by lk) hm (by lk) (by lk) (by lk) (by lk) (by lk) (by lk) (by lk) (by lk) ⟨aO rfl,aO rfl,aO rfl,aO rfl⟩ ⟨aO rfl,aO rfl⟩) λay e2 g2=>?_;have g2:Hs ax ay (iZ A B (Ss pb tab) ⟨[(cB,.str io)],[(dX,.str im),(cB,.str io)],[]⟩ ((ti,.list all)::R)):=g2;refine aJ (qL (k:=k) (path:=nS) (eP:=BU) (n:=eN) (pv:=.bool<|pb 10) g2 (λM M=>by lk) (λM M=>by lk) hm (by lk) (by lk) (by lk) (by lk) (by lk) (by lk) (by lk) (by lk) ⟨aO rfl,aO rfl,aO rfl,aO rfl⟩ ⟨aO rfl,aO rfl⟩) λbD e3 g3=>kz bD (some<|bQ eN<|.bool<|pb 10) (λrest RF hk=>?_) g3;have s2:=fm (A:=A) (it:=it) (tl:=tl) (ti:=ti) (x:=some<|cU dX<|.bool<|pb 8) (kind:=bo) (item:=bf cB<|.bool<|pb 9) (O:=run tx (k+5)) (g1.get 0 rfl) (g1.get 1 rfl) rfl (by lk) e2;have s3:=fm (A:=A) (it:=it) (tl:=tl) (ti:=ti) (x:=some<|bf cB<|.bool<|pb 9) (kind:=da) (item:=bQ eN<|.bool<|pb 10) (O:=run tx (k+5)) (g2.get 0 rfl) (g2.get 1 rfl) rfl (by lk) e3;exact a8 (fm (A:=A) (it:=it) (tl:=tl) (ti:=ti) (x:=x) (kind:=jh) (item:=cU dX<|.bool<|pb 8) (O:=run tx (k+5)) (h.get 0 rfl) (h.get 1 rfl) rfl (by lk) e1) (bc<|g1.get 12 rfl)<|a8 s2 (bc<|g2.get 12 rfl)<|a8 s3 (bc<|g3.get 12 rfl) hk
end
section
variable {O:av} {k:Nat} {Y ax Y':af} {A:Ad} {B:Td} {r:Rw} {q:Tw} {R:mK} {W:Nat} {N loc':Loc} {RF:Res fA}
abbrev wV (O:av)(c:X):Loc->af->Res Bool:=λN Y=>dg<|aV O c N Y
variable {c:X} {ss:List S}
theorem D5 (h:jL (wV O c) (λN Y=>b9 O W ss N Y) W N Y=RF):oy O W (.whl c ss) N Y=RF:=h
theorem Su {n:Nat}{v:V}{al ay:af}(h:aV O c N Y=.ok v al)(q:br al v=some true)(e:b9 O W ss N al=.ok (none,loc') ay)(k:jL (wV O c) (λN Y=>b9 O W ss N Y) n loc' ay=RF):jL (wV O c) (λN Y=>b9 O W ss N Y) (n+1) N Y=RF:=aK (gj h q)<|aK e k
theorem Wn {n:Nat}{v:V}{al:af}(h:aV O c N Y=.ok v al)(q:br al v=some false):jL (wV O c) (λN Y=>b9 O W ss N Y) (n+1) N Y=.ok (none,N) al:=aK (gj h q) rfl
theorem Oq {l:aH}(hl:l.length<10000):wp Y .list [.U l]=.ok (.ref Y.length) (Y++[.list l]):=pN (Y:=Y) (v:=.U l) (k:=true) (f:=λM l=>alloc Y<|.list l) rfl hl
theorem BW {it tl ti:Nat}{all lf:aH}{x:j9}{md n path:Str}{pv:V}{items:aH}(h:Hs ax Y (iZ A B r q ((ti,.list all)::(tl,.list lf)::R)))(hi:items.length<1000)(hlf:lf.length<100)(hj:∀(Y:af) (k:Nat),run tx (k+1) 172 [.str md,.str n] Y=.ok (.str path) Y)(hm:aM r.tab md=some (.ref B.t))(hf:jt n=true)(h1:aM q.t n=none)(h3:aM q.u n=none)(h4:aM r.k path=none)(h5:aM r.p path=none)(h8:aM r.tab path=none)(hl:r.k.length<900/\r.p.length<900/\q.t.length<900/\q.v.length<900)(mu:r.tab.length<900):
  ∃Y' B' tn,mH (run tx (k+4)) (hV n items pv) (nU A.m it tl md ti x) Y=.ok (none,nU A.m it tl md ti<|some<|hV n items pv) Y'/\Hs ax Y' (iZ A B ⟨r.k++[(path,.str bY)],r.p++[(path,pv)],r.tab++[(path,.ref B'.t)],r.g,r.i⟩ ⟨q.t++[(n,.str path)],q.v,q.u⟩ ((ti,.list all)::(tl,.list<|lf++[.U [.str path,.ref tn]])::(R++(tn,.list items)::nf B' ⟨[],[],[]⟩))):=by
 have g:=h.add (c:=.list items);have g1:=g.set 13 rfl (c':=.list<|lf++[.U [.str path,.ref Y.length]]);refine gG (Hl (k:=k) (pv:=pv) (items:=items) (R:=(ti,.list all)::(tl,.list<|lf++[.U [.str path,.ref Y.length]])::(R++[(Y.length,.list items)])) g1 hj hm hf h1 h3 h4 h5 h8 hl mu) λay B' e g2=>Cw ay B' Y.length ?_ ?_
 ·have st:b9 (run tx (k+4)) 400 zA (nU A.m it tl md ti<|some<|hV n items pv) Y=.ok (none,nU A.m it tl md ti<|some<|hV n items pv) ay:=
   ah (bl (ar (aG (I rfl) ag rfl) ag rfl) rfl<|ah (ic<|km (I rfl) (hU (h.get 13 rfl)<|.inl rfl) (aa (aT<|aa (aL (aa (I rfl)<|aa (aG (I rfl) ag rfl) ae)<|hj _ _)<|aa (cP (aa (aG (I rfl) ag rfl) ae)<|Oq<|Oj hi) ae) ae)<|fH (g.get 13 rfl)<|cb ‹_› rfl) az) (ah (ic<|bR (I rfl) (b8 (g1.get 0 rfl) (g1.get 1 rfl) rfl rfl) (aa (I rfl)<|aa (I rfl) ae) e) az)
  exact st
 ·refine g2.perm<|List.Perm.of_eq ?_
  simp only[iZ,bT,sQ,sR]
end
noncomputable abbrev Fm:X:=.m .NotEq (.l 2)<|.s []
abbrev Fn:List S:=[.set (.U [.l 3,.l 4])<|.bm (.l 2) .pop [],.for (.l 5) (.l 4) zA]
section
variable {O:av} {Y:af} {A:Ad} {r:Rw} {R:mK} {N:Loc} {RF:Res fA}
theorem pop_at {t:Nat}{l:aH}{v:V}(h:Y[t]?=some (.list (l++[v])))(hl:l.length<100):Pe Y (.ref t) .pop []=.ok v (Y.set t<|.list l):=by
 refine cw (jP h)<|(if_pos (by rw[cN,j4];omega)).trans<|cw (by rw[List.getLast?_append,List.getLast?_singleton,Option.some_or]) ?_
 rw[List.dropLast_concat]
theorem zE {it tl ti:Nat}{x3 x4 x5 x':j9}{md:Str}{lf all:aH}{n:Nat}(h:Y[tl]?=some (.list<|lf++[.U [.str md,.ref ti]]))(hlf:lf.length<100)(ha:((Y++[ao.list []]).set tl<|.list lf)[ti]?=some (.list all)){ay:af}
  (hf:jz (mH O) (.ref ti) all all (nU A.m it tl md ti x5) ((Y++[ao.list []]).set tl<|.list lf)=.ok (none,nU A.m it tl md ti x') ay)
  (hk:jL (wV O Fm) (λN Y=>b9 O 400 Fn N Y) n (nU A.m it tl md ti x') ay=RF):
  jL (wV O Fm) (λN Y=>b9 O 400 Fn N Y) (n+1) [some<|.ref A.m,some<|.ref it,some<|.ref tl,x3,x4,x5,none,none,none] Y=RF:=by
 have en:=iO (ak h) aq;rw[(by cases lf<;>rfl:(lf++[V.U [.str md,.ref ti]]).isEmpty=false)] at en
 refine Su (ar (I rfl) (bk ae) en) rfl ?_ hk;exact ah (aA (km (I rfl) (hU (ak h)<|.inr rfl) ae<|pop_at (ak h) hlf)<|eH rfl rfl<|aS aE<|aS aE dk)<|ah (gR (I rfl) (cK ha) hf) az
theorem KP {it tl:Nat}{x3 x4 x5:j9}{n:Nat}(h:Y[tl]?=some (.list [])):jL (wV O Fm) (λN Y=>b9 O 400 Fn N Y) (n+1) [some<|.ref A.m,some<|.ref it,some<|.ref tl,x3,x4,x5,none,none,none] Y=.ok (none,[some<|.ref A.m,some<|.ref it,some<|.ref tl,x3,x4,x5,none,none,none]) (Y++[.list []]):=
 Wn (ar (I rfl) (bk ae)<|iO (ak h) aq) rfl
end
section
variable {O:av} {k:Nat} {Y ax Y':af} {A:Ad} {B:Td} {r:Rw} {q:Tw} {R L:mK} {N:Loc} {RF:Res fA}
theorem nh {m d:Nat}{rows:iP}{c:ao}{s:Str}(H:Hs ax Y ((d,.dict rows)::(m,.inst 367 d)::L))(hl:N[0]?=some (some<|.ref m))(ha:uT.attrs 367 s=true)(hr:rows.length<100)(hn:aM rows s=none):
  ∃Y',ue O (.attr (.l 0) s) (.ref Y.length) N (Y++[c])=.ok N Y'/\Hs ax Y' ((d,.dict<|rows++[(s,.ref Y.length)])::(m,.inst 367 d)::(L++[(Y.length,c)])):=by
 have g:=H.add (c:=c);exact bF _ (jp (I hl) (v6 (g.get 1 rfl) (g.get 0 rfl) ha<|cb ‹_› rfl)<|D3 (g.get 1 rfl) (g.get 0 rfl)<|cZ hn)<|g.set 0 rfl (c':=.dict<|rows++[(s,.ref Y.length)])
theorem KQ {t:Nat}{l:aH}(h:Y[t]?=some (.list l))(hl:l.length<10000):wp Y .list [.ref t]=.ok (.ref Y.length) (Y++[.list l]):=pN (f:=λM l=>alloc Y<|.list l) (cG h) hl
theorem KR {it:Nat}{items:aH}(h:Y[it]?=some (.list items))(hi:items.length<1000):∃Y' A B ti tl,(∀RF,b9 (run tx (k+5)) 400 [.whl Fm Fn] [some<|.ref A.m,some<|.ref it,some<|.ref tl,ai,ai,ai,ai,ai,ai] Y'=RF->b9 (run tx (k+5)) 400 Qz.body [some<|.ref (Y.length+1),some<|.ref it,ai,ai,ai,ai,ai,ai,ai] (jD Y 367 [])=RF)/\A.m=Y.length+1/\
  ∃e,Hs Y Y' (iZ A B ⟨[(z_,.str bY)],[(z_,.bool true)],[(z_,.ref B.t)],[],[]⟩ ⟨[],[],[]⟩ [(ti,.list items),(tl,.list [.U [.str z_,.ref ti]]),e]):=by
 have H0:Hs Y (jD Y 367 []) [(Y.length,.dict []),(Y.length+1,.inst 367 Y.length)]:=(⟨j6,(λq hq=>nomatch hq),(λq hq=>nomatch hq),du.refl⟩:Hs Y Y []).pair;generalize aaF:jD Y 367 []=σ0 at H0;refine aJ (nh (O:=run tx (k+5)) (N:=[some<|.ref (Y.length+1),some<|.ref it,ai,ai,ai,ai,ai,ai,ai]) (c:=.dict [(z_,.str bY)]) (s:=dR) H0 rfl rfl (aO rfl) rfl) λrM e1 H1=>aJ (nh (O:=run tx (k+5)) (N:=[some<|.ref (Y.length+1),some<|.ref it,ai,ai,ai,ai,ai,ai,ai]) (c:=.dict [(z_,.bool true)]) (s:=dF) H1 rfl rfl (aO rfl)<|by lk) λzV e2 H2=>aJ (nh (O:=run tx (k+5)) (N:=[some<|.ref (Y.length+1),some<|.ref it,ai,ai,ai,ai,ai,ai,ai]) (c:=.dict [(z_,.ref (zV.length+1))]) (s:=dO) H2.tab rfl rfl (aO rfl)<|by lk) λCr e3 H3=>aJ (nh (O:=run tx (k+5)) (N:=[some<|.ref (Y.length+1),some<|.ref it,ai,ai,ai,ai,ai,ai,ai]) (c:=.dict []) (s:=bw) H3 rfl rfl (aO rfl)<|by lk) λPQ e4 H4=>aJ (nh (O:=run tx (k+5)) (N:=[some<|.ref (Y.length+1),some<|.ref it,ai,ai,ai,ai,ai,ai,ai]) (c:=.dict []) (s:=kS) H4 rfl rfl (aO rfl)<|by lk) λFo e5 H5=>aJ (nh (O:=run tx (k+5)) (N:=[some<|.ref (Y.length+1),some<|.ref it,ai,ai,ai,ai,ai,ai,ai]) (c:=.dict []) (s:=jH) H5 rfl rfl (aO rfl)<|by lk) λOs e6 H6=>?_;have H8:=(H6.add (c:=.list items)).add (c:=.list [.U [.str z_,.ref Os.length]]);refine⟨_,⟨Y.length+1,Y.length,σ0.length,rM.length,(zV++Sq zV.length).length,Cr.length,PQ.length,Fo.length⟩,⟨zV.length+1,zV.length,zV.length+2,zV.length+3,zV.length+4⟩,Os.length,(Os++[ao.list items]).length,λRF hk=>?_,rfl,_,H8.perm<|JL _ _ _ _ _ _ _ _ _ _ _ _ _ _ _⟩;refine ah (aA (mD<|aa ag ae) e1)<|ah (aA (mD<|aa ag ae) e2) ?_
 refine ah (aA (mD<|aa (vI rfl ae v7) ae) e3)<|ah (aA (mD ae) e4) ?_
 refine ah (aA (mD ae) e5)<|ah (aA (mD ae) e6) ?_
 exact ah (aA (bk<|aa (aT<|aa ag<|aa (cP (aa (I rfl) ae)<|KQ (H6.grow.old _ _ h:Os[it]?=some (.list items))<|Oj hi) ae) ae) aE) hk
end
structure jg (ls:List Lk):Prop where
 len:ls.length<=6
 ok:∀l∈ls,l.i<6/\l.names.length<100
 nd:(ls.map (·.i)).Nodup
def p5 (p:Pl)(us:iP):Tw:=match p with
 | .o=>⟨[(cB,.str cB),(eN,.str eN),(dK,.str dK)],[(dX,.str dX),(cB,.str cB)],us⟩
 | .a=>⟨[(cB,.str ez),(eN,.str gq),(Cq,.str aQ)],[(dX,.str fC),(cB,.str ez)],us⟩
 | .ab=>⟨[(cB,.str io),(eN,.str nS)],[(dX,.str im),(cB,.str io)],us⟩
theorem v9:∀i,i<6->jt (uN i)=true/\∀p,aM (p5 p []).t (uN i)=none/\aM (p5 p []).v (uN i)=none
 | 0,_=>⟨by lk,λp=>by cases p<;>exact⟨by lk,by lk⟩⟩
 | 1,_=>⟨by lk,λp=>by cases p<;>exact⟨by lk,by lk⟩⟩
 | 2,_=>⟨by lk,λp=>by cases p<;>exact⟨by lk,by lk⟩⟩
 | 3,_=>⟨by lk,λp=>by cases p<;>exact⟨by lk,by lk⟩⟩
 | 4,_=>⟨by lk,λp=>by cases p<;>exact⟨by lk,by lk⟩⟩
 | 5,_=>⟨by lk,λp=>by cases p<;>exact⟨by lk,by lk⟩⟩
 |n+6,h=>absurd h (by omega)
theorem KT {i j:Nat}(hi:i<6)(hj:j<6)(h:uN i=uN j):i=j:=by
 have:∀i:Fin 6,∀j:Fin 6,uN i.1=uN j.1->i=j:=by decide+kernel
 exact bJ Fin.val<|this ⟨i,hi⟩ ⟨j,hj⟩ h
section
variable {ls:List Lk} {pb:Nat->Bool}
theorem lS (h:jg ls)(p:Pl):(cL p ls).length<=6:=eo (w8 _ _) h.len
theorem dp {p:Pl}{u:Lk}(h:u∈cL p ls):u∈ls:=(List.mem_filter.mp h).1
theorem ux (h:jg ls)(p:Pl):((cL p ls).map λu=>uN u.i).Nodup:=by
 have h1:((cL p ls).map (·.i)).Nodup:=h.nd.sublist<|(List.filter_sublist).map _
 rw[List.nodup_iff_pairwise_ne,List.pairwise_map] at h1⊢;refine h1.imp_of_mem λ{a b} ha hb dZ he=>dZ<|KT (h.ok _<|dp ha).1 (h.ok _<|dp hb).1 he
theorem tD (h:jg ls):(iU pb ls).length<1000:=by
 have:=lS h .ab;unfold iU;rw[cN,cy];show 3+_<1000;omega
theorem wa (h:jg ls):(jv pb ls).length<1000:=by
 have:=lS h .a;unfold jv;rw[cN];show 3+(((cL _ ls).map Lk.item).length+1)<1000;rw[cy];omega
theorem D6 (h:jg ls):(kJ pb ls).length<1000:=by
 have:=lS h .o;unfold kJ;rw[cN];show 3+(((cL _ ls).map Lk.item).length+1)<1000;rw[cy];omega
end
structure KU (ax Y:af)(A:Ad)(B0 B1 B2:Td)(u0 u1 u2:iP)(U:mK)(pb:Nat->Bool)(ls:List Lk):Prop where
 hs:∃R,Hs ax Y<|m9 A (zC pb [(z_,.ref B0.t),(dK,.ref B1.t),(aQ,.ref B2.t)])++(nf B2 (p5 .ab u2)++(nf B1 (p5 .a u1)++(nf B0 (p5 .o u0)++(U++R))))
 o:fZ U u0 (cL .o ls)
 a:fZ U u1 (cL .a ls)
 ab:fZ U u2 (cL .ab ls)
section
variable {k:Nat} {Y:af} {ls:List Lk} {pb:Nat->Bool}
theorem KV (iq:jg ls){it:Nat}(h:Y[it]?=some (.list<|kJ pb ls)):∃Y' A B0 B1 B2 u0 u1 u2 U,run tx (k+6) 254 [.ref (Y.length+1),.ref it] (jD Y 367 [])=.ok .none Y'/\A.m=Y.length+1/\KU Y Y' A B0 B1 B2 u0 u1 u2 U pb ls:=by
 obtain⟨rM,A,B0,P7,tl,S8,hm,e,H1⟩:=KR (k:=k) h<|D6 iq
 have P1:=(H1.push (J:=[.list []])).set 13 rfl (c':=.list []);obtain⟨zV,x2,c2,H2⟩:=Oo (k:=k) (tl:=tl) (it:=it) (all:=kJ pb ls) (x:=none) (tab:=[(z_,.ref B0.t)]) rfl P1;refine rR (BW (k:=k+1) (md:=z_) (n:=dK) (path:=dK) (items:=jv pb ls) (pv:=.bool<|pb 0) (it:=it) (x:=x2) H2 (wa iq) (aO rfl) (λM M=>by lk) rfl (by lk) (by lk) (by lk) (by lk) (by lk) (by lk) ⟨aO rfl,aO rfl,aO rfl,aO rfl⟩<|aO rfl) λCr B1 Mh s3 H3=>?_;have H3':Hs Y Cr (iZ A B0 (PO pb [(z_,.ref B0.t),(dK,.ref B1.t)]) (p5 .o []) ((P7,.list<|kJ pb ls)::(((tl,.list [.U [.str dK,.ref Mh]])::([e]++(Mh,.list<|jv pb ls)::nf B1 ⟨[],[],[]⟩))++[]))):=by rw[gI];exact H3
 refine Qf (sE (k:=k+1) (it:=it) (tl:=tl) (md:=z_) (q:=p5 .o []) (x:=some<|hV dK (jv pb ls)<|.bool<|pb 0) rfl (cL .o ls) H3' .nil (by have:=lS iq .o;show 0+_<100;omega) (λu hu=>⟨(iq.ok u<|dp hu).2,(v9 u.i (iq.ok u<|dp hu).1).1,(v9 u.i (iq.ok u<|dp hu).1).2 .o⟩) (ux iq .o) λM M=>rfl) λPQ U0 u0 x4 f4 H4 hu0=>?_;have H4p:=H4.perm<|xO _ (nf B0<|p5 .o u0) [e] U0 (nf B1 ⟨[],[],[]⟩) (P7,.list<|kJ pb ls) (tl,.list [.U [.str dK,.ref Mh]]) (Mh,.list<|jv pb ls)
 have P5:=(H4p.push (J:=[.list []])).set 13 rfl (c':=.list []);refine gG (Op (k:=k) (tl:=tl) (it:=it) (all:=jv pb ls) (x:=x4) (tab:=[(z_,.ref B0.t),(dK,.ref B1.t)]) rfl P5) λFo x5 c5 H5=>rR (BW (k:=k+1) (md:=dK) (n:=Cq) (path:=aQ) (items:=iU pb ls) (pv:=.bool<|pb 1) (it:=it) (x:=x5) H5 (tD iq) (aO rfl) (λM M=>by lk) rfl (by lk) (by lk) (by lk) (by lk) (by lk) (by lk) ⟨aO rfl,aO rfl,aO rfl,aO rfl⟩<|aO rfl) λOs B2 P9 s6 H6=>?_;have H6':Hs Y Os (iZ A B1 (PP pb [(z_,.ref B0.t),(dK,.ref B1.t),(aQ,.ref B2.t)]) (p5 .a []) ((Mh,.list<|jv pb ls)::(((tl,.list [.U [.str aQ,.ref P9]])::((nf B0 (p5 .o u0)++((P7,.list<|kJ pb ls)::([e]++U0)))++(P9,.list<|iU pb ls)::nf B2 ⟨[],[],[]⟩))++[]))):=by rw[gI];exact H6
 refine Qf (sE (k:=k+1) (it:=it) (tl:=tl) (md:=dK) (q:=p5 .a []) (x:=some<|hV Cq (iU pb ls)<|.bool<|pb 1) rfl (cL .a ls) H6' .nil (by have:=lS iq .a;show 0+_<100;omega) (λu hu=>⟨(iq.ok u<|dp hu).2,(v9 u.i (iq.ok u<|dp hu).1).1,(v9 u.i (iq.ok u<|dp hu).1).2 .a⟩) (ux iq .a) λM M=>rfl) λZU U1 u1 x7 f7 H7 hu1=>?_;have H7p:=H7.perm<|xO _ (nf B1<|p5 .a u1) (nf B0 (p5 .o u0)++((P7,.list<|kJ pb ls)::([e]++U0))) U1 (nf B2 ⟨[],[],[]⟩) (Mh,.list<|jv pb ls) (tl,.list [.U [.str aQ,.ref P9]]) (P9,.list<|iU pb ls)
 have P8:=(H7p.push (J:=[.list []])).set 13 rfl (c':=.list []);refine gG (KO (k:=k) (tl:=tl) (it:=it) (all:=iU pb ls) (x:=x7) (tab:=[(z_,.ref B0.t),(dK,.ref B1.t),(aQ,.ref B2.t)]) rfl P8) λXu x8 c8 H8=>?_;have H8':Hs Y Xu (iZ A B2 (zC pb [(z_,.ref B0.t),(dK,.ref B1.t),(aQ,.ref B2.t)]) (p5 .ab []) ((P9,.list<|iU pb ls)::(((tl,.list [])::(nf B1 (p5 .a u1)++((Mh,.list<|jv pb ls)::((nf B0 (p5 .o u0)++((P7,.list<|kJ pb ls)::([e]++U0)))++U1))))++[]))):=by rw[gI];exact H8
 refine Qf (sE (k:=k+1) (it:=it) (tl:=tl) (md:=aQ) (q:=p5 .ab []) (x:=x8) rfl (cL .ab ls) H8' .nil (by have:=lS iq .ab;show 0+_<100;omega) (λu hu=>⟨(iq.ok u<|dp hu).2,(v9 u.i (iq.ok u<|dp hu).1).1,(v9 u.i (iq.ok u<|dp hu).1).2 .ab⟩) (ux iq .ab) λM M=>rfl) λXv U2 u2 x9 f9 H9 hu2=>?_;have W9:=KP (O:=run tx (k+5)) (A:=A) (it:=it) (x3:=some<|.str aQ) (x4:=some<|.ref P9) (x5:=x9) (n:=396)<|H9.get 13 rfl
 have W8:=zE (A:=A) (it:=it) (x3:=some<|.str dK) (x4:=some<|.ref Mh) (lf:=[]) (H7p.get 13 rfl) (aO rfl) (P8.get 12 rfl) (c8 _ _ f9) W9;have W5:=zE (A:=A) (it:=it) (x3:=some<|.str z_) (x4:=some<|.ref P7) (lf:=[]) (H4p.get 13 rfl) (aO rfl) (P5.get 12 rfl) (c5 _ _<|a8 s6 (bc<|H6.get 12 rfl) f7) W8;have W1:=zE (A:=A) (it:=it) (x3:=none) (x4:=none) (lf:=[]) (H1.get 13 rfl) (aO rfl) (P1.get 12 rfl) (c2 _ _<|a8 s3 (bc<|H3.get 12 rfl) f4) W5;refine⟨Xv++[.list []],A,B0,B1,B2,u0,u1,u2,U0++(U1++U2),?_,hm,⟨[(P7,.list<|kJ pb ls),(Mh,.list<|jv pb ls),(P9,.list<|iU pb ls),(tl,.list []),e],?_⟩,hu0.mono λx hx=>j5 _ hx,hu1.mono λx hx=>ll _<|j5 _ hx,hu2.mono λx hx=>ll _<|ll _ hx⟩
 rotate_left
 ·have:=(H9.perm<|JM _ (nf B0<|p5 .o u0) (nf B1<|p5 .a u1) (nf B2<|p5 .ab u2) U0 U1 U2 (P7,.list<|kJ pb ls) (Mh,.list<|jv pb ls) (P9,.list<|iU pb ls) (tl,.list []) e).push (J:=[.list []]);rw[bT U0,bT U1];exact this
 rw[dE];apply bh (i:=Qz) (R:=(none,_)) rfl rfl rfl;exact S8 _<|ah (D5 W1) az
end
noncomputable def f6:Pl->Pl->Bool
 |_,.o=>true
 | .a,.a=>true
 | .ab,.a=>true
 | .ab,.ab=>true
 |_,_=>false
section
variable {k:Nat} {Y ax:af} {A:Ad} {B:Td} {r:Rw} {q:Tw} {R:mK} {RF:Res fA}
theorem D7 (p o:Pl):run tx (k+1) 186 [.str p.str,.str o.str] Y=.ok (.bool<|f6 p o) Y:=by cases p<;>cases o<;>lk
theorem Ot {m:Nat}(p o:Pl)(b:Bool):run tx (k+2) 294 [.ref m,.str p.str,.str o.str,.bool b] Y=.ok (.bool<|b||f6 p o) Y:=by
 rw[dE];apply bh (i:=UO) (R:=(some<|.bool<|b||f6 p o,_)) rfl rfl rfl;refine ah (bO<|iL<|vJ (I rfl) mj ?_) rfl;cases b
 ·exact gv<|aL (aa (I rfl)<|aa (I rfl) ae)<|D7 p o
 ·rfl
theorem KW (h:Hs ax Y (iZ A B r q R)){p o:Pl}{n path:Str}{b:Bool}{sn:Nat}(hk:aM r.k o.str=some (.str bY))(hm:aM r.tab o.str=some (.ref B.t))(hn:aM q.t n=some (.str path))(hp:aM r.p path=some (.bool b)){msg:Str}(L1:jJ Y .Add (.str path) (.str Er)=.ok (.str msg) Y):
  run tx (k+3) 330 [.ref A.m,.str p.str,.str o.str,.str n,.str aC,.int 0,.ref sn] Y=if b||f6 p o then .ok (.str path) Y else .exc 64 Y:=by
 have pre:∀{RF:Res fA},b9 (run tx (k+2)) 400 (MP.body.drop 4) [some<|.ref A.m,some<|.str p.str,some<|.str o.str,some<|.str n,some<|.str aC,some<|.int 0,some<|.ref sn,some<|.str path,some<|.ref B.t,none,none,none] Y=RF->b9 (run tx (k+2)) 400 MP.body [some<|.ref A.m,some<|.str p.str,some<|.str o.str,some<|.str n,some<|.str aC,some<|.int 0,some<|.ref sn,ai,ai,ai,ai,ai] Y=RF:=λ{RF} hx=>by
  refine ah (aB (ar (aG (b0 rfl (h.get 0 rfl) (h.get 1 rfl) rfl rfl rfl) (I rfl)<|fD (h.get 2 rfl) hk) ag<|by rfl) rfl az)<|ah (aB (ar (aG (b0 rfl (h.get 0 rfl) (h.get 1 rfl) rfl rfl rfl) (I rfl)<|fD (h.get 2 rfl) hk) ag<|by rfl) rfl az) ?_
  refine ah (aA (aG (b0 rfl (h.get 0 rfl) (h.get 1 rfl) rfl rfl rfl) (I rfl)<|fD (h.get 4 rfl) hm) aE)<|ah (aA (km (bR (I rfl) (b8 (h.get 7 rfl) (h.get 8 rfl) rfl rfl) (aa (I rfl) ae)<|pS (h.get 7 rfl)<|h.get 8 rfl) (We<|h.get 9 rfl) (aa (I rfl) ae)<|PM (h.get 9 rfl)<|by rw[hn,Option.getD_some]) aE) ?_
  exact hx
 have Cs:aV (run tx (k+2)) (.bI (.l 0) mP [.l 1,.l 2,.i (.attr (.l 0) dF)<|.l 7]) [some<|.ref A.m,some<|.str p.str,some<|.str o.str,some<|.str n,some<|.str aC,some<|.int 0,some<|.ref sn,some<|.str path,some<|.ref B.t,none,none,none] Y=.ok (.bool<|b||f6 p o) Y:=
  bR (I rfl) (b8 (h.get 0 rfl) (h.get 1 rfl) rfl rfl) (aa (I rfl)<|aa (I rfl)<|aa (aG (b0 rfl (h.get 0 rfl) (h.get 1 rfl) rfl rfl rfl) (I rfl)<|fD (h.get 3 rfl) hp) ae) (Ot p o b)
 rw[dE];cases hb:(b||f6 p o)<;>rw[hb] at Cs
 ·apply gE rfl rfl rfl;exact pre<|cT<|bl (ar (I rfl) ag rfl) rfl<|cT<|bl (lO Cs mj) rfl<|cT<|pj (fj (I rfl) ag L1)<|I rfl
 ·apply bh (i:=MP) (R:=(some<|.str path,_)) rfl rfl rfl;exact pre<|ah (bl (ar (I rfl) ag rfl) rfl<|ah (aB (lO Cs mj) rfl az)<|bS<|bO<|I rfl) rfl
theorem KY {m sn:Nat}{p:Pl}{here n:Str}{r:Res V}(hm:fg Y (.ref m) qm=some 330)(h:run tx k 330 [.ref m,.str p.str,.str here,.str n,.str aC,.int 0,.ref sn] Y=r)(hr:(∃v,r=.ok v Y)∨r=.exc 64 Y):run tx (k+1) 323 [.ref m,.str p.str,.str here,.str n,.str aC,.int 0,.ref sn] Y=r:=by
 rw[dE];have e:aV (run tx k) (.bI (.l 0) qm [.l 1,.l 2,.l 3,.l 4,.l 5,.l 6]) [some<|.ref m,some<|.str p.str,some<|.str here,some<|.str n,some<|.str aC,some<|.int 0,some<|.ref sn,none,none] Y=r:=
  bR (I rfl) hm (aa (I rfl)<|aa (I rfl)<|aa (I rfl)<|aa (I rfl)<|aa (I rfl)<|aa (I rfl) ae) h
 rcases hr with ZV | rfl
 ·refine aN ZV λv eA=>?_;subst eA;apply bh (i:=UQ) (R:=(some v,_)) rfl rfl rfl;exact ah (bl (ar (I rfl) ag rfl) rfl<|bS<|bO e) rfl
 ·apply gE rfl rfl rfl;exact cT<|bl (ar (I rfl) ag rfl) rfl<|cT<|pq e
end
inductive jE (O:av)(m sn:Nat)(p:Pl)(Y:af):Str->List Str->Res V->Prop
 |done {here}:jE O m sn p Y here [] (.ok (.str here) Y)
 |more {here n path rest r}:O 323 [.ref m,.str p.str,.str here,.str n,.str aC,.int 0,.ref sn] Y=.ok (.str path) Y->jE O m sn p Y path rest r->jE O m sn p Y here (n::rest) r
 |exc {here n rest}:O 323 [.ref m,.str p.str,.str here,.str n,.str aC,.int 0,.ref sn] Y=.exc 64 Y->jE O m sn p Y here (n::rest) (.exc 64 Y)
noncomputable abbrev PR:X:=.m .Lt (.l 7)<|.bi .len [.l 2]
abbrev PS:List S:=[.set (.l 8)<|.ite (.m .Eq (.bin .Add (.l 7)<|.xi 1)<|.bi .len [.l 2]) (.l 3)<|.xs aC,.set (.l 9)<|.bI (.l 0) nt [.l 1,.l 6,.i (.l 2)<|.l 7,.l 8,.l 4,.l 5],.ite (.m .Is (.l 9)<|.c .none) [.raise 52 (.bin .Add (.xs Ib)<|.bm (.xs sV) .join [.l 2])<|.l 4] [],.set (.U [.l 6,.l 7])<|.U [.l 9,.bin .Add (.l 7)<|.xi 1]]
abbrev zF (m:Nat)(p:Pl)(names:aH)(sn:Nat)(here:Str)(i:Nat)(x8 x9:j9):Loc:=[some<|.ref m,some<|.str p.str,some<|.U names,some<|.str aC,some<|.int 0,some<|.ref sn,some<|.str here,some<|.int i,x8,x9,none,none]
section
variable {O:av} {k:Nat} {Y:af} {r:Rw} {q:Tw} {R:mK} {N:Loc} {m sn:Nat} {p:Pl}
theorem ZW {c:X}{ss:List S}{n W C:Nat}{v:V}{al ay:af}(h:aV O c N Y=.ok v al)(q:br al v=some true)(e:b9 O W ss N al=.exc C ay):jL (wV O c) (λN Y=>b9 O W ss N Y) (n+1) N Y=.exc C ay:=aK (gj h q)<|dD e
theorem KZ {l:aH}{i:Nat}{v:V}(hv:l[i]?=some v)(hl:l.length<1000):cq Y (.U l) (.int i)=some v:=by
 have hi:=(bP.mp hv).1;rw[EQ];unfold Xp;rw[if_pos (by unfold fK;rw[eE (by omega),eE<|by omega];rfl)];have hs:seqIndex? (i:Int) l.length=some i:=by
  unfold seqIndex?;simp only[show¬(i:Int)<0 by omega,if_false];rw[if_pos (by rw[ln,mN,mN];omega)];rfl
 rw[hs];exact hv
theorem zG {l:aH}(hl:l.length<1000):wp Y .len [.U l]=.ok (.int l.length) Y:=pN (Y:=Y) (v:=.U l) (k:=true) (f:=λM l=>.ok (.int l.length) Y) rfl<|dU hl<|by lk
theorem lt_int {i j:Int}{b:Bool}(h:decide (i<j)=b):cS Y .Lt (.int i) (.int j)=some b:=by rw[<-h];rfl
abbrev whW (O:av)(m:Nat)(p:Pl)(names:db)(sn:Nat)(Y:af)(here:Str)(i:Nat)(x8 x9:j9)(n:Nat):Res fA:=jL (wV O PR) (λN Y=>b9 O 400 PS N Y) n (zF m p (names.map .str) sn here i x8 x9) Y
inductive zH (m:Nat)(p:Pl)(names:db)(sn:Nat)(Y:af)(w:Res fA):Res V->Prop
 |ok (path:Str) (x8 x9:j9):w=.ok (none,zF m p (names.map .str) sn path names.length x8 x9) Y->zH m p names sn Y w (.ok (.str path) Y)
 |exc:w=.exc 64 Y->zH m p names sn Y w (.exc 64 Y)
section
variable {names rest:db} {here s path:Str} {i n:Nat} {x8 x9:j9} {b:Bool}
theorem Fp (h:names.drop i=s::rest):names[i]?=some s/\i<names.length/\names.drop (i+1)=rest:=by
 have e:names[i]?=some s:=by
  have:=bJ (·[0]?) h;rw[List.getElem?_drop] at this;exact this
 refine⟨e,(bP.mp e).1,?_⟩;rw[<-List.tail_drop,h];rfl
theorem yd (hl:names.length<100):aV O (.bi .len [.l 2]) (zF m p (names.map .str) sn here i x8 x9) Y=.ok (.int names.length) Y:=by
 have e:=zG (Y:=Y) (l:=names.map V.str) (by rw[cy];exact cb hl rfl);rw[cy] at e;exact cP (aa (I rfl) ae) e
theorem qM (hl:names.length<100)(h:decide ((i:Int)<(names.length:Int))=b):aV O PR (zF m p (names.map .str) sn here i x8 x9) Y=.ok (.bool b) Y:=ar (I rfl) (yd hl)<|lt_int h
theorem Hm {x y:X}{R:Res V}{b:Bool}(h:aV O x N Y=R)(h':aV O y N Y=R):aV O (dj b x y) N Y=R:=by
 cases b
 ·exact h'
 ·exact h
theorem K0 (hl:names.length<100):aV O (.ite (.m .Eq (.bin .Add (.l 7)<|.xi 1)<|.bi .len [.l 2]) (.l 3)<|.xs aC) (zF m p (names.map .str) sn here i x8 x9) Y=.ok (.str aC) Y:=
 sv (ar (fj (I rfl) ag rfl) (yd hl) rfl) mj (Hm (I rfl) ag)
theorem K7 (hm:fg Y (.ref m) nt=some 323)(hl:names.length<100)(hs:names[i]?=some s){R:Res V}(e:O 323 [.ref m,.str p.str,.str here,.str s,.str aC,.int 0,.ref sn] Y=R):
  aV O (.bI (.l 0) nt [.l 1,.l 6,.i (.l 2)<|.l 7,.l 8,.l 4,.l 5]) (zF m p (names.map .str) sn here i (some<|.str aC) x9) Y=R:=
 bR (I rfl) hm (aa (I rfl)<|aa (I rfl)<|aa (aG (I rfl) (I rfl)<|KZ (by rw[gd,hs];rfl) (by rw[cy];exact cb hl rfl))<|aa (I rfl)<|aa (I rfl)<|aa (I rfl) ae) e
theorem Hn (hm:fg Y (.ref m) nt=some 323)(hl:names.length<100)(hs:names[i]?=some s)(e:O 323 [.ref m,.str p.str,.str here,.str s,.str aC,.int 0,.ref sn] Y=.ok (.str path) Y):
  b9 O 400 PS (zF m p (names.map .str) sn here i x8 x9) Y=.ok (none,zF m p (names.map .str) sn path (i+1:Nat) (some<|.str aC)<|some<|.str path) Y:=
 ah (aA (K0 hl) aE) (ah (aA (K7 hm hl hs e) aE)<|ah (aB (ar (I rfl) ag rfl) rfl az)<|ah (aA (aT<|aa (I rfl)<|aa (fj (I rfl) ag rfl) ae)<|eH rfl rfl<|aS aE<|aS aE dk) az)
theorem Ho (hm:fg Y (.ref m) nt=some 323)(hl:names.length<100){r:Res V}(hs:jE O m sn p Y here rest r):∀(i:Nat) (x8 x9:j9) (n:Nat),names.drop i=rest->i<=names.length->rest.length<n->zH m p names sn Y (whW O m p names sn Y here i x8 x9 n) r:=by
 induction hs with
 |@done here=>
  intro i x8 x9 n hd hi hn;refine aJ (pC hn) λn e1 M=>?_;rw[(Nat.le_antisymm hi (List.drop_eq_nil_iff.mp hd):i=names.length),e1];exact .ok here x8 x9<|Wn (qM hl<|fy<|Int.lt_irrefl _) rfl
 |@more here s path rest r e _ ih=>
  intro i x8 x9 n hd hi hn;refine qV (Fp hd) λg1 g2 g3=>aJ (pC hn) λn e1 hn=>?_;have ht:=qM (O:=O) (m:=m) (p:=p) (sn:=sn) (Y:=Y) (here:=here) (x8:=x8) (x9:=x9) hl<|eE<|Int.ofNat_lt.mpr g2
  have st:=Hn (x8:=x8) (x9:=x9) hm hl g1 e;have k:=ih (i+1) (some<|.str aC) (some<|.str path) n g3 g2 hn;rw[e1];cases k with
  |ok q y z w=>exact .ok q y z<|Su ht rfl st w
  |exc w=>exact .exc<|Su ht rfl st w
 |@exc here s rest e=>
  intro i x8 x9 n hd hi hn;refine qV (Fp hd) λg1 g2 g3=>aJ (pC hn) λn e1 hn=>?_;rw[e1];exact .exc<|ZW (qM hl<|eE<|Int.ofNat_lt.mpr g2) rfl<|ah (aA (K0 hl) aE)<|cT<|rB<|K7 hm hl g1 e
end
end
@[reducible] noncomputable def wW (x:Option Str)(Y:af):Res V:=match x with
 |some path=>.ok (.str path) Y
 |none=>.exc 64 Y
section
variable {O:av} {k:Nat} {Y ax Y':af} {A:Ad} {r:Rw} {L:mK} {N:Loc} {RF:Res fA} {m sn:Nat} {p:Pl}
theorem K8 {c:X}{ss:List S}{W C:Nat}{al:af}(h:jL (wV O c) (λN Y=>b9 O W ss N Y) W N Y=.exc C al):oy O W (.whl c ss) N Y=.exc C al:=D5 h
theorem K9 {names:db}(hl:names.length<100){pre rest:db}(hn:names=pre++rest){here:Str}(hmb:fg Y (.ref m) ub=some 316)(hms:fg Y (.ref m) nt=some 323)(hb:O 316 [.ref m,.str p.str,.U<|names.map .str,.int 0] Y=.ok (.U [.str here,.int pre.length]) Y){r:Res V}(hs:jE O m sn p Y here rest r):
  bn tx O 309 [.ref m,.str p.str,.U<|names.map .str,.str aC,.int 0,.ref sn] Y=r:=by
 have first:∀{RF:Res fA},b9 O 400 (QC.body.drop 1) (zF m p (names.map .str) sn here pre.length none none) Y=RF->b9 O 400 QC.body [some<|.ref m,some<|.str p.str,some<|.U<|names.map .str,some<|.str aC,some<|.int 0,some<|.ref sn,ai,ai,ai,ai,ai,ai] Y=RF:=λ{RF} hx=>
  ah (aA (bR (I rfl) hmb (aa (I rfl)<|aa (I rfl)<|aa (I rfl) ae) hb)<|eH rfl rfl<|aS aE<|aS aE dk) hx
 have hd:names.drop pre.length=rest:=by rw[hn,List.drop_append_of_le_length<|ba _,List.drop_length];rfl
 have hle:pre.length<=names.length:=by rw[hn,cN];exact ej _ _
 have hlr:rest.length<400:=by rw[hn,cN] at hl;exact dU (lm (Nat.le_add_left _ _) hl)<|aO rfl
 have w:=Ho hms hl hs pre.length none none 400 hd hle hlr;cases w with
 |ok path x8 x9 e=>
  exact bh rfl rfl rfl<|first (ah (D5 e)<|ah (aB (iL<|gw (ar (I rfl) ag rfl) rfl<|gv<|eS<|kZ (ar (I rfl) ag rfl) rfl) rfl az)<|bS<|bO<|I rfl)
 |exc e=>exact gE rfl rfl rfl<|first (cT<|K8 e)
theorem La (h:Hs ax Y (m9 A r++L)){names:db}(hl:names.length<100){pre rest:db}(hn:names=pre++rest){here:Str}{P:Option Str->Prop}
  (hb:∀Y,run tx (k+4) 316 [.ref A.m,.str p.str,.U<|names.map .str,.int 0] Y=.ok (.U [.str here,.int pre.length]) Y)
  (hs:∀Y' ce,Hs ax Y' (m9 {A with ce:=ce} r++L)->∀sn,∃x:Option Str,jE (run tx (k+4)) A.m sn p Y' here rest (wW x Y')/\P x):
  ∃Y' ce x,P x/\Hs ax Y' (m9 {A with ce:=ce} r++L)/\run tx (k+6) 302 [.ref A.m,.str p.str,.U<|names.map .str,.str aC,.int 0] Y=(wW x Y'):=by
 have g0:=h.push (J:=[.dict []]);have g1:=g0.set 1 rfl (c':=.dict<|tB A.ck A.cp A.ct A.cg A.ci Y.length);have g2:=g1.push (J:=[.list []]);have g3:Hs ax (((Y++[ao.dict []]).set A.d<|.dict<|tB A.ck A.cp A.ct A.cg A.ci Y.length)++[ao.list []]) (m9 {A with ce:=Y.length} r++L):=g2;refine aJ (hs _ _ g3 ((Y++[ao.dict []]).set A.d<|.dict<|tB A.ck A.cp A.ct A.cg A.ci Y.length).length) λx hx hP=>Ab _ Y.length x hP g3 ?_;have hw:=K9 (O:=run tx (k+4)) hl hn (b8 (g2.get 0 rfl) (g2.get 1 rfl) rfl rfl) (b8 (g2.get 0 rfl) (g2.get 1 rfl) rfl rfl) (hb _) hx;have hL:(names.map V.str).length<10000:=by rw[cy];exact cb ‹_› rfl
 have e:aV (run tx (k+5)) (.bI (.l 0) uO [.l 1,.bi .tuple [.l 2],.l 3,.l 4,.s []]) [some<|.ref A.m,some<|.str p.str,some<|.U<|names.map .str,some<|.str aC,some<|.int 0,none] ((Y++[ao.dict []]).set A.d<|.dict<|tB A.ck A.cp A.ct A.cg A.ci Y.length)=wW x (((Y++[ao.dict []]).set A.d<|.dict<|tB A.ck A.cp A.ct A.cg A.ci Y.length)++[ao.list []]):=
  bR (I rfl) (b8 (g1.get 0 rfl) (g1.get 1 rfl) rfl rfl) (aa (I rfl)<|aa (cP (aa (I rfl) ae)<|ch rfl hL)<|aa (I rfl)<|aa (I rfl)<|aa (bk ae) ae) hw
 have st:∀{RF:Res fA},b9 (run tx (k+5)) 400 (FU.body.drop 1) [some<|.ref A.m,some<|.str p.str,some<|.U<|names.map .str,some<|.str aC,some<|.int 0,none] ((Y++[ao.dict []]).set A.d<|.dict<|tB A.ck A.cp A.ct A.cg A.ci Y.length)=RF->b9 (run tx (k+5)) 400 FU.body [some<|.ref A.m,some<|.str p.str,some<|.U<|names.map .str,some<|.str aC,some<|.int 0,none] Y=RF:=λ{RF} hx=>
  ah (aA (mD ae)<|jp (I rfl) (v6 (g0.get 0 rfl) (g0.get 1 rfl) rfl<|aO rfl)<|D3 (g0.get 0 rfl) (g0.get 1 rfl)<|by lk) hx
 rw[dE];cases x with
 |some path=>
  apply bh (i:=FU) (R:=(some<|.str path,_)) rfl rfl rfl;exact st<|bS<|bO e
 |none=>
  apply gE (i:=FU) rfl rfl rfl;exact st<|cT<|pq e
end
inductive D8 (p rows:iP)(n:Str):Option Bool->Prop
 |no:aM rows n=none->D8 p rows n none
 |yes {path:Str} {b:Bool}:aM rows n=some (.str path)->aM p path=some (.bool b)->D8 p rows n (some b)
inductive BX (Y:af)(us:iP)(n:Str):Option Bool->Prop
 |no:aM us n=none->BX Y us n none
 |yes {e:Nat} {b:Bool} {names:aH}:aM us n=some (.ref (e+1))->Y[e+1]?=some (.inst 203 e)->Y[e]?=some (.dict (dT names b))->BX Y us n (some b)
noncomputable def zJ (l:List Bool):Bool:=l.isEmpty||l.any id
section
variable {O:av} {k:Nat} {Y ax Y':af} {A A':Ad} {B:Td} {r:Rw} {q:Tw} {L R:mK} {N loc':Loc} {RF:Res fA} {m e:Nat} {p:Pl} {n o:Str}
variable {t:Nat}
theorem ye (h:Hs ax Y (iZ A B r q R)){rows:iP}(hq:Y[t]?=some (.dict rows)){bt:Option Bool}(ht:D8 r.p rows n bt){acc:aH}(OY:acc.length<10):
  je O [none,none,some<|.str n,some<|.ref A.m] [1] [.m .In (.l 2)<|.l 1] (.i (.attr (.l 3) dF)<|.i (.l 1)<|.l 2) (.ref t) acc Y=.ok (acc++bt.toList.map .bool) Y:=by
 cases ht with
 |no e=>
  rw[show acc++(none:Option Bool).toList.map V.bool=acc from gI _];exact jO rfl<|m5 (ar (I rfl) (I rfl)<|wT hq (by rw[e];rfl)) rfl
 |yes e e2=>
  exact dG rfl (pi (ar (I rfl) (I rfl)<|wT hq (by rw[e];rfl)) rfl cJ) (aG (b0 rfl (h.get 0 rfl) (h.get 1 rfl) rfl rfl rfl) (aG (I rfl) (I rfl)<|fD hq e)<|fD (h.get 3 rfl) e2)<|cb ‹_› rfl
theorem Lb {u:Nat}{l:aH}(ht:Y[t]?=some (.list l))(hu:Y[u]?=some (.list [])):cS Y .Eq (.ref t) (.ref u)=some l.isEmpty:=by
 have h:=iO ht hu;have e:cS Y .NotEq (.ref t) (.ref u)=(cS Y .Eq (.ref t)<|.ref u).map λb=>!b:=rfl;rw[e] at h;cases q:cS Y .Eq (.ref t) (.ref u) with
 |none=>rw[q] at h;cases h
 |some b=>
  rw[q,Option.map_some] at h;have h:=aU h;cases b<;>cases q2:l.isEmpty<;>rw[q2] at h<;>first | rfl | cases h
theorem wb (m:Nat):∀l:List Bool,qp (dL Y (m+1)) (l.map V.bool)=some (l.map PyData.bool)
 | []=>rfl
 |b::r=>by
  show(qp (dL Y (m+1))<|r.map V.bool).map _= _;rw[wb m r];rfl
theorem yf:∀l:List Bool,PyData.canLayAll0 (l.map PyData.bool)=true
 | []=>rfl
 |b::r=>by rw[eM,PyData.canLayAll0,yf r];rfl
theorem yg:∀l:List Bool,((l.map PyData.bool).any λy=>PyData.eqv y<|.bool true)=l.any id
 | []=>rfl
 |b::r=>by
  rw[eM,sT,sT,yg r];cases b<;>rfl
theorem Lc {l:List Bool}(ht:Y[t]?=some (.list<|l.map .bool)):cS Y .In (.bool true) (.ref t)=some (l.any id):=by
 refine(in_of ht).trans ?_;have e1:dL Y 12 (.ref t)=some (.list<|l.map PyData.bool):=by rw[jQ ht,wb 10 l];rfl
 refine(zm e1 rfl (by rw[yf];rfl)).trans ?_;rw[yg]
variable {init:aH}
theorem Ou {v:V}(hl:init.length<100):cq Y (.U (init++[v])) (.int (-1))=some v:=by
 have hL:(init++[v]).length=init.length+1:=by rw[cN];rfl
 rw[EQ];unfold Xp;rw[if_pos<|show fK (-1)=true from rfl];have hs:seqIndex? (-1:Int) (init++[v]).length=some init.length:=by
  unfold seqIndex?;rw[hL];simp only[show((-1:Int)<0) from by lk,if_true];rw[if_pos (by rw[ln,mN,mN];omega)]
  congr 1
  omega
 rw[hs];show(init++[v])[init.length]?=some v;rw[kN<|ba _,oF];rfl
theorem Ld {v:V}(hl:init.length<100):rW Y (.U (init++[v])) (.int (-1))=.ok (.U init) Y:=by
 refine(if_pos ⟨rfl,by rw[cN,j4];exact eu ‹_› rfl⟩).trans ?_;rw[List.dropLast_concat]
theorem BY {l:List Bool}{N:Loc}(hl:N[6]?=some (some<|.ref t))(ht:Y[t]?=some (.list<|l.map .bool)):
  aV O (.or [.m .Eq (.l 6)<|.s [],.m .In (.c<|.bool true)<|.l 6]) N Y=.ok (.bool<|zJ l) (Y++[.list []]):=by
 refine iL<|vJ (ar (I hl) (bk ae)<|Lb (ak ht) aq) mj ?_
 cases l with
 |nil=>rfl
 |cons b l=>exact gv<|ar ag (I hl)<|Lc<|ak ht
theorem BZ (h:Hs ax Y (iZ A B r q R)){x1 x2:j9}(hk:aM r.k o=some (.str bY))(hm:aM r.tab o=some (.ref B.t)){bt bv bu:Option Bool}(ht:D8 r.p q.t n bt)(hv:D8 r.p q.v n bv)(hu:BX Y q.u n bu):
  ∃loc' J,b9 O 400 (qv.body.drop 3) [some<|.ref A.m,x1,x2,some<|.str n,some<|.str o,none,none,none,none] Y=.ok (some<|.bool<|zJ (bt.toList++bv.toList++bu.toList),loc') (Y++J):=by
 have e6:dr (je O [none,none,some<|.str n,some<|.ref A.m] [1] [.m .In (.l 2)<|.l 1]<|.i (.attr (.l 3) dF)<|.i (.l 1)<|.l 2) (.U [.ref B.tt,.ref B.tv]) [.ref B.tt,.ref B.tv] [.ref B.tt,.ref B.tv] [] Y=.ok ((bt.toList++bv.toList).map .bool) Y:=by
  refine bq (ye h (h.get 9 rfl) ht<|aO rfl) rfl<|bq (ye h (h.get 10 rfl) hv (by cases bt<;>exact aO rfl)) rfl ?_
  rw[jB];rfl
 have pre:∀{RF:Res fA},b9 O 400 (qv.body.drop 6) [some<|.ref A.m,x1,x2,some<|.str n,some<|.str o,some<|.ref B.t,some<|.ref Y.length,none,none] (Y++[.list<|(bt.toList++bv.toList).map .bool])=RF->b9 O 400 (qv.body.drop 3) [some<|.ref A.m,x1,x2,some<|.str n,some<|.str o,none,none,none,none] Y=RF:=λ{RF} hx=>by
  refine ah (aB (ar (aG (b0 rfl (h.get 0 rfl) (h.get 1 rfl) rfl rfl rfl) (I rfl)<|fD (h.get 2 rfl) hk) ag<|by rfl) rfl az)<|ah (aA (aG (b0 rfl (h.get 0 rfl) (h.get 1 rfl) rfl rfl rfl) (I rfl)<|fD (h.get 4 rfl) hm) aE) ?_
  exact ah (aA (d7 (aT<|aa (b0 rfl (h.get 7 rfl) (h.get 8 rfl) rfl rfl rfl)<|aa (b0 rfl (h.get 7 rfl) (h.get 8 rfl) rfl rfl rfl) ae) rfl e6) aE) hx
 have g:=h.push (J:=[.list<|(bt.toList++bv.toList).map .bool]);have au:aV O (.attr (.l 5) gM) [some<|.ref A.m,x1,x2,some<|.str n,some<|.str o,some<|.ref B.t,some<|.ref Y.length,none,none] (Y++[.list<|(bt.toList++bv.toList).map .bool])=.ok (.ref B.tu) (Y++[.list<|(bt.toList++bv.toList).map .bool]):=b0 rfl (g.get 7 rfl) (g.get 8 rfl) rfl rfl rfl;cases hu with
 |no e=>
  refine FF ([some<|.ref A.m,x1,x2,some<|.str n,some<|.str o,some<|.ref B.t,some<|.ref Y.length,none,none]) ([.list<|(bt.toList++bv.toList).map .bool,.list []])<|pre ?_
  refine ah (aB (ar (I rfl) au<|wT (g.get 11 rfl) (b:=false) (by rw[e];rfl)) rfl az) ?_;rw[show(none:Option Bool).toList=[] from rfl,gI];have:=bS (W:=400) (ss:=[])<|bO (W:=400)<|BY (O:=O) (N:=[some<|.ref A.m,x1,x2,some<|.str n,some<|.str o,some<|.ref B.t,some<|.ref Y.length,none,none]) rfl<|aq (Y:=Y) (c:=.list<|(bt.toList++bv.toList).map .bool)
  rw[bT Y] at this;exact this
 |@yes e b names e1 e2 e3=>
  refine FF ([some<|.ref A.m,x1,x2,some<|.str n,some<|.str o,some<|.ref B.t,some<|.ref Y.length,none,none]) ([.list<|(bt.toList++bv.toList++[b]).map .bool,.list []])<|pre ?_
  have hs:(Y++[ao.list<|(bt.toList++bv.toList).map .bool]).set Y.length (.list<|(bt.toList++bv.toList).map .bool++[.bool b])=Y++[.list<|(bt.toList++bv.toList++[b]).map .bool]:=by
   rw[List.set_append_right _ _<|ba _,oF,jB (l₁:=bt.toList++bv.toList)];rfl
  have ha:=fH (v:=.bool b) (aq (Y:=Y) (c:=.list<|(bt.toList++bv.toList).map .bool)) (by cases bt<;>cases bv<;>exact aO rfl)
  rw[hs] at ha;refine ah (bl (ar (I rfl) au<|wT (g.get 11 rfl) (b:=true) (by rw[e1];rfl)) rfl<|ah (ic<|km (I rfl) (hU aq<|.inl rfl) (aa (un (aG au (I rfl)<|fD (g.get 11 rfl) e1) (v6 (ak e2) (ak e3) rfl<|aO rfl)<|Fj (ak e2) (ak e3) rfl) ae) ha) az) ?_;have:=bS (W:=400) (ss:=[])<|bO (W:=400)<|BY (O:=O) (N:=[some<|.ref A.m,x1,x2,some<|.str n,some<|.str o,some<|.ref B.t,some<|.ref Y.length,none,none]) rfl<|aq (Y:=Y) (c:=.list<|(bt.toList++bv.toList++[b]).map .bool)
  rw[bT Y] at this;exact this
theorem wc (c1:Y[e+1]?=some (.inst 203 e)){pub:Bool}(c2:Y[e]?=some (.dict<|dT (init++[.str n]) pub))(hl:init.length<100){x0 x1:j9}(hx:b9 O 400 (qv.body.drop 1) [x0,x1,some<|.ref (e+1),some<|.str n,ai,ai,ai,ai,ai] Y=RF):
  b9 O 400 qv.body [x0,x1,some<|.ref (e+1),ai,ai,ai,ai,ai,ai] Y=RF:=
 ah (aA (aG (b0 rfl c1 c2 rfl rfl rfl) ag<|Ou hl) aE) hx
theorem Le (h:Hs ax Y (m9 A r++L))(c1:Y[e+1]?=some (.inst 203 e)){pub:Bool}(c2:Y[e]?=some (.dict<|dT ([]++[.str n]) pub))(hw:jy n [aR,dN,df]=true){path:Str}{b:Bool}(hp:aM r.p path=some (.bool b)){L':mK}(h':Hs ax Y' (m9 A' r++L'))(hA:A'.cp=A.cp)
  (hf:run tx k 302 [.ref A.m,.str p.str,.U [.str n],.str aC,.int 0] Y=.ok (.str path) Y'):run tx (k+1) 364 [.ref A.m,.str p.str,.ref (e+1)] Y=.ok (.bool b) Y':=by
 rw[dE];apply bh (i:=qv) (R:=(some<|.bool b,_)) rfl rfl rfl;have hc:cS Y .In (.str n) (.U [.str aR,.str dN,.str df])=some true:=by rw[<-hw];rfl
 have h3:=h'.get 3 rfl;rw[hA] at h3;refine wc c1 c2 (aO rfl)<|ah (bl (ar (I rfl) ag hc) rfl<|bS<|bO<|aG (b0 rfl (h.get 0 rfl) (h.get 1 rfl) rfl rfl rfl) (bR (I rfl) (b8 (h.get 0 rfl) (h.get 1 rfl) rfl rfl) (aa (I rfl)<|aa (b0 rfl c1 c2 rfl rfl rfl)<|aa ag<|aa (b0 rfl c1 c2 rfl rfl rfl) ae) hf)<|fD h3 hp) rfl
theorem Sv {a:Nat}{b:Bool}(h:decide (a=1)=b):cS Y .Eq (.int a) (.int 1)=some b:=by
 have e:cS Y .Eq (.int a) (.int 1)=some (decide ((a:Int)=1)):=rfl;rw[e,<-h]
 congr 1
 exact decide_eq_decide.mpr (by omega)
end
section
variable {O:av} {k:Nat} {Y ax Y':af} {A A':Ad} {B:Td} {r:Rw} {q:Tw} {L R:mK} {N loc':Loc} {RF:Res fA} {m e:Nat} {p:Pl} {n o:Str}
variable {pub:Bool}
theorem Lf (h:Hs ax Y (iZ A B r q R))(c1:Y[e+1]?=some (.inst 203 e))(c2:Y[e]?=some (.dict<|dT ([]++[.str n]) pub))(hw:jy n [aR,dN,df]=false)
  (hk:aM r.k p.str=some (.str bY)) (hm:aM r.tab p.str=some (.ref B.t)) {bt bv bu:Option Bool} (ht:D8 r.p q.t n bt) (hv:D8 r.p q.v n bv) (hu:BX Y q.u n bu):
  ∃J,run tx (k+1) 364 [.ref A.m,.str p.str,.ref (e+1)] Y=.ok (.bool<|zJ (bt.toList++bv.toList++bu.toList)) (Y++J):=by
 refine kQ (BZ (O:=run tx k) (x1:=some<|.str p.str) (x2:=some<|.ref (e+1)) h hk hm ht hv hu) λloc' J et=>⟨J,?_⟩;rw[dE];apply bh (i:=qv) (R:=(some _,loc')) rfl rfl rfl;have hc:cS Y .In (.str n) (.U [.str aR,.str dN,.str df])=some false:=by rw[<-hw];rfl
 exact wc c1 c2 (aO rfl)<|ah (aB (ar (I rfl) ag hc) rfl az)<|ah (aA (fF (ar (cP (aa (b0 rfl c1 c2 rfl rfl rfl) ae)<|zG<|aO rfl) ag rfl) rfl<|I rfl) aE) et
variable {init:aH}
theorem sF (h:Hs ax Y (m9 A r++L))(c1:Y[e+1]?=some (.inst 203 e))(c2:Y[e]?=some (.dict<|dT (init++[.str n]) pub))(hl:init.length<100)(h0:0<init.length)(hw:jy n [aR,dN,df]=false){x:Option Str}
  (hf:O 302 [.ref A.m,.str p.str,.U init,.str aC,.int 0] Y=wW x Y'):
  (∀path RF,x=some path->b9 O 400 (qv.body.drop 3) [some<|.ref A.m,some<|.str p.str,some<|.ref (e+1),some<|.str n,some<|.str path,none,none,none,none] Y'=RF->b9 O 400 qv.body [some<|.ref A.m,some<|.str p.str,some<|.ref (e+1),ai,ai,ai,ai,ai,ai] Y=RF)/\
  (x=none->b9 O 400 qv.body [some<|.ref A.m,some<|.str p.str,some<|.ref (e+1),ai,ai,ai,ai,ai,ai] Y=.exc 64 Y'):=by
 have hc:cS Y .In (.str n) (.U [.str aR,.str dN,.str df])=some false:=by rw[<-hw];rfl
 have an:∀{N:Loc},N[2]?=some (some<|.ref (e+1))->aV O (.attr (.l 2) jj) N Y=.ok (.U<|init++[.str n]) Y:=λhl=>un (I hl) (v6 c1 c2 rfl<|aO rfl)<|Fj c1 c2 rfl
 have ef:∀{r:Res V},r=wW x Y'->aV O (.ite (.m .Eq (.bi .len [.attr (.l 2) jj])<|.xi 1) (.l 1)<|.bI (.l 0) lz [.l 1,.slcTo (.attr (.l 2) jj)<|.xi (-1),.xs aC,.attr (.l 2) mx]) [some<|.ref A.m,some<|.str p.str,some<|.ref (e+1),some<|.str n,ai,ai,ai,ai,ai] Y=r:=λ{r} hr=>
  gm (ar (cP (aa (an rfl) ae)<|zG (by rw[cN,j4];omega)) ag (Sv (by rw[decide_eq_false_iff_not,cN,j4];omega):cS Y .Eq (.int ((init++[V.str n]).length:Int)) (.int 1)=some false)) rfl (bR (I rfl) (b8 (h.get 0 rfl) (h.get 1 rfl) rfl rfl) (aa (I rfl)<|aa (vH (an rfl) ag<|Ld hl)<|aa ag<|aa (b0 rfl c1 c2 rfl rfl rfl) ae)<|hf.trans hr.symm)
 have pre:∀{RF:Res fA},b9 O 400 (qv.body.drop 2) [some<|.ref A.m,some<|.str p.str,some<|.ref (e+1),some<|.str n,ai,ai,ai,ai,ai] Y=RF->b9 O 400 qv.body [some<|.ref A.m,some<|.str p.str,some<|.ref (e+1),ai,ai,ai,ai,ai,ai] Y=RF:=λ{RF} hx=>
  wc c1 c2 hl (ah (aB (ar (I rfl) ag hc) rfl az) hx)
 refine⟨λpath RF hx hk=>?_,λhx=>?_⟩
 ·exact pre<|ah (aA (ef<|by rw[hx]) aE) hk
 ·exact pre<|cT<|rB<|ef<|by rw[hx]
theorem B3 (h:Hs ax Y (m9 A r++L))(c1:Y[e+1]?=some (.inst 203 e))(c2:Y[e]?=some (.dict<|dT (init++[.str n]) pub))(hl:init.length<100)(h0:0<init.length)(hw:jy n [aR,dN,df]=false)
  (hf:run tx k 302 [.ref A.m,.str p.str,.U init,.str aC,.int 0] Y=.exc 64 Y'):run tx (k+1) 364 [.ref A.m,.str p.str,.ref (e+1)] Y=.exc 64 Y':=by
 rw[dE];apply gE rfl rfl rfl;exact(sF h c1 c2 hl h0 hw hf).2 rfl
theorem Hp (h:Hs ax Y (m9 A r++L))(c1:Y[e+1]?=some (.inst 203 e))(c2:Y[e]?=some (.dict<|dT (init++[.str n]) pub))(hl:init.length<100)(h0:0<init.length)(hw:jy n [aR,dN,df]=false){path:Str}
  (hf:run tx k 302 [.ref A.m,.str p.str,.U init,.str aC,.int 0] Y=.ok (.str path) Y') (hA:A'.m=A.m) {L':mK} (h':Hs ax Y' (m9 A' r++L')) (hk:aM r.k path=some (.str da)) {b:Bool} (hp:aM r.p path=some (.bool b)):run tx (k+1) 364 [.ref A.m,.str p.str,.ref (e+1)] Y=.ok (.bool b) Y':=by
 rw[dE];have h1:=h'.get 0 rfl;rw[hA] at h1;apply bh (i:=qv) (R:=(some<|.bool b,_)) rfl rfl rfl;exact(sF h c1 c2 hl h0 hw hf).1 path _ rfl (ah (bl (ar (aG (b0 rfl h1 (h'.get 1 rfl) rfl rfl rfl) (I rfl)<|fD (h'.get 2 rfl) hk) ag<|by rfl) rfl<|bS<|bO<|aG (b0 rfl h1 (h'.get 1 rfl) rfl rfl rfl) (I rfl)<|fD (h'.get 3 rfl) hp) rfl)
theorem Lg (h:Hs ax Y (m9 A r++L))(c1:Y[e+1]?=some (.inst 203 e))(c2:Y[e]?=some (.dict<|dT (init++[.str n]) pub))(hl:init.length<100)(h0:0<init.length)(hw:jy n [aR,dN,df]=false){path:Str}
  (hf:run tx k 302 [.ref A.m,.str p.str,.U init,.str aC,.int 0] Y=.ok (.str path) Y') (hA:A'.m=A.m) (h':Hs ax Y' (iZ A' B r q R)) (hk:aM r.k path=some (.str bY)) (hm:aM r.tab path=some (.ref B.t)) {bt bv bu:Option Bool} (ht:D8 r.p q.t n bt) (hv:D8 r.p q.v n bv) (hu:BX Y' q.u n bu):
  ∃J,run tx (k+1) 364 [.ref A.m,.str p.str,.ref (e+1)] Y=.ok (.bool<|zJ (bt.toList++bv.toList++bu.toList)) (Y'++J):=by
 refine kQ (BZ (O:=run tx k) (x1:=some<|.str p.str) (x2:=some<|.ref (e+1)) h' hk hm ht hv hu) λloc' J et=>?_;rw[hA] at et;refine⟨J,?_⟩;rw[dE];apply bh (i:=qv) (R:=(some _,loc')) rfl rfl rfl;exact(sF (x:=some path) h c1 c2 hl h0 hw hf).1 path _ rfl et
end
noncomputable def sel {α:Type}(p:Pl)(x y z:α):α:=match p with
 | .o=>x
 | .a=>y
 | .ab=>z
structure PW where
 (B0 B1 B2:Td) (u0 u1 u2:iP) (pb:Nat->Bool) (ls:List Lk)
def PW.B (W:PW)(p:Pl):Td:=sel p W.B0 W.B1 W.B2
def PW.u (W:PW)(p:Pl):iP:=sel p W.u0 W.u1 W.u2
abbrev PW.r (W:PW):Rw:=zC W.pb [(z_,.ref W.B0.t),(dK,.ref W.B1.t),(aQ,.ref W.B2.t)]
abbrev mI (W:PW)(U:mK)(ax Y:af)(A:Ad):Prop:=KU ax Y A W.B0 W.B1 W.B2 W.u0 W.u1 W.u2 U W.pb W.ls
theorem Sw {α:Type}(C T0 T1 T2 X:List α):(C++(T0++(T2++(T1++X)))).Perm (C++(T2++(T1++(T0++X)))):=((List.perm_append_comm_assoc T0 T2 (T1++X)).trans<|(List.perm_append_comm_assoc T0 T1 X).append_left T2).append_left C
theorem Sx {α:Type}(C T1 T2 X:List α):(C++(T1++(T2++X))).Perm (C++(T2++(T1++X))):=(List.perm_append_comm_assoc T1 T2 X).append_left C
section
variable {O:av} {k:Nat} {Y ax Y':af} {A:Ad} {W:PW} {U:mK} {m sn e:Nat} {p g:Pl} {n o s:Str}
theorem mI.iZ (H:mI W U ax Y A)(p:Pl):∃R,Hs ax Y (iZ A (W.B p) W.r (p5 p<|W.u p) R):=by
 refine aN H.hs λR h=>?_;cases p with
 |ab=>exact⟨_,h⟩
 |a=>exact⟨_,h.perm<|Sx _ _ _ _⟩
 |o=>exact⟨_,h.perm<|Sw _ _ _ _ _⟩
theorem mI.cell (H:mI W U ax Y A){x:Nat × ao}(hx:x∈U):Y[x.1]?=some x.2:=by
 exact aN H.hs λR h=>h.told x<|ll _<|ll _<|ll _<|ll _<|j5 _ hx
theorem mI.grow (H:mI W U ax Y A):du ax Y:=by
 exact aN H.hs λR h=>h.grow
theorem mI.push (H:mI W U ax Y A){J:af}:mI W U ax (Y++J) A:=by
 exact aN H.hs λR h=>⟨⟨R,h.push⟩,H.o,H.a,H.ab⟩
theorem mI.pin (H:mI W U ax Y A){c:ao}:mI W (U++[(Y.length,c)]) ax (Y++[c]) A:=by
 exact aN H.hs λR h=>⟨⟨R,(h.add).perm<|JN _ _ _ _ _ _ _⟩,H.o.mono λx hx=>j5 _ hx,H.a.mono λx hx=>j5 _ hx,H.ab.mono λx hx=>j5 _ hx⟩
theorem pU {l:iP}{row:Str × V}:aM (l++[row]) s=match aM l s with
  |some v=>some v
  |none=>if row.1=s then some row.2 else none:=by
 unfold aM;rw[List.find?_append];cases l.find? λp=>decide (p.1=s) with
 |some v=>rfl
 |none=>
  rw[Option.none_or,List.find?_cons];by_cases h:row.1=s
  ·rw[eE h,if_pos h];rfl
  ·rw[fy h,if_neg h];rfl
theorem fZ.none {R:mK}{rows:iP}{us:List Lk}(h:fZ R rows us)(hs:∀l∈us,uN l.i≠s):aM rows s=none:=by
 induction h with
 |nil=>rfl
 |snoc _ h2 ih=>
  rw[pU,ih λl hl=>hs l<|j5 _ hl,if_neg];rw[h2.name];exact hs _<|ll _<|.head _
theorem fZ.get {R:mK}{rows:iP}{us:List Lk}(h:fZ R rows us)(nd:(us.map λu=>uN u.i).Nodup){l:Lk}(hl:l∈us):∃v,aM rows (uN l.i)=some v/\BV R (uN l.i,v) l:=by
 induction h with
 |nil=>cases hl
 |@snoc rows ls row l' h1 h2 ih=>
  rw[jB,sP] at nd;refine aZ (fu.mp hl) (λhl=>?_) λhl=>?_
  ·exact aJ (ih nd.1 hl) λv e1 e2=>bF v (by rw[pU,e1]) e2
  ·cases cM.mp hl;refine bF row.2 ?_ ⟨rfl,h2.cells⟩;rw[pU,h1.none λl hl=>?_,if_pos h2.name];exact nd.2.2 _ (bX.mpr ⟨l,hl,rfl⟩) _<|bX.mpr ⟨_,.head _,rfl⟩
theorem mI.uses (H:mI W U ax Y A)(p:Pl):fZ U (W.u p) (cL p W.ls):=by
 cases p with
 |o=>exact H.o
 |a=>exact H.a
 |ab=>exact H.ab
theorem mI.use (H:mI W U ax Y A)(iq:jg W.ls){l:Lk}(hl:l∈cL p W.ls):∃e,aM (W.u p) (uN l.i)=some (.ref (e+1))/\Y[e+1]?=some (.inst 203 e)/\Y[e]?=some (.dict<|dT (l.names.map .str) l.pub):=by
 refine aJ ((H.uses p).get (ux iq p) hl) λv e1 e2=>j8 e2.cells λe e3 h1 h2=>?_;cases e3;exact lY e e1 (H.cell h2)<|H.cell h1
theorem mI.no (H:mI W U ax Y A)(iq:jg W.ls)(hs:∀i,i<6->uN i≠s):aM (W.u p) s=none:=
 (H.uses p).none λl hl=>hs _ (iq.ok l<|dp hl).1
theorem mI.find (H:mI W U ax Y A){names:db}(hl:names.length<100){pre rest:db}(hn:names=pre++rest){here:Str}{P:Option Str->Prop}
  (hb:∀Y,run tx (k+4) 316 [.ref A.m,.str p.str,.U<|names.map .str,.int 0] Y=.ok (.U [.str here,.int pre.length]) Y)
  (hs:∀Y' ce,mI W U ax Y' {A with ce:=ce}->∀sn,∃x:Option Str,jE (run tx (k+4)) A.m sn p Y' here rest (wW x Y')/\P x):
  ∃Y' ce x,P x/\mI W U ax Y' {A with ce:=ce}/\run tx (k+6) 302 [.ref A.m,.str p.str,.U<|names.map .str,.str aC,.int 0] Y=wW x Y':=by
 exact aN H.hs λR h=>kR (La h hl hn hb λY' ce h' sn=>hs Y' ce ⟨⟨R,h'⟩,H.o,H.a,H.ab⟩ sn) λY' ce x h1 h2 h3=>Ab Y' ce x h1 ⟨⟨R,h2⟩,H.o,H.a,H.ab⟩ h3
theorem we (p:Pl):aM W.r.k p.str=some (.str bY):=by cases p<;>lk
theorem zK (p:Pl):aM W.r.tab p.str=some (.ref (W.B p).t):=by cases p<;>lk
theorem mI.step (H:mI W U ax Y A){path:Str}{b:Bool}(hn:aM (p5 g []).t n=some (.str path))(hp:aM W.r.p path=some (.bool b))(L1:∀Y,∃msg,jJ Y .Add (.str path) (.str Er)=.ok (.str msg) Y):
  run tx (k+4) 323 [.ref A.m,.str p.str,.str g.str,.str n,.str aC,.int 0,.ref sn] Y=if b||f6 p g then .ok (.str path) Y else .exc 64 Y:=by
 refine aN (H.iZ g) λR h=>?_;refine aN (L1 Y) λmsg L1=>KY (b8 (h.get 0 rfl) (h.get 1 rfl) rfl rfl) (KW h (we g) (zK g) (by cases g<;>exact hn:aM (p5 g<|W.u g).t n=some (.str path)) hp L1) ?_
 cases (b||f6 p g)
 ·exact .inr rfl
 ·exact .inl ⟨_,rfl⟩
theorem jE.app {m sn:Nat}{here mid:Str}{l1 l2:db}{r:Res V}(h:jE O m sn p Y here l1 (.ok (.str mid) Y))(k:jE O m sn p Y mid l2 r):jE O m sn p Y here (l1++l2) r:=by
 generalize e:(Res.ok (.str mid) Y:Res V)=r1 at h
 induction h with
 |done=>cases e;exact k
 |more h1 _ ih=>exact .more h1<|ih e
 |exc _=>cases e
theorem jE.Wo {m sn:Nat}{here:Str}{l1 l2:db}(h:jE O m sn p Y here l1 (.exc 64 Y)):jE O m sn p Y here (l1++l2) (.exc 64 Y):=by
 generalize e:(Res.exc 64 Y:Res V)=r1 at h
 induction h with
 |done=>cases e
 |more h1 _ ih=>exact .more h1<|ih e
 |exc h1=>exact .exc h1
def gt (pb:Nat->Bool)(p:Pl):Pl->Bool
 | .ab=>pb 1||f6 p .a
 |_=>true
theorem wf (H:mI W U ax Y A)(p g:Pl):jE (run tx (k+4)) A.m sn p Y z_ g.parts (wW (if gt W.pb p g then some g.str else none) Y):=by
 have sa:run tx (k+4) 323 [.ref A.m,.str p.str,.str z_,.str dK,.str aC,.int 0,.ref sn] Y=.ok (.str dK) Y:=by
  have:=H.step (k:=k) (sn:=sn) (p:=p) (g:=.o) (n:=dK) (path:=dK) (b:=W.pb 0) (by lk) (by lk) λM=>⟨_,rfl⟩;rw[(by cases p<;>rfl:f6 p .o=true),Bool.or_true] at this
  exact this
 cases g with
 |o=>exact .done
 |a=>exact .more sa .done
 |ab=>
  have sb:=H.step (k:=k) (sn:=sn) (p:=p) (g:=.a) (n:=Cq) (path:=aQ) (b:=W.pb 1) (by lk) (by lk) λM=>⟨_,rfl⟩;show jE _ _ _ _ _ _ _ (wW (if (W.pb 1||f6 p .a) then _ else _) Y);cases q:(W.pb 1||f6 p .a) with
  |true=>rw[q] at sb;exact .more sa<|.more sb .done
  |false=>rw[q] at sb;exact .more sa<|.exc sb
theorem B4 (H:mI W U ax Y A)(p g:Pl):jE (run tx (k+4)) A.m sn p Y z_ (g.parts++[eN]) (wW (if gt W.pb p g&&(W.pb (jx g .E)||f6 p g) then some (jn g .E) else none) Y):=by
 have h1:=wf (k:=k) (sn:=sn) H p g;have se:run tx (k+4) 323 [.ref A.m,.str p.str,.str g.str,.str eN,.str aC,.int 0,.ref sn] Y=if W.pb (jx g .E)||f6 p g then .ok (.str<|jn g .E) Y else .exc 64 Y:=by
  cases g<;>exact H.step (k:=k) (by lk) (by lk) λM=>⟨_,rfl⟩
 cases q:gt W.pb p g with
 |false=>rw[q] at h1;exact h1.Wo
 |true=>
  rw[q] at h1;rw[Bool.true_and];cases q2:(W.pb (jx g .E)||f6 p g) with
  |true=>rw[q2] at se;exact h1.app<|.more se .done
  |false=>rw[q2] at se;exact h1.app<|.exc se
theorem py {ps:V}{rest:aH}(hl:rest.length<100):run tx (k+1) 316 [.ref m,ps,.U (.str aR::rest),.int 0] Y=.ok (.U [.str z_,.int 1]) Y:=by
 rw[dE];apply bh (i:=UP) (R:=(some<|.U [.str z_,.int 1],_)) rfl rfl rfl;exact ah (aB (ar (I rfl) (aT ae) rfl) rfl az)<|ah (bl (ar (aG (I rfl) ag<|KZ rfl (by rw[dI];omega)) ag rfl) rfl<|bS<|bO<|aT<|aa ag<|aa ag ae) rfl
end
inductive fS (pb:Nat->Bool)(ls:List Lk):Pl->List Str->Bool->Prop
 |name (p g:Pl) (n:Nm):fS pb ls p ((aR::g.parts)++[n.str]) (gt pb p g&&pb (jx g n))
 |var (p g:Pl):fS pb ls p ((aR::(g.parts++[eN]))++[Qo]) (gt pb p g&&pb (jx g .E))
 |own (p:Pl) (n:Nm):fS pb ls p [n.str] (pb (jx p n))
 |some (p:Pl):fS pb ls p [yA] true
 |link (p:Pl) (l:Lk):l∈ls->fS pb ls p ((aR::l.place.parts)++[uN l.i]) (gt pb p l.place&&l.pub)
 |sup_a:fS pb ls .a [df] true
 |sup_ab:fS pb ls .ab [df] (pb 0)
 |crate (p:Pl):fS pb ls p [aR] true
 |self:fS pb ls .o [dN] true
 |ga (p:Pl):fS pb ls p ((aR::Pl.o.parts)++[dK]) (pb 0)
 |gab (p:Pl):fS pb ls p ((aR::Pl.a.parts)++[Cq]) (pb 1)
def Fq (W:PW)(U:mK)(ax:af)(A:Ad)(opn:Bool)(r:Res V):Prop:=∃Y' ce,mI W U ax Y' {A with ce:=ce}/\(r=.ok (.bool opn) Y'∨(opn=false/\r=.exc 64 Y'))
theorem Wp {s:Str}(h:∀i:Fin 6,decide (uN i.1=s)=false):∀i,i<6->uN i≠s:=λi hi=>of_decide_eq_false<|h ⟨i,hi⟩
section
variable {k:Nat} {Y ax Y':af} {A A':Ad} {W:PW} {U:mK} {m sn e:Nat} {p g:Pl} {n o s:Str}
variable {b:Bool}
theorem wg:zJ [b]=b:=by cases b<;>rfl
theorem Sy:zJ [b,b]=b:=by cases b<;>rfl
theorem Fs (W:PW)(g:Pl)(n:Nm):∃bt bv,D8 W.r.p (p5 g<|W.u g).t n.str bt/\D8 W.r.p (p5 g<|W.u g).v n.str bv/\zJ (bt.toList++bv.toList++(none:Option Bool).toList)=W.pb (jx g n):=by
 cases n with
 |f=>exact fc none (some<|W.pb<|jx g .f) (.no (by cases g<;>lk)) (.yes (path:=jn g .f) (by cases g<;>lk) (by cases g<;>lk)) wg
 |S=>exact fc (some<|W.pb<|jx g .S) (some<|W.pb<|jx g .S) (.yes (path:=jn g .S) (by cases g<;>lk) (by cases g<;>lk)) (.yes (path:=jn g .S) (by cases g<;>lk) (by cases g<;>lk)) Sy
 |E=>exact fc (some<|W.pb<|jx g .E) none (.yes (path:=jn g .E) (by cases g<;>lk) (by cases g<;>lk)) (.no (by cases g<;>lk)) wg
theorem mI.Lh (H:mI W U ax Y A)(iq:jg W.ls)(hs:∀i:Fin 6,decide (uN i.1=s)=false):BX Y (p5 p<|W.u p).u s none:=by
 have:=H.no (p:=p) iq<|Wp hs
 cases p<;>exact .no this
theorem Li {p:Pl}{us:iP}:(p5 p us).u=us:=by cases p<;>rfl
variable {pub:Bool}
theorem mI.tell (H:mI W U ax Y A)(c1:Y[e+1]?=some (.inst 203 e))(c2:Y[e]?=some (.dict<|dT (((aR::g.parts)++[n]).map .str) pub))(hw:jy n [aR,dN,df]=false)
  (h:∀Y',(∃ce,mI W U ax Y' {A with ce:=ce})->∃bt bv bu,D8 W.r.p (p5 g<|W.u g).t n bt/\D8 W.r.p (p5 g<|W.u g).v n bv/\BX Y' (p5 g<|W.u g).u n bu/\zJ (bt.toList++bv.toList++bu.toList)=b):
  Fq W U ax A (gt W.pb p g&&b) (run tx (k+7) 364 [.ref A.m,.str p.str,.ref (e+1)] Y):=by
 rw[jB] at c2;have hl:(aR::g.parts).length<100:=by cases g<;>exact aO rfl
 have mu:((aR::g.parts).map V.str).length<100:=by rw[cy];exact hl
 have h0:0<((aR::g.parts).map V.str).length:=by rw[cy];exact Nat.succ_pos _
 refine kR (H.find (k:=k) (p:=p) hl (pre:=[aR]) (rest:=g.parts) rfl (here:=z_) (P:=λx=>x=if gt W.pb p g then some g.str else none) (λY=>py (by rw[cy];cases g<;>exact aO rfl)) λY' ce H' sn=>⟨_,wf (k:=k) H' p g,rfl⟩) λY' ce x hx H' hf=>?_
 refine aN (H.iZ .o) λR hs=>?_;cases q:gt W.pb p g with
 |false=>
  rw[q] at hx;cases hx;exact kz Y' ce H'<|.inr ⟨rfl,B3 hs c1 c2 mu h0 hw hf⟩
 |true=>
  rw[q] at hx;cases hx;exact aN (H'.iZ g) λR' Cj=>uI (h Y' ⟨ce,H'⟩) λbt bv bu t1 t2 t3 t4=>aN (Lg (k:=k+6) (A':={A with ce:=ce}) hs c1 c2 mu h0 hw hf rfl Cj (we g) (zK g) t1 t2 t3) λJ ht=>kz (Y'++J) ce H'.push<|.inl<|by rw[ht,t4,Bool.true_and]
theorem yh (H:mI W U ax Y A)(c1:Y[e+1]?=some (.inst 203 e)){bt bv bu:Option Bool}(c2:Y[e]?=some (.dict<|dT ([n].map .str) pub))(hw:jy n [aR,dN,df]=false)(t1:D8 W.r.p (p5 p<|W.u p).t n bt)(t2:D8 W.r.p (p5 p<|W.u p).v n bv)(t3:BX Y (p5 p<|W.u p).u n bu):Fq W U ax A (zJ (bt.toList++bv.toList++bu.toList)) (run tx (k+7) 364 [.ref A.m,.str p.str,.ref (e+1)] Y):=by
 exact aN (H.iZ p) λR h=>aN (Lf h c1 c2 hw (we p) (zK p) t1 t2 t3) λJ ht=>kz (Y++J) A.ce H.push<|.inl ht
theorem pV (H:mI W U ax Y A)(c1:Y[e+1]?=some (.inst 203 e)){w:Str}(path:Str)(c2:Y[e]?=some (.dict<|dT ([w].map .str) pub))(hw:jy w [aR,dN,df]=true)(hp:aM W.r.p path=some (.bool b))(hb:(∀Y,run tx (k+4) 316 [.ref A.m,.str p.str,.U<|[w].map .str,.int 0] Y=.ok (.U [.str path,.int 1]) Y)):Fq W U ax A b (run tx (k+7) 364 [.ref A.m,.str p.str,.ref (e+1)] Y):=by
 refine aN (H.iZ p) λR h=>kR (H.find (k:=k) (p:=p) (names:=[w]) (aO rfl) (pre:=[w]) (rest:=[]) rfl (here:=path) (P:=λx=>x=some path) hb λY' ce H' sn=>⟨_,.done,rfl⟩) λY' ce x hx H' hf=>?_;cases hx;exact aN H'.hs λR' h'=>kz Y' ce H'<|.inl<|Le h c1 c2 hw hp h' rfl hf
theorem Lj (H:mI W U ax Y A)(iq:jg W.ls){names:db}{opn:Bool}(hu:fS W.pb W.ls p names opn)(c1:Y[e+1]?=some (.inst 203 e))(c2:Y[e]?=some (.dict<|dT (names.map .str) pub)):
  Fq W U ax A opn (run tx (k+7) 364 [.ref A.m,.str p.str,.ref (e+1)] Y):=by
 induction hu with
 |name p g n=>
  refine de (Fs W g n) λbt bv t1 t2 t3=>?_;exact H.tell c1 c2 (by cases n<;>rfl) λY' ⟨ce,H'⟩=>⟨bt,bv,none,t1,t2,H'.Lh iq (by cases n<;>decide+kernel),t3⟩
 |var p g=>
  refine aN (H.iZ p) λR h=>?_;rw[jB] at c2;have hl:(aR::(g.parts++[eN])).length<100:=by cases g<;>exact aO rfl
  have mu:((aR::(g.parts++[eN])).map V.str).length<100:=by rw[cy];exact hl
  have h0:0<((aR::(g.parts++[eN])).map V.str).length:=by rw[cy];exact Nat.succ_pos _
  refine kR (H.find (k:=k) (p:=p) hl (pre:=[aR]) (rest:=g.parts++[eN]) rfl (here:=z_) (P:=λx=>x=if gt W.pb p g&&(W.pb (jx g .E)||f6 p g) then some (jn g .E) else none) (λY=>py (by rw[cy];cases g<;>exact aO rfl)) λY' ce H' sn=>⟨_,B4 (k:=k) H' p g,rfl⟩) λY' ce x hx H' hf=>?_
  cases q:(gt W.pb p g&&(W.pb (jx g .E)||f6 p g)) with
  |false=>
   rw[q] at hx;cases hx;refine kz Y' ce H'<|.inr ⟨?_,B3 h c1 c2 mu h0 rfl hf⟩
   cases q1:gt W.pb p g with
   |false=>rfl
   |true=>
    rw[q1,Bool.true_and] at q;rw[Bool.true_and];cases q2:W.pb (jx g .E) with
    |false=>rfl
    |true=>rw[q2] at q;cases q
  |true=>
   rw[q] at hx;cases hx;refine aN H'.hs λR' h'=>kz Y' ce H'<|.inl ?_
   rw[((ln _ _▸q).1:gt W.pb p g=true),Bool.true_and];exact Hp (k:=k+6) (A':={A with ce:=ce}) h c1 c2 mu h0 rfl hf rfl h' (by cases g<;>lk) (by cases g<;>lk)
 |own p n=>
  refine de (Fs W p n) λbt bv t1 t2 t3=>?_;rw[<-t3];exact yh H c1 c2 (by cases n<;>rfl) t1 t2<|H.Lh iq (by cases n<;>decide+kernel)
 |some p=>
  exact yh H c1 (bt:=none) (bv:=none) (bu:=none) c2 rfl (.no (by cases p<;>lk)) (.no (by cases p<;>lk))<|H.Lh iq<|by decide+kernel
 |link p l hl=>
  refine cR (v9 l.i (iq.ok l hl).1) λf1 f2=>?_;have hw:jy (uN l.i) [aR,dN,df]=false:=by
   unfold jt at f1;rw[ln,oE,oE] at f1;exact f1.2
  refine H.tell c1 c2 hw λY' ⟨ce,H'⟩=>j8 (H'.use iq (List.mem_filter.mpr ⟨hl,by cases l.place<;>rfl⟩:l∈cL l.place W.ls)) λe' e1 e2 e3=>?_
  refine tL none none (Option.some l.pub) (.no ?_) (.no ?_) (.yes (by rw[Li];exact e1) e2 e3) wg
  ·rw[<-(f2 l.place).1];cases l.place<;>rfl
  ·rw[<-(f2 l.place).2];cases l.place<;>rfl
 |sup_a=>exact pV H c1 z_ c2 rfl (by lk) λY=>by lk
 |sup_ab=>exact pV H c1 dK c2 rfl (by lk) λY=>by lk
 |crate p=>exact pV H c1 z_ c2 rfl (by lk) λY=>py<|aO rfl
 |self=>exact pV H c1 z_ c2 rfl (by lk) λY=>by lk
 |ga p=>exact H.tell c1 c2 rfl λY' ⟨ce,H'⟩=>⟨Option.some<|W.pb 0,none,none,.yes (path:=dK) (by lk) (by lk),.no (by lk),H'.Lh iq (by decide+kernel),wg⟩
 |gab p=>exact H.tell (g:=.a) c1 c2 rfl λY' ⟨ce,H'⟩=>⟨Option.some<|W.pb 1,none,none,.yes (path:=aQ) (by lk) (by lk),.no (by lk),H'.Lh iq (by decide+kernel),wg⟩
end
noncomputable def Lk.bad (l:Lk):Bool:=l.pub&&!l.opn
theorem B5 {s x:Str}:∀{l:db},s∈wF x l↔s=x∨s∈l
 | []=>by unfold wF;exact aX
 |y::r=>by
  unfold wF;split
  ·rw[aX,aX,B5];exact⟨λh=>h.elim (λh=>.inr<|.inl h) λh=>h.elim .inl λh=>.inr<|.inr h,λh=>h.elim (λh=>.inr<|.inl h) λh=>h.elim .inl λh=>.inr<|.inr h⟩
  ·exact aX
theorem sG {s:Str}:∀{l:db},s∈mS l↔s∈l
 | []=>Iff.rfl
 |y::r=>by
  show s∈wF y (mS r)↔_;rw[B5,sG,aX]
theorem fZ.keys {R:mK}{rows:iP}{us:List Lk}(h:fZ R rows us):rows.map (·.1)=us.map λu=>uN u.i:=by
 induction h with
 |nil=>rfl
 |snoc _ h2 ih=>rw[jB,jB,ih];exact bJ _<|bJ (λx=>[x]) h2.name
theorem Ll {Y:af}:∀i,i<6->∃m1 m2,jJ Y .Add (.str yD) (.str<|uN i)=.ok (.str m1) Y/\jJ Y .Add (.str m1) (.str Ic)=.ok (.str m2) Y
 | 0,_=>⟨_,_,rfl,rfl⟩
 | 1,_=>⟨_,_,rfl,rfl⟩
 | 2,_=>⟨_,_,rfl,rfl⟩
 | 3,_=>⟨_,_,rfl,rfl⟩
 | 4,_=>⟨_,_,rfl,rfl⟩
 | 5,_=>⟨_,_,rfl,rfl⟩
 |n+6,h=>absurd h (by omega)
abbrev Ov:List S:=[.set (.l 4)<|.i (.attr (.l 2) gM)<|.l 3,.ite (.and [.attr (.l 4) ka,.not<|.bI (.l 0) iE [.l 1,.l 4]]) [.raise 64 (.bin .Add (.bin .Add (.xs yD)<|.l 3)<|.xs Ic)<|.attr (.l 4) mx] []]
abbrev Lm (O:av):V->Loc->af->Res fA:=λv N Y=>(ue O (.l 3) v N Y).bind λN Y=>b9 O 400 Ov N Y
abbrev Wq:List S:=[.set (.l 2)<|.i (.attr (.l 0) dO)<|.l 1,.for (.l 3) (.bi .sorted [.attr (.l 2) gM]) Ov]
abbrev Ow (O:av):V->Loc->af->Res fA:=λv N Y=>(ue O (.l 1) v N Y).bind λN Y=>b9 O 400 Wq N Y
noncomputable abbrev mJ (m:Nat)(x1 x2 x3 x4:j9):Loc:=[some<|.ref m,x1,x2,x3,x4,none,none]
section
variable {O:av} {k:Nat} {Y ax Y':af} {A:Ad} {W:PW} {U U':mK} {m e:Nat} {p:Pl} {n o s:Str} {x1 x2 x3 x4:j9}
variable {x:X} {N:Loc} {C:Nat} {al:af}
theorem Ln {ss tt:List S}(h:aV O x N Y=.exc C al):oy O 400 (.ite x ss tt) N Y=.exc C al:=dD<|dD h
theorem Lp (h:aV O x N Y=.exc C al):n0 O [x] N Y=.exc C al:=dD h
theorem Lq (h:aV O x N Y=.exc C al):aV O (.not x) N Y=.exc C al:=dD<|dD h
theorem Lr (H:mI W U ax Y A)(iq:jg W.ls)(HJ:∀l∈W.ls,fS W.pb W.ls l.place l.names l.opn){l:Lk}(hl:l∈cL p W.ls):
  ∃Y' ce,mI W U ax Y' {A with ce:=ce}/\((l.bad=false/\∃y3 y4,Lm (run tx (k+7)) (.str<|uN l.i) (mJ A.m (some<|.str p.str) (some<|.ref (W.B p).t) x3 x4) Y=.ok (none,mJ A.m (some<|.str p.str) (some<|.ref (W.B p).t) y3 y4) Y')∨(l.bad=true/\Lm (run tx (k+7)) (.str<|uN l.i) (mJ A.m (some<|.str p.str) (some<|.ref (W.B p).t) x3 x4) Y=.exc 64 Y')):=by
 refine aN (H.iZ p) λR h=>j8 (H.use iq hl) λe e1 c1 c2=>?_;have hp:l.place=p:=by
  have:=(List.mem_filter.mp hl).2;cases p<;>cases hq:l.place<;>rw[hq] at this<;>first | rfl | cases this
 have hu:=HJ l<|dp hl
 rw[hp] at hu;have SJ:=h.get 11 rfl;rw[Li] at SJ;have pre:∀{RF:Res fA},b9 (run tx (k+7)) 400 (Ov.drop 1) (mJ A.m (some<|.str p.str) (some<|.ref (W.B p).t) (some<|.str<|uN l.i)<|some<|.ref (e+1)) Y=RF->Lm (run tx (k+7)) (.str<|uN l.i) (mJ A.m (some<|.str p.str) (some<|.ref (W.B p).t) x3 x4) Y=RF:=λ{RF} hx=>by
  have:b9 (run tx (k+7)) 400 Ov (mJ A.m (some<|.str p.str) (some<|.ref (W.B p).t) (some<|.str<|uN l.i) x4) Y=RF:=
   ah (aA (aG (b0 rfl (h.get 7 rfl) (h.get 8 rfl) rfl rfl rfl) (I rfl)<|fD SJ e1) aE) hx
  exact this
 have ap:aV (run tx (k+7)) (.attr (.l 4) ka) (mJ A.m (some<|.str p.str) (some<|.ref (W.B p).t) (some<|.str<|uN l.i)<|some<|.ref (e+1)) Y=.ok (.bool l.pub) Y:=b0 rfl c1 c2 rfl rfl rfl;cases hpub:l.pub with
 |false=>
  rw[hpub] at ap;refine kz Y A.ce H<|.inl ⟨by unfold Lk.bad;rw[hpub];rfl,some<|.str<|uN l.i,some<|.ref (e+1),pre ?_⟩
  exact ah (aB (eS<|kZ ap rfl) rfl az) az
 |true=>
  rw[hpub] at ap;refine gG (Lj (k:=k) (p:=p) H iq hu c1 c2) λY' ce H' ht=>?_;have hm:∀{r:Res V},run tx (k+7) 364 [.ref A.m,.str p.str,.ref (e+1)] Y=r->aV (run tx (k+7)) (.bI (.l 0) iE [.l 1,.l 4]) (mJ A.m (some<|.str p.str) (some<|.ref (W.B p).t) (some<|.str<|uN l.i)<|some<|.ref (e+1)) Y=r:=λhr=>
   bR (I rfl) (b8 (h.get 0 rfl) (h.get 1 rfl) rfl rfl) (aa (I rfl)<|aa (I rfl) ae) hr
  refine aZ ht (λht=>?_) λZX=>?_
  ·cases ho:l.opn with
   |true=>
    rw[ho] at ht;refine kz Y' ce H'<|.inl ⟨by unfold Lk.bad;rw[ho,hpub];rfl,some<|.str<|uN l.i,some<|.ref (e+1),pre ?_⟩
    exact ah (aB (eS<|hJ ap rfl<|iS<|lO (hm ht) rfl) rfl az) az
   |false=>
    rw[ho] at ht;refine j8 (H'.use iq hl) λe' S2 c1' O1=>?_;have he:e'=e:=by rw[e1] at S2;cases S2;rfl
    subst he;refine gG (Ll (Y:=Y') l.i (iq.ok l<|dp hl).1) λm1 m2 g1 g2=>?_;refine kz Y' ce H'<|.inr ⟨by unfold Lk.bad;rw[ho,hpub];rfl,pre ?_⟩
    exact cT<|bl (eS<|hJ ap rfl<|iS<|lO (hm ht) rfl) rfl<|cT<|pj (fj (fj ag (I rfl) g1) ag g2)<|b0 rfl c1' O1 rfl rfl rfl
  ·refine cR ZX λho ht=>?_;refine kz Y' ce H'<|.inr ⟨by unfold Lk.bad;rw[ho,hpub];rfl,pre ?_⟩
   exact cT<|Ln<|eS<|hJ ap rfl<|Lp<|Lq<|hm ht
theorem D9 (iq:jg W.ls)(HJ:∀l∈W.ls,fS W.pb W.ls l.place l.names l.opn){si:Nat}{all:aH}(hsi:(si,ao.list all)∈U):∀(rest:db) {Y:af} {A:Ad} {x3 x4:j9},(∀s∈rest,∃l∈cL p W.ls,s=uN l.i)->mI W U ax Y A->
  ∃Y' ce,mI W U ax Y' {A with ce:=ce}/\(((∀s∈rest,∃l∈cL p W.ls,s=uN l.i/\l.bad=false)/\∃y3 y4,jz (Lm<|run tx (k+7)) (.ref si) all (rest.map .str) (mJ A.m (some<|.str p.str) (some<|.ref (W.B p).t) x3 x4) Y=.ok (none,mJ A.m (some<|.str p.str) (some<|.ref (W.B p).t) y3 y4) Y')∨
   ((∃l∈W.ls,l.bad=true)/\jz (Lm<|run tx (k+7)) (.ref si) all (rest.map .str) (mJ A.m (some<|.str p.str) (some<|.ref (W.B p).t) x3 x4) Y=.exc 64 Y')):=by
 intro rest
 induction rest with
 |nil=>
  intro Y A x3 x4 _ H;exact kz Y A.ce H<|.inl ⟨λM h=>(nomatch h),x3,x4,eY⟩
 |cons s rest ih=>
  intro Y A x3 x4 hr H;refine aJ (hr s<|.head _) λl hl eA=>?_;subst eA;refine gG (Lr (k:=k) (x3:=x3) (x4:=x4) H iq HJ hl) λal Wr wX h1=>aZ h1 (λZY=>?_) λZZ=>?_
  ·refine Ms ZY λhb y3 y4 e1=>gG (ih (x3:=y3) (x4:=y4) (λs hs=>hr s<|.tail _ hs) wX) λay Ft zL h2=>kz ay Ft zL<|aZ h2 (λZ0=>?_) λZ1=>?_
   ·refine Ms Z0 λhb2 z3 z4 e2=>.inl<|X9 (λs hs=>?_) z3 z4<|a8 e1 (bc<|wX.cell hsi) e2
    rcases aX.mp hs with rfl | hs
    ·exact lY l hl rfl hb
    ·exact hb2 s hs
   ·exact cR Z1 λhb2 e2=>.inr ⟨hb2,a8 e1 (bc<|wX.cell hsi) e2⟩
  ·exact cR ZZ λhb e1=>kz al Wr wX<|.inr ⟨⟨l,dp hl,hb⟩,qK e1⟩
theorem B6 {t:Nat}{l:iP}(h:Y[t]?=some (.dict l))(hl:l.length<64):wp Y .sorted [.ref t]=.ok (.ref Y.length) (Y++[.list<|(mS<|l.map (·.1)).map .str]):=by
 show qr Y t (λl=>if l.length<64 then alloc Y (.list<|(mS<|l.map (·.1)).map .str) else .stuck)= _;exact cw (Ds h)<|(if_pos hl).trans rfl
theorem qN (H:mI W U ax Y A)(iq:jg W.ls)(HJ:∀l∈W.ls,fS W.pb W.ls l.place l.names l.opn)(p:Pl):
  ∃Y' ce U',mI W (U++U') ax Y' {A with ce:=ce}/\(((∀l∈cL p W.ls,l.bad=false)/\∃y2 y3 y4,Ow (run tx (k+7)) (.str p.str) (mJ A.m x1 x2 x3 x4) Y=.ok (none,mJ A.m (some<|.str p.str) y2 y3 y4) Y')∨((∃l∈W.ls,l.bad=true)/\Ow (run tx (k+7)) (.str p.str) (mJ A.m x1 x2 x3 x4) Y=.exc 64 Y')):=by
 refine aN (H.iZ p) λR h=>?_;have SJ:=h.get 11 rfl;rw[Li] at SJ;have hk:=(H.uses p).keys;have hlen:(W.u p).length<64:=by
  have:=bJ List.length hk;rw[cy,cy] at this;have:=lS iq p;omega
 have hs:=B6 SJ hlen;rw[hk] at hs;obtain⟨ay,Ft,zL,h2⟩:=D9 iq HJ (ll _<|.head _) (mS<|(cL p W.ls).map λu=>uN u.i) (λs hs=>by
  refine aJ (bX.mp<|sG.mp hs) λl hl e=>?_;exact⟨l,hl,e.symm⟩) (H.pin)
 have pre:∀{RF:Res fA},b9 (run tx (k+7)) 400 Wq (mJ A.m (some<|.str p.str) x2 x3 x4) Y=RF->Ow (run tx (k+7)) (.str p.str) (mJ A.m x1 x2 x3 x4) Y=RF:=λhx=>hx;have st:oy (run tx (k+7)) 400 (.set (.l 2)<|.i (.attr (.l 0) dO)<|.l 1) (mJ A.m (some<|.str p.str) x2 x3 x4) Y=.ok (none,mJ A.m (some<|.str p.str) (some<|.ref (W.B p).t) x3 x4) Y:=
  aA (aG (b0 rfl (h.get 0 rfl) (h.get 1 rfl) rfl rfl rfl) (I rfl)<|fD (h.get 4 rfl)<|zK p) aE
 have es:aV (run tx (k+7)) (.bi .sorted [.attr (.l 2) gM]) (mJ A.m (some<|.str p.str) (some<|.ref (W.B p).t) x3 x4) Y=.ok (.ref Y.length) (Y++[.list<|(mS<|(cL p W.ls).map λu=>uN u.i).map .str]):=
  cP (aa (b0 rfl (h.get 7 rfl) (h.get 8 rfl) rfl rfl rfl) ae) hs
 refine aZ h2 (λZ2=>?_) λZ3=>?_
 ·refine Ms Z2 λhb y3 y4 e2=>Cw ay Ft _ zL<|.inl ⟨λl hl=>?_,some<|.ref (W.B p).t,y3,y4,pre<|ah st<|ah (gR es (cK aq) e2) az⟩
  refine j8 (hb _<|sG.mpr<|bX.mpr ⟨l,hl,rfl⟩) λl' mu e Ch=>?_;have:l=l':=by
   refine aN (List.mem_iff_getElem?.mp<|dp hl) λa ha=>aN (List.mem_iff_getElem?.mp<|dp mu) λb hb=>?_;have hab:a=b:=lg iq.nd (i:=a) (j:=b) (a:=l.i) (by rw[gd,ha];rfl) (by rw[gd,hb,Option.map_some,KT (iq.ok l<|dp hl).1 (iq.ok l'<|dp mu).1 e]);rw[hab,hb] at ha;cases ha;rfl
  rw[this];exact Ch
 ·exact cR Z3 λhb e2=>Cw ay Ft _ zL<|.inr ⟨hb,pre<|ah st<|cT<|gR es (cK aq) e2⟩
theorem B7 (H:mI W U ax Y A)(iq:jg W.ls)(HJ:∀l∈W.ls,fS W.pb W.ls l.place l.names l.opn):
  ∃Y',du ax Y'/\(((∀l∈W.ls,l.bad=false)/\run tx (k+8) 359 [.ref A.m] Y=.ok .none Y')∨((∃l∈W.ls,l.bad=true)/\run tx (k+8) 359 [.ref A.m] Y=.exc 64 Y')):=by
 refine aN (H.iZ .o) λR h=>?_;have hs:=B6 (h.get 4 rfl)<|aO rfl
 rw[(by lk:(mS<|W.r.tab.map (·.1)).map V.str=[.str z_,.str dK,.str aQ])] at hs;have es:aV (run tx (k+7)) (.bi .sorted [.attr (.l 0) dO]) (mJ A.m none none none none) Y=.ok (.ref Y.length) (Y++[.list [.str z_,.str dK,.str aQ]]):=
  cP (aa (b0 rfl (h.get 0 rfl) (h.get 1 rfl) rfl rfl rfl) ae) hs
 have bad:∀{Y':af},du ax Y'->(∃l∈W.ls,l.bad=true)->jz (Ow<|run tx (k+7)) (.ref Y.length) [.str z_,.str dK,.str aQ] [.str z_,.str dK,.str aQ] (mJ A.m none none none none) (Y++[.list [.str z_,.str dK,.str aQ]])=.exc 64 Y'->∃Y',du ax Y'/\(((∀l∈W.ls,l.bad=false)/\run tx (k+8) 359 [.ref A.m] Y=.ok .none Y')∨((∃l∈W.ls,l.bad=true)/\run tx (k+8) 359 [.ref A.m] Y=.exc 64 Y')):=λ{Y'} G hb e=>by
  refine bF Y' G<|.inr ⟨hb,?_⟩
  rw[dE];apply gE (i:=QD) rfl rfl rfl;exact cT<|gR es (cK aq) e
 have zR:∀X:mK,(Y.length,ao.list [.str z_,.str dK,.str aQ])∈(U++[(Y.length,ao.list [.str z_,.str dK,.str aQ])])++X:=λX=>j5 _<|ll _<|.head _
 refine rR (qN (k:=k) (x1:=none) (x2:=none) (x3:=none) (x4:=none) (H.pin (c:=.list [.str z_,.str dK,.str aQ])) iq HJ .o) λal c₁ Z4 wX h1=>?_;rcases h1 with ⟨b1,y2,y3,y4,e1⟩ | ⟨hb,e1⟩
 rotate_left
 ·exact bad wX.grow hb<|qK e1
 refine rR (qN (k:=k) (x1:=some<|.str z_) (x2:=y2) (x3:=y3) (x4:=y4) wX iq HJ .a) λay c₂ Ro zL h2=>?_;rcases h2 with ⟨b2,w2,w3,w4,e2⟩ | ⟨hb,e2⟩
 rotate_left
 ·exact bad zL.grow hb<|a8 e1 (bc<|wX.cell<|zR _)<|qK e2
 refine rR (qN (k:=k) (x1:=some<|.str dK) (x2:=w2) (x3:=w3) (x4:=w4) zL iq HJ .ab) λbD aaG GC Sz h3=>?_;have S9:(Y.length,ao.list [.str z_,.str dK,.str aQ])∈(U++[(Y.length,ao.list [.str z_,.str dK,.str aQ])])++Z4++Ro:=j5 _<|zR _
 rcases h3 with ⟨b3,v2,v3,v4,e3⟩ | ⟨hb,e3⟩
 rotate_left
 ·exact bad Sz.grow hb<|a8 e1 (bc<|wX.cell<|zR _)<|a8 e2 (bc<|zL.cell S9)<|qK e3
 refine bF bD Sz.grow<|.inl ⟨λl hl=>?_,?_⟩
 ·have mu:l∈cL l.place W.ls:=List.mem_filter.mpr ⟨hl,by cases l.place<;>rfl⟩
  cases hp:l.place with
  |o=>rw[hp] at mu;exact b1 l mu
  |a=>rw[hp] at mu;exact b2 l mu
  |ab=>rw[hp] at mu;exact b3 l mu
 ·rw[dE];apply bh (i:=QD) (R:=(none,_)) rfl rfl rfl;exact ah (gR es (cK aq)<|a8 e1 (bc<|wX.cell<|zR _)<|a8 e2 (bc<|zL.cell S9)<|a8 e3 (bc<|Sz.cell<|j5 _ S9) eY) az
end
abbrev Lk.U (l:Lk):V:=.U [.str l.place.str,.U<|l.names.map .str,.str<|uN l.i,.bool l.pub,.bool l.opn]
def itemsOf (p:Pl)(pb:Nat->Bool)(ls:List Lk):aH:=match p with
 | .o=>kJ pb ls
 | .a=>jv pb ls
 | .ab=>iU pb ls
abbrev lkB:List S:=[.ite (.m .Eq (.l 6)<|.l 0) [.ex<|.bm (.l 3) .append [.U [.xs sW,.xi 0,.l 7,.l 8,.l 9]]] []]
abbrev lkF (O:av):V->Loc->af->Res fA:=λv N Y=>(ue O (.U [.l 6,.l 7,.l 8,.l 9,.l 10]) v N Y).bind λN Y=>b9 O 400 lkB N Y
noncomputable abbrev B8 (p:Pl)(pd lk t:Nat)(x4 x5 x6 x7 x8 x9 Ei:j9):Loc:=[some<|.str p.str,some<|.ref pd,some<|.ref lk,some<|.ref t,x4,x5,x6,x7,x8,x9,Ei,ai,ai,ai,ai,ai]
section
variable {O:av} {k:Nat} {Y ax Y' al:af} {p g:Pl} {n o s:Str} {pd lk t:Nat} {pb:Nat->Bool} {ls:List Lk} {x4 x5 x6 x7 x8 x9 Ei:j9}
theorem lT (p:Pl)(n:Nm):run tx (k+1) 404 [.str p.str,.str n.str] Y=.ok (.str<|jn p n) Y:=by cases p<;>cases n<;>lk
theorem SA (b:Bool):run tx (k+1) 425 [.str dX,.bool b] Y=.ok (cU dX<|.bool b) Y:=by lk
theorem PT {q:Pl}:cS Y .Eq (.str q.str) (.str p.str)=some (p.is q):=by cases q<;>cases p<;>rfl
theorem Ea (t9:∀Y',du ax Y'->same Y' (.ref lk) (ls.map Lk.U)=true)(ht:ax.length<=t):∀(rest:List Lk) {Y:af} {acc:aH} {x6 x7 x8 x9 Ei:j9},du ax Y->Y[t]?=some (.list acc)->acc.length+rest.length<1000->
  ∃Y' y6 y7 y8 y9 Ta,jz (lkF O) (.ref lk) (ls.map Lk.U) (rest.map Lk.U) (B8 p pd lk t x4 x5 x6 x7 x8 x9 Ei) Y=.ok (none,B8 p pd lk t x4 x5 y6 y7 y8 y9 Ta) Y'/\du ax Y'/\Y'[t]?=some (.list<|acc++(cL p rest).map Lk.item):=by
 intro rest
 induction rest with
 |nil=>
  intro Y acc x6 x7 x8 x9 Ei hg h _;exact FH Y x6 x7 x8 x9 Ei eY hg (by rw[show(cL p []).map Lk.item=[] from rfl,gI];exact h)
 |cons l rest ih=>
  intro Y acc x6 x7 x8 x9 Ei hg h hlen;rw[dI] at hlen;have pre:∀{RF:Res fA},b9 O 400 lkB (B8 p pd lk t x4 x5 (some<|.str l.place.str) (some<|.U<|l.names.map .str) (some<|.str<|uN l.i) (some<|.bool l.pub)<|some<|.bool l.opn) Y=RF->lkF O l.U (B8 p pd lk t x4 x5 x6 x7 x8 x9 Ei) Y=RF:=λ{RF} hx=>hx;cases q:p.is l.place with
  |true=>
   have XQ:du ax (Y.set t<|.list (acc++[l.item])):=hg.set ht;refine FE (ih (acc:=acc++[l.item]) (x6:=some<|.str l.place.str) (x7:=some<|.U<|l.names.map .str) (x8:=some<|.str<|uN l.i) (x9:=some<|.bool l.pub) (Ei:=some<|.bool l.opn) XQ (lb h)<|gX ‹_›) λY' y6 y7 y8 y9 Ta e g h'=>FH Y' y6 y7 y8 y9 Ta (a8 (pre ?_) (t9 _ XQ) e) g ?_
   ·exact ah (bl (ar (I rfl) (I rfl)<|PT.trans<|by rw[q]) rfl<|ah (ic<|km (I rfl) (hU h<|.inl rfl) (aa (aT<|aa ag<|aa ag<|aa (I rfl)<|aa (I rfl)<|aa (I rfl) ae) ae)<|fH h<|ig ‹_› rfl) az) az
   ·rw[h',show cL p (l::rest)=l::cL p rest from List.filter_cons_of_pos q,eM,bT];rfl
  |false=>
   refine FE (ih (acc:=acc) (x6:=some<|.str l.place.str) (x7:=some<|.U<|l.names.map .str) (x8:=some<|.str<|uN l.i) (x9:=some<|.bool l.pub) (Ei:=some<|.bool l.opn) hg h<|yq ‹_›) λY' y6 y7 y8 y9 Ta e g h'=>FH Y' y6 y7 y8 y9 Ta (a8 (pre ?_) (t9 _ hg) e) g ?_
   ·exact ah (aB (ar (I rfl) (I rfl)<|PT.trans<|by rw[q]) rfl az) az
   ·rw[h',show cL p (l::rest)=cL p rest from List.filter_cons_of_neg (by rw[q];exact Bool.false_ne_true)]
theorem tE {l:aH}{v:V}(hl:l.length<100):Pe (Y++[ao.list l]) (.ref Y.length) .append [v]=.ok .none (Y++[.list (l++[v])]):=by
 have:=fH (v:=v) (aq (Y:=Y) (c:=.list l))<|cb ‹_› rfl
 rw[List.set_append_right _ _<|ba _,oF] at this;exact this
theorem yi (wr:Y[pd]?=some (.dict<|rI pb)){L2:V}(zR:(aM [(z_,V.str dK),(dK,V.str Cq)] p.str).getD .none=L2){RF:Res fA}
  (hx:b9 (run tx (k+1)) 400 (FV.body.drop 4) (B8 p pd lk Y.length (some L2) none none none none none none) (Y++[.list<|ju p pb]++[.dict [(z_,.str dK),(dK,.str Cq)]])=RF):
  b9 (run tx (k+1)) 400 FV.body [some<|.str p.str,some<|.ref pd,some<|.ref lk,ai,ai,ai,ai,ai,ai,ai,ai,ai,ai,ai,ai,ai] Y=RF:=by
 have i:∀(J:af) (n:Nm),cq (Y++J) (.ref pd) (.str<|jn p n)=some (.bool<|pb<|jx p n):=λJ n=>fD (cH wr)<|rJ pb p n
 refine ah (aA (bk<|aa (aL (aa ag<|aa (aG (I rfl) (aL (aa (I rfl)<|aa ag ae)<|lT p .f) (fD wr (rJ pb p .f):cq Y (.ref pd) (.str<|jn p .f)=some (.bool<|pb<|jx p .f))) ae)<|SA _) ae) aE)<|ah (ic<|km (I rfl) (hU aq<|.inl rfl) (aa (aT<|aa ag<|aa ag<|aa ag<|aa ag<|aa ag<|aa (aT ae)<|aa (aG (I rfl) (aL (aa (I rfl)<|aa ag ae)<|lT p .S)<|i _ .S) ae) ae)<|tE<|aO rfl) ?_
 exact ah (ic<|km (I rfl) (hU aq<|.inl rfl) (aa (aT<|aa ag<|aa ag<|aa ag<|aa ag<|aa (aT<|aa (aT<|aa ag<|aa ag<|aa (aT ae) ae) ae)<|aa (aG (I rfl) (aL (aa (I rfl)<|aa ag ae)<|lT p .E)<|i _ .E) ae) ae)<|tE<|aO rfl)<|ah (aA (km (mD<|aa ag<|aa ag ae) (We aq) (aa (I rfl) ae)<|PM aq zR) aE) hx
def zM (O:av)(p:Pl)(pd lk:Nat)(pb:Nat->Bool)(ls:List Lk):Prop:=∀Y:af,Y[pd]?=some (.dict<|rI pb)->Y[lk]?=some (.list<|ls.map Lk.U)->∃j Y',O 453 [.str p.str,.ref pd,.ref lk] Y=.ok (.ref j) Y'/\du Y Y'/\Y.length<=j/\Y'[j]?=some (.list<|itemsOf p pb ls)
theorem yj (t9:ax[lk]?=some (.list<|ls.map Lk.U))(iq:jg ls)(ht:ax.length<=t)(hg:du ax Y){acc:aH}(h:Y[t]?=some (.list acc))(OY:acc.length<100):
  ∃loc' Y',b9 O 400 (FV.body.drop 5) (B8 p pd lk t x4 x5 none none none none none) Y=.ok (some<|.ref t,loc') Y'/\du ax Y'/\Y'[t]?=some (.list<|acc++(cL p ls).map Lk.item):=by
 have hl:=iq.len;refine FE (Ea (O:=O) (p:=p) (pd:=pd) (lk:=lk) (t:=t) (x4:=x4) (x5:=x5) (x6:=none) (x7:=none) (x8:=none) (x9:=none) (Ei:=none) (λY' G=>bc<|G.old _ _ t9) ht ls hg h<|by omega) λY' y6 y7 y8 y9 Ta e g h'=>fc (B8 p pd lk t x4 x5 y6 y7 y8 y9 Ta) Y' ?_ g h';exact ah (gR (I rfl) (cK<|hg.old _ _ t9) e)<|bS<|bO<|I rfl
theorem Ls (iq:jg ls):zM (run tx (k+2)) .ab pd lk pb ls:=λY wr t9=>by
 refine de (yj (O:=run tx (k+1)) (p:=.ab) (pd:=pd) (t:=Y.length) (x4:=some .none) (x5:=none) t9 iq (ba _) ((du.refl (Y:=Y)).push.push) (ak (c':=.dict [(z_,.str dK),(dK,.str Cq)])<|aq (Y:=Y) (c:=.list<|ju .ab pb))<|aO rfl) λloc' Y' e g h'=>Cv Y.length Y' ?_ g (ba _) h';rw[dE];apply bh (i:=FV) (R:=(some _,loc')) rfl rfl rfl;exact yi (k:=k) wr rfl<|ah (aB (ar (I rfl) ag rfl) rfl az) e
theorem B9 {q:Pl}{L2 path:Str}{b:Bool}{inner:aH}(iq:jg ls)(zR:(aM [(z_,V.str dK),(dK,V.str Cq)] p.str).getD .none=.str L2)(hj:∀Y,run tx (k+1) 404 [.str p.str,.str L2] Y=.ok (.str path) Y)(hp:path=q.str)(hb:aM (rI pb) path=some (.bool b))(hil:inner.length<1000)
  (hi:∀Y:af,Y[pd]?=some (.dict<|rI pb)->Y[lk]?=some (.list<|ls.map Lk.U)->∃j Y',run tx (k+1) 453 [.str q.str,.ref pd,.ref lk] Y=.ok (.ref j) Y'/\du Y Y'/\Y.length<=j/\Y'[j]?=some (.list inner))
  (Y:af) (wr:Y[pd]?=some (.dict<|rI pb)) (t9:Y[lk]?=some (.list<|ls.map Lk.U)):∃j Y',run tx (k+2) 453 [.str p.str,.ref pd,.ref lk] Y=.ok (.ref j) Y'/\du Y Y'/\Y.length<=j/\Y'[j]?=some (.list (ju p pb++hV L2 inner (.bool b)::(cL p ls).map Lk.item)):=by
 have G2:du Y (Y++[ao.list<|ju p pb]++[ao.dict [(z_,V.str dK),(dK,V.str Cq)]]):=(du.refl (Y:=Y)).push.push;refine tK (hi _ (G2.old _ _ wr)<|G2.old _ _ t9) λj bD e3 G3 M h3=>?_;have ht:bD[Y.length]?=some (.list<|ju p pb):=G3.old _ _<|ak aq
 refine de (yj (O:=run tx (k+1)) (p:=p) (pd:=pd) (t:=Y.length) (x4:=some<|.str L2) (x5:=some<|.str path) (acc:=ju p pb++[hV L2 inner<|.bool b]) t9 iq (ba _) ((G2.trans G3).set (ba _):du Y (bD.set Y.length<|.list<|ju p pb++[hV L2 inner<|.bool b])) (lb ht)<|aO rfl) λloc' Y' e g h'=>?_;subst hp;refine Cv Y.length Y' ?_ g (ba _) (by rw[h',bT];rfl);rw[dE];apply bh (i:=FV) (R:=(some _,loc')) rfl rfl rfl;refine yi (k:=k) wr zR<|ah (f:=(none,B8 p pd lk Y.length (some<|.str L2) (some<|.str q.str) none none none none none)) (al:=bD.set Y.length<|.list<|ju p pb++[hV L2 inner<|.bool b]) (bl (ar (I rfl) ag rfl) rfl ?_) e
 exact ah (aA (aL (aa (I rfl)<|aa (I rfl) ae)<|hj _) aE)<|ah (ic<|km (I rfl) (hU (ak aq)<|.inl rfl) (aa (aT<|aa ag<|aa ag<|aa (I rfl)<|aa (cP (aa (aL (aa (I rfl)<|aa (I rfl)<|aa (I rfl) ae) e3) ae)<|ch (cG h3)<|cb ‹_› rfl)<|aa (aG (I rfl) (I rfl)<|fD ((G2.trans G3).old _ _ wr) hb) ae) ae)<|fH ht<|aO rfl) az
theorem Ox (iq:jg ls):zM (run tx (k+3)) .a pd lk pb ls:=λY wr t9=>
 B9 iq rfl (λY=>by lk) rfl (by lk) (tD iq) (Ls iq) Y wr t9
theorem Oy (iq:jg ls):zM (run tx (k+4)) .o pd lk pb ls:=λY wr t9=>
 B9 iq rfl (λY=>by lk) rfl (by lk) (wa iq) (Ox iq) Y wr t9
end
def lU (pb:Nat->Bool)(ls:List Lk)(s:Nat)(Y:af)(r:Res V):Prop:=∃Y' j p names opn a' b',r=.ok (.ref j) Y'/\Y'[j]?=some (.list [.str p.str,.U<|names.map .str,.bool opn])/\bj s Y Y'/\Y'[s]?=some (aD a' b')/\fS pb ls p names opn
abbrev Fu:aH:=[.str z_,.str dK,.str aQ]
abbrev pA (s pd lk:Nat)(p:Pl)(d:Int)(g:Pl)(n:Nm)(b:Bool)(x9 Ei:j9):Loc:=[some<|.ref s,some<|.ref pd,some<|.ref lk,some<|.str p.str,some<|.int d,some<|.str g.str,some<|.U (.str aR::g.parts.map .str),some<|.str n.str,some<|.bool b,x9,Ei,ai,ai,ai,ai,ai,ai]
section
variable {O:av} {k:Nat} {Y Y':af} {p g:Pl} {n:Nm} {s pd lk t:Nat} {pb:Nat->Bool} {ls:List Lk} {a b:Int} {d:Int}
theorem wi (hs:Y[s]?=some (aD a b)):∃(p:Pl) (a' b':Int),run tx (k+2) 392 [.ref s,.gl Fu] Y=.ok (.str p.str) (Y.set s<|aD a' b'):=by
 refine nk (mq (k+2) (aO rfl) hs (eT.gl (l:=Fu)<|aO rfl) (aO rfl)<|aO rfl) λi v a' b' hv e=>?_
 match i,hv with
 | 0,h=>cases h;exact Aa .o a' b' e
 | 1,h=>cases h;exact Aa .a a' b' e
 | 2,h=>cases h;exact Aa .ab a' b' e
 |_+3,h=>cases h
theorem Oz (hs:Y[s]?=some (aD a b))(ht:Y[t]?=some (.list [.str dX,.str cB,.str eN]))(dZ:s≠t):∃(n:Nm) (a' b':Int),run tx (k+2) 392 [.ref s,.ref t] Y=.ok (.str n.str) (Y.set s<|aD a' b'):=by
 refine nk (mq (k+2) (aO rfl) hs (eT.list ht dZ<|aO rfl) (aO rfl)<|aO rfl) λi v a' b' hv e=>?_
 match i,hv with
 | 0,h=>cases h;exact Aa .f a' b' e
 | 1,h=>cases h;exact Aa .S a' b' e
 | 2,h=>cases h;exact Aa .E a' b' e
 |_+3,h=>cases h
theorem yk (g:Pl):∃J,run tx (k+1) 411 [.str g.str] Y=.ok (.U<|g.parts.map .str) (Y++J):=by
 cases g with
 |o=>exact⟨[],by rw[gI];lk⟩
 |a=>
  refine⟨[.list [.str dK]],?_⟩;rw[dE];apply bh (i:=QF) (R:=(some<|.U [.str dK],_)) rfl rfl rfl;exact bS<|bO<|fF (ar (I rfl) ag rfl) rfl<|cP (aa (km (I rfl) rfl (aa ag ae)<|by lk) ae)<|ch (cG aq)<|aO rfl
 |ab=>
  refine⟨[.list [.str dK,.str Cq]],?_⟩;rw[dE];apply bh (i:=QF) (R:=(some<|.U [.str dK,.str Cq],_)) rfl rfl rfl;exact bS<|bO<|fF (ar (I rfl) ag rfl) rfl<|cP (aa (km (I rfl) rfl (aa ag ae)<|by lk) ae)<|ch (cG aq)<|aO rfl
theorem Lu:run tx (k+1) 432 [.str p.str,.str dK] Y=.ok (.bool<|f6 p .a) Y:=by cases p<;>lk
theorem Ca (wr:Y[pd]?=some (.dict<|rI pb)):run tx (k+2) 439 [.ref pd,.str p.str,.str g.str] Y=.ok (.bool<|gt pb p g) Y:=by
 rw[dE];cases g with
 |o=>
  apply bh (i:=MQ) (R:=(some<|.bool true,_)) rfl rfl rfl;exact bS<|bO<|iL<|mE (ar (I rfl) ag rfl) rfl
 |a=>
  apply bh (i:=MQ) (R:=(some<|.bool true,_)) rfl rfl rfl;exact bS<|bO<|iL<|mE (ar (I rfl) ag rfl) rfl
 |ab=>
  apply bh (i:=MQ) (R:=(some<|.bool<|gt pb p .ab,_)) rfl rfl rfl;refine bS<|bO<|iL<|gw (ar (I rfl) ag rfl) rfl<|vJ (aG (I rfl) ag (fD wr (by lk):cq Y (.ref pd) (.str aQ)=some (.bool<|pb 1))) mj ?_
  show dj (pb 1) _ _=(Res.ok (V.bool<|pb 1||f6 p .a) Y:Res V);cases pb 1
  ·exact gv<|aL (aa (I rfl)<|aa ag ae) Lu
  ·rfl
theorem OA (hs:Y[s]?=some (aD a b))(wr:Y[pd]?=some (.dict<|rI pb))(dZ:pd≠s):∃(Y':af) (p:Pl) (d:Int) (g:Pl) (n:Nm) (a' b':Int),(∀RF,b9 (run tx (k+3)) 400 (oQ.body.drop 3) (pA s pd lk p d g n (gt pb p g) none none) Y'=RF->b9 (run tx (k+3)) 400 oQ.body [some<|.ref s,some<|.ref pd,some<|.ref lk,ai,ai,ai,ai,ai,ai,ai,ai,ai,ai,ai,ai,ai,ai] Y=RF)/\bj s Y Y'/\Y'[s]?=some (aD a' b')/\0<=d/\d<8:=by
 refine HL (wi (k:=k+1) hs) λp a1 b1 e1=>?_;have s1:=c9 hs a1 b1;refine kR (jq (k+3) (aO rfl) (top:=8) s1 (by lk)<|by lk) λd a2 b2 d0 d1 e2=>?_;have s2:=c9 s1 a2 b2;refine HL (wi (k:=k+1) s2) λg a3 b3 e3=>?_;have s3:=c9 s2 a3 b3;have K3:bj s Y (((Y.set s<|aD a1 b1).set s<|aD a2 b2).set s<|aD a3 b3):=(bj.set.trans .set).trans .set;generalize aaH:((Y.set s<|aD a1 b1).set s<|aD a2 b2).set s (aD a3 b3)=Cr at e3 s3 K3;refine aN (yk (k:=k+2) (Y:=Cr) g) λJ e4=>?_;have s4:(Cr++J++[ao.list [.str dX,.str cB,.str eN]])[s]?=some (aD a3 b3):=ak<|cH s3
 refine HL (Oz (k:=k+1) s4 aq (dt (cH (J:=J) s3)<|ba _).symm) λn a5 b5 e5=>?_;have K5:=((K3.trans .push).trans .push:bj s Y (Cr++J++[ao.list [.str dX,.str cB,.str eN]])).trans<|bj.set (c:=aD a5 b5)
 have s5:=c9 s4 a5 b5;generalize aaI:(Cr++J++[ao.list [.str dX,.str cB,.str eN]]).set s (aD a5 b5)=Fo at e5 s5 K5;refine L5 Fo p d g n a5 b5<|O5 (λRF hx=>?_) K5 s5 d0 d1
 refine ah (aA (aT<|aa (aL (aa (I rfl)<|aa ag ae) e1)<|aa (aL (aa (I rfl)<|aa ag ae) e2)<|aa (aL (aa (I rfl)<|aa ag ae) e3) ae)<|eH rfl rfl<|aS aE<|aS aE<|aS aE dk) ?_;exact ah (aA (aT<|aa (fj (aT<|aa ag ae) (aL (aa (I rfl) ae) e4) (show jJ (Cr++J) .Add (.U [.str aR]) (.U<|g.parts.map .str)=.ok (.U (.str aR::g.parts.map .str)) (Cr++J) by cases g<;>rfl))<|aa (aL (aa (I rfl)<|aa (bk<|aa ag<|aa ag<|aa ag ae) ae) e5) ae)<|eH rfl rfl<|aS aE<|aS aE dk)<|ah (aA (aL (aa (I rfl)<|aa (I rfl)<|aa (I rfl) ae)<|Ca (k:=k+1) (p:=p) (g:=g)<|K5.old _ _ dZ wr) aE) hx
theorem iV {vs:aH}{names:db}{opn:Bool}{a' b':Int}{loc':Loc}(he:b9 (run tx (k+3)) 400 oQ.body [some<|.ref s,some<|.ref pd,some<|.ref lk,ai,ai,ai,ai,ai,ai,ai,ai,ai,ai,ai,ai,ai,ai] Y=.ok (some<|.ref Y'.length,loc') (Y'++[.list [.str p.str,.U vs,.bool opn]]))(hK:bj s Y Y')(hs:Y'[s]?=some (aD a' b'))(hv:vs=names.map .str)(hu:fS pb ls p names opn):
  lU pb ls s Y (run tx (k+4) 446 [.ref s,.ref pd,.ref lk] Y):=by
 subst hv;refine L5 _ _ p names opn a' b'<|O5 ?_ aq (hK.trans .push) (ak hs) hu
 rw[dE];apply bh (i:=oQ) (R:=(some _,loc')) rfl rfl rfl;exact he
theorem yl {x y:X}{N:Loc}{b1 b2:Bool}(h1:aV O x N Y=.ok (.bool b1) Y)(h2:aV O y N Y=.ok (.bool b2) Y):aV O (.and [x,y]) N Y=.ok (.bool (b1&&b2)) Y:=by
 cases b1
 ·exact eS<|kZ h1 rfl
 ·exact eS<|hJ h1 rfl<|iS h2
theorem Ws {x y:X}{N:Loc}{b1 b2:Bool}(h1:aV O x N Y=.ok (.bool b1) Y)(h2:aV O y N Y=.ok (.bool b2) Y):aV O (.or [x,y]) N Y=.ok (.bool (b1||b2)) Y:=by
 cases b1
 ·exact iL<|gw h1 rfl<|gv h2
 ·exact iL<|mE h1 rfl
theorem lt2 {i:Int}{b:Bool}(h:decide (i<2)=b):cS Y .Lt (.int i) (.int 2)=some b:=by rw[<-h];rfl
end
noncomputable abbrev ni (s pd lk:Nat):Loc:=[some<|.ref s,some<|.ref pd,some<|.ref lk,ai,ai,ai,ai,ai,ai,ai,ai,ai,ai,ai,ai,ai,ai]
section
variable {O:av} {k:Nat} {Y al ay:af} {p g:Pl} {n:Nm} {s pd lk t:Nat} {pb:Nat->Bool} {ls:List Lk} {a b a' b':Int} {d:Int} {sb:Bool}
theorem wj (pre:∀RF,b9 (run tx (k+3)) 400 (oQ.body.drop 9) (pA s pd lk p d g n sb none none) ay=RF->b9 (run tx (k+3)) 400 oQ.body (ni s pd lk) Y=RF)(K2:bj s Y ay)(s2:ay[s]?=some (aD a' b'))(wr:ay[pd]?=some (.dict<|rI pb)):
  lU pb ls s Y (run tx (k+4) 446 [.ref s,.ref pd,.ref lk] Y):=by
 have ib:cq ay (.ref pd) (.str aQ)=some (.bool<|pb 1):=fD wr (by lk);cases g with
 |o=>
  cases p with
  |o=>
   have s3:=ak (c':=ao.list [.U [.str aR],.U [.str dN]]) s2;refine nk (mq (k+3) (aO rfl) s3 (eT.list aq ((dt s2<|ba _).symm:s≠ay.length)<|aO rfl) (aO rfl)<|aO rfl) λi v a4 b4 hv e=>?_;have fin:∀(vs:aH) (names:db),v=.U vs->vs=names.map .str->fS pb ls .o names true->lU pb ls s Y (run tx (k+4) 446 [.ref s,.ref pd,.ref lk] Y):=λvs names e1 e2 hu=>by
    subst e1;exact iV (pre _<|bS<|bl (ar (I rfl) ag rfl) rfl<|bS<|bO<|fF (ar (I rfl) ag rfl) rfl<|bk<|aa (I rfl)<|aa (aL (aa (I rfl)<|aa (bk<|aa (aT<|aa ag ae)<|aa (aT<|aa ag ae) ae) ae) e)<|aa ag ae) ((K2.trans .push).trans .set) (c9 s3 a4 b4) e2 hu
   match i,hv with
   | 0,h=>cases h;exact fin [.str aR] [aR] rfl rfl<|.crate _
   | 1,h=>cases h;exact fin [.str dN] [dN] rfl rfl .self
   |_+2,h=>cases h
  |a=>exact iV (pre _<|bS<|bl (ar (I rfl) ag rfl) rfl<|bS<|bO<|gm (ar (I rfl) ag rfl) rfl<|bk<|aa (I rfl)<|aa (aT<|aa ag ae)<|aa ag ae) K2 s2 rfl<|.crate _
  |ab=>exact iV (pre _<|bS<|bl (ar (I rfl) ag rfl) rfl<|bS<|bO<|gm (ar (I rfl) ag rfl) rfl<|bk<|aa (I rfl)<|aa (aT<|aa ag ae)<|aa ag ae) K2 s2 rfl<|.crate _
 |a=>exact iV (pre _<|ah (aB (ar (I rfl) ag rfl) rfl az)<|bS<|bO<|bk<|aa (I rfl)<|aa (I rfl)<|aa (yl (iL<|mE (ar (I rfl) ag rfl) rfl)<|aG (I rfl) (I rfl) (fD wr (by lk):cq ay (.ref pd) (.str dK)=some (.bool<|pb 0))) ae) K2 s2 rfl<|.ga _
 |ab=>
  refine iV (names:=(aR::Pl.a.parts)++[Cq]) (opn:=(false||pb 1)&&pb 1) (pre _<|ah (aB (ar (I rfl) ag rfl) rfl az)<|bS<|bO<|bk<|aa (I rfl)<|aa (I rfl)<|aa (yl (Ws (ar (I rfl) ag rfl)<|aG (I rfl) ag ib)<|aG (I rfl) (I rfl) ib) ae) K2 s2 rfl ?_;rw[(by cases pb 1<;>rfl:((false||pb 1)&&pb 1)=pb 1)];exact .gab _
theorem uy {l r:aH}(h:l.length+r.length<100):jJ Y .Add (.U l) (.U r)=.ok (.U (l++r)) Y:=if_pos<|dU h<|by lk
theorem lh (g:Pl):g.parts.length<3:=by cases g<;>exact aO rfl
theorem Lw (pre:∀RF,b9 (run tx (k+3)) 400 (oQ.body.drop 7) (pA s pd lk p 5 g n sb none none) al=RF->b9 (run tx (k+3)) 400 oQ.body (ni s pd lk) Y=RF)(K1:bj s Y al)(s1:al[s]?=some (aD a' b'))(oq:al[pd]?=some (.dict<|rI pb))(Ej:al[lk]?=some (.list<|ls.map Lk.U))(h1:pd≠s)(h2:lk≠s)(hl:ls.length<100)(h0:0<ls.length):
  lU pb ls s Y (run tx (k+4) 446 [.ref s,.ref pd,.ref lk] Y):=by
 have s2:=ak (c':=ao.list []) s1;have en:=iO (ak (c':=ao.list []) Ej) aq;have en:cS (al++[ao.list []]) .NotEq (.ref lk) (.ref al.length)=some true:=by
  rw[en];cases ls with
  |nil=>exact absurd h0<|sS _
  |cons _ _=>rfl
 refine nk (mq (k+3) (aO rfl) s2 (eT.list (ak Ej) (gz h2)<|by(rw[cy];exact cb ‹_› rfl)) (by rw[cy];exact h0)<|by(rw[cy];exact cb ‹_› rfl)) λi v a3 b3 hv e3=>?_;rw[gd,Option.map_eq_some_iff] at hv;refine aJ hv λl hl1 eA=>?_;subst eA;have s3:=c9 s2 a3 b3;have K3:bj s Y ((al++[ao.list []]).set s<|aD a3 b3):=(K1.trans .push).trans .set;have Xg:((al++[ao.list []]).set s<|aD a3 b3)[pd]?=some (.dict<|rI pb):=bj.set.old _ _ h1<|ak oq
 generalize (al++[ao.list []]).set s (aD a3 b3)=Cr at e3 s3 K3 Xg;have e4:=Ca (k:=k+1) (p:=p) (g:=l.place) Xg;refine aN (yk (k:=k+2) (Y:=Cr) l.place) λJ e5=>?_;have aam:=lh l.place;obtain⟨lp,lnm,li,L3,Xh⟩:=l;dsimp only[Lk.U] at e3 e4 e5 aam;have hu:fS pb ls p ((aR::lp.parts)++[uN li]) (gt pb p lp&&L3):=.link p ⟨lp,lnm,li,L3,Xh⟩<|f8 hl1
 have Mg:(V.str aR::lp.parts.map V.str)++[V.str<|uN li]=((aR::lp.parts)++[uN li]).map V.str:=by rw[jB];rfl
 generalize uN li=u at e3 hu Mg;refine iV (loc':=pA s pd lk p 5 g n sb (some<|.U [.str lp.str,.U<|lnm.map .str,.str u,.bool L3,.bool Xh])<|some<|.bool<|gt pb p lp&&L3) (pre _<|bS<|bl (eS<|hJ (ar (I rfl) ag rfl) rfl<|iS<|ar (I rfl) (bk ae) en) rfl ?_) (K3.trans<|.push (l:=J)) (cH s3) Mg hu;refine ah (aA (aL (aa (I rfl)<|aa (I rfl) ae) e3) aE)<|ah (aA (yl (b1:=gt pb p lp) (b2:=L3) (aL (aa (I rfl)<|aa (I rfl)<|aa (aG (I rfl) ag rfl) ae) e4)<|aG (I rfl) ag rfl) aE) ?_
 exact bS<|bO<|bk<|aa (I rfl)<|aa (fj (fj (aT<|aa ag ae) (aL (aa (aG (I rfl) ag rfl) ae) e5)<|uy (l:=[.str aR]) (r:=lp.parts.map .str) (by rw[cy];show 1+_<100;omega)) (aT<|aa (aG (I rfl) ag rfl) ae)<|uy (l:=.str aR::lp.parts.map .str) (r:=[.str u]) (by rw[dI,cy];show _+1<100;omega))<|aa (I rfl) ae
section
variable (rP:∀RF,b9 (run tx (k+3)) 400 (oQ.body.drop 4) (pA s pd lk p d g n (gt pb p g) none none) al=RF->b9 (run tx (k+3)) 400 oQ.body (ni s pd lk) Y=RF) (K1:bj s Y al) (s1:al[s]?=some (aD a' b')) (oq:al[pd]?=some (.dict (rI pb)))
include rP K1 s1 oq
theorem Wt (e:d=2):lU pb ls s Y (run tx (k+4) 446 [.ref s,.ref pd,.ref lk] Y):=by
 subst e;have hpl:=lh g;have l6:((V.str aR::g.parts.map V.str).length)<5:=by rw[dI,cy];exact eu ‹_› rfl
 exact iV (rP _<|bS<|bl (ar (I rfl) ag rfl) rfl<|bS<|bO<|bk<|aa (I rfl)<|aa (fj (I rfl) (aT<|aa ag<|aa ag ae)<|uy (by show _+2<100;omega))<|aa (yl (I rfl)<|aG (I rfl) (aL (aa (I rfl)<|aa ag ae)<|lT g .E)<|fD oq<|rJ pb g .E) ae) K1 s1 (by cases g<;>rfl)<|.var p g
theorem Wu (e:d=3):lU pb ls s Y (run tx (k+4) 446 [.ref s,.ref pd,.ref lk] Y):=by
 subst e;exact iV (rP _<|ah (aB (ar (I rfl) ag rfl) rfl az)<|bS<|bl (ar (I rfl) ag rfl) rfl<|bS<|bO<|bk<|aa (I rfl)<|aa (aT<|aa (I rfl) ae)<|aa (aG (I rfl) (aL (aa (I rfl)<|aa (I rfl) ae)<|lT p n)<|fD oq<|rJ pb p n) ae) K1 s1 rfl<|.own p n
omit oq in
theorem Wv (e:d=4):lU pb ls s Y (run tx (k+4) 446 [.ref s,.ref pd,.ref lk] Y):=by
 subst e;exact iV (rP _<|ah (aB (ar (I rfl) ag rfl) rfl az)<|ah (aB (ar (I rfl) ag rfl) rfl az)<|bS<|bl (ar (I rfl) ag rfl) rfl<|bS<|bO<|bk<|aa (I rfl)<|aa (aT<|aa ag ae)<|aa ag ae) K1 s1 rfl<|.some p
theorem Ww (e:d=5)(Ej:al[lk]?=some (.list<|ls.map Lk.U))(h1:pd≠s)(h2:lk≠s)(hl:ls.length<100):lU pb ls s Y (run tx (k+4) 446 [.ref s,.ref pd,.ref lk] Y):=by
 subst e;have Xi:∀RF,b9 (run tx (k+3)) 400 (oQ.body.drop 7) (pA s pd lk p 5 g n (gt pb p g) none none) al=RF->b9 (run tx (k+3)) 400 oQ.body (ni s pd lk) Y=RF:=λRF hx=>
  rP _ (ah (aB (ar (I rfl) ag rfl) rfl az)<|ah (aB (ar (I rfl) ag rfl) rfl az)<|ah (aB (ar (I rfl) ag rfl) rfl az) hx)
 by_cases h0:0<ls.length
 ·exact Lw Xi K1 s1 oq Ej h1 h2 hl h0
 ·obtain rfl:ls=[]:=qS (by omega);refine wj (ay:=al++[.list []]) (p:=p) (g:=g) (n:=n) (d:=5) (sb:=gt pb p g) (λRF hx=>Xi _ ?_) (K1.trans .push) (ak s1)<|ak oq
  exact ah (aB (eS<|hJ (ar (I rfl) ag rfl) rfl<|iS<|ar (I rfl) (bk ae) (iO (ak Ej) aq:cS (al++[ao.list []]) .NotEq (.ref lk) (.ref al.length)=some false)) rfl az)<|ah (aB (eS<|kZ (ar (I rfl) ag rfl) rfl) rfl az) hx
theorem Wx (e:d=6):lU pb ls s Y (run tx (k+4) 446 [.ref s,.ref pd,.ref lk] Y):=by
 subst e;have Tb:∀RF,b9 (run tx (k+3)) 400 (oQ.body.drop 8) (pA s pd lk p 6 g n (gt pb p g) none none) al=RF->b9 (run tx (k+3)) 400 oQ.body (ni s pd lk) Y=RF:=λRF hx=>
  rP _ (ah (aB (ar (I rfl) ag rfl) rfl az)<|ah (aB (ar (I rfl) ag rfl) rfl az)<|ah (aB (ar (I rfl) ag rfl) rfl az)<|ah (aB (eS<|kZ (ar (I rfl) ag rfl) rfl) rfl az) hx)
 cases p with
 |o=>exact wj (λRF hx=>Tb _<|ah (aB (eS<|hJ (ar (I rfl) ag rfl) rfl<|iS<|ar (I rfl) ag rfl) rfl az) hx) K1 s1 oq
 |a=>exact iV (Tb _<|bS<|bl (eS<|hJ (ar (I rfl) ag rfl) rfl<|iS<|ar (I rfl) ag rfl) rfl<|bS<|bO<|bk<|aa (I rfl)<|aa (aT<|aa ag ae)<|aa (iL<|mE (ar (I rfl) ag rfl) rfl) ae) K1 s1 rfl .sup_a
 |ab=>
  exact iV (Tb _<|bS<|bl (eS<|hJ (ar (I rfl) ag rfl) rfl<|iS<|ar (I rfl) ag rfl) rfl<|bS<|bO<|bk<|aa (I rfl)<|aa (aT<|aa ag ae)<|aa (Ws (ar (I rfl) ag rfl)<|aG (I rfl) ag (fD oq (by lk):cq al (.ref pd) (.str dK)=some (.bool<|pb 0))) ae) K1 s1 rfl .sup_ab
theorem Wy (e:d=7):lU pb ls s Y (run tx (k+4) 446 [.ref s,.ref pd,.ref lk] Y):=by
 subst e;refine wj (ay:=al) (p:=p) (g:=g) (n:=n) (d:=7) (sb:=gt pb p g) (λRF hx=>rP _ ?_) K1 s1 oq;exact ah (aB (ar (I rfl) ag rfl) rfl az)<|ah (aB (ar (I rfl) ag rfl) rfl az)<|ah (aB (ar (I rfl) ag rfl) rfl az)<|ah (aB (eS<|kZ (ar (I rfl) ag rfl) rfl) rfl az)<|ah (aB (eS<|kZ (ar (I rfl) ag rfl) rfl) rfl az) hx
end
theorem OB (hs:Y[s]?=some (aD a b))(wr:Y[pd]?=some (.dict<|rI pb))(t9:Y[lk]?=some (.list<|ls.map Lk.U))(h1:pd≠s)(h2:lk≠s)(hl:ls.length<100):lU pb ls s Y (run tx (k+4) 446 [.ref s,.ref pd,.ref lk] Y):=by
 refine Mk (OA (k:=k) (lk:=lk) hs wr h1) λrM p d g n a1 b1 zq=>Qd zq λpre K1 s1 d0 d1=>?_;have oq:=K1.old _ _ h1 wr;have Ej:=K1.old _ _ h2 t9;by_cases c0:d<2
 ·have ij:=fD (Y:=rM) oq<|rJ pb g n
  have hpl:=lh g;have l6:((V.str aR::g.parts.map V.str).length)<5:=by rw[dI,cy];exact eu ‹_› rfl
  exact iV (names:=(aR::g.parts)++[n.str]) (pre _<|bS<|bl (ar (I rfl) ag<|lt2<|eE c0) rfl<|bS<|bO<|bk<|aa (I rfl)<|aa (fj (I rfl) (aT<|aa (I rfl) ae)<|uy (by show _+1<100;omega))<|aa (yl (I rfl)<|aG (I rfl) (aL (aa (I rfl)<|aa (I rfl) ae)<|lT g n) ij) ae) K1 s1 (by rw[jB];rfl)<|.name p g n
 have rP:∀RF,b9 (run tx (k+3)) 400 (oQ.body.drop 4) (pA s pd lk p d g n (gt pb p g) none none) rM=RF->b9 (run tx (k+3)) 400 oQ.body (ni s pd lk) Y=RF:=λRF hx=>
  pre _ (ah (aB (ar (I rfl) ag<|lt2<|fy c0) rfl az) hx)
 have hd:=ZE d0 d1 c0;rcases hd with e | e | e | e | e | e
 ·exact Wt rP K1 s1 oq e
 ·exact Wu rP K1 s1 oq e
 ·exact Wv rP K1 s1 e
 ·exact Ww rP K1 s1 oq e Ej h1 h2 hl
 ·exact Wx rP K1 s1 oq e
 ·exact Wy rP K1 s1 oq e
end
def Lx (O:av)(fr:Loc)(ts qP:List Nat)(qQ elt:X)(v:V)(acc:aH)(Y:af):Res (aH):=fL (dA Y ts v fr) λloc'=>(aV O qQ loc' Y).bind λwk Y=>fL (cI Y wk) λall2=>dr (λv acc Y=>fL (dA Y qP v loc') λwl=>(aV O elt wl Y).bind λv Y=>ma v acc Y) wk all2 all2 acc Y
abbrev bL:aH:=[.str dX,.str cB,.str eN]
noncomputable def tF (pb:Nat->Bool):Nat->List Str->iP
 |_,[]=>[]
 |i,n::r=>(n,.bool<|pb i)::tF pb (i+1) r
theorem tG {pb XR:Nat->Bool}:∀{l:db} {i:Nat},(∀j,i<=j->pb j=XR j)->tF pb i l=tF XR i l
 | [],_,_=>rfl
 |n::r,i,h=>by rw[tF,tF,h i<|ba _,tG λj hj=>h j<|Nat.le_of_succ_le hj]
noncomputable abbrev ip (s:Nat)(x1 x2 x3 x4 x5:j9)(lk pd:Nat):Loc:=[some<|.ref s,x1,x2,x3,x4,x5,none,some<|.ref lk,some<|.ref pd,ai,ai,ai,ai,ai,ai]
abbrev Z5 (O:av):V->Loc->af->Res fA:=λv N Y=>(ue O (.l 1) v N Y).bind λN Y=>b9 O 400 [.set (.sub (.l 8)<|.l 1)<|.m .Gt (.call 385 [.l 0,.xi 3])<|.xi 0] N Y
abbrev PU:List S:=[.set (.U [.l 3,.l 4,.l 5])<|.call 446 [.l 0,.l 8,.l 7],.ex<|.bm (.l 7) .append [.U [.l 3,.l 4,.bin .Add (.xs Xn)<|.bi .str [.l 2],.m .Gt (.call 385 [.l 0,.xi 3])<|.xi 0,.l 5]]]
abbrev PV (O:av):V->Loc->af->Res fA:=λv N Y=>(ue O (.l 2) v N Y).bind λN Y=>b9 O 400 PU N Y
section
variable {O:av} {k:Nat} {Y ax Y' al ay:af} {p g:Pl} {n:Nm} {s pd lk t:Nat} {pb:Nat->Bool} {ls:List Lk} {a b a' b':Int} {x1 x2 x3 x4 x5:j9} {N:Loc}
theorem Ly {fr:List (Option Nat)}{ts qP:List Nat}{x qQ elt:X}{u:V}{all vs:aH}(h:aV O x N Y=.ok u al)(q:cI al u=some all)(k:dr (Lx O (eJ fr N) ts qP qQ elt) u all all [] al=.ok vs ay):
  aV O (.comp2 fr ts x qP qQ elt) N Y=.ok (.ref ay.length) (ay++[.list vs]):=aK h<|cw q<|aK k rfl
theorem sH {p:Pl}{acc:aH}(ha:acc.length<100):Lx (run tx (k+1)) [none,none,none,none] [1] [2] (.s [.xs dX,.xs cB,.xs eN]) (.call 404 [.l 1,.l 2]) (.str p.str) acc Y=.ok (((acc++[.str<|jn p .f])++[.str<|jn p .S])++[.str<|jn p .E]) (Y++[.list bL]):=by
 have st:∀(n:Nm) (acc:aH),acc.length<1000->(fL (dA (Y++[ao.list bL]) [2] (.str n.str) [none,some<|.str p.str,none,none]) λwl=>(aV (run tx (k+1)) (.call 404 [.l 1,.l 2]) wl<|Y++[ao.list bL]).bind λv Y=>ma v acc Y)=.ok (acc++[.str<|jn p n]) (Y++[.list bL]):=λn acc hl=>by
  show(aV (run tx (k+1)) (.call 404 [.l 1,.l 2]) [none,some<|.str p.str,some<|.str n.str,none]<|Y++[ao.list bL]).bind _= _;rw[(aL (aa (I rfl)<|aa (I rfl) ae) (lT p n):aV (run tx (k+1)) (.call 404 [.l 1,.l 2]) [none,some<|.str p.str,some<|.str n.str,none] (Y++[.list bL])=.ok (.str<|jn p n) (Y++[.list bL]))];show ma _ _ _= _;unfold ma;rw[if_pos (cb hl rfl:acc.length<10000)]
 have sm:same (Y++[ao.list bL]) (.ref Y.length) bL=true:=bc aq;refine cw rfl ?_;show(aV (run tx (k+1)) (.s [.xs dX,.xs cB,.xs eN]) [none,some<|.str p.str,none,none] Y).bind _= _;rw[(bk (aa ag<|aa ag<|aa ag ae):aV (run tx (k+1)) (.s [.xs dX,.xs cB,.xs eN]) [none,some<|.str p.str,none,none] Y=.ok (.ref Y.length) (Y++[.list bL]))];refine cw (cK (aq)) ?_;show dr _ (.ref Y.length) bL bL acc (Y++[ao.list bL])= _;exact bq (st .f acc<|cb ha rfl) sm<|bq (st .S _ (by rw[cN];exact cb (Nat.succ_lt_succ ha) rfl)) sm<|bq (st .E _ (by rw[cN,cN];exact cb (Nat.succ_lt_succ<|Nat.succ_lt_succ ha) rfl)) sm cf
theorem bj.at {c:ao}(h:bj s Y al)(ht:Y.length<=t):bj s Y (al.set t c):=⟨by rw[qT];exact h.le,λi c' hi hc=>by
 rw[eL<|mO<|dU (bP.mp hc).1 ht];exact h.old i c' hi hc⟩
theorem Hq {u:Nat}{all:db}(h1:pd≠s)(h2:lk≠s)(h3:lk≠pd)(h4:u≠s)(h5:u≠pd)(hd:ax.length<=pd):∀(rest:db) (i:Nat) {Y:af} {rows:iP} {a b:Int} {x1:j9},Y[s]?=some (aD a b)->Y[pd]?=some (.dict rows)->Y[u]?=some (.list<|all.map .str)->Y[lk]?=some (.list [])->bj s ax Y->rest.Nodup->(∀n∈rest,aM rows n=none)->rows.length+rest.length<100->
  ∃Y' pb a' b' y1,jz (Z5<|run tx (k+1)) (.ref u) (all.map .str) (rest.map .str) (ip s x1 x2 x3 x4 x5 lk pd) Y=.ok (none,ip s y1 x2 x3 x4 x5 lk pd) Y'/\Y'[s]?=some (aD a' b')/\Y'[pd]?=some (.dict<|rows++tF pb i rest)/\Y'[lk]?=some (.list [])/\bj s ax Y':=by
 intro rest
 induction rest with
 |nil=>
  intro i Y rows a b x1 hs hp hu t9 hK _ _ _;exact Mp Y (λM=>false) a b x1<|O5 eY hs (by rw[tF,gI];exact hp) t9 hK
 |cons nm rest ih=>
  intro i Y rows a b x1 hs hp hu t9 hK tZ HF hlen;rw[dI] at hlen;rw[iy] at tZ;refine kR (jq (k+1) (Nat.le_add_left 1 k) (top:=3) hs (by lk)<|by lk) λd a1 b1 d0 d1 e1=>?_;have s1:=c9 hs a1 b1;have K1:bj s Y (Y.set s<|aD a1 b1):=.set;have hK1:=hK.trans K1;have p1:=K1.old _ _ h1 hp;have u1:=K1.old _ _ h4 hu;have l1:=K1.old _ _ h2 t9;generalize Y.set s (aD a1 b1)=rM at e1 s1 K1 hK1 p1 u1 l1;obtain⟨Y',XR,a',b',y1,e,g1,g2,g3,g4⟩:=ih (i+1)
   (by rw[eL h1];exact s1) (lb p1) (by rw[eL<|gz h5];exact u1) (by rw[eL<|gz h3];exact l1) (hK1.at hd:bj s ax (rM.set pd<|.dict<|rows++[(nm,.bool<|decide (0<d))])) tZ.2 (λn mt=>by
    rw[pU,HF n<|.tail _ mt,if_neg];rintro rfl;exact tZ.1 mt) (gX hlen)
  refine Mp Y' (λj=>if j=i then decide (0<d) else XR j) a' b' y1<|O5 (a8 ?_ (bc (by rw[eL<|gz h5];exact u1)) e) g1 ?_ g3 g4
  ·have:b9 (run tx (k+1)) 400 [.set (.sub (.l 8)<|.l 1)<|.m .Gt (.call 385 [.l 0,.xi 3])<|.xi 0] (ip s (some<|.str nm) x2 x3 x4 x5 lk pd) Y=.ok (none,ip s (some<|.str nm) x2 x3 x4 x5 lk pd) (rM.set pd<|.dict<|rows++[(nm,.bool<|decide (0<d))]):=
    ah (aA (ar (aL (aa (I rfl)<|aa ag ae) e1) ag<|gt_int rfl)<|fW (I rfl) (I rfl)<|js p1 (ig hlen rfl)<|cZ<|HF nm<|.head _) az
   exact this
  ·rw[g2,tF,if_pos rfl,bT]
   congr 3
   refine bJ _<|tG λj hj=>?_
   rw[if_neg<|mO hj]
theorem fS.more {names:db}{opn:Bool}{l:Lk}(h:fS pb ls p names opn):fS pb (ls++[l]) p names opn:=by
 induction h with
 |name p g n=>exact .name p g n
 |var p g=>exact .var p g
 |own p n=>exact .own p n
 |some p=>exact .some p
 |link p l hl=>exact .link p l<|j5 _ hl
 |sup_a=>exact .sup_a
 |sup_ab=>exact .sup_ab
 |crate p=>exact .crate p
 |self=>exact .self
 |ga p=>exact .ga p
 |gab p=>exact .gab p
theorem fS.len {names:db}{opn:Bool}(h:fS pb ls p names opn):names.length<100:=by
 induction h with
 |name p g n=>rw[cN,dI,j4];exact eu (nY (lh g) _) rfl
 |var p g=>rw[cN,dI,cN,j4,j4];exact cb (Nat.add_lt_add_right (lh g) 3) rfl
 |link p l hl=>rw[cN,dI,j4];exact eu (nY (lh l.place) _) rfl
 |_=>exact aO rfl
theorem OC {Y:af}:∀i,i<6->∃si,wp Y .str [.int<|Int.ofNat i]=.ok (.str si) Y/\jJ Y .Add (.str Xn) (.str si)=.ok (.str<|uN i) Y
 | 0,_=>⟨_,rfl,by lk⟩
 | 1,_=>⟨_,rfl,by lk⟩
 | 2,_=>⟨_,rfl,by lk⟩
 | 3,_=>⟨_,rfl,by lk⟩
 | 4,_=>⟨_,rfl,by lk⟩
 | 5,_=>⟨_,rfl,by lk⟩
 |n+6,h=>absurd h<|Nat.not_lt.mpr<|Nat.le_add_left 6 n
structure nV (s pd lk:Nat)(pb:Nat->Bool)(ax Y:af)(ls:List Lk):Prop where
 src:∃a b,Y[s]?=some (aD a b)
 pubs:Y[pd]?=some (.dict<|rI pb)
 links:Y[lk]?=some (.list<|ls.map Lk.U)
 keep:bj s ax Y
 ok:∀l∈ls,fS pb ls l.place l.names l.opn
 lt:∀l∈ls,l.i<ls.length
 nd:(ls.map (·.i)).Nodup
theorem Hr (h1:pd≠s)(h2:lk≠s)(h3:lk≠pd)(hd:ax.length<=lk)(H:nV s pd lk pb ax Y ls)(hl:ls.length<6):
  ∃Y' l y3 y4 y5,PV (run tx (k+4)) (.int<|Int.ofNat ls.length) (ip s x1 x2 x3 x4 x5 lk pd) Y=.ok (none,ip s x1 (some<|.int<|Int.ofNat ls.length) y3 y4 y5 lk pd) Y'/\nV s pd lk pb ax Y' (ls++[l]):=by
 refine kQ H.src λa b hs=>Mk (OB (k:=k) hs H.pubs H.links h1 h2<|cb hl rfl) λrM j p names opn a1 b1 zq=>Qd zq λe1 c1 K1 s1 u1=>kR (jq (k+4) (Nat.le_add_left 1 _) (top:=3) s1 (by lk)<|by lk) λd a2 b2 d0 d1 e2=>aJ (OC (Y:=rM) ls.length hl) λsi f1 f2=>?_;have K2:bj s Y (rM.set s<|aD a2 b2):=K1.trans .set;have s2:=c9 s1 a2 b2;have p2:=K2.old _ _ h1 H.pubs;have l2:=K2.old _ _ h2 H.links;have hK2:=H.keep.trans K2;generalize rM.set s (aD a2 b2)=zV at e2 K2 s2 p2 l2 hK2;refine Mp (zV.set lk<|.list<|ls.map Lk.U++[Lk.U ⟨p,names,ls.length,decide (0<d),opn⟩]) ⟨p,names,ls.length,decide (0<d),opn⟩ (some<|.str p.str) (some<|.U<|names.map .str) (some<|.bool opn)<|Tf ?_ ?_
 ·have:b9 (run tx (k+4)) 400 PU (ip s x1 (some<|.int<|Int.ofNat ls.length) x3 x4 x5 lk pd) Y=.ok (none,ip s x1 (some<|.int<|Int.ofNat ls.length) (some<|.str p.str) (some<|.U<|names.map .str) (some<|.bool opn) lk pd) (zV.set lk<|.list<|ls.map Lk.U++[Lk.U ⟨p,names,ls.length,decide (0<d),opn⟩]):=by
   refine ah (aA (aL (aa (I rfl)<|aa (I rfl)<|aa (I rfl) ae) e1)<|eH (cG c1) rfl<|aS aE<|aS aE<|aS aE dk) ?_;exact ah (ic<|km (I rfl) (hU (K1.old _ _ h2 H.links)<|.inl rfl) (aa (aT<|aa (I rfl)<|aa (I rfl)<|aa (fj ag (cP (aa (I rfl) ae) f1) f2)<|aa (ar (aL (aa (I rfl)<|aa ag ae) e2) ag<|gt_int rfl)<|aa (I rfl) ae) ae)<|fH l2 (by rw[cy];exact cb hl rfl)) az
  exact this
 ·refine⟨⟨a2,b2,by rw[eL h2];exact s2⟩,by rw[eL h3];exact p2,by rw[jB];exact lb l2,hK2.at hd,λl hl=>?_,λl hl=>?_,?_⟩
  ·refine aZ (fu.mp hl) (λhl=>?_) λhl=>?_
   ·exact(H.ok l hl).more
   ·cases cM.mp hl;exact u1.more
  ·rw[cN,j4];refine aZ (fu.mp hl) (λhl=>?_) λhl=>?_
   ·exact Nat.lt_succ_of_lt<|H.lt l hl
   ·cases cM.mp hl;exact uG _
  ·rw[jB,sP];refine⟨H.nd,by simp,λx hx y hy=>?_⟩;refine aJ (bX.mp hx) λl hl eA=>?_;subst eA;cases cM.mp hy;exact i9<|H.lt l hl
theorem Cb (h1:pd≠s)(h2:lk≠s)(h3:lk≠pd)(hd:ax.length<=lk){src:V}{all:aH}(nW:∀Y,same Y src all=true):∀(m:Nat) {Y:af} {ls:List Lk} {x2 x3 x4 x5:j9},nV s pd lk pb ax Y ls->ls.length+m<=6->
  ∃Y' XS y2 y3 y4 y5,jz (PV<|run tx (k+4)) src all ((List.range' ls.length m).map λi=>.int<|Int.ofNat i) (ip s x1 x2 x3 x4 x5 lk pd) Y=.ok (none,ip s x1 y2 y3 y4 y5 lk pd) Y'/\nV s pd lk pb ax Y' XS/\XS.length<=6:=by
 intro m
 induction m with
 |zero=>
  intro Y ls x2 x3 x4 x5 H hl;exact FH Y ls x2 x3 x4 x5 eY H hl
 |succ m ih=>
  intro Y ls x2 x3 x4 x5 H hl;refine Mj (Hr (k:=k) (x1:=x1) (x2:=x2) (x3:=x3) (x4:=x4) (x5:=x5) h1 h2 h3 hd H<|dU (Nat.lt_add_of_pos_right<|Nat.succ_pos m) hl) λal l y3 y4 y5 zq=>Qc zq λe H1=>?_;refine FE (ih (x2:=some<|.int<|Int.ofNat ls.length) (x3:=y3) (x4:=y4) (x5:=y5) H1 (by rw[cN,j4,Nat.add_assoc,Nat.add_comm 1];exact hl)) λay XS z2 z3 z4 z5 e' H2 mu=>?_;rw[cN,j4] at e';refine FH ay XS z2 z3 z4 z5 ?_ H2 mu;rw[List.range'_succ,eM];exact a8 e (nW _) e'
theorem Lz {l:Lk}{acc:aH}(ha:acc.length<100):je O [none,none] [1] [.and [.i (.l 1)<|.xi 3,.not<|.i (.l 1)<|.xi 4]] (.l 1) l.U acc Y=.ok (if l.bad then acc++[l.U] else acc) Y:=by
 have e:aV O (.and [.i (.l 1)<|.xi 3,.not<|.i (.l 1)<|.xi 4]) [none,some l.U] Y=.ok (.bool (l.pub&&!l.opn)) Y:=yl (aG (I rfl) ag rfl)<|lO (aG (I rfl) ag rfl) mj
 have hb:l.bad=(l.pub&&!l.opn):=rfl;rw[<-hb] at e;cases q:l.bad with
 |true=>
  rw[q] at e;exact dG rfl (pi e rfl cJ) (I rfl)<|cb ha rfl
 |false=>
  rw[q] at e;exact jO rfl<|m5 e rfl
theorem LA (t9:Y[lk]?=some (.list<|ls.map Lk.U)):∀(rest:List Lk) {acc:aH},acc.length+rest.length<100->dr (je O [none,none] [1] [.and [.i (.l 1)<|.xi 3,.not<|.i (.l 1)<|.xi 4]]<|.l 1) (.ref lk) (ls.map Lk.U) (rest.map Lk.U) acc Y=.ok (acc++(rest.filter Lk.bad).map Lk.U) Y:=by
 intro rest
 induction rest with
 |nil=>
  intro acc _;rw[List.filter_nil,List.map_nil,gI];exact cf
 |cons l rest ih=>
  intro acc h;rw[dI] at h;refine bq (Lz<|ig h rfl) (bc t9) ?_;rw[ih (by split;exact gX h;exact yq h),List.filter_cons];split
  ·rw[eM,bT];rfl
  ·rfl
end
noncomputable abbrev Cc (s:Nat):Loc:=[some<|.ref s,ai,ai,ai,ai,ai,ai,ai,ai,ai,ai,ai,ai,ai,ai]
abbrev Cd:aH:=(((((((([.str<|jn .o .f]++[.str<|jn .o .S])++[.str<|jn .o .E])++[.str<|jn .a .f])++[.str<|jn .a .S])++[.str<|jn .a .E])++[.str<|jn .ab .f])++[.str<|jn .ab .S])++[.str<|jn .ab .E])
section
variable {O:av} {k:Nat} {Y ax Y':af} {p:Pl} {n:Nm} {s pd lk t:Nat} {pb:Nat->Bool} {ls:List Lk} {a b:Int} {x1 x2 x3 x4 x5:j9}
theorem Ht (hs:Y[s]?=some (aD a b)):∃Y' ls pb y1 y2 y3 y4 y5,(∀RF,b9 (run tx (k+4)) 400 (Ij.body.drop 3) (ip s y1 y2 y3 y4 y5 (Y.length+1) Y.length) Y'=RF->b9 (run tx (k+4)) 400 Ij.body (Cc s) Y=RF)/\nV s Y.length (Y.length+1) pb Y Y' ls/\ls.length<=6:=by
 have hlen:=nN hs;have n1:Y.length≠s:=by omega
 have n2:Y.length+1≠s:=by omega
 have l1:(Y++[ao.dict []]).length=Y.length+1:=by rw[cN];rfl
 have d1:(Y++[ao.dict []]++[ao.list []])[Y.length]?=some (.dict []):=ak aq;have c1:(Y++[ao.dict []]++[ao.list []])[Y.length+1]?=some (.list []):=by rw[<-l1];exact aq
 have s1:(Y++[ao.dict []]++[ao.list []])[s]?=some (aD a b):=ak<|ak hs
 have K1:bj s Y (Y++[ao.dict []]++[ao.list []]):=bj.push.trans .push;have t0:oy (run tx (k+4)) 400 (.set (.U [.l 8,.l 7])<|.U [.dct [] [],.s []]) (Cc s) Y=.ok (none,ip s none none none none none (Y.length+1) Y.length) (Y++[ao.dict []]++[ao.list []]):=by
  rw[<-l1];exact aA (aT<|aa (mD (ks:=[]) ae)<|aa (bk ae) ae)<|eH rfl rfl<|aS aE<|aS aE dk
 generalize Y++[ao.dict []]++[ao.list []]=rM at d1 c1 s1 K1 t0;have e2:aV (run tx (k+4)) (.comp2 [none,none,none,none] [1] (.c<|.gl [.str z_,.str dK,.str aQ]) [2] (.s [.xs dX,.xs cB,.xs eN])<|.call 404 [.l 1,.l 2]) (ip s none none none none none (Y.length+1) Y.length) (rM++[.list [.str dK,.str aQ]])=.ok (.ref (rM++[ao.list [.str dK,.str aQ]]++[ao.list bL]++[ao.list bL]++[ao.list bL]).length) (rM++[ao.list [.str dK,.str aQ]]++[ao.list bL]++[ao.list bL]++[ao.list bL]++[.list Cd]):=
  Ly ag rfl (bq (sH (k:=k+3) (p:=.o) (acc:=[])<|aO rfl) rfl<|bq (sH (k:=k+3) (p:=.a)<|aO rfl) rfl<|bq (sH (k:=k+3) (p:=.ab)<|aO rfl) rfl cf)
 have q1:(rM++[ao.list [.str dK,.str aQ]]++[ao.list bL]++[ao.list bL]++[ao.list bL]++[ao.list Cd])[rM.length]?=some (.list [.str dK,.str aQ]):=ak<|ak<|ak<|ak aq
 have K2:bj s Y (rM++[ao.list [.str dK,.str aQ]]++[ao.list bL]++[ao.list bL]++[ao.list bL]++[ao.list Cd]):=((((K1.trans .push).trans .push).trans .push).trans .push).trans .push;have s2:(rM++[ao.list [.str dK,.str aQ]]++[ao.list bL]++[ao.list bL]++[ao.list bL]++[ao.list Cd])[s]?=some (aD a b):=ak<|ak<|ak<|ak<|ak s1
 have d2:(rM++[ao.list [.str dK,.str aQ]]++[ao.list bL]++[ao.list bL]++[ao.list bL]++[ao.list Cd])[Y.length]?=some (.dict []):=ak<|ak<|ak<|ak<|ak d1
 have c2:(rM++[ao.list [.str dK,.str aQ]]++[ao.list bL]++[ao.list bL]++[ao.list bL]++[ao.list Cd])[Y.length+1]?=some (.list []):=ak<|ak<|ak<|ak<|ak c1
 have q2:=aq (Y:=rM++[ao.list [.str dK,.str aQ]]++[ao.list bL]++[ao.list bL]++[ao.list bL]) (c:=.list Cd);have ex:aV (run tx (k+4)) (.s [.xs dK,.xs aQ]) (ip s none none none none none (Y.length+1) Y.length) rM=.ok (.ref rM.length) (rM++[.list [.str dK,.str aQ]]):=bk<|aa ag<|aa ag ae
 generalize (rM++[ao.list [.str dK,.str aQ]]++[ao.list bL]++[ao.list bL]++[ao.list bL]).length=j2 at e2 q2;generalize (rM++[ao.list [.str dK,.str aQ]]++[ao.list bL]++[ao.list bL]++[ao.list bL]++[ao.list Cd])=zV at e2 q1 K2 s2 d2 c2 q2;have aan:jJ zV .Add (.ref rM.length) (.ref j2)=.ok (.ref zV.length) (zV++[.list<|Oi.map .str]):=by
  show Ig zV _ _= _;exact cw (jP q1)<|cw (jP q2)<|(if_pos<|aO rfl).trans rfl
 have s3:=ak (c':=ao.list<|Oi.map .str) s2;refine Mj (Hq (k:=k+3) (ax:=Y) (x2:=none) (x3:=none) (x4:=none) (x5:=none) (u:=zV.length) (all:=Oi) (lk:=Y.length+1) (pd:=Y.length) n1 n2 (by omega) (dt s2<|ba _) (by have:=K2.le;have:=(bP.mp d2).1;omega) (ba _) Oi 0 (x1:=none) s3 (ak d2) aq (ak c2) (K2.trans .push) (by decide+kernel) (λM M=>rfl)<|aO rfl) λCr pb a3 b3 y1 zq=>Qd zq λe3 s3' d3 c3 K3=>?_;have H3:nV s Y.length (Y.length+1) pb Y Cr []:=⟨⟨a3,b3,s3'⟩,d3,c3,K3,(λM h=>nomatch h),(λM h=>nomatch h),j6⟩;refine kR (jq (k+4) (by omega) (top:=6) s3' (by lk)<|by lk) λd a4 b4 g0 g1 e4=>?_;have H4:nV s Y.length (Y.length+1) pb Y (Cr.set s<|aD a4 b4) []:=⟨⟨a4,b4,c9 s3' a4 b4⟩,bj.set.old _ _ n1 d3,bj.set.old _ _ n2 c3,K3.trans .set,(λM h=>nomatch h),(λM h=>nomatch h),j6⟩;generalize Cr.set s (aD a4 b4)=PQ at e4 H4;have hn:∃m:Nat,1+d=(m:Int)/\m<=6:=⟨(1+d).toNat,by omega,by omega⟩;refine aJ hn λm hm hm6=>?_;have hr:cI PQ (.rng 0 (1+d))=some ((List.range' 0 m).map λi=>.int<|Int.ofNat i):=by
  unfold cI;dsimp only;rw[if_pos ⟨by lk,by lk,by omega,by omega⟩,hm,List.range_eq_range']
  congr 1
  rw[show((m:Int) - 0).toNat=m by omega];refine uB λi M=>?_;rw[Int.zero_add];rfl
 refine FE (Cb (k:=k) (x1:=y1) (x2:=none) (x3:=none) (x4:=none) (x5:=none) (src:=.rng 0 (1+d)) (all:=(List.range' 0 m).map λi=>.int<|Int.ofNat i) n1 n2 (by omega) (ly _) (λM=>rfl) m (ls:=[]) H4 (by rw[List.length_nil];omega)) λFo ls z2 z3 z4 z5 e5 H5 hl=>?_;refine Xk Fo ls pb y1 z2 z3 z4 z5<|Mq (λRF hx=>?_) H5 hl
 refine ah t0<|ah (gR (fj ex e2 aan) (cK aq) e3) ?_
 exact ah (gR (cP (aa (fj ag (aL (aa (I rfl)<|aa ag ae) e4)<|show jJ PQ .Add (.int 1) (.int d)=.ok (.int (1+d)) PQ from rfl) ae)<|show wp PQ .range [.int (1+d)]=.ok (.rng 0 (1+d)) PQ from rfl) hr e5) hx
end
section
variable {k:Nat} {Y:af} {s:Nat} {a b:Int}
theorem Hu (hs:Y[s]?=some (aD a b)):∃Y' a' b',run tx (k+10) 458 [.ref s] Y=.ok (.bool true) Y'/\bj s Y Y'/\Y'[s]?=some (aD a' b'):=by
 refine TC (Ht (k:=k+5) hs) λFo ls pb y1 y2 y3 y4 y5 zq=>HK zq λpre H hl=>kQ H.src λa5 b5 s5=>?_;have iq:jg ls:=⟨hl,λl h=>⟨by have:=H.lt l h;exact eo ‹_› ‹_›,(H.ok l h).len⟩,H.nd⟩;have G6:du Fo (Fo++[ao.list<|(ls.filter Lk.bad).map Lk.U]++[ao.list []]):=(du.refl (Y:=Fo)).push.push;have en:=iO (ak (c':=ao.list [])<|aq (Y:=Fo) (c:=.list<|(ls.filter Lk.bad).map Lk.U)) aq;have t3:∀(b:Bool) (w:V),(!((ls.filter Lk.bad).map Lk.U).isEmpty)=b->dj b (.xs lC) (.c .none)=X.c w->oy (run tx (k+9)) 400 (.set (.l 6)<|.ite (.m .NotEq (.comp [none,none] [1] (.l 7) [.and [.i (.l 1)<|.xi 3,.not<|.i (.l 1)<|.xi 4]]<|.l 1)<|.s []) (.xs lC)<|.c .none) (ip s y1 y2 y3 y4 y5 (Y.length+1) Y.length) Fo=.ok (none,(ip s y1 y2 y3 y4 y5 (Y.length+1) Y.length).set 6<|some w) (Fo++[ao.list<|(ls.filter Lk.bad).map Lk.U]++[ao.list []]):=λb w hb hw=>by
  rw[hb] at en;refine aA (sv (ar (d7 (I rfl) (cK H.links)<|LA H.links ls (acc:=[]) (by rw[List.length_nil];omega)) (bk ae) en) mj ?_) aE;rw[hw];exact ag
 generalize (Fo++[ao.list<|(ls.filter Lk.bad).map Lk.U]++[ao.list []])=Os at G6 t3;clear en;refine tK (Oy (k:=k+5) iq Os (G6.old _ _ H.pubs)<|G6.old _ _ H.links) λj ZU e7 G7 M h7=>xe9 (KV (k:=k+3) iq h7) λXu A B0 B1 B2 u0 u1 u2 U zq=>HK zq λe8 hA H8=>?_;have H8':mI ⟨B0,B1,B2,u0,u1,u2,pb,ls⟩ U ZU Xu A:=H8;refine aN (H8'.iZ .o) λR h8=>?_;have m0:=h8.get 0 rfl;rw[hA] at m0;refine aJ (B7 (k:=k+1) H8' iq H.ok) λXv G9 h9=>?_;rw[hA] at h9;have G:=(G6.trans G7).trans G9;have s9:=G.old _ _ s5;have em:∀{r:Res V},run tx (k+9) 359 [.ref (ZU.length+1)] Xu=r->aV (run tx (k+9)) (.bI (.new 367 [.call 453 [.xs z_,.l 1,.l 0]]) HY []) [some<|.ref (Y.length+1),some<|.ref Y.length,none,none] Os=r:=λhr=>
  bR (vI rfl (aa (aL (aa ag<|aa (I rfl)<|aa (I rfl) ae) e7) ae) e8) (b8 m0 (h8.get 1 rfl) rfl rfl) ae hr
 refine Ab Xv a5 b5 ?_ (H.keep.trans G.keep:bj s Y Xv) s9;rw[dE];refine aZ h9 (λZ6=>?_) λZ7=>?_
 ·refine cR Z6 λhb e9=>?_;have hf:ls.filter Lk.bad=[]:=List.filter_eq_nil_iff.mpr λl hl=>by rw[hb l hl];exact Bool.false_ne_true
  apply bh (i:=Ij) (R:=(some<|.bool true,_)) rfl rfl rfl;refine pre _<|ah (t3 false .none (by rw[hf];rfl) rfl) ?_
  exact bS<|bO<|ar (zi<|em e9) (I rfl)<|by lk
 ·refine cR Z7 λIr e9=>?_;refine aJ Ir λl mu hb=>?_;have hf:(!((ls.filter Lk.bad).map Lk.U).isEmpty)=true:=by
   have hm:l∈ls.filter Lk.bad:=List.mem_filter.mpr ⟨mu,hb⟩;cases q:ls.filter Lk.bad with
   |nil=>rw[q] at hm;cases hm
   |cons _ _=>rfl
  apply bh (i:=Ij) (R:=(some<|.bool true,_)) rfl rfl rfl;refine pre _<|ah (t3 true (.str lC) hf rfl) ?_
  exact bS<|bO<|ar (pQ (C:=64) (.inl rfl)<|em e9) (I rfl)<|by lk
end
theorem LB {gx:Gx}(H:oA gx tx):Fi (2 * 600):=λY s a b hs=>by
 refine kR (Hu (k:=0) hs) λY' a' b' e h1 h2=>Ab Y' a' b' ?_ h1 h2;have:=((H.run 10).pY (f:=458) (vs:=[.ref s]) (Y:=Y)).weaken (n':=2 * 600) (by lk) (by lk);rw[e] at this;exact this
abbrev KS (P:Params)(b:Addr)(o:Obj):Frag:=KF P++[(b,o)]
noncomputable def Hv:Nat->(List Value->Prop)->Prop
 | 0,Q=>Q []
 |n+1,Q=>∀a,Hv n λl=>Q (a::l)
theorem Hv.get:∀{n:Nat} {Q:List Value->Prop},Hv n Q->∀us,us.length=n->Q us:=by
 intro n
 induction n with
 |zero=>intro Q h us e;rw[qS e];exact h
 |succ n ih=>
  intro Q h us e;cases us with
  |nil=>cases e
  |cons a l=>exact ih (h a) l<|j7 e
theorem gU {L X:Frag}{a:Addr}{o:Obj}(h:L.lookup a=some o):(L++X).lookup a=some o:=by
 induction L with
 |nil=>cases h
 |cons p r ih=>
  obtain⟨b,x⟩:=p;rw[sQ,lu];rw[lu] at h;cases q:a==b with
  |true=>rw[q] at h;exact h
  |false=>rw[q] at h;exact ih h
theorem lookup_mem {β:Type}{l:List (Nat × β)}{a:Nat}{o:β}(nd:(l.map (·.1)).Nodup)(h:(a,o)∈l):l.lookup a=some o:=by
 induction l with
 |nil=>cases h
 |cons p r ih=>
  obtain⟨b,x⟩:=p;rw[eM,iy] at nd;rw[lu];refine aZ (aX.mp h) (λe=>?_) λe=>?_
  ·cases e;rw[lx]
  ·have dZ:=beq_eq_false_iff_ne.mpr λq=>nd.1 (by
    have:=cD (f:=λp:Nat × β=>p.1) e;rw[<-show a=b from q];exact this)
   rw[dZ];exact ih nd.2 e
theorem Fv {r:FR}:∀{l:List FR},r∈l->(r.a,r.fn)∈FI l/\(r.a - 1,r.code)∈FI l:=by
 intro l
 induction l with
 |nil=>intro h;cases h
 |cons x t ih=>
  intro h;rcases aX.mp h with rfl | h
  ·exact⟨.head _,.tail _<|.head _⟩
  ·exact⟨.tail _<|.tail _ (ih h).1,.tail _<|.tail _ (ih h).2⟩
theorem Fw:((FI jV).map (·.1)).Nodup:=by decide+kernel
theorem tY:K=KS w.params z0.b z0.o:=rfl
theorem zN {r:FR}(h:r∈jV):K.lookup r.a=some r.fn:=by rw[tY];exact gU<|gU<|lookup_mem Fw (Fv h).1
theorem sI {r:FR}(h:r∈jV):K.lookup (r.a - 1)=some r.code:=by rw[tY];exact gU<|gU<|lookup_mem Fw (Fv h).2
noncomputable def FR.pn (r:FR):db:=r.s.params.args.map (·.arg)
noncomputable def FR.dd (r:FR):Dj:={name:=r.s.name,qual:=r.qual,params:=r.s.params,body:=r.s.body,scope:=r.s.scope,dV:=El r.d,kV:=.none,doc:=.none,pm:=TQ r.m,cdv:=.ref (r.a - 1),ct:=.none,an:=none,oc:=.type "function",od:=none,osl:=#[],pn:=r.pn}
noncomputable def Z8 (ns:Ns)(p:Str × Nat):Bool:=match ns[p.2]? with
 |some (x,k)=>x==p.1&&(k==.local||k==.cell)
 |none=>false
def SB (r:FR)(i:g7):Bool:=
 (r.s.scope.kind==.function&&(!r.s.scope.isCoroutine&&(!r.s.scope.isGenerator&&(decide (r.s.scope.names.map (·.1)).Nodup&&r.s.scope.names.all λp=>p.2 != .free))))&&
 ((i.slots==r.s.scope.names.length&&(decide r.pn.Nodup&&(r.pn.length==i.ps.length&&(r.pn.zip i.ps).all (Z8 r.s.scope.names))))&&
 (rY gx i.body (iH.contains r.a) r.s.body r.s.scope.names&&(((r.d==0&&i.dflt.isEmpty)||(r.a==151&&r.d==144)||(r.a==302&&r.d==295))&&r.a - 1 != r.r11)))
def Wz (p:Nat × g7):Bool:=match jV.find? λr=>r.a==p.1 with
 |some r=>SB r p.2
 |none=>false
theorem OD:Im.list.all Wz=true:=by lk
def PX (r:FR):Prop:=match r.d with
 | 0=>Hv r.pn.length λus=>bindArgs r.fd ⟨us,[]⟩=pure (r.pn.zip us)
 |_+1=>∀(s:Shared) (o:Obj) (v:Value) (n:Nat),s.heap.get? r.d=some o->o.data=.seq #[v] n->(Hv r.pn.length λus=>BindsTo s r.fd ⟨us,[]⟩<|r.pn.zip us)/\Hv (r.pn.length - 1) λus=>BindsTo s r.fd ⟨us,[]⟩<|r.pn.zip (us++[v])
theorem LC:BS PX jV:=
 ⟨λM M M M h1 h2=>⟨λM M M=>sN rfl h1 h2 rfl rfl,λM M=>sN rfl h1 h2 rfl rfl⟩,
 λM M=>rfl,
 λM M M M M M=>rfl,
 λM M=>rfl,
 λM=>rfl,
 λM M M=>rfl,
 λM M M=>rfl,
 λM M M M=>rfl,
 λM M M M=>rfl,
 λM M M M h1 h2=>⟨λM M M M M M=>sN rfl h1 h2 rfl rfl,λM M M M M=>sN rfl h1 h2 rfl rfl⟩,
 λM M M M=>rfl,
 λM M M M=>rfl,
 λM M=>rfl,
 λM=>rfl,
 λM M=>rfl,
 λM M M M=>rfl,
 λM=>rfl,
 λM M=>rfl,
 λM M M=>rfl,
 λM M=>rfl,
 λM M M=>rfl,
 λM M M M M M M=>rfl,
 λM M M M M=>rfl,
 λM M M=>rfl,
 λM M M=>rfl,
 λM M M M=>rfl,
 λM M M M h1 h2=>⟨λM M M M M=>sN rfl h1 h2 rfl rfl,λM M M M=>sN rfl h1 h2 rfl rfl⟩,
 λM M M M M M=>rfl,
 λM M M M=>rfl,
 λM M M M M M M=>rfl,
 λM M M M M M M=>rfl,
 λM M M M M M=>rfl,
 λM M M M h1 h2=>⟨λM M M M=>sN rfl h1 h2 rfl rfl,λM M M=>sN rfl h1 h2 rfl rfl⟩,
 λM=>rfl,
 λM=>rfl,
 λM M M=>rfl,
 λM M=>rfl,
 λM M=>rfl,
 λM M=>rfl,
 λM M=>rfl,
 λM=>rfl,
 λM=>rfl,
 λM M=>rfl,
 λM M=>rfl,
 λM M M=>rfl,
 λM M M=>rfl,
 λM M M=>rfl,
 λM=>rfl,
 λM=>rfl,
 λM=>rfl,
 rfl,
 λM M M=>rfl,
 λM=>rfl,
 λM=>rfl,
 λM M=>rfl,
 λM=>rfl,
 λM M=>rfl,
 λM=>rfl,
 λM=>rfl,trivial⟩
section
variable {r:FR}
theorem OF {ns:Ns}{ps:List Nat}:∀{pn:db},(pn.zip ps).all (Z8 ns)=true->∀(j:Nat) (nm:Str) (k:Nat),pn[j]?=some nm->ps[j]?=some k->∃kd,ns[k]?=some (nm,kd)/\(kd=.local∨kd=.cell):=by
 intro pn h j nm k h1 h2;have hb:=gH.mp h _<|f8 (List.getElem?_zip_eq_some.mpr ⟨h1,h2⟩:(pn.zip ps)[j]?=some (nm,k))
 unfold Z8 at hb;dsimp only at hb;cases q:ns[k]? with
 |none=>rw[q] at hb;cases hb
 |some p=>
  obtain⟨x,kd⟩:=p;rw[q] at hb;have hb:=hb;obtain rfl:x=nm:=eq_of_beq<|b1 hb
  exact bF kd rfl<|(MN<|b2 hb).imp eq_of_beq eq_of_beq
theorem Fy (h:r∈jV):codeIn K (.ref<|r.a - 1) r.qual=true:=by
 show(match K.lookup (r.a - 1) with
  |some ⟨_,_,.fields vs,_⟩=>(match vs.toList with | _::.str n _::_=>n==r.qual | _=>false)
  |_=>false)=true
 rw[sI h];exact lx _
theorem qO {a:Nat}{x:Obj}(h:(KF w.params).lookup a=some x):K.lookup a=some x:=by rw[tY];exact gU h
theorem OG:Dp gx tx:=λf i hf=>by
 have hm:=BT.Il hf;have hc:=gH.mp OD _ hm;unfold Wz at hc;dsimp only at hc;cases q:jV.find? λr=>r.a==f with
 |none=>rw[q] at hc;cases hc
 |some r=>
  rw[q] at hc;have hc:=hc;have hr:=z9 q;have ha:r.a=f:=eq_of_beq<|List.find?_some (p:=λr:FR=>r.a==f) q
  subst ha;have c1:=b1 hc;have c2:=b1<|b2 hc
  have c3:=b2<|b2 hc
  have hlen:=eq_of_beq<|b1<|b2<|b2 c2
  refine bF r.dd ⟨zN hr,Fy hr,eq_of_beq<|b1 c1,nn<|b1<|b2 c1,nn<|b1<|b2<|b2 c1,od<|b1<|b2<|b2<|b2 c1,λp hp=>bne_iff_ne.mp<|gH.mp (b2<|b2<|b2<|b2 c1) p hp,eq_of_beq<|b1 c2,od<|b1<|b2 c2,hlen,OF<|b2<|b2<|b2 c2,b1 c3,?_⟩ ?_
  ·intro s us X h1 h2;have hb:=LC.get r hr;unfold PX at hb;refine aZ (MN<|b1<|b2 c3) (λh0=>?_) λh0=>?_
   ·refine aZ (MN h0) (λh0=>?_) λh0=>?_
    ·have hd:r.d=0:=eq_of_beq<|b1 h0
     have hi:=gF<|b2 h0
     rw[hd] at hb;rw[hi,List.length_nil] at h2;refine bF ([]) ?_ (by rw[hi,List.drop_nil];exact .nil);rw[gI];exact BindsTo.of_eq<|hb.get us<|(Nat.le_antisymm h1 h2).trans hlen.symm
    ·have hd:r.d=144:=eq_of_beq<|b2 h0
     have hA:r.a=151:=eq_of_beq<|b1 h0
     have hi:i=UI:=aU<|hf.symm.trans (by rw[hA];rfl)
     rw[hd] at hb;refine cR (hb s _ _ _ (X _ _ (qO (x:=sO "tuple" #[.none] 0) (by lk))) rfl) λg1 g2=>?_;subst hi;have h6:r.pn.length=6:=hlen;have h1:us.length<=6:=h1;have h2:6<=us.length+1:=h2;by_cases h5:us.length=6
     ·exact bF ([]) (by rw[gI];exact g1.get us<|h5.trans h6.symm) (by rw[h5];exact .nil)
     ·have h5:us.length=5:=Nat.le_antisymm (Nat.le_of_lt_succ<|Nat.lt_of_le_of_ne h1 h5)<|Nat.le_of_succ_le_succ h2
      exact bF ([.none]) (g2.get us (by rw[h6];exact h5)) (by rw[h5];exact .cons .none .nil)
   ·have hd:r.d=295:=eq_of_beq<|b2 h0
    have hA:r.a=302:=eq_of_beq<|b1 h0
    have hi:i=FU:=aU<|hf.symm.trans (by rw[hA];rfl)
    rw[hd] at hb;refine cR (hb s _ _ _ (X _ _ (qO (x:=sO "tuple" #[.int 0 625] 0) (by lk))) rfl) λg1 g2=>?_;subst hi;have h6:r.pn.length=5:=hlen;have h1:us.length<=5:=h1;have h2:5<=us.length+1:=h2;by_cases h5:us.length=5
    ·exact bF ([]) (by rw[gI];exact g1.get us<|h5.trans h6.symm) (by rw[h5];exact .nil)
    ·have h5:us.length=4:=Nat.le_antisymm (Nat.le_of_lt_succ<|Nat.lt_of_le_of_ne h1 h5)<|Nat.le_of_succ_le_succ h2
     exact bF ([.int 0 625]) (g2.get us (by rw[h6];exact h5)) (by rw[h5];exact .cons (.int 0 625) .nil)
  ·intro hw;have ht:tabOf K r.a=some (r.r11,r.qual++".<locals>."++"<lambda>"):=by
    unfold tabOf;rw[zN hr];show(match K.lookup (r.a - 1) with
     |some ⟨_,_,.fields vs,_⟩=>(match (vs[11]?:Option Value) with
      |some (.ref P)=>some (P,r.qual++".<locals>."++"<lambda>")
      |_=>none)
     |_=>none)= _
    rw[sI hr];rfl
   exact fc (r.a - 1) r.r11 rfl (λh X=>⟨r.code,r.cs,_,_,_,_,_,_,_,X _ _<|sI hr,rfl,rfl,rfl,rfl,rfl,rfl,rfl,rfl,bne_iff_ne.mp<|b2<|b2 c3⟩)<|List.mem_filterMap.mpr ⟨r.a,by simpa using hw,ht⟩
end
theorem ft {α β:Type}[BEq α][LawfulBEq α]:∀{l:List (α × β)} {x:α} {a:β},l.lookup x=some a->(x,a)∈l:=by
 intro l
 induction l with
 |nil=>intro x a h;cases h
 |cons p r ih=>
  intro x a h;obtain⟨y,z⟩:=p;rw[lu] at h;cases q:x==y with
  |true=>rw[q] at h;cases h;rw[show x=y from eq_of_beq q];exact .head _
  |false=>rw[q] at h;exact .tail _<|ih h
section
variable (K:Frag)
noncomputable def LD (C:Nat):Bool:=plainGet K C default&&(hasDictIn K C&&(decide (findIn K (.ref C) "__setattr__"=some (some (.builtin "object.__setattr__")))&&(plainOver K C&&(decide (findIn K (.ref C) "__eq__"=some (some (.builtin "object.__eq__")))&&(decide (findIn K (.ref C) "__ne__"=some (some (.builtin "object.__ne__")))&&(decide (subIn K (.type "str") (.ref C)=some false)&&decide (subIn K (.ref C) (.type "object")=some true)))))))
noncomputable def OH (p:Nat × Nat):Bool:=decide (findIn K (.ref p.1) "__init__"=some (some (.ref p.2)))&&(decide (typeIn K (.ref p.2)=some (.type "function"))&&(makesIn K p.1&&(keepIn K (.ref p.1)&&LD K p.1)))
noncomputable def OI (C:Nat)(q:Str × Nat):Bool:=decide (findIn K (.ref C) q.1=some (some (.ref q.2)))&&(decide (typeIn K (.ref q.2)=some (.type "function"))&&keepIn K (.ref q.2))
def WA:Bool:=(yF.all λp=>p.2.all λnm=>decide<|findIn K (.ref p.1) nm=some none)&&((meths.all λp=>p.2.all<|OI K p.1)&&(Aw.all (OH K)&&((UF.all λp=>decide (nsIn K mainGlobals p.1=some (some<|.ref p.2))&&keepIn K (.ref p.2))&&(Pg.all λp=>decide<|nsIn K mainGlobals p.1=some (some<|.ref p.2)))))
def WB (p:Str × Bi):Bool:=decide (nsIn K mainGlobals p.1=some none)&&(decide (bootBuiltins p.1=some (ta p.2))&&decide (p.1≠"__name__"))
noncomputable def WC:Value->Nat
 | .ref a=>a
 |_=>0
noncomputable def OJ:Value->Int
 | .int i _=>i
 |_=>0
noncomputable def OK:Value->Str
 | .str s _=>s
 |_=>default
noncomputable def OL:Data->Array Value
 | .seq vs _=>vs
 |_=>#[]
def tH (c:String)(u:Value):Option (Array Value):=match K.lookup (WC u) with
 |some o=>if (u.ctorIdx==10&&(decide (o.cls=.type c)&&o.data.ctorIdx==2))=true then some (OL o.data) else none
 |none=>none
mutual
noncomputable def OM:V->Value->Bool
 | .none,u=>decide (u=.none)
 | .bool b,u=>decide<|u=.bool b
 | .int i,u=>u.ctorIdx==4&&OJ u==i
 | .str s,u=>u.ctorIdx==6&&OK u==s
 | .U l,u=>match tH K "tuple" u with
  |some vs=>ym l vs.toList
  |none=>false
 | .gl l,u=>match tH K "list" u with
  |some vs=>ym l vs.toList
  |none=>false
 | .rng _ _,_=>false
 | .ref _,_=>false
noncomputable def ym:List V->List Value->Bool
 | [],us=>us.isEmpty
 |a::r,us=>!us.isEmpty&&(OM a (us.headD .none)&&ym r us.tail)
end
def LE (p:Str × V):Bool:=match nsIn K mainGlobals p.1 with
 |some (some u)=>OM K p.2 u
 |_=>false
def LF:Bool:=WA K&&(UG.all (WB K)&&Ph.all (LE K))
end
theorem Ce {c:String}{u:Value}{vs:Array Value}(h:tH K c u=some vs):∃a o n,u=.ref a/\K.lookup a=some o/\o.cls=.type c/\o.data=.seq vs n:=by
 unfold tH at h;cases q:K.lookup (WC u) with
 |none=>rw[q] at h;cases h
 |some o=>
  rw[q] at h;have h':(if (u.ctorIdx==10&&(decide (o.cls=.type c)&&o.data.ctorIdx==2))=true then some (OL o.data) else none)=some vs:=h;clear h;by_cases hc:(u.ctorIdx==10&&(decide (o.cls=.type c)&&o.data.ctorIdx==2))=true
  ·rw[if_pos hc] at h';obtain⟨a,rfl⟩:∃a,u=.ref a:=@Value.ref.elim (λu=>∃a,u=.ref a) u (ix<|b1 hc) λa=>⟨a,rfl⟩;obtain⟨n,hn⟩:∃n,o.data=.seq (OL o.data) n:=@Data.seq.elim (λd=>∃n,d=.seq (OL d) n) o.data (ix<|b2<|b2 hc) λvs n=>⟨n,rfl⟩;exact tL a o n rfl q (od<|b1<|b2 hc) (by rw[<-aU h'];exact hn)
  ·rw[if_neg hc] at h';cases h'
theorem ON (v:V):∀u,OM K v u=true->bH [] [] u v:=by
 refine @V.rec (λv=>∀u,OM K v u=true->bH [] [] u v) (λl=>∀us,ym K l us=true->cr [] [] us l) ?none ?bool ?int ?str ?U ?gl ?rng ?ref ?nil ?cons v
 case none=>exact λu h=>by obtain rfl:=od h;exact .none
 case bool=>exact λb u h=>by obtain rfl:=od h;exact .bool b
 case int=>exact λi u h=>@Value.int.elim (λu=>(OJ u==i)=true->bH [] [] u (.int i)) u (ix<|b1<|show(u.ctorIdx==4&&OJ u==i)=true from h) (λj t h=>by obtain rfl:j=i:=eq_of_beq h;exact .int j t)<|b2<|show(u.ctorIdx==4&&OJ u==i)=true from h
 case str=>exact λs u h=>@Value.str.elim (λu=>(OK u==s)=true->bH [] [] u (.str s)) u (ix<|b1<|show(u.ctorIdx==6&&OK u==s)=true from h) (λj t h=>by obtain rfl:j=s:=eq_of_beq h;exact .str j t)<|b2<|show(u.ctorIdx==6&&OK u==s)=true from h
 case U=>
  intro l ih u h;have h':(match tH K "tuple" u with
   |some vs=>ym K l vs.toList
   |none=>false)=true:=h
  clear h;cases q:tH K "tuple" u with
  |none=>rw[q] at h';cases h'
  |some vs=>
   rw[q] at h';refine uI (Ce q) λa o n eA h1 h2 h3=>?_;subst eA;exact .U (.inr h1) dq h2 h3<|ih _ h'
 case gl=>
  intro l ih u h;have h':(match tH K "list" u with
   |some vs=>ym K l vs.toList
   |none=>false)=true:=h
  clear h;cases q:tH K "list" u with
  |none=>rw[q] at h';cases h'
  |some vs=>
   rw[q] at h';refine uI (Ce q) λa o n mT h1 h2 h3=>?_;subst mT;exact .gl h1 h2 h3<|ih _ h'
 case rng=>exact λM M u h=>nomatch h
 case ref=>exact λM u h=>nomatch h
 case nil=>exact λus h=>by rw[gF h];exact .nil
 case cons=>
  intro a r rO LN us h;have h:=h;rw[nX (b1 h) .none];exact .cons (rO _<|b1<|b2 h)<|LN _<|b2<|b2 h
theorem SD {C:Nat}(h:LD K C=true):OwnCls K C:=
 ⟨λM=>b1 h,b1<|b2 h,od<|b1<|b2<|b2 h,b1<|b2<|b2<|b2 h,od<|b1<|b2<|b2<|b2<|b2 h,od<|b1<|b2<|b2<|b2<|b2<|b2 h,od<|b1<|b2<|b2<|b2<|b2<|b2<|b2 h,od<|b2<|b2<|b2<|b2<|b2<|b2<|b2 h⟩
theorem WD:∀nm m,YA.lookup nm=some m->nm=r9 m:=λnm m h=>(show BS (λp:Str × Bm=>p.1=r9 p.2) YA from⟨by lk,by lk,by lk,by lk,by lk,by lk,by lk,trivial⟩).get _<|ft h
theorem LG (h:LF K=true)(hx:∀C:Nat,(C==52||C==64||C==76)=true->keepIn K (.ref C)=true/\oH K C/\vu C):pK gx:=by
 have hn:=b1 h;exact{
  attrs:=λC nm e=>by
   have e:((yF.lookup C).getD []).contains nm=true:=e;cases q:yF.lookup C with
   |none=>rw[q] at e;cases e
   |some l=>
    rw[q] at e;exact od<|gH.mp ((gH.mp<|b1 hn) _<|ft q) nm<|List.contains_iff_mem.mp e
  meths:=λC nm f e=>by
   have e:((meths.lookup C).bind λl=>l.lookup nm)=some f:=e;cases q:meths.lookup C with
   |none=>rw[q] at e;cases e
   |some l=>
    rw[q] at e;have hm:=gH.mp ((gH.mp<|b1<|b2 hn) _<|ft q) _<|ft e
    exact⟨od<|b1 hm,od<|b1<|b2 hm,b2<|b2 hm⟩
  Aw:=λC f e=>by
   have hi:=(gH.mp<|b1<|b2<|b2 hn) _<|ft e
   exact⟨od<|b1 hi,od<|b1<|b2 hi,b1<|b2<|b2 hi,b1<|b2<|b2<|b2 hi,SD<|b2<|b2<|b2<|b2 hi⟩
  val:=λx v e=>by
   have hv:=(gH.mp<|b2<|b2 h) _<|ft e
   unfold LE at hv;dsimp only at hv;cases q:nsIn K mainGlobals x with
   |none=>rw[q] at hv;cases hv
   |some u=>
    cases u with
    |none=>rw[q] at hv;cases hv
    |some u=>rw[q] at hv;exact bF u q<|ON v u hv
  fn:=λx f e=>by
   have hf:=(gH.mp<|b1<|b2<|b2<|b2 hn) _<|ft e
   exact⟨od<|b1 hf,b2 hf⟩
  cls:=λx C e=>od<|(gH.mp<|b2<|b2<|b2<|b2 hn) _<|ft e
  bi:=λx b e=>by
   have hb:=(gH.mp<|b1<|b2 h) _<|ft e
   exact⟨od<|b1 hb,od<|b1<|b2 hb,od<|b2<|b2 hb⟩
  bm:=WD
  exc:=hx}
theorem WE {P:Params}{b:Addr}{o:Obj}:LF (KS P b o)=true:=by lk
section
variable {P:Params} {b:Addr} {o:Obj}
theorem WF:BS (λp:Addr × Obj=>(KF P).lookup p.1=some p.2) (HC P):=⟨by lk,by lk,by lk,by lk,by lk,by lk,by lk,by lk,by lk,by lk,by lk,by lk,trivial⟩
theorem Z9 {h:Heap}(X:K.In h):(HC w.params).In h:=λa x e=>X a x (by rw[tY];exact gU<|WF.get _<|ft e)
noncomputable def Cf (K:Frag)(C:Nat):Bool:=decide (findIn K (.ref C) "__init__"=some (some (.ref 36)))&&(decide (findIn K (.ref C) "__setattr__"=some (some (.builtin "object.__setattr__")))&&(decide (findIn K (.ref C) "message"=some none)&&(decide (findIn K (.ref C) "spot"=some none)&&keepIn K (.ref C))))
theorem SE:(Cf (KS P b o) 52&&(Cf (KS P b o) 64&&Cf (KS P b o) 76))=true:=by lk
theorem zO {C:Nat}{x:Obj}(hl:(KF w.params).lookup C=some x)(hx:∃nm q aaL bs D sn sub ab col dd k0 k1 k2 k3 k5,x=excClassObj nm q C aaL bs (.ref D::w9) true sn sub ab col dd k0 k1 k2 k3 k5 "Exception.__new__")(h:Cf K C=true):oH K C:=by
 obtain⟨nm,q,aaL,bs,D,sn,sub,ab,col,dd,k0,k1,k2,k3,k5,rfl⟩:=hx;exact⟨⟨nm,q,aaL,bs,D,sn,sub,ab,col,dd,k0,k1,k2,k3,k5,qO hl⟩,od<|b1 h,od<|b1<|b2 h,od<|b1<|b2<|b2 h,od<|b1<|b2<|b2<|b2 h⟩
theorem zP {C:Nat}(hE:oH (HC w.params) C):vu C:=λB F X T hA hf hk hd h=>HQ B F (Z9 X) T hA hf hk hd hE (Yj w) h
theorem SG (C:Nat)(hC:(C==52||C==64||C==76)=true):keepIn K (.ref C)=true/\oH K C/\vu C:=by
 have hk:(Cf K 52&&(Cf K 64&&Cf K 76))=true:=by rw[tY];exact SE
 have kp:∀{C:Nat},Cf K C=true->keepIn K (.ref C)=true:=λh=>b2<|b2<|b2<|b2 h
 refine aZ (MN hC) (λhC=>?_) λhC=>?_
 ·refine aZ (MN hC) (λhC=>?_) λhC=>?_
  ·obtain rfl:C=52:=eq_of_beq hC;exact⟨kp<|b1 hk,zO (x:=Yc) (by lk) ⟨_,_,_,_,_,_,_,_,_,_,_,_,_,_,_,rfl⟩<|b1 hk,zP<|MA w⟩
  ·obtain rfl:C=64:=eq_of_beq hC;exact⟨kp<|b1<|b2 hk,zO (x:=Yd) (by lk) ⟨_,_,_,_,_,_,_,_,_,_,_,_,_,_,_,rfl⟩<|b1<|b2 hk,zP<|MB w⟩
 ·obtain rfl:C=76:=eq_of_beq hC;exact⟨kp<|b2<|b2 hk,zO (x:=Ye) (by lk) ⟨_,_,_,_,_,_,_,_,_,_,_,_,_,_,_,rfl⟩<|b2<|b2 hk,zP<|MC w⟩
noncomputable def LH:FR:=⟨418,34,0,"_law_word",3,0,819,343,1,412,413,414,415,416,823⟩
theorem LI:LH∈jV:=f8 (i:=41) rfl
theorem OO:((ii<|KS P b o).map (·.1)).Nodup:=by
 rw[(by lk:(ii<|KS P b o).map (·.1)=[455,460,467,512,517,524])];decide
theorem OP:nsIn (KS P b o) mainGlobals gx.word=some (some<|.ref 418):=by lk
theorem nsK {x:Str}{v:Value}(h:nsIn (KS w.params z0.b z0.o) mainGlobals x=some (some v)):KtsName K x v:=.inl (by rw[tY];exact h)
theorem Hw {x y:Value}{r:Option Bool}(h:exmOne (KS w.params z0.b z0.o) x y=r):exmOne K x y=r:=by rw[tY];exact h
noncomputable def Do:EJ where
 D:=LH.dd
 cn:=_
 p1:=_
 p2:=_
 p3:=_
 p4:=_
 h1:=⟨_,_,_,_,_,_,_⟩
 h2:=⟨_,_,_,_,_,_,_⟩
 h3:=⟨_,_,_,_,_,_,_⟩
 look:=zN LI
 code:=Fy LI
 kind:=rfl
 co:=rfl
 gen:=rfl
 body:=rfl
 nocells:=λM=>rfl
 lk1:=rfl
 lk2:=rfl
 lk3:=rfl
 lk4:=rfl
 bind:=λs v=>BindsTo.of_eq rfl
 dbg:=by lk
 w1:=rfl
 w2:=rfl
 w3:=rfl
 n1:=nsK (by lk)
 n2:=nsK (by lk)
 n3:=nsK (by lk)
 e11:=Hw (by lk)
 e21:=Hw (by lk)
 e22:=Hw (by lk)
 e31:=Hw (by lk)
 e32:=Hw (by lk)
 e33:=Hw (by lk)
theorem OQ:keepIn (KS P b o) (.ref 418)=true:=by lk
theorem OR:zh gx:=⟨⟨Do⟩,by rw[tY];exact OO,by rw[tY];exact OP,by rw[tY];exact OQ⟩
theorem wld:oA gx tx:=⟨LG (by rw[tY];exact WE) SG,OR,OG⟩
end
section
variable {O:av} {gx:Gx} {Z:Led} {s:Shared} {base:Heap} {f:Addr} {i:g7} {us:List Value} {vs:aH}
theorem Eb {tx:Text}(H:oA gx tx){k:Nat}(S:iJ O (2 * k))(hk:k<650)(hf:tx.fn f=some i)(hl:vs.length=i.ps.length){R:Result->Shared->Prop}{v:V}{Y':af}
  (yt:K.In base) {p:Program} {loose:db} {kL:ExcName->Option Value} {mg mb:lW} (T:Top p loose kL mg mb base) (hb:∀b o,base.get? b=some o->s.heap.get? b=some o) (hs:base.objs.size<=s.heap.objs.size)
  (hZ:∀p∈Z,s.heap.get? p.1=some p.2/\base.get? p.1=none) (Rp:Rep [] Z []) (is:cr [] Z us vs) (e:bn tx O f vs []=.ok v Y')
  (hq:∀u bU Z' h' fb,(∀b o,base.get? b=some o->h'.get? b=some o)->Rep bU Z' Y'->(∀p∈Z',h'.get? p.1=some p.2)->bH bU Z' u v->R (.ok<|.ret u) {s with heap:=h',toks:=fb}):
  codeAny Mo callerA (.call (.ref f) ⟨us,[]⟩) R s:=by
 refine aJ (H.defs f i hf) λD X P3=>?_;have hsz:=hs;have e:fL (tx.fn f) (λi=>if vs.length<=i.ps.length/\i.ps.length<=vs.length+i.dflt.length then fL (kD i.slots i.ps<|vs++i.dflt.drop (vs.length+i.dflt.length - i.ps.length)) λN=>(b9 O tx.wh i.body N []).bind λr Y=>.ok (r.1.getD .none) Y else .stuck)=.ok v Y':=e;rw[hf] at e;have e:(if vs.length<=i.ps.length/\i.ps.length<=vs.length+i.dflt.length then fL (kD i.slots i.ps<|vs++i.dflt.drop (vs.length+i.dflt.length - i.ps.length)) λN=>(b9 O tx.wh i.body N []).bind λr Y=>.ok (r.1.getD .none) Y else .stuck)=Res.ok v Y':=e;rw[if_pos ⟨qU hl,hl▸ej _ _⟩,hl,sM,List.drop_length,gI] at e;cases hp:kD i.slots i.ps vs with
 |none=>rw[hp] at e;cases (show(Res.stuck:Res V)=.ok v Y' from e)
 |some N=>
  rw[hp] at e;have e:=e;have OZ:=(bd is).trans hl;refine aJ (X.bind s us (yt.keeps hb) (qU OZ)<|OZ▸ej _ _) λvals qi iv=>?_;rw[OZ,sM,List.drop_length] at iv;rw[iv.kg,gI] at qi;have B:Bd X [] Z us vs N:=⟨is,hp⟩;refine codeAny_call_function (by show 1+claimMargin<recursionLimit;decide+kernel) (yt.keeps hb _ _ X.look) rfl X.co X.gen rfl (codeRec_of (yt.keeps hb) X.code)<|qi _ _ _ _ ?_
  refine wpAny_newFunctionEnv_cells X.kind (λz hz=>?_) λOV he s' x=>?_
  ·refine aZ (X.kn (by rw[<-B.keys];exact cD hz)) (λe=>?_) λe=>?_
   ·exact .inl e
   ·refine aN (eD D.scope.names (s.heap.objs.size+1) [] e) λca LU=>?_;exact .inr ⟨bB X.nodup e,by rw[LU];rfl⟩
  subst he;refine⟨(T.nolimit.keeps hb).keeps x.toInCall.keep,codeAny_func ?_⟩;refine gG x.done λbA tk eA M=>?_;subst eA;have ji:=x.toInCall.keep;refine aJ (Cl.news (ba _) λn c hm=>⟨x.cell n c (lookup_of_mem_nodup (cellsFrom_names D.scope.names 0 (s.heap.objs.size+1) [] [] rfl▸hH _ _ _ X.nodup (λM h=>nomatch h) j6) hm),x.above n c hm⟩) λcells NC aaJ=>?_;have N':News base s.heap.objs.size bA (cells++Z):=λp hp=>by
   refine aZ (fu.mp hp) (λhp=>?_) λhp=>?_
   ·refine⟨(NC p hp).1,(NC p hp).2.1,?_⟩;cases q:base.get? p.1 with
    |none=>rfl
    |some o=>have:=hb _ _ q;rw[(NC p hp).2.2] at this;exact fP this
   ·exact⟨ji _ _ (hZ p hp).1,i9<|gJ (hZ p hp).1,(hZ p hp).2⟩
  have sL:cells.map (·.1)=(cellsFrom (s.heap.objs.size+1) D.scope.names []).map (·.2):=jZ aaJ;have Mc:∀z∈cells.map (·.1),z∉Z.map (·.1):=λz hz h=>by
   rw[sL] at hz;refine aJ (bX.mp hz) λpc O0 e1=>aJ (bX.mp h) λpz W2 e2=>?_;have h1:=iR (L:=s.heap.objs.size) _ _ [] (uG _) (λM h=>nomatch h) pc O0;have h2:=gJ (hZ pz W2).1;rw[e1] at h1;rw[e2] at h2;exact Nat.lt_asymm h1 h2
  have cnd:(cells.map (·.1)).Nodup:=by rw[sL];exact eV _ _ _ (λM h=>nomatch h) j6
  refine cR (xJ (λp hp=>Mc p.1<|cD hp) cnd Rp) λRp' g=>?_;have fin:∀nb,nb / 2<=k+4->(nb % 2=1->EI D)->n7 ⟨O,nb,D.scope.names⟩ tx.wh D.body i.body->wpAny Mo (callerA.deeper<|envOfC D.qual D.scope s.heap.objs.size f D.cdv) (execs D.body<|envOfC D.qual D.scope s.heap.objs.size f D.cdv) (λ(fl:Flow) s'=>R (.ok<|.ret<|Jr fl) s')
    (λe s'=>wpAny Mo (callerA.deeper<|envOfC D.qual D.scope s.heap.objs.size f D.cdv) (leaving (envOfC D.qual D.scope s.heap.objs.size f D.cdv) e) (λM rN=>R (.error e) rN) (λe' rN=>R (.error e') rN) s') {s with heap:=bA,toks:=tk}:=λnb hnb hw O4=>by
   let c:Fx:=⟨base,s.heap.objs.size,envOfC D.qual D.scope s.heap.objs.size f D.cdv,[],callerA.deeper<|envOfC D.qual D.scope s.heap.objs.size f D.cdv,s⟩;let t:Lv:=⟨O,nb,D.scope.names⟩;have lo:=B.lo (t:=t) c (λz oz h=>j5 Z h) (λz hz=>dq) g rfl aaJ;have aaL:=X.env (L:=s.heap.objs.size);have hn:=eo hnb<|nY (Nat.le_of_lt_succ hk) 4
   have dep:1+claimMargin+1+nb / 2+3<recursionLimit:=eu (nY (uC hn _) 3) (by lk);have unit:4+3+10 * (nb / 2)+200<cLine:=eu (nY (uC (Nat.mul_le_mul_left 10 hn) _) 200) (by lk);have wy:nb % 2=1->uZ c:=λho=>by
    exact de (hw ho) λcc P w1 w2 w3=>fc cc P w1 (w2 _ yt) w3
   have ok:Ok c t (envOfC D.qual D.scope s.heap.objs.size f D.cdv):=
    {inB:=yt,qj:=⟨_,_,_,_,_,T⟩,hh:=rfl,frames:=rfl,frame:=rfl,fkind:=X.kind,depth:=dep,units:=unit,wordy:=wy,kind:=aaL.kind,globals:=aaL.globals,builtins:=aaL.builtins,eframe:=aaL.frame,code:=rfl,qual:=rfl,top:=aaL.top,local':=aaL.local',cell:=aaL.cell}
   let q':St ⟨c,t,envOfC D.qual D.scope s.heap.objs.size f D.cdv,(bindL (envOfC D.qual D.scope s.heap.objs.size f D.cdv).kindOf (D.pn.zip us) λM=>none),N⟩:=
    {b:=base,h:=bA,ρ:=[],Z:=cells++Z,Y:=[],tk:=tk,ok:=ok,below:=⟨callerA,below_caller base⟩,dicts:=λz hz=>(dq hz).elim,fr:=(⟨x.toInCall.ns,λb o e=>ji b o<|hb b o e,hs⟩:Fr base s.heap.objs.size bA (bindL (envOfC D.qual D.scope s.heap.objs.size f D.cdv).kindOf (D.pn.zip us) λM=>none)),news:=N',rep:=Rp',lo:=lo}
   have D':Df q':=⟨⟨rfl,λx h=>bB X.nodup h,X.nodup,eV _ _ _ (λM h=>nomatch h) j6⟩,λz hz=>by
    refine aJ (bX.mp hz) λpc O0 e1=>aJ (kX aaJ O0) λoz z1 z2=>?_;rw[e1] at z1;exact⟨oz,_,j5 _ z1,dq,z2⟩⟩
   refine O4 _ q' _ _ rfl D' ?_;have e:((b9 O tx.wh i.body N q'.Y).bind λr Y=>.ok (r.1.getD .none) Y)=Res.ok v Y':=e;show bE q'.bs _ (b9 O tx.wh i.body N q'.Y) _ _;generalize b9 O tx.wh i.body N q'.Y=r at e;cases r with
   |stuck=>cases (show(Res.stuck:Res V)=.ok v Y' from e)
   |exc C al=>cases (show(Res.exc C al:Res V)=.ok v Y' from e)
   |ok fl al=>
    intro m' fw jT a es _ i';injection (e:(Res.ok (fl.1.getD .none) al:Res V)=.ok v Y') with e1 e2
    have i':=i';have fin:∀u,bH jT.ρ jT.Z u v->R (.ok<|.ret u) jT.s:=λu iu=>hq u jT.ρ jT.Z jT.h jT.tk (λb o q=>jT.fr.keep b o (a.turn.other b o q λz=>dq z):∀b o,base.get? b=some o->jT.h.get? b=some o) (by rw[<-e2,<-(show jT.Y=al from es)];exact jT.rep) (λp hp=>(jT.news p hp).1) iu;generalize fl.1=rv at e1 i';cases rv with
    |none=>
     rw[show fw=.next from i'];exact fin .none (by rw[<-e1];exact .none)
    |some oj=>
     refine aJ i' λu mT iu=>?_;subst mT;exact fin u (by rw[<-e1];exact iu)
  have xb:=X.body;cases hw:iH.contains f with
  |true=>
   rw[hw] at xb P3;exact fin (2 * (k+4)+1) (by rw[ru];exact ba _) (λM=>P3 rfl)<|nI (so H.names H.word S) _ _ xb
  |false=>
   rw[hw] at xb;exact fin (2 * k) (by rw[gi];exact ej _ _) nJ<|nI (lN H.names S) _ _ xb
end
theorem SH {gx:Gx}(H:oA gx tx){script:List Int}(hl:script.length<1000):∃O Y',iJ O (2 * 600)/\bn tx O 529 [.gl<|script.map .int] []=.ok (.bool true) Y':=by
 have hC:yb (2 * 600):=λY m hm=>(D0 H<|Hg hm).weaken (by lk) (by lk);exact aJ (Hh (by lk)<|Sp H (LB H) hC) λO S hO=>aN (Oa<|Oh hO hl) λY' e=>kz O Y' S e
theorem LJ {vs:List Value}{l:List Int}(h:IntsAre vs l):cr [] (tabNews nZ) vs (l.map .int):=by
 induction h with
 |nil=>exact .nil
 |cons n t _ ih=>exact .cons (.int n t) ih
theorem yn:(ii K).map (·.1)=[455,460,467,512,517,524]:=by
 have h:∀{P:Params} {b:Addr} {o:Obj},(ii<|KS P b o).map (·.1)=[455,460,467,512,517,524]:=λ{P b o}=>by lk
 rw[tY];exact h
theorem rep0:Rep [] (tabNews nZ) [] where
 len:=rfl
 nd:=j6
 ndZ:=by lk
 apart:=λM h=>nomatch h
 big:=λM h=>nomatch h
 cell:=λM M h=>fP h
 tabs:=λt ht=>by
  have hm:t.1∈(ii K).map (·.1):=cD ht;rw[yn] at hm;refine oG (#[]) ?_ dq trivial λpos cv h=>fP h;have:∀x∈[455,460,467,512,517,524],∃q∈nZ,q.2=x:=by lk
  exact aJ (this _ hm) λq hq e=>bX.mpr ⟨q,hq,by rw[e]⟩
theorem SI:z0.Claim:=λscript vs n base s R p loose kL mg mb hlen hc LP hI hk X T hb hs hZ hR=>by
 refine gG (SH wld hlen) λO Y' S e=>Eb wld S (by lk) rfl rfl X T hb hs hZ rep0 (.cons (.gl (hk:K.lookup z0.b=some z0.o) hc LP<|LJ hI) .nil) e λu bU Z' h' fb keep Rp hZ' iu=>?_;rw[iu.AC];refine hR h' fb keep λq hq=>?_;have hm:q.2∈(ii K).map (·.1):=by
  rw[yn];exact(by lk:∀q∈nZ,q.2∈[455,460,467,512,517,524]) q hq
 exact aJ (bX.mp hm) λt ht e=>aJ (Rp.tabs _ ht) λps h1 M=>e▸⟨ps,hZ' _ h1⟩
section
variable {P:Params} {b:Addr} {o:Obj} {h:Heap}
theorem OS (X:(KF P).In h)(hb:h.get? b=some o):(KS P b o).In h:=λa x e=>by
 cases q:(KF P).lookup a with
 |some y=>
  rw[gU q] at e;cases e;exact X _ _ q
 |none=>
  have e2:(KS P b o).lookup a=[(b,o)].lookup a:=by
   rw[List.lookup_append,q];rfl
  rw[e2,lu] at e;cases hq:a==b with
  |true=>rw[hq] at e;cases e;rw[show a=b from eq_of_beq hq];exact hb
  |false=>rw[hq] at e;cases e
theorem OT (X:(KF P).In h)(hb:h.get? b=some o):(KS P b o).lookup b=some o:=by
 cases q:(KF P).lookup b with
 |some y=>
  have:=X _ _ q;rw[hb] at this;cases this;exact gU q
 |none=>
  rw[List.lookup_append,q];show[(b,o)].lookup b=some o;rw[lu,lx]
theorem OU (hc:o.cls=.type "list"):noTabs (KS P b o)=true:=by
 have h1:noTabs (KF P)=true:=by lk
 unfold noTabs at h1⊢;rw[List.all_append,h1];show((match o.cls,o.data with
  | .none,.fields _=>false
  |_,_=>true)&&true)=true
 rw[hc];rfl
end
theorem aaw {d:DefRec}{kwd:List (Str × Expr)}(hn:d.name=("law":Str)):WalkO q0 yr (λM M=>True) hook.says Mt.row.toRowW d kwd λf vs=>PySem.call f vs:=by
 intro w gY dW mg mb G aaJ a o pm cd doc dV kV ho hd LL hD hmg hg args vals as S8 aao hrd hwl hlo;have hT:=Mu aaJ;have X:=km_in_of aaJ;have T:=G.T;rw[hn,mg_of X T.g (show nsIn (KF w.params) mainGlobals "law"=some (some (.ref 529)) by lk)] at hmg;obtain rfl:529=a:=Value.ref.inj<|aU hmg
 clear ho hd LL hD hmg aaJ
 wrow_args S8 aao hrd hwl hlo
 rename List Int=>script;rename dW.heap.IsList _ _=>hL;rename IntsAre _ _=>hI;rename¬_=>hlen;rename Addr=>bb;obtain⟨ol,hb,hc,nn,LP⟩:=hL;refine enter_call<|kn_post hT (λM M=>rfl) ?_
 refine FJ SI ⟨w,bb,ol⟩ script _ nn (ghostOf dW.heap nZ) _ _ _ _ _ _ _ (by omega) hc LP hI (OT X hb) (ghost_K hT (OS X hb:(⟨w,bb,ol⟩:Wd).K.In dW.heap)<|OU hc) (ghost_top hT T) (λM M e=>of_hideAll _ e) (qU<|hideAll_size _ _) (λp hp=>?_) λh' fb keep XQ=>?_
 ·refine aJ (bX.mp hp) λq hq eA=>?_;subst eA;exact⟨(hT q hq).2,hideAll_none _<|cD hq⟩
 ·refine⟨⟨.inl ⟨.bool true,.bool true,[],rfl,λM=>rfl,.bool true,?_,λM=>⟨j6,λM h=>nomatch h⟩⟩,keep,rfl,hg⟩,?_⟩
  ·wrow_post
  ·have at':=λq (hq:q∈nZ)=>XQ q hq;exact⟨at' (457,455) (by lk),at' (464,460) (by lk),at' (471,467) (by lk),at' (514,512) (by lk),at' (521,517) (by lk),at' (528,524) (by lk),trivial⟩end
end Mine.Internal
open PySem PySem.W PyProof.Rows
theorem PySem.Challenge.cw_sa0448_01_holds : PySem.Challenge.rw_sa0448_01.Holds :=
  Mine.Internal.aap rfl (Mine.Internal.aaw rfl)
