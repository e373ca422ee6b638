import PyProof.Rows.All
import Wide.All
import OpenK.AllK
import Wide.FinOn
import KE.KNest
import KE.KNestM
import KE.KTryMore
import KE.KTryDeep
import PyProof.TupleKey
import PyProof.DictKeyH
import KE.KTryOn
import KE.KDictSum
import KE.KPop
import KE.KxSplit
import PyProof.Rows.SortShellK
import KE.KLam
import PyProof.P3Eq
import Lean
import PySem.Challenge.RW_sa0448_01
set_option Elab.async false
set_option maxRecDepth 100000
set_option maxHeartbeats 2000000
set_option genInjectivity false
set_option genSizeOf false
set_option linter.all false
set_option compiler.extract_closed false
set_option tactic.hygienic false
namespace Mine.Internal
open PySem PySem.W PySem.Spec PySem.Calls PyProof.Rows
noncomputable section
section
universe u v w u1 u2 u3 u4 u5 u6 u7 u8 u9 u10 u11 u12
variable {dD:Sort u1} {eH:Sort u2} {gF:Sort u3} {lz:Sort u4} {nQ:Sort u5} {ql:Sort u6} {zm:Sort u7} {BV:Sort u8} {GZ:Sort u9} {xM:Sort u10} {E5:Sort u11} {Pr:Sort u12} {G Q:Prop}
abbrev qm:=@List.eq_nil_of_length_eq_zero
abbrev j9:=@List.getElem?_append_right
abbrev zt:=@PyProof.Rows.callWith_type
abbrev zu:=@List.getD_eq_getElem?_getD
abbrev zv:=@PySem.F.excBase_Exception
abbrev bM:=@List.getElem?_eq_some_iff
abbrev iE:=@List.getElem?_append_left
abbrev zw:=@List.getElem?_eq_none_iff
abbrev zx:=@List.mem_of_find?_eq_some
abbrev iG:=@List.getElem?_eq_getElem
abbrev nR:=@Nat.exists_eq_add_of_le'
abbrev r6:=@Nat.add_sub_cancel_left
abbrev kG:=@PySem.Heap.get?_push_of_some
abbrev tZ:=@List.getElem?_set_self
abbrev wx:=@List.length_eq_one_iff
abbrev wz:=@List.find?_cons_of_neg
abbrev kH:=@List.mem_append_right
abbrev wA:=@List.getElem?_toArray
abbrev wB:=@List.length_filter_le
abbrev gQ:=@List.length_singleton
abbrev jF:=@List.mem_append_left
abbrev jb:=@List.getElem?_of_mem
abbrev fN:=@List.mem_of_getElem?
abbrev eA:=@List.getElem?_set_ne
abbrev fO:=@Bool.and_eq_true_iff
abbrev t7:=@Nat.add_le_add_right
abbrev cB:=@List.mem_map_of_mem
abbrev t8:=@List.map_congr_left
abbrev qo:=@Array.length_toList
abbrev t9:=@List.getElem?_range
abbrev r7:=@PySem.BindsTo.of_defaults
abbrev cK:=@List.mem_singleton
abbrev b0:=@List.length_append
abbrev kI:=@Nat.lt_of_le_of_lt
abbrev ua:=@List.pairwise_cons
abbrev eB:=@Nat.lt_of_lt_of_le
abbrev lD:=@PySem.wpAny_loadPart_at
abbrev lE:=@of_decide_eq_true
abbrev fP:=@List.getElem?_map
abbrev ub:=@List.getElem?_inj
abbrev r9:=@List.nodup_append
abbrev nS:=@Bool.not_eq_true'
abbrev bQ:=@List.append_assoc
abbrev mn:=@decide_eq_true_eq
abbrev dE:=@List.length_cons
abbrev kJ:=@Bool.and_eq_true
abbrev dj:=@List.not_mem_nil
abbrev dX:=@Nat.le_add_right
abbrev kL:=@List.lookup_cons
abbrev kM:=@beq_self_eq_true
abbrev gn:=@List.all_eq_true
abbrev sd:=@List.cons_append
abbrev gY:=@List.nodup_cons
abbrev fb:=@List.mem_append
abbrev qp:=@List.length_set
abbrev aT:=@Option.some.inj
abbrev gp:=@List.append_nil
abbrev eN:=@decide_eq_false
abbrev jc:=@List.map_append
abbrev cu:=@List.length_map
abbrev sf:=@List.nil_append
abbrev dP:=@decide_eq_true
abbrev jG:=@List.nodup_nil
abbrev dF:=@PySem.wpAny_holding
abbrev aX:=@List.mem_cons
abbrev sh:=@Nat.lt_irrefl
abbrev d8:=@List.map_cons
abbrev sj:=@List.any_cons
abbrev f8:=@PySem.wpAny_standAt
abbrev ka:=@Nat.ne_of_lt
abbrev gq:=@PySem.Heap.lt_size
abbrev d9:=@Nat.le_trans
abbrev nT:=@Nat.ne_of_gt
abbrev qq:=@Nat.le_of_eq
abbrev bT:=@List.mem_map
abbrev nU:=@Nat.sub_self
abbrev jH:=@Nat.succ.inj
abbrev kN:=@Nat.le_succ
abbrev a9:=@Nat.le_refl
abbrev pC:=@Nat.zero_le
abbrev av:=@PySem.wpAny_bind
abbrev aW:=@PySem.wpAny_pure
abbrev cC:=@PySem.wpAny_mono
abbrev bH:=@congrArg
abbrev gb:=@Ne.symm
abbrev aY:=@Or.elim
theorem ST {P:dD->Prop}(h:∃a,P a)(f:∀a,P a->G):G:=h.elim f
theorem LL {P:dD->eH->Prop}(h:∃a b,P a b)(f:∀a b,P a b->G):G:=h.elim λa h=>ST h<|f a
theorem Pu {P:dD->eH->gF->Prop}(h:∃a b c,P a b c)(f:∀a b c,P a b c->G):G:=h.elim λa h=>LL h<|f a
theorem SU {P:dD->eH->gF->lz->Prop}(h:∃a b c d,P a b c d)(f:∀a b c d,P a b c d->G):G:=h.elim λa h=>Pu h<|f a
theorem LM {P:dD->eH->gF->lz->nQ->Prop}(h:∃a b c d e,P a b c d e)(f:∀a b c d e,P a b c d e->G):G:=h.elim λa h=>SU h<|f a
theorem G0 {P:dD->eH->gF->lz->nQ->ql->Prop}(h:∃a b c d e i,P a b c d e i)(f:∀a b c d e i,P a b c d e i->G):G:=h.elim λa h=>LM h<|f a
theorem LN {P:dD->eH->gF->lz->nQ->ql->zm->Prop}(h:∃a b c d e i j,P a b c d e i j)(f:∀a b c d e i j,P a b c d e i j->G):G:=h.elim λa h=>G0 h<|f a
theorem SV {P:dD->eH->gF->lz->nQ->ql->zm->BV->Prop}(h:∃a b c d e i j k,P a b c d e i j k)(f:∀a b c d e i j k,P a b c d e i j k->G):G:=h.elim λa h=>LN h<|f a
theorem xe9 {P:dD->eH->gF->lz->nQ->ql->zm->BV->GZ->Prop}(h:∃a b c d e i j k l,P a b c d e i j k l)(f:∀a b c d e i j k l,P a b c d e i j k l->G):G:=h.elim λa h=>SV h<|f a
theorem Xe {P:dD->eH->gF->lz->nQ->ql->zm->BV->GZ->xM->Prop}(h:∃a b c d e i j k l m,P a b c d e i j k l m)(f:∀a b c d e i j k l m,P a b c d e i j k l m->G):G:=h.elim λa h=>xe9 h<|f a
theorem Xf {P:dD->eH->gF->lz->nQ->ql->zm->BV->GZ->xM->E5->Prop}(h:∃a b c d e i j k l m n,P a b c d e i j k l m n)(f:∀a b c d e i j k l m n,P a b c d e i j k l m n->G):G:=h.elim λa h=>Xe h<|f a
theorem SW {P:dD->eH->gF->lz->nQ->ql->zm->BV->GZ->xM->E5->Pr->Prop}(h:∃a b c d e i j k l m n o,P a b c d e i j k l m n o)(f:∀a b c d e i j k l m n o,P a b c d e i j k l m n o->G):G:=h.elim λa h=>Xf h<|f a
theorem Pv {A B:Prop}(h:A/\B)(f:A->B->G):G:=f h.1 h.2
theorem He {A B C:Prop}(h:A/\B/\C)(f:A->B->C->G):G:=Pv h.2<|f h.1
theorem Lx {A B C D:Prop}(h:A/\B/\C/\D)(f:A->B->C->D->G):G:=He h.2<|f h.1
theorem Pw {A B C D E:Prop}(h:A/\B/\C/\D/\E)(f:A->B->C->D->E->G):G:=Lx h.2<|f h.1
theorem DS {A B C D E F:Prop}(h:A/\B/\C/\D/\E/\F)(f:A->B->C->D->E->F->G):G:=Pw h.2<|f h.1
theorem Xg {A B C D E F H:Prop}(h:A/\B/\C/\D/\E/\F/\H)(f:A->B->C->D->E->F->H->G):G:=DS h.2<|f h.1
theorem Px {A B C D E F H aay:Prop}(h:A/\B/\C/\D/\E/\F/\H/\aay)(f:A->B->C->D->E->F->H->aay->G):G:=Xg h.2<|f h.1
theorem xa9 {A B C D E F H aay J:Prop}(h:A/\B/\C/\D/\E/\F/\H/\aay/\J)(f:A->B->C->D->E->F->H->aay->J->G):G:=Px h.2<|f h.1
theorem Xh {A B C D E F H aay J K:Prop}(h:A/\B/\C/\D/\E/\F/\H/\aay/\J/\K)(f:A->B->C->D->E->F->H->aay->J->K->G):G:=xa9 h.2<|f h.1
theorem SX {A B C D E F H aay J K L:Prop}(h:A/\B/\C/\D/\E/\F/\H/\aay/\J/\K/\L)(f:A->B->C->D->E->F->H->aay->J->K->L->G):G:=Xh h.2<|f h.1
theorem cN {A B:Prop}(h:A/\B)(f:A->B->G):G:=Pv h f
theorem qr {A B C:Prop}(h:A/\B/\C)(f:A->B->C->G):G:=He h f
theorem xN {A B C D:Prop}(h:A/\B/\C/\D)(f:A->B->C->D->G):G:=Lx h f
theorem Xi {A B C D E:Prop}(h:A/\B/\C/\D/\E)(f:A->B->C->D->E->G):G:=Pw h f
theorem aM {A:dD->Prop}(h:∃a,A a)(f:∀a,A a->G):G:=ST h f
theorem aI {A B:dD->Prop}(h:∃a,A a/\B a)(f:∀a,A a->B a->G):G:=ST h λa h=>Pv h<|f a
theorem jI {A B C:dD->Prop}(h:∃a,A a/\B a/\C a)(f:∀a,A a->B a->C a->G):G:=ST h λa h=>He h<|f a
theorem uc {A B C D:dD->Prop}(h:∃a,A a/\B a/\C a/\D a)(f:∀a,A a->B a->C a->D a->G):G:=ST h λa h=>Lx h<|f a
theorem kf {A:dD->eH->Prop}(h:∃a b,A a b)(f:∀a b,A a b->G):G:=LL h f
theorem gm {A B:dD->eH->Prop}(h:∃a b,A a b/\B a b)(f:∀a b,A a b->B a b->G):G:=LL h λa b h=>Pv h<|f a b
theorem cZ {A B C:dD->eH->Prop}(h:∃a b,A a b/\B a b/\C a b)(f:∀a b,A a b->B a b->C a b->G):G:=LL h λa b h=>He h<|f a b
theorem sU {A B C D:dD->eH->Prop}(h:∃a b,A a b/\B a b/\C a b/\D a b)(f:∀a b,A a b->B a b->C a b->D a b->G):G:=LL h λa b h=>Lx h<|f a b
theorem LO {A B C D E:dD->eH->Prop}(h:∃a b,A a b/\B a b/\C a b/\D a b/\E a b)(f:∀a b,A a b->B a b->C a b->D a b->E a b->G):G:=LL h λa b h=>Pw h<|f a b
theorem Hf {A:dD->eH->gF->Prop}(h:∃a b c,A a b c)(f:∀a b c,A a b c->G):G:=Pu h f
theorem rm {A B:dD->eH->gF->Prop}(h:∃a b c,A a b c/\B a b c)(f:∀a b c,A a b c->B a b c->G):G:=Pu h λa b c h=>Pv h<|f a b c
theorem kg {A B C:dD->eH->gF->Prop}(h:∃a b c,A a b c/\B a b c/\C a b c)(f:∀a b c,A a b c->B a b c->C a b c->G):G:=Pu h λa b c h=>He h<|f a b c
theorem ud {A B C D:dD->eH->gF->Prop}(h:∃a b c,A a b c/\B a b c/\C a b c/\D a b c)(f:∀a b c,A a b c->B a b c->C a b c->D a b c->G):G:=Pu h λa b c h=>Lx h<|f a b c
theorem LP {A B C D E:dD->eH->gF->Prop}(h:∃a b c,A a b c/\B a b c/\C a b c/\D a b c/\E a b c)(f:∀a b c,A a b c->B a b c->C a b c->D a b c->E a b c->G):G:=Pu h λa b c h=>Pw h<|f a b c
theorem Xj {A:dD->eH->gF->lz->Prop}(h:∃a b c d,A a b c d)(f:∀a b c d,A a b c d->G):G:=SU h f
theorem mN {A B:dD->eH->gF->lz->Prop}(h:∃a b c d,A a b c d/\B a b c d)(f:∀a b c d,A a b c d->B a b c d->G):G:=SU h λa b c d h=>Pv h<|f a b c d
theorem Py {A B C:dD->eH->gF->lz->Prop}(h:∃a b c d,A a b c d/\B a b c d/\C a b c d)(f:∀a b c d,A a b c d->B a b c d->C a b c d->G):G:=SU h λa b c d h=>He h<|f a b c d
theorem ue {A:dD->eH->gF->lz->nQ->Prop}(h:∃a b c d e,A a b c d e)(f:∀a b c d e,A a b c d e->G):G:=LM h f
theorem E6 {A B C:dD->eH->gF->lz->nQ->ql->Prop}(h:∃a b c d e i,A a b c d e i/\B a b c d e i/\C a b c d e i)(f:∀a b c d e i,A a b c d e i->B a b c d e i->C a b c d e i->G):G:=G0 h λa b c d e i h=>He h<|f a b c d e i
theorem Wz {P:dD->Prop}(a:dD)(h:P a):∃a,P a:=⟨a,h⟩
theorem Sv {P:dD->eH->Prop}(a:dD)(b:eH)(h:P a b):∃a b,P a b:=⟨a,Wz (P:=P a) b h⟩
theorem LQ {P:dD->eH->gF->Prop}(a:dD)(b:eH)(c:gF)(h:P a b c):∃a b c,P a b c:=⟨a,Sv (P:=P a) b c h⟩
theorem Sw {P:dD->eH->gF->lz->Prop}(a:dD)(b:eH)(c:gF)(d:lz)(h:P a b c d):∃a b c d,P a b c d:=⟨a,LQ (P:=P a) b c d h⟩
theorem LR {P:dD->eH->gF->lz->nQ->Prop}(a:dD)(b:eH)(c:gF)(d:lz)(e:nQ)(h:P a b c d e):∃a b c d e,P a b c d e:=⟨a,Sw (P:=P a) b c d e h⟩
theorem SY {P:dD->eH->gF->lz->nQ->ql->Prop}(a:dD)(b:eH)(c:gF)(d:lz)(e:nQ)(i:ql)(h:P a b c d e i):∃a b c d e i,P a b c d e i:=⟨a,LR (P:=P a) b c d e i h⟩
theorem Ly {P:dD->eH->gF->lz->nQ->ql->zm->Prop}(a:dD)(b:eH)(c:gF)(d:lz)(e:nQ)(i:ql)(j:zm)(h:P a b c d e i j):∃a b c d e i j,P a b c d e i j:=⟨a,SY (P:=P a) b c d e i j h⟩
theorem WA {P:dD->eH->gF->lz->nQ->ql->zm->BV->Prop}(a:dD)(b:eH)(c:gF)(d:lz)(e:nQ)(i:ql)(j:zm)(k:BV)(h:P a b c d e i j k):∃a b c d e i j k,P a b c d e i j k:=⟨a,Ly (P:=P a) b c d e i j k h⟩
theorem ye9 {P:dD->eH->gF->lz->nQ->ql->zm->BV->GZ->Prop}(a:dD)(b:eH)(c:gF)(d:lz)(e:nQ)(i:ql)(j:zm)(k:BV)(l:GZ)(h:P a b c d e i j k l):∃a b c d e i j k l,P a b c d e i j k l:=⟨a,WA (P:=P a) b c d e i j k l h⟩
theorem Xk {P:dD->eH->gF->lz->nQ->ql->zm->BV->GZ->xM->Prop}(a:dD)(b:eH)(c:gF)(d:lz)(e:nQ)(i:ql)(j:zm)(k:BV)(l:GZ)(m:xM)(h:P a b c d e i j k l m):∃a b c d e i j k l m,P a b c d e i j k l m:=⟨a,ye9 (P:=P a) b c d e i j k l m h⟩
theorem Xl {P:dD->eH->gF->lz->nQ->ql->zm->BV->GZ->xM->E5->Prop}(a:dD)(b:eH)(c:gF)(d:lz)(e:nQ)(i:ql)(j:zm)(k:BV)(l:GZ)(m:xM)(n:E5)(h:P a b c d e i j k l m n):∃a b c d e i j k l m n,P a b c d e i j k l m n:=⟨a,Xk (P:=P a) b c d e i j k l m n h⟩
theorem Xm {P:dD->eH->gF->lz->nQ->ql->zm->BV->GZ->xM->E5->Pr->Prop}(a:dD)(b:eH)(c:gF)(d:lz)(e:nQ)(i:ql)(j:zm)(k:BV)(l:GZ)(m:xM)(n:E5)(o:Pr)(h:P a b c d e i j k l m n o):∃a b c d e i j k l m n o,P a b c d e i j k l m n o:=⟨a,Xl (P:=P a) b c d e i j k l m n o h⟩
theorem Sx {A B:Prop}(h1:A)(h2:B):A/\B:=⟨h1,h2⟩
theorem LS {A B C:Prop}(h1:A)(h2:B)(h3:C):A/\B/\C:=⟨h1,Sx h2 h3⟩
theorem LU {A B C D:Prop}(h1:A)(h2:B)(h3:C)(h4:D):A/\B/\C/\D:=⟨h1,LS h2 h3 h4⟩
theorem Ou {A B C D E:Prop}(h1:A)(h2:B)(h3:C)(h4:D)(h5:E):A/\B/\C/\D/\E:=⟨h1,LU h2 h3 h4 h5⟩
theorem SZ {A B C D E F:Prop}(h1:A)(h2:B)(h3:C)(h4:D)(h5:E)(h6:F):A/\B/\C/\D/\E/\F:=⟨h1,Ou h2 h3 h4 h5 h6⟩
theorem ya7 {A B C D E F H:Prop}(h1:A)(h2:B)(h3:C)(h4:D)(h5:E)(h6:F)(h7:H):A/\B/\C/\D/\E/\F/\H:=⟨h1,SZ h2 h3 h4 h5 h6 h7⟩
theorem Sy {A B C D E F H aay:Prop}(h1:A)(h2:B)(h3:C)(h4:D)(h5:E)(h6:F)(h7:H)(h8:aay):A/\B/\C/\D/\E/\F/\H/\aay:=⟨h1,ya7 h2 h3 h4 h5 h6 h7 h8⟩
theorem WB {A B C D E F H aay J:Prop}(h1:A)(h2:B)(h3:C)(h4:D)(h5:E)(h6:F)(h7:H)(h8:aay)(h9:J):A/\B/\C/\D/\E/\F/\H/\aay/\J:=⟨h1,Sy h2 h3 h4 h5 h6 h7 h8 h9⟩
theorem Xn {A B C D E F H aay J K:Prop}(h1:A)(h2:B)(h3:C)(h4:D)(h5:E)(h6:F)(h7:H)(h8:aay)(h9:J)(Zy:K):A/\B/\C/\D/\E/\F/\H/\aay/\J/\K:=⟨h1,WB h2 h3 h4 h5 h6 h7 h8 h9 Zy⟩
theorem Xo {A B C D E F H aay J K L:Prop}(h1:A)(h2:B)(h3:C)(h4:D)(h5:E)(h6:F)(h7:H)(h8:aay)(h9:J)(Zy:K)(RW:L):A/\B/\C/\D/\E/\F/\H/\aay/\J/\K/\L:=⟨h1,Xn h2 h3 h4 h5 h6 h7 h8 h9 Zy RW⟩
theorem bD {A B:dD->Prop}(a:dD)(h1:A a)(h2:B a):∃a,A a/\B a:=Wz (P:=λa=>A a/\B a) a<|Sx h1 h2
theorem lA {A B C:dD->Prop}(a:dD)(h1:A a)(h2:B a)(h3:C a):∃a,A a/\B a/\C a:=Wz (P:=λa=>A a/\B a/\C a) a<|LS h1 h2 h3
theorem nV {A B C D:dD->Prop}(a:dD)(h1:A a)(h2:B a)(h3:C a)(h4:D a):∃a,A a/\B a/\C a/\D a:=Wz (P:=λa=>A a/\B a/\C a/\D a) a<|LU h1 h2 h3 h4
theorem E7 {A:dD->eH->Prop}(a:dD)(b:eH)(h1:A a b):∃a b,A a b:=Sv (P:=λa b=>A a b) a b h1
theorem jX {A B:dD->eH->Prop}(a:dD)(b:eH)(h1:A a b)(h2:B a b):∃a b,A a b/\B a b:=Sv (P:=λa b=>A a b/\B a b) a b<|Sx h1 h2
theorem eT {A B C:dD->eH->Prop}(a:dD)(b:eH)(h1:A a b)(h2:B a b)(h3:C a b):∃a b,A a b/\B a b/\C a b:=Sv (P:=λa b=>A a b/\B a b/\C a b) a b<|LS h1 h2 h3
theorem BW {A B C D:dD->eH->Prop}(a:dD)(b:eH)(h1:A a b)(h2:B a b)(h3:C a b)(h4:D a b):∃a b,A a b/\B a b/\C a b/\D a b:=Sv (P:=λa b=>A a b/\B a b/\C a b/\D a b) a b<|LU h1 h2 h3 h4
theorem zy {A:dD->eH->gF->Prop}(a:dD)(b:eH)(c:gF)(h1:A a b c):∃a b c,A a b c:=LQ (P:=λa b c=>A a b c) a b c h1
theorem BX {A B:dD->eH->gF->Prop}(a:dD)(b:eH)(c:gF)(h1:A a b c)(h2:B a b c):∃a b c,A a b c/\B a b c:=LQ (P:=λa b c=>A a b c/\B a b c) a b c<|Sx h1 h2
theorem zz {A B C:dD->eH->gF->Prop}(a:dD)(b:eH)(c:gF)(h1:A a b c)(h2:B a b c)(h3:C a b c):∃a b c,A a b c/\B a b c/\C a b c:=LQ (P:=λa b c=>A a b c/\B a b c/\C a b c) a b c<|LS h1 h2 h3
theorem sV {A B C D:dD->eH->gF->Prop}(a:dD)(b:eH)(c:gF)(h1:A a b c)(h2:B a b c)(h3:C a b c)(h4:D a b c):∃a b c,A a b c/\B a b c/\C a b c/\D a b c:=LQ (P:=λa b c=>A a b c/\B a b c/\C a b c/\D a b c) a b c<|LU h1 h2 h3 h4
theorem Xp {A B C D E:dD->eH->gF->Prop}(a:dD)(b:eH)(c:gF)(h1:A a b c)(h2:B a b c)(h3:C a b c)(h4:D a b c)(h5:E a b c):∃a b c,A a b c/\B a b c/\C a b c/\D a b c/\E a b c:=LQ (P:=λa b c=>A a b c/\B a b c/\C a b c/\D a b c/\E a b c) a b c<|Ou h1 h2 h3 h4 h5
theorem Xq {A:dD->eH->gF->lz->Prop}(a:dD)(b:eH)(c:gF)(d:lz)(h1:A a b c d):∃a b c d,A a b c d:=Sw (P:=λa b c d=>A a b c d) a b c d h1
theorem S0 {A B:dD->eH->gF->lz->Prop}(a:dD)(b:eH)(c:gF)(d:lz)(h1:A a b c d)(h2:B a b c d):∃a b c d,A a b c d/\B a b c d:=Sw (P:=λa b c d=>A a b c d/\B a b c d) a b c d<|Sx h1 h2
theorem Xr {A:dD->eH->gF->lz->nQ->Prop}(a:dD)(b:eH)(c:gF)(d:lz)(e:nQ)(h1:A a b c d e):∃a b c d e,A a b c d e:=LR (P:=λa b c d e=>A a b c d e) a b c d e h1
theorem E8 {A B C:dD->eH->gF->lz->nQ->ql->Prop}(a:dD)(b:eH)(c:gF)(d:lz)(e:nQ)(i:ql)(h1:A a b c d e i)(h2:B a b c d e i)(h3:C a b c d e i):∃a b c d e i,A a b c d e i/\B a b c d e i/\C a b c d e i:=SY (P:=λa b c d e i=>A a b c d e i/\B a b c d e i/\C a b c d e i) a b c d e i<|LS h1 h2 h3
theorem rn {A B C D E F:dD->eH->gF->lz->nQ->ql->Prop}(a:dD)(b:eH)(c:gF)(d:lz)(e:nQ)(i:ql)(h1:A a b c d e i)(h2:B a b c d e i)(h3:C a b c d e i)(h4:D a b c d e i)(h5:E a b c d e i)(h6:F a b c d e i):∃a b c d e i,A a b c d e i/\B a b c d e i/\C a b c d e i/\D a b c d e i/\E a b c d e i/\F a b c d e i:=SY (P:=λa b c d e i=>A a b c d e i/\B a b c d e i/\C a b c d e i/\D a b c d e i/\E a b c d e i/\F a b c d e i) a b c d e i<|SZ h1 h2 h3 h4 h5 h6
theorem BY {A:dD->Prop}(h:Q/\∃a,A a)(f:Q->∀a,A a->G):G:=aM h.2<|f h.1
theorem S1 {A B:dD->Prop}(h:Q/\∃a,A a/\B a)(f:Q->∀a,A a->B a->G):G:=aI h.2<|f h.1
theorem LV {A:dD->eH->Prop}(h:Q/\∃a b,A a b)(f:Q->∀a b,A a b->G):G:=kf h.2<|f h.1
theorem Xs {A B C:dD->eH->Prop}(h:Q/\∃a b,A a b/\B a b/\C a b)(f:Q->∀a b,A a b->B a b->C a b->G):G:=cZ h.2<|f h.1
theorem Pz {A B C D:dD->eH->gF->Prop}(h:Q/\∃a b c,A a b c/\B a b c/\C a b c/\D a b c)(f:Q->∀a b c,A a b c->B a b c->C a b c->D a b c->G):G:=ud h.2<|f h.1
theorem S2 {A B C D E:dD->eH->gF->Prop}(h:Q/\∃a b c,A a b c/\B a b c/\C a b c/\D a b c/\E a b c)(f:Q->∀a b c,A a b c->B a b c->C a b c->D a b c->E a b c->G):G:=LP h.2<|f h.1
theorem S4 {A B C:dD->eH->gF->lz->nQ->ql->Prop}(h:Q/\∃a b c d e i,A a b c d e i/\B a b c d e i/\C a b c d e i)(f:Q->∀a b c d e i,A a b c d e i->B a b c d e i->C a b c d e i->G):G:=E6 h.2<|f h.1
theorem S5 {A:dD->Prop}(q:Q)(a:dD)(h1:A a):Q/\∃a,A a:=⟨q,a,h1⟩
theorem Xt {A B:dD->Prop}(q:Q)(a:dD)(h1:A a)(h2:B a):Q/\∃a,A a/\B a:=⟨q,bD a h1 h2⟩
theorem Xu {A:dD->eH->Prop}(q:Q)(a:dD)(b:eH)(h1:A a b):Q/\∃a b,A a b:=⟨q,E7 a b h1⟩
theorem Xv {A B C D:dD->eH->Prop}(q:Q)(a:dD)(b:eH)(h1:A a b)(h2:B a b)(h3:C a b)(h4:D a b):Q/\∃a b,A a b/\B a b/\C a b/\D a b:=⟨q,BW a b h1 h2 h3 h4⟩
theorem S6 {A B C D:dD->eH->gF->Prop}(q:Q)(a:dD)(b:eH)(c:gF)(h1:A a b c)(h2:B a b c)(h3:C a b c)(h4:D a b c):Q/\∃a b c,A a b c/\B a b c/\C a b c/\D a b c:=⟨q,sV a b c h1 h2 h3 h4⟩
theorem S7 {A B C D E:dD->eH->gF->Prop}(q:Q)(a:dD)(b:eH)(c:gF)(h1:A a b c)(h2:B a b c)(h3:C a b c)(h4:D a b c)(h5:E a b c):Q/\∃a b c,A a b c/\B a b c/\C a b c/\D a b c/\E a b c:=⟨q,Xp a b c h1 h2 h3 h4 h5⟩
theorem S8 {A B C:dD->eH->gF->lz->nQ->ql->Prop}(q:Q)(a:dD)(b:eH)(c:gF)(d:lz)(e:nQ)(i:ql)(h1:A a b c d e i)(h2:B a b c d e i)(h3:C a b c d e i):Q/\∃a b c d e i,A a b c d e i/\B a b c d e i/\C a b c d e i:=⟨q,E8 a b c d e i h1 h2 h3⟩
theorem o3 {A B C:Prop}(h:A∨B∨C)(f1:A->G)(f2:B->G)(f3:C->G):G:=h.elim f1 <| λh=>h.elim f2 f3
theorem o4 {A B C D:Prop}(h:A∨B∨C∨D)(f1:A->G)(f2:B->G)(f3:C->G)(f4:D->G):G:=h.elim f1 <| λh=>h.elim f2 <| λh=>h.elim f3 f4
theorem o5 {A B C D E:Prop}(h:A∨B∨C∨D∨E)(f1:A->G)(f2:B->G)(f3:C->G)(f4:D->G)(f5:E->G):G:=h.elim f1 <| λh=>h.elim f2 <| λh=>h.elim f3 <| λh=>h.elim f4 f5
theorem aN {n m:Nat}(h:n.ble m=true):n<=m:=Nat.le_of_ble_eq_true h
theorem iQ {α:Type u}{β:Type v}{a:List α}{x:α}{l:List β}{n:Nat}(h:a.length+(l.length+1)<n):(a++[x]).length+l.length<n:=by
 rw[b0,gQ,Nat.add_assoc,Nat.add_comm 1];exact h
theorem tC {α:Type u}{β:Type v}{a:List α}{x:α}{l:List β}{n:Nat}(h:a.length+(l.length+1)<=n):(a++[x]).length+l.length<=n:=by
 rw[b0,gQ,Nat.add_assoc,Nat.add_comm 1];exact h
theorem iR {a b n m:Nat}(h:a+b<n)(k:n.ble m=true):a<m:=eB (kI (dX _ _) h)<|aN k
theorem PA {a b n m:Nat}(h:a+b<=n)(k:(n+1).ble m=true):a<m:=kI (d9 (dX _ _) h)<|aN k
theorem BZ {a b n:Nat}(h:a+(b+1)<n):a+b<n:=Nat.lt_of_succ_lt h
theorem lt_num {a n m:Nat}(h:a<n)(k:n.ble m=true):a<m:=eB h<|aN k
theorem fA {a n m:Nat}(h:a<=n)(k:(n+1).ble m=true):a<m:=kI h<|aN k
theorem Xw {a n m:Nat}(h:a<=n)(k:n.ble m=true):a<=m:=d9 h<|aN k
theorem uf {a n m:Nat}(h:n<=a)(k:m.ble n=true):m<=a:=d9 (aN k) h
theorem oQ {n k:Nat}(h:k+1<=n):∃m,n=m+1/\k<=m:=⟨n - 1,by omega,by omega⟩
end
abbrev LW:OpenLaw:=PySem.Challenge.rw_sa0448_01
abbrev pw:Program:=LW.prog
def S9 (j:Nat)(s:Stmt):Stmt:=match s with
 | .ClassDef _ _ _ b _ _ _ _ _ _ _=>(b[j]?).getD<|.Pass default
 |_=>.Pass default
def Xx (i j:Nat):Stmt:=match j with
 | 0=>(pw.main.body[i]?).getD<|.Pass default
 |j+1=>S9 j<|(pw.main.body[i]?).getD<|.Pass default
structure Fd where
 name:Str:=default
 params:Arguments:=⟨[],[],none,[],[],none,[]⟩
 body:List Stmt:=[]
 scope:Scope:=default
def fdOf (s:Stmt):Fd:=match s with
 | .FunctionDef name params body _ _ _ scope _ _ _=>{name,params,body,scope}
 |_=>{}
abbrev vs (s:String)(t:Nat):Value:=.str (Str.ofString s) t
structure FR where
 (a i j:Nat) (q:String) (m d t l k r8 r11 r13 r14 r15 u:Nat)
def DT (n:Nat):Value:=if n==0 then .none else .ref n
def Ta (n:Nat):Value:=match n with
 | 0=>vs "lendcore.errors" 194
 | 1=>vs "lendcore.names" 276
 | 2=>vs "lendcore.modules" 406
 |_=>vs "law_sa0448_01" 757
def FR.s (r:FR):Fd:=fdOf<|Xx r.i r.j
def FR.qual (r:FR):Str:=Str.ofString r.q
def FR.fd (r:FR):FuncData:=fnX r.s.name r.qual r.s.params r.s.body r.s.scope [] (DT r.d) .none .none (Ta r.m) none (.ref<|r.a - 1) .none
def FR.cs (r:FR):Array Value:=#[.str r.s.name r.t,.str r.qual (r.t+1),vs "/claim/cut.py" (r.t+2),.int r.l 0,.int r.k 0,.int 0 0,.int 0 0,.int 3 0,.ref r.r8,.bool true,.int 181 0,.ref r.r11,.none,DT r.r13,DT r.r14,.ref r.r15,.int r.u 0,.int r.l 0,vs "/claim/cut.py" (r.u+1)]
def FR.code (r:FR):Obj:={cls:=.type "code",data:=.fields r.cs}
def FR.fn (r:FR):Obj:=⟨.type "function",none,.func r.fd,#[]⟩
def kv (P:Params)(s:String)(t:Nat)(v:Value):DictEntry:={hash:=PyData.keyHash P<|Str.ofString s,key:=.str (Str.ofString s) t,val:=v}
def cO (n:String)(bases mro:List Value)(ns:Nat)(sub:List Value)(sl:Array (Option Value)):Obj:={cls:=.type "type",data:=.cls {name:=Str.ofString n,bases,mro,ns,qualname:=Str.ofString n,subclasses:=sub},slots:=sl}
def sO (c:String)(l:Array Value)(n:Nat):Obj:={cls:=.type c,data:=.seq l n}
noncomputable def jz:List FR:=[⟨36,2,1,"LendError.__init__",0,29,209,7,3,30,31,32,33,34,215⟩,
 ⟨86,9,0,"region_told",1,0,290,20,2,80,81,82,83,84,295⟩,
 ⟨100,10,1,"Reader.__init__",1,0,310,28,6,94,95,96,97,98,319⟩,
 ⟨105,10,2,"Reader.read",1,0,322,35,2,101,102,0,0,103,325⟩,
 ⟨112,10,3,"Reader.unknown",1,0,328,51,1,106,107,108,109,110,332⟩,
 ⟨117,10,4,"Reader.path",1,0,335,54,3,113,114,0,0,115,338⟩,
 ⟨124,10,5,"Reader.single",1,0,341,65,3,118,119,120,121,122,350⟩,
 ⟨131,10,6,"Reader.bare",1,0,353,81,4,125,126,127,128,129,360⟩,
 ⟨136,10,7,"Reader.named",1,0,363,86,4,132,133,0,0,134,366⟩,
 ⟨151,11,0,"type_of",1,144,382,97,6,145,146,147,148,149,391⟩,
 ⟨156,12,0,"trait_of",1,0,394,99,4,152,153,0,0,154,397⟩,
 ⟨161,13,0,"bounds_of",1,0,400,108,4,157,158,0,0,159,403⟩,
 ⟨172,19,0,"joined",2,0,431,131,2,166,167,168,169,170,436⟩,
 ⟨179,20,0,"parent_of",2,0,439,133,1,173,174,175,176,177,444⟩,
 ⟨186,21,0,"is_within",2,0,447,136,2,180,181,182,183,184,452⟩,
 ⟨200,22,1,"Use.__init__",2,0,467,140,4,194,195,196,197,198,474⟩,
 ⟨221,23,1,"Table.__init__",2,0,500,146,1,215,216,217,218,219,504⟩,
 ⟨228,23,2,"Table.space",2,0,507,151,2,222,223,224,225,226,512⟩,
 ⟨233,23,3,"Table.is_taken",2,0,515,154,3,229,230,0,0,231,518⟩,
 ⟨254,24,1,"Modules.__init__",2,0,544,158,2,248,249,250,251,252,553⟩,
 ⟨261,24,2,"Modules.enter",2,0,556,173,3,255,256,257,258,259,565⟩,
 ⟨268,24,3,"Modules.declare",2,0,568,192,7,262,263,264,265,266,581⟩,
 ⟨273,24,4,"Modules.declare_type",2,0,584,203,5,269,270,0,0,271,587⟩,
 ⟨280,24,5,"Modules.enter_variants",2,0,590,210,3,274,275,276,277,278,597⟩,
 ⟨287,24,6,"Modules.enter_use",2,0,600,216,3,281,282,283,284,285,612⟩,
 ⟨294,24,7,"Modules.can_see",2,0,615,226,4,288,289,290,291,292,622⟩,
 ⟨302,24,8,"Modules.find",2,295,626,229,5,296,297,298,299,300,634⟩,
 ⟨309,24,9,"Modules.walk",2,0,637,233,6,303,304,305,306,307,650⟩,
 ⟨316,24,10,"Modules.begin",2,0,653,245,4,310,311,312,313,314,662⟩,
 ⟨323,24,11,"Modules.step",2,0,665,259,7,317,318,319,320,321,676⟩,
 ⟨330,24,12,"Modules.look",2,0,679,267,7,324,325,326,327,328,692⟩,
 ⟨337,24,13,"Modules.follow",2,0,695,286,6,331,332,333,334,335,705⟩,
 ⟨345,24,14,"Modules.find_prefix",2,338,709,295,4,339,340,341,342,343,716⟩,
 ⟨352,24,15,"Modules.checked_uses",2,0,719,298,1,346,347,348,349,350,723⟩,
 ⟨359,24,16,"Modules.checked_publics",2,0,726,301,1,353,354,355,356,357,734⟩,
 ⟨364,24,17,"Modules.may_tell_on",2,0,737,309,3,360,361,0,0,362,740⟩,
 ⟨378,26,0,"_law_pool",3,0,759,322,2,372,373,374,375,376,767⟩,
 ⟨385,27,0,"_law_take",3,0,770,327,2,379,380,381,382,383,776⟩,
 ⟨392,28,0,"_law_one",3,0,779,334,2,386,387,388,389,390,784⟩,
 ⟨404,32,0,"_law_joined",3,0,804,339,2,398,399,400,401,402,809⟩,
 ⟨411,33,0,"_law_parts",3,0,812,341,1,405,406,407,408,409,816⟩,
 ⟨418,34,0,"_law_word",3,0,819,343,1,412,413,414,415,416,823⟩,
 ⟨425,35,0,"_law_fn",3,0,826,352,2,419,420,421,422,423,831⟩,
 ⟨432,36,0,"_law_sees",3,0,834,354,2,426,427,428,429,430,839⟩,
 ⟨439,37,0,"_law_way_seen",3,0,842,356,3,433,434,435,436,437,848⟩,
 ⟨446,38,0,"_law_use",3,0,851,358,3,440,441,442,443,444,865⟩,
 ⟨453,39,0,"_law_items",3,0,868,379,3,447,448,449,450,451,882⟩,
 ⟨458,40,0,"_law_publics_right",3,0,885,391,1,454,455,0,0,456,888⟩,
 ⟨465,41,0,"_law_plain_right",3,0,891,400,1,459,460,461,462,463,900⟩,
 ⟨472,42,0,"_law_chain_right",3,0,903,406,1,466,467,468,469,470,913⟩,
 ⟨479,43,0,"_law_world",3,0,916,414,0,473,474,475,476,477,920⟩,
 ⟨486,44,0,"_law_path",3,0,923,419,3,480,481,482,483,484,929⟩,
 ⟨493,45,0,"_law_region",3,0,932,421,1,487,488,489,490,491,937⟩,
 ⟨498,46,0,"_law_all",3,0,940,424,1,494,495,0,0,496,943⟩,
 ⟨503,47,0,"_law_type",3,0,946,427,2,499,500,0,0,501,949⟩,
 ⟨510,48,0,"_law_bound",3,0,952,461,1,504,505,506,507,508,957⟩,
 ⟨515,49,0,"_law_bounds_right",3,0,960,464,2,511,512,0,0,513,963⟩,
 ⟨522,50,0,"_law_fixed_right",3,0,966,478,1,516,517,518,519,520,972⟩,
 ⟨529,51,0,"law",3,0,975,485,1,523,524,525,526,527,984⟩]
noncomputable def kd3 (P:Params):Obj:={cls:=.type "dict",data:=.dict #[kv P "__name__" 165 (vs "law_sa0448_01" 757),kv P "__doc__" 166 (.none),kv P "__package__" 167 (.none),kv P "__loader__" 168 (.builtin "__main__.__loader__#opaque"),kv P "__spec__" 169 (.none),kv P "__annotations__" 170 (.ref 6),kv P "__builtins__" 171 (.ref 4),kv P "__file__" 173 (vs "/claim/cut.py" 172),kv P "__cached__" 174 (.none),kv P "_wall" 193 (.ref 21),kv P "LendError" 227 (.ref 39),kv P "NameFault" 243 (.ref 52),kv P "VisibilityFault" 259 (.ref 64),kv P "TypeFault" 275 (.ref 76),kv P "INT_KINDS" 287 (.ref 79),kv P "MOST_ELEMENTS" 289 (.int 10000 288),kv P "region_told" 297 (.ref 86),kv P "Reader" 381 (.ref 139),kv P "type_of" 393 (.ref 151),kv P "trait_of" 399 (.ref 156),kv P "bounds_of" 405 (.ref 161),kv P "PRELUDE_NAMES" 421 (.ref 162),kv P "MOST_USES" 423 (.int 30 422),kv P "WAYS" 427 (.ref 163),kv P "PLAIN_NAMES" 430 (.ref 165),kv P "joined" 438 (.ref 172),kv P "parent_of" 446 (.ref 179),kv P "is_within" 454 (.ref 186),kv P "Use" 487 (.ref 203),kv P "Table" 531 (.ref 236),kv P "Modules" 756 (.ref 367),kv P "_law_pool" 769 (.ref 378),kv P "_law_take" 778 (.ref 385),kv P "_law_one" 786 (.ref 392),kv P "_law_none" 787 (.ref 395),kv P "_law_places" 791 (.ref 396),kv P "_law_plain" 803 (.ref 397),kv P "_law_joined" 811 (.ref 404),kv P "_law_parts" 818 (.ref 411),kv P "_law_word" 825 (.ref 418),kv P "_law_fn" 833 (.ref 425),kv P "_law_sees" 841 (.ref 432),kv P "_law_way_seen" 850 (.ref 439),kv P "_law_use" 867 (.ref 446),kv P "_law_items" 884 (.ref 453),kv P "_law_publics_right" 890 (.ref 458),kv P "_law_plain_right" 902 (.ref 465),kv P "_law_chain_right" 915 (.ref 472),kv P "_law_world" 922 (.ref 479),kv P "_law_path" 931 (.ref 486),kv P "_law_region" 939 (.ref 493),kv P "_law_all" 945 (.ref 498),kv P "_law_type" 951 (.ref 503),kv P "_law_bound" 959 (.ref 510),kv P "_law_bounds_right" 965 (.ref 515),kv P "_law_fixed_right" 974 (.ref 522),kv P "law" 986 (.ref 529)] 57}
noncomputable def Tb (P:Params):Obj:={cls:=.type "dict",data:=.dict #[kv P "__module__" 203 (vs "lendcore.errors" 194),kv P "__firstlineno__" 207 (.int 5 206),kv P "__init__" 217 (.ref 36),kv P "__static_attributes__" 220 (.ref 37),kv P "__weakref__" 222 (.ref 40),kv P "__doc__" 223 (.none)] 3}
noncomputable def Tc (P:Params):Obj:={cls:=.type "dict",data:=.dict #[kv P "__module__" 235 (vs "lendcore.errors" 194),kv P "__firstlineno__" 239 (.int 11 238),kv P "__static_attributes__" 240 (.ref 50),kv P "__doc__" 241 (.none)] 2}
noncomputable def Te (P:Params):Obj:={cls:=.type "dict",data:=.dict #[kv P "__module__" 251 (vs "lendcore.errors" 194),kv P "__firstlineno__" 255 (.int 13 254),kv P "__static_attributes__" 256 (.ref 62),kv P "__doc__" 257 (.none)] 2}
noncomputable def Tf (P:Params):Obj:={cls:=.type "dict",data:=.dict #[kv P "__module__" 267 (vs "lendcore.errors" 194),kv P "__firstlineno__" 271 (.int 15 270),kv P "__static_attributes__" 272 (.ref 74),kv P "__doc__" 273 (.none)] 2}
noncomputable def Tg (P:Params):Obj:={cls:=.type "dict",data:=.dict #[kv P "__module__" 305 (vs "lendcore.names" 276),kv P "__firstlineno__" 309 (.int 26 308),kv P "__init__" 321 (.ref 100),kv P "read" 327 (.ref 105),kv P "unknown" 334 (.ref 112),kv P "path" 340 (.ref 117),kv P "single" 352 (.ref 124),kv P "bare" 362 (.ref 131),kv P "named" 368 (.ref 136),kv P "__static_attributes__" 374 (.ref 137),kv P "__dict__" 376 (.ref 140),kv P "__weakref__" 378 (.ref 141),kv P "__doc__" 379 (.none)] 4}
noncomputable def Th (P:Params):Obj:={cls:=.type "dict",data:=.dict #[kv P "__module__" 462 (vs "lendcore.modules" 406),kv P "__firstlineno__" 466 (.int 138 465),kv P "__init__" 476 (.ref 200),kv P "__static_attributes__" 480 (.ref 201),kv P "__dict__" 482 (.ref 204),kv P "__weakref__" 484 (.ref 205),kv P "__doc__" 485 (.none)] 4}
noncomputable def Ti (P:Params):Obj:={cls:=.type "dict",data:=.dict #[kv P "__module__" 495 (vs "lendcore.modules" 406),kv P "__firstlineno__" 499 (.int 144 498),kv P "__init__" 506 (.ref 221),kv P "space" 514 (.ref 228),kv P "is_taken" 520 (.ref 233),kv P "__static_attributes__" 524 (.ref 234),kv P "__dict__" 526 (.ref 237),kv P "__weakref__" 528 (.ref 238),kv P "__doc__" 529 (.none)] 4}
noncomputable def Tj (P:Params):Obj:={cls:=.type "dict",data:=.dict #[kv P "__module__" 539 (vs "lendcore.modules" 406),kv P "__firstlineno__" 543 (.int 156 542),kv P "__init__" 555 (.ref 254),kv P "enter" 567 (.ref 261),kv P "declare" 583 (.ref 268),kv P "declare_type" 589 (.ref 273),kv P "enter_variants" 599 (.ref 280),kv P "enter_use" 614 (.ref 287),kv P "can_see" 624 (.ref 294),kv P "find" 636 (.ref 302),kv P "walk" 652 (.ref 309),kv P "begin" 664 (.ref 316),kv P "step" 678 (.ref 323),kv P "look" 694 (.ref 330),kv P "follow" 707 (.ref 337),kv P "find_prefix" 718 (.ref 345),kv P "checked_uses" 725 (.ref 352),kv P "checked_publics" 736 (.ref 359),kv P "may_tell_on" 742 (.ref 364),kv P "__static_attributes__" 749 (.ref 365),kv P "__dict__" 751 (.ref 368),kv P "__weakref__" 753 (.ref 369),kv P "__doc__" 754 (.none)] 4}
noncomputable def c39:Obj:=cO "LendError" [.type "Exception"] [.ref 39,.type "Exception",.type "BaseException",.type "object"] 38 [.ref 52,.ref 64,.ref 76] #[some (.ref 22),none,some (vs "LendError" 196),some (vs "LendError" 204),some (.builtin "Exception.__new__"),some (.bool true)]
noncomputable def Xy:Obj:=cO "NameFault" [.ref 39] [.ref 52,.ref 39,.type "Exception",.type "BaseException",.type "object"] 51 [] #[some (.ref 43),none,some (vs "NameFault" 228),some (vs "NameFault" 236),some (.builtin "Exception.__new__"),some (.bool true)]
noncomputable def Xz:Obj:=cO "VisibilityFault" [.ref 39] [.ref 64,.ref 39,.type "Exception",.type "BaseException",.type "object"] 63 [] #[some (.ref 55),none,some (vs "VisibilityFault" 244),some (vs "VisibilityFault" 252),some (.builtin "Exception.__new__"),some (.bool true)]
noncomputable def XA:Obj:=cO "TypeFault" [.ref 39] [.ref 76,.ref 39,.type "Exception",.type "BaseException",.type "object"] 75 [] #[some (.ref 67),none,some (vs "TypeFault" 260),some (vs "TypeFault" 268),some (.builtin "Exception.__new__"),some (.bool true)]
noncomputable def XB:Obj:=cO "Reader" [.type "object"] [.ref 139,.type "object"] 138 [] #[none,none,some (vs "Reader" 298),some (vs "Reader" 306),some (.builtin "object.__new__"),some (.bool true)]
noncomputable def XC:Obj:=cO "Use" [.type "object"] [.ref 203,.type "object"] 202 [] #[none,none,some (vs "Use" 455),some (vs "Use" 463),some (.builtin "object.__new__"),some (.bool true)]
noncomputable def XD:Obj:=cO "Table" [.type "object"] [.ref 236,.type "object"] 235 [] #[none,none,some (vs "Table" 488),some (vs "Table" 496),some (.builtin "object.__new__"),some (.bool true)]
noncomputable def XE:Obj:=cO "Modules" [.type "object"] [.ref 367,.type "object"] 366 [] #[none,none,some (vs "Modules" 532),some (vs "Modules" 540),some (.builtin "object.__new__"),some (.bool true)]
def Tk (P:Params):Frag:=[(3,kd3 P),
 (29,sO "tuple" #[.int 0 208] 0),
 (38,Tb P),
 (39,c39),
 (51,Tc P),
 (52,Xy),
 (63,Te P),
 (64,Xz),
 (75,Tf P),
 (76,XA),
 (79,sO "tuple" #[vs "i8" 278,vs "i16" 279,vs "i32" 280,vs "i64" 281,vs "u8" 282,vs "u16" 283,vs "u32" 284,vs "u64" 285,vs "usize" 286] 0),
 (138,Tg P),
 (139,XB),
 (144,sO "tuple" #[.none] 0),
 (162,sO "tuple" #[vs "Clone" 408,vs "Copy" 409,vs "Default" 410,vs "Drop" 411,vs "Err" 412,vs "None" 413,vs "Ok" 414,vs "Option" 415,vs "Range8" 416,vs "Result" 417,vs "Some" 418,vs "Vec8" 419,vs "swapped" 420] 0),
 (163,sO "tuple" #[vs "crate" 424,vs "self" 425,vs "super" 426] 0),
 (165,sO "tuple" #[vs "i8" 278,vs "i16" 279,vs "i32" 280,vs "i64" 281,vs "u8" 282,vs "u16" 283,vs "u32" 284,vs "u64" 285,vs "usize" 286,vs "bool" 428,vs "Box" 429] 0),
 (202,Th P),
 (203,XC),
 (235,Ti P),
 (236,XD),
 (295,sO "tuple" #[.int 0 625] 0),
 (338,sO "tuple" #[.int 0 708] 0),
 (366,Tj P),
 (367,XE),
 (393,sO "tuple" #[] 0),
 (394,sO "tuple" #[] 0),
 (395,sO "tuple" #[.ref 393,.ref 394] 0),
 (396,sO "list" #[vs "" 788,vs "a" 789,vs "a::b" 790] 0),
 (397,sO "list" #[vs "i8" 792,vs "i16" 793,vs "i32" 794,vs "i64" 795,vs "u8" 796,vs "u16" 797,vs "u32" 798,vs "u64" 799,vs "usize" 800,vs "bool" 801,vs "Box" 802] 0)]
noncomputable def E9:List FR->Frag
 | []=>[]
 |r::t=>(r.a,r.fn)::(r.a - 1,r.code)::E9 t
def KF (P:Params):Frag:=E9 jz++Tk P
def Ov:FR:=⟨36,2,1,"LendError.__init__",0,29,209,7,3,30,31,32,33,34,215⟩
def G1 (P:Params):Frag:=[(nat_lit 3,kd3 P),(nat_lit 29,sO "tuple" #[.int 0 208] 0),(nat_lit 35,Ov.code),(nat_lit 36,Ov.fn),(nat_lit 38,Tb P),(nat_lit 39,c39),(nat_lit 51,Tc P),(nat_lit 52,Xy),(nat_lit 63,Te P),(nat_lit 64,Xz),(nat_lit 75,Tf P),(nat_lit 76,XA)]
noncomputable abbrev nw:List (Addr × Addr):=[(457,455),(464,460),(471,467),(514,512),(521,517),(528,524)]
structure Wd where
 w:World
 b:Addr
 o:Obj
def Wd.K (z:Wd):Frag:=KF z.w.params++[(z.b,z.o)]
def Wd.Claim (z:Wd):Prop:=∀(script:List Int) (vs:Array Value) (n:Nat) (base:Heap) (s:Shared) (R:Result->Shared->Prop) (p:Program) (loose:List Str) (j7:ExcName->Option Value) (mg mb:Str->Option Value),
 script.length<1000->z.o.cls=.type "list"->z.o.data=.seq vs n->IntsAre vs.toList script->z.K.lookup z.b=some z.o->z.K.In base->Top p loose j7 mg mb base->(∀b o,base.get? b=some o->s.heap.get? b=some o)->base.objs.size<=s.heap.objs.size->
 (∀p∈tabNews nw,s.heap.get? p.1=some p.2/\base.get? p.1=none)->
 (∀h' eS,(∀b o,base.get? b=some o->h'.get? b=some o)->(∀q∈nw,GrownAt q.2 h')->R (.ok<|.ret<|.bool true) {s with heap:=h',toks:=eS})->
 codeAny (model LW.prog z.w) callerA (.call (.ref 529) ⟨[.ref z.b],[]⟩) R s
theorem PB:Nonempty Wd:=⟨⟨⟨λ_ _=>0,{strHash:=λ_=>0,shareClass:=λ_=>0,mergeTok:=id,idOf:=λ_=>0,idOfShared:=λ_ _=>0,followText:=λ_=>false,idOfImm:=λ_=>0}⟩,0,default⟩⟩
noncomputable def z0:Wd:=@Classical.epsilon Wd PB λz=>¬z.Claim
noncomputable def w:World:=z0.w
noncomputable def prog:Program:=LW.prog
noncomputable def K:Frag:=z0.K
theorem Fa (h:z0.Claim)(z:Wd):z.Claim:=Classical.byContradiction λn=>Classical.epsilon_spec (p:=λz:Wd=>¬z.Claim) ⟨z,n⟩ h
section
set_option tactic.hygienic true
theorem ws:PySem.Challenge.rw_sa0448_01.wellSaid=true:=by
 have h:PySem.W.Fast.tw9446332074065402090 PySem.Challenge.rw_sa0448_01=true:=by kernel_rfl
 have e:=PySem.W.Fast.te9446332074065402090;rw[e];exact h
end
section
set_option tactic.hygienic true
noncomputable def q0:Program:={pw with main:={pw.main with body:=(pw.main.body.drop<|pw.main.body.length - 1)}}
noncomputable def xO:List Str:=pw.boundNames.filter λn=>n != ("law":Str)
def asF:List Addr:=(E9 jz).map (·.1)++[3,29,38,39,51,52,63,64,75,76,79,138,139,144,162,163,165,202,203,235,236,295,338,366,367,393,394,395,396,397]
def hook:Hook:=kmHook KF asF (λP=>by kernel_rfl)<|nw.map (·.2)
theorem LX {w:World}{h:Heap}(aav:hook.says w h):TabsAt nw h:=by
 have X:(KF w.params).In h:=km_in_of aav;have t:=km_tabs_of aav;have c:∀q∈nw,CodeHd h q.1 q.2:=by
  intro q hq;have:(nw.all λq=>codeHdIn (KF w.params) q.1 q.2)=true:=by kernel_rfl
  exact codeHd_of_K X<|gn.mp this q hq
 exact λq hq=>⟨c q hq,t q.2<|cB hq⟩
end
section
set_option tactic.hygienic true
theorem Tl:LeftO LW.row.toRowW.prog q0 xO (λ_=>true) hook.obs hook.val 8000:=by
 intro w;unfold openEnds topFrom;rw[PySem.W.Fast.te14364793385576792824,PySem.W.Fast.te14082659384304107361,PySem.W.Fast.te4187177175401517315];kernel_rfl
end
theorem aab {d:DefRec}{kwd:List (Str × Expr)}(hd:(d,kwd)=(defOf q0 LW.row.name).get (by rfl))(walk:WalkO q0 xO (λM M=>True) hook.says LW.row.toRowW d kwd λf vs=>PySem.call f vs):LW.Holds:=by
 refine holds_law ws λZz=>?_;refine holds_open (r:=LW.row) (q:=q0) (loose:=xO) (XP:=λM M=>True) (YP:=hook.says) (d:=d) (kwd:=kwd) Tl hook.of hook.keeps (λM M=>trivial) (λM M M M M=>trivial) ?c1 ?c2 ?c3 (λs M=>recFacts_nil rfl) ?c4 Zz ?c5 ⟨rfl,rfl,rfl,rfl,rfl,by decide+kernel⟩ ?c6 walk
 case c1=>cases hd;rfl
 case c2=>cases hd;rfl
 case c3=>cases hd;rfl
 case c4=>rfl
 case c5=>decide+kernel
 case c6=>exact⟨[.list []],by decide+kernel,by decide+kernel⟩
abbrev du:=Value->Shared->Prop
abbrev xP:=Flow->Shared->Prop
abbrev zA:=Unit->Shared->Prop
abbrev ly:=Str->Option Value
abbrev vQ:=List<|Str × Addr
abbrev cY:=List Str
noncomputable abbrev wC:List PySem.Value:=[PySem.Value.type "Exception",PySem.Value.type "BaseException",PySem.Value.type "object"]
section
variable {prog:Program} {w:World} {A:Around} {aaw:Model} {E:du} {h:Heap} {g:Array GenState} {d:Drawn} {t:Nat} {os:OsState} {K:Frag}
variable {nm q:Str} {C D aax:Addr} {bs:List Value} {DK:Bool} {sn:cY} {sub:List Value} {ab:Bool} {col:Option Bool} {dd:Option Addr} {k0 k1 k2 k3 k5:Option Value}
variable {rest:List Value}
theorem vV {Q:zA}(hC:h.get? C=some (excClassObj nm q C aax bs (.ref D::wC) DK sn sub ab col dd k0 k1 k2 k3 k5 "Exception.__new__"))
  (hq:Q () ⟨h,g,d,t,os⟩):wpAny aaw A (checkBuiltinCall "Exception.__new__" ⟨.ref C::rest,[]⟩) Q E ⟨h,g,d,t,os⟩:=by
 have F:=zv;have aaj:=F.noStar;simp only[checkBuiltinCall,F.newKind,F.newSplit,F.newRow]
 repeat (first | refine lD hC ?_ | (refine wpAny_isSubtype_exc hC ?_;rw[(by simp:(Value.ref C::.ref D::wC).contains (.type "Exception")=true)]) | refine wpAny_staticBase_exc hC ?_ | refine wpAny_madeBy_exc hC ?_ | simp only[bne_self_eq_false,Bool.false_eq_true,if_false] | wp_step)
 exact hq
theorem LY {R:Result->Shared->Prop}(hC:h.get? C=some (excClassObj nm q C aax bs (.ref D::wC) DK sn sub ab col dd k0 k1 k2 k3 k5 "Exception.__new__"))
  (hq:R (.ok (.ret (.ref (h.objs.size+1)))) ⟨(h.push {cls:=.type "tuple",data:=.seq rest.toArray}).push
   {cls:=.ref C,data:=.fields #[.ref h.objs.size,.none,.none,.none,.bool false,.none]},g,d,t,os⟩) (E2:rest.length<=sizeLine):
  codeAny (model prog w) A (.builtin "Exception.__new__" ⟨.ref C::rest,[]⟩) R ⟨h,g,d,t,os⟩:=by
 have F:=zv;have aak:=F.ends;have hcA:(Value.ref C::.ref D::wC).contains (.type "AttributeError")=false:=by simp
 have hcN:(Value.ref C::.ref D::wC).contains (.type "NameError")=false:=by simp
 refine codeAny_builtinAt F.entry ?_;unfold Builtin.«BaseException.__new__»;refine PySem.wpAt_bind ?_;show PySem.wpAt _ _ _ (stack >>= _) _ _ _;refine PySem.wpAt_bind<|PySem.wpAt_stack λp below=>PySem.wpAt_of_wpAny ?_
 wp_walk
 refine PySem.wpAt_of_wpAny ?_;rw[F.owner]
 repeat (first | with_reducible refine wpAny_madeHere_exc F.canon hC ?_ | with_reducible refine lD hC ?_ | (with_reducible refine wpAny_isSubtype_exc hC ?_;first | rw[(by simp:(Value.ref C::.ref D::wC).contains (.type "Exception")=true)] | rw[hcA] | rw[hcN]) | wp_step)
 show R _ _;rw[Heap.size_push];exact hq
theorem vW {fI:Addr}{oI:Obj}{Q:Fin->Shared->Prop}(X:K.In h)
  (hC:h.get? C=some (excClassObj nm q C aax bs (.ref D::wC) DK sn sub ab col dd k0 k1 k2 k3 k5 "Exception.__new__")) (hi:findIn K (.ref C) "__init__"=some (some (.ref fI)))
  (ZA:h.get? fI=some oI) (LF:oI.cls=.type "function")
  (hq:∀h' e,Heap.MadeExcOf h h' e (.ref C) rest->
   wpAny (model prog w) A (call (.ref fI) (.ref e::rest)) (λr s'=>r=.none/\Q (.done<|.ret<|.ref e) s') E ⟨h',g,d,t,os⟩) (E2:rest.length<=sizeLine):
  wpAny (model prog w) A (Builtin.«type.__call__» ⟨.ref C::rest,[]⟩) Q E ⟨h,g,d,t,os⟩:=by
 repeat (first | with_reducible refine lD hC ?_ | with_reducible refine wpAny_madeBy_exc hC ?_ | wp_step)
 refine codeAny_call_builtin_code (Code.quiet_builtin _ zv.quiet)<|vV hC ?_
 refine LY hC ?_ E2;show wpAny _ _ _ _ _ _;have kp:∀b o,h.get? b=some o->((h.push {cls:=.type "tuple",data:=.seq rest.toArray}).push {cls:=.ref C,data:=.fields #[.ref h.objs.size,.none,.none,.none,.bool false,.none]}).get? b=some o:=λb o e=>kG _ (kG _ e);have V2:((h.push {cls:=.type "tuple",data:=.seq rest.toArray}).push
   {cls:=.ref C,data:=.fields #[.ref h.objs.size,.none,.none,.none,.bool false,.none]}).get? (h.objs.size+1)=some
   {cls:=.ref C,data:=.fields #[.ref h.objs.size,.none,.none,.none,.bool false,.none]}:=by heap_get
 have hcC:(Value.ref C::.ref D::wC).contains (.ref C)=true:=by simp
 unfold isInstance
 repeat (first | with_reducible refine lD V2 ?_ | (with_reducible refine wpAny_isSubtype_exc (kp _ _ hC) ?_;rw[hcC]) | wp_step)
 show wpAny _ _ (typeLookup (.ref C) _) _ _ _;refine looks_findIn (X.keeps kp:K.In _) hi _ _ _ _ (λM M e=>e)<|dF<|av ?_
 unfold bindSpecial;refine av<|wpAny_typeOf ⟨_,kp _ _ ZA,LF⟩ ?_
 rw[if_pos<|by decide];refine aW<|av<|cC (hq _ (h.objs.size+1) ⟨kp,Heap.get?_none_of_le<|kN _,h.objs.size,V2,Heap.get?_none_of_le<|a9 _,?_⟩) (λr s' hr=>?_) λM M x=>x
 ·exact kG _<|Heap.get?_push_at rfl rfl
 ·obtain⟨rfl,hQ⟩:=hr
  wp_walk
  exact hQ
theorem Hg {fI:Addr}{oI:Obj}{Q:du}(X:K.In h)
  (hC:h.get? C=some (excClassObj nm q C aax bs (.ref D::wC) DK sn sub ab col dd k0 k1 k2 k3 k5 "Exception.__new__")) (hi:findIn K (.ref C) "__init__"=some (some (.ref fI)))
  (ZA:h.get? fI=some oI) (LF:oI.cls=.type "function")
  (hq:∀h' e,Heap.MadeExcOf h h' e (.ref C) rest->
   wpAny (model prog w) (A.under (.builtin "type.__call__" ⟨.ref C::rest,[]⟩)) (call (.ref fI) (.ref e::rest)) (λr s'=>r=.none/\Q (.ref e) s') E ⟨h',g,d,t,os⟩) (E2:rest.length<=sizeLine):
  wpAny (model prog w) A (call (.ref C) rest) Q E ⟨h,g,d,t,os⟩:=by
 have f1:=tc_lookup;have f2:=tc_bind<|.ref C
 have hT:(⟨h,g,d,t,os⟩:Shared).TypeIs (.ref C) "type":=⟨_,hC,rfl⟩;refine wpAny_call<|codeAny_of_tree ?_
 show wpAny _ _ (callAny (.ref C) _) _ _ _
 repeat (any_goals (first | assumption | with_reducible refine lD hC ?_ | wp_step))
 refine⟨rfl,?_⟩;refine codeAny_call_builtin_at (Code.quiet_builtin _<|by kernel_rfl) entry_typeCall<|wpAny_check_type_call_sub hC<|vW X hC hi ZA LF (λh' e hm=>?_) E2
 exact hq h' e hm
end
section
open PySem.Builtin PySem.Builtin.ObjectAttr
section
variable {prog:Program} {w:World} {A:Around} {aaw:Model} {E:du} {h:Heap} {g:Array GenState} {d:Drawn} {t:Nat} {os:OsState} {K:Frag}
variable {nm q:Str} {C D aax:Addr} {bs:List Value} {DK:Bool} {sn:cY} {sub:List Value} {ab:Bool} {col:Option Bool} {dd:Option Addr} {k0 k1 k2 k3 k5:Option Value}
theorem B3 {s:Shared}{h₀:Heap}{L:Addr}{m:ly}{pl:Sem Bool}{Q:Value × List Value->Shared->Prop}(F:Fr h₀ L s.heap m)(xQ:K.In h₀)(hq:Q (.builtin "Exception.__init__",[]) {s with toks:=s.toks+1}):wpAny (model prog w) A (getMethod (.type "Exception") "__init__" pl) Q E s:=by
 refine method_type (v:=.builtin "Exception.__init__") (K:=[]) (h₀:=h₀) F (λM M e=>nomatch e) (by kernel_rfl) (by kernel_rfl) (by kernel_rfl) (by kernel_rfl) hq
theorem ug {e:Addr}{oe:Obj}{rest:List Value}{Q:zA}
  (hC:h.get? C=some (excClassObj nm q C aax bs (.ref D::wC) DK sn sub ab col dd k0 k1 k2 k3 k5 "Exception.__new__")) (he:h.get? e=some oe) (wt:oe.cls=.ref C) (hq:Q () ⟨h,g,d,t,os⟩):
  wpAny aaw A (checkBuiltinCall "Exception.__init__" ⟨.ref e::rest,[]⟩) Q E ⟨h,g,d,t,os⟩:=by
 have F:=zv;have ZB:=F.noStar;simp only[checkBuiltinCall,F.initKind,F.initSplit,F.initRow]
 repeat (first | (with_reducible refine lD he ?_;rw[wt]) | with_reducible refine lD hC ?_ | (with_reducible refine wpAny_isSubtype_exc hC ?_;rw[(by simp:(Value.ref C::.ref D::wC).contains (.type "Exception")=true)]) | wp_step)
 refine wpAny_onRaise ?_;rw[show∀(a b:String) (n:Nat),Bind.check ⟨.positional,"*","Exception",.self,[⟨"args",.varPos,false⟩]⟩ a b n (List.map (λx=>x.fst) ({pos:=Value.ref e::rest}:Args).kw)=pure () from
  λa b n=>check_star_args _ _ _ _ _ _]
 exact aW hq
theorem Hh {e t0:Addr}{m:Value}{Q:du}
  (hC:h.get? C=some (excClassObj nm q C aax bs (.ref D::wC) DK sn sub ab col dd k0 k1 k2 k3 k5 "Exception.__new__")) (he:h.get? e=some {cls:=.ref C,data:=.fields #[.ref t0,.none,.none,.none,.bool false,.none]})
  (hq:∀h' t',(∀b o,b≠e->h.get? b=some o->h'.get? b=some o)->h'.get? e=some {cls:=.ref C,data:=.fields #[.ref t',.none,.none,.none,.bool false,.none]}->Q .none ⟨h',g,d,t,os⟩):
  wpAny (model prog w) A (call (.builtin "Exception.__init__") [.ref e,m]) Q E ⟨h,g,d,t,os⟩:=by
 have F:=zv;refine wpAny_call<|codeAny_call_builtin F.init.plain F.initEntry<|ug hC he rfl ?_
 wp_walk
 show Q _ _;refine hq _ h.objs.size (λb o hb e'=>?_) ?_
 ·rw[Heap.get?_update_other _ _ λz=>hb z.symm];exact kG _ e'
 ·rw[Heap.get?_update_self _ (kG _ he) rfl];rfl
variable {x:Addr} {v:Value}
theorem xR {V3:Value}{o:Obj}{Q:zA}
  (hC:h.get? C=some (excClassObj nm q C aax bs (.ref D::wC) true sn sub ab col dd k0 k1 k2 k3 k5 "Exception.__new__")) (hx:h.get? x=some o) (hc:o.cls=.ref C) (hq:Q () ⟨h,g,d,t,os⟩):
  wpAny aaw A (checkBuiltinCall "object.__setattr__" ⟨[.ref x,V3,v],[]⟩) Q E ⟨h,g,d,t,os⟩:=by
 have SF:=PySem.F.store_Exception;simp only[checkBuiltinCall,SF.kind,SF.split];refine av ?_;unfold isInstance
 repeat (first | (with_reducible refine lD hx ?_;rw[hc]) | (with_reducible refine wpAny_isSubtype_exc hC ?_;rw[(by simp:(Value.ref C::.ref D::wC).contains (.type "object")=true)]) | wp_step)
 all_goals exact hq
noncomputable abbrev pM (C:Addr)(t:Value)(d:Option Addr):Obj:={cls:=.ref C,dict:=d,data:=.fields #[t,.none,.none,.none,.bool false,.none]}
variable {name:Str}
theorem B4 {a0:Value}{tk:Tok}{Q:Fin->Shared->Prop}(X:K.In h)
  (hC:h.get? C=some (excClassObj nm q C aax bs (.ref D::wC) true sn sub ab col dd k0 k1 k2 k3 k5 "Exception.__new__")) (RX:findIn K (.ref C) name=some none)
  (hx:h.get? x=some (pM C a0 none))
  (hq:∀h' eS,h'.get? x=some (pM C a0<|some h.objs.size)->h'.Ns1 h.objs.size (λy=>if y=name then some v else none)->
   (∀b o,b≠x->h.get? b=some o->h'.get? b=some o)->Q (.done<|.ret .none) ⟨h',g,d,eS,os⟩):
  wpAny (model prog w) A (Builtin.«object.__setattr__» ⟨[.ref x,.str name tk,v],[]⟩) Q E ⟨h,g,d,t,os⟩:=by
 have La:=PySem.F.store_Exception.passes<|.ref x
 obtain⟨o,ho⟩:∃o,o=pM C a0 none:=⟨_,rfl⟩;rw[<-ho] at hx;have hnc:∀c,o.data≠.cls c:=λc e=>by rw[ho] at e;cases e
 unfold Builtin.«object.__setattr__»
 repeat (first | rw[refuse_eq] | (rw[refuseLoop_ref,refuseLoop_ref,La]) | (with_reducible refine lD hx ?_;rw[(by rw[ho]:o.cls=.ref C)]) | with_reducible refine wpAny_mroOf_exc hC ?_ | ((with_reducible show wpAny _ _ (typeLookup _ _) _ _ _);refine looks_findIn X RX _ _ _ _ (λM M e=>e) ?_) | wp_step)
 rw[(by rw[ho]:o.dict=none),if_neg<|by simp[typeHasDict]];split
 ·rename_i Lb
  cases Lb
 split
 ·rename_i c Lb
  exact absurd Lb<|hnc c
 subst ho;have Ow:(h.push {cls:=.type "dict",data:=.dict #[]}).get? x=some (pM C a0 none):=kG _ hx;have hxs:x≠h.objs.size:=ka<|gq hx
 refine av<|wpAny_alloc' ?_
 refine av<|wpAny_update' Ow ?_
 refine aW ?_;have ZC:((h.push {cls:=.type "dict",data:=.dict #[]}).update x λo=>{cls:=o.cls,dict:=some h.objs.size,data:=o.data,slots:=o.slots}).get? h.objs.size
   =some {cls:=.type "dict",data:=.dict #[]}:=
  (Heap.get?_update_ne _ _ _ _ hxs.symm).trans (Heap.get?_push_at rfl rfl)
 have tr:((h.push {cls:=.type "dict",data:=.dict #[]}).update x λo=>{cls:=o.cls,dict:=some h.objs.size,data:=o.data,slots:=o.slots}).Ns h.objs.size (λM=>none):=
  ⟨_,#[],_,ZC,rfl,λe he=>absurd he (by simp),λM=>rfl⟩
 show wpAny _ _ (storeInDict h.objs.size (.str name tk) name v) _ _ _;unfold storeInDict newKeyGuard;refine av<|aW<|av<|wpAny_nsSet1 (Heap.Ns1.of_empty tr) λh' lR hs=>?_
 refine kg (lR.count<|Within.cons name v Within.nil) λoD esD epD RY ZD ZE=>?_;refine av<|wpAny_lookBehind RY (by rw[ZD];exact pastItsLine_dict<|d9 ZE (by rw[dE,List.length_nil,sizeLine_eq];omega)) ?_
 wp_walk
 refine hq h' _ ((hs.2 x hxs).trans<|Heap.get?_update_self _ Ow rfl) lR λb ob hbx hb=>?_;exact(hs.2 b<|ka<|gq hb).trans ((Heap.get?_update_ne _ _ _ _ hbx).trans<|kG _ hb)
theorem B5 {dx:Addr}{a0:Value}{mA:ly}{tk:Tok}{Q:Fin->Shared->Prop}{ns:cY}(X:K.In h)
  (hC:h.get? C=some (excClassObj nm q C aax bs (.ref D::wC) true sn sub ab col dd k0 k1 k2 k3 k5 "Exception.__new__")) (RX:findIn K (.ref C) name=some none)
  (hx:h.get? x=some (pM C a0<|some dx)) (dS:dx≠x) (BJ:h.Ns1 dx mA)
  (hq:∀h' eS,h'.Ns1 dx (λy=>if y=name then some v else mA y)->(∀b o,b≠dx->h.get? b=some o->h'.get? b=some o)->Q (.done<|.ret .none) ⟨h',g,d,eS,os⟩) (hw:Within mA ns) (hsz:ns.length<=100):
  wpAny (model prog w) A (Builtin.«object.__setattr__» ⟨[.ref x,.str name tk,v],[]⟩) Q E ⟨h,g,d,t,os⟩:=by
 have La:=PySem.F.store_Exception.passes<|.ref x
 obtain⟨o,ho⟩:∃o,o=pM C a0 (some dx):=⟨_,rfl⟩;rw[<-ho] at hx;unfold Builtin.«object.__setattr__»
 repeat (first | rw[refuse_eq] | (rw[refuseLoop_ref,refuseLoop_ref,La]) | (with_reducible refine lD hx ?_;rw[(by rw[ho]:o.cls=.ref C)]) | with_reducible refine wpAny_mroOf_exc hC ?_ | ((with_reducible show wpAny _ _ (typeLookup _ _) _ _ _);refine looks_findIn X RX _ _ _ _ (λM M e=>e) ?_) | wp_step)
 rw[(by rw[ho]:o.dict=some dx)];refine aW ?_;show wpAny _ _ (storeInDict dx (.str name tk) name v) _ _ _;unfold storeInDict newKeyGuard;refine av<|aW<|av<|wpAny_nsSet1 BJ λh' lR hs=>?_
 refine kg (lR.count<|Within.cons name v hw) λoD esD epD RY ZD ZE=>?_;refine av<|wpAny_lookBehind RY (by rw[ZD];exact pastItsLine_dict<|d9 ZE (by rw[dE,sizeLine_eq];omega)) ?_
 wp_walk
 exact hq h' _ lR λb ob hb e=>(hs.2 b hb).trans e
theorem sk {o:Obj}{Q:zA}(X:K.In h)
  (hC:h.get? C=some (excClassObj nm q C aax bs (.ref D::wC) true sn sub ab col dd k0 k1 k2 k3 k5 "Exception.__new__")) (hsa:findIn K (.ref C) "__setattr__"=some (some (.builtin "object.__setattr__")))
  (hx:h.get? x=some o) (hc:o.cls=.ref C)
  (hq:∀A tk eS,wpAny (model prog w) A (Builtin.«object.__setattr__» ⟨[.ref x,.str name tk,v],[]⟩) (λr s'=>r=.done (.ret .none)/\Q () s') E ⟨h,g,d,eS,os⟩):
  wpAny (model prog w) A (setAttr (.ref x) name v) Q E ⟨h,g,d,t,os⟩:=by
 have SF:=PySem.F.store_Exception;have f3:=SF.slot.bind<|.ref x
 unfold setAttr callSpecial? specialOf
 repeat (any_goals (first | assumption | (with_reducible refine lD hx ?_;rw[hc]) | ((with_reducible show wpAny _ _ (typeLookup _ _) _ _ _);refine looks_findIn X hsa _ _ _ _ (λM M e=>e) ?_) | wp_step))
 refine codeAny_call_builtin SF.slot.plain SF.entry<|xR hC hx hc ?_
 refine cC (hq _ _ _) (λr s' h1=>?_) λM M x=>x;refine cN h1 λdZ h2=>?_;subst dZ
 repeat (any_goals (first | assumption | wp_step))
end
end
structure nW (K:Frag)(C:Addr):Prop where
 cls:∃nm q aax bs D sn sub ab col dd k0 k1 k2 k3 k5,K.lookup C=some (excClassObj nm q C aax bs (.ref D::wC) true sn sub ab col dd k0 k1 k2 k3 k5 "Exception.__new__")
 init:findIn K (.ref C) "__init__"=some (some (.ref 36))
 sa:findIn K (.ref C) "__setattr__"=some (some (.builtin "object.__setattr__"))
 m1:findIn K (.ref C) "message"=some none
 m2:findIn K (.ref C) "spot"=some none
section
variable {h₀ h h':Heap} {L e:Addr} {m:ly} {rest:List (Addr × Obj)}
theorem fr_but (F:Fr h₀ L h m)(k:∀b o,b≠e->h.get? b=some o->h'.get? b=some o)(hL:e≠L)(h0:h₀.get? e=none):Fr h₀ L h' m:=by
 refine rm F.ns λoL es ep e1 r=>⟨⟨oL,es,ep,k _ _ (gb hL) e1,r⟩,λb o q=>k b o (λz=>?_)<|F.keep b o q,F.above⟩;rw[z,h0] at q;cases q
theorem news_but (aax:News h₀ L h rest)(hr:∀p∈rest,p.1≠e)(k:∀b o,b≠e->h.get? b=some o->h'.get? b=some o):News h₀ L h' rest:=
 λp hp=>⟨k _ _ (hr p hp) (aax p hp).1,(aax p hp).2⟩
end
section
variable {prog:Program} {w:World} {A:Around} {E:du} {K:Frag} {s:Shared} {h₀:Heap} {L e C:Addr} {m:ly} {rest:List (Addr × Obj)} {t0:Addr} {v:Value}
theorem B6 {Q:du}(F:Fr h₀ L s.heap m)(X:K.In h₀)(aax:News h₀ L s.heap ((e,pM C (.ref t0) none)::rest))(O:nW K C)(hr:∀p∈rest,p.1≠e)
  (hq:∀h' t',Fr h₀ L h' m->News h₀ L h' ((e,pM C (.ref t') none)::rest)->Q .none {s with heap:=h'}):
  wpAny (model prog w) A (call (.builtin "Exception.__init__") [.ref e,v]) Q E s:=by
 obtain⟨hp,g,d,tk,os⟩:=s;obtain⟨nm,q,NN,bs,D,sn,sub,ab,col,dd,k0,k1,k2,k3,k5,hC⟩:=O.cls;refine qr (aax _<|.head _) λn1 n2 n3=>Hh (X.keeps F.keep _ _ hC) n1 λh' t' k1 k2=>hq h' t' (fr_but F k1 n2 n3) λp hp=>?_;rcases aX.mp hp with rfl | hp
 ·exact⟨k2,n2,n3⟩
 ·exact news_but (λp hp=>aax p<|.tail _ hp) hr k1 p hp
theorem B7 {name:Str}{Q:zA}(F:Fr h₀ L s.heap m)(X:K.In h₀)(aax:News h₀ L s.heap ((e,pM C (.ref t0) none)::rest))(O:nW K C)(RX:findIn K (.ref C) name=some none)(hr:∀p∈rest,p.1≠e)
  (hq:∀h' eS dx od,Fr h₀ L h' m->News h₀ L h' ((e,pM C (.ref t0)<|some dx)::(dx,od)::rest)->dx≠e->(∀p∈rest,p.1≠dx)->(∀h2:Heap,h2.get? dx=some od->h2.Ns1 dx (λy=>if y=name then some v else none))->Q () {s with heap:=h',toks:=eS}):
  wpAny (model prog w) A (setAttr (.ref e) name v) Q E s:=by
 obtain⟨hp,g,d,tk,os⟩:=s;obtain⟨nm,q,NN,bs,D,sn,sub,ab,col,dd,k0,k1,k2,k3,k5,hC⟩:=O.cls;refine qr (aax _<|.head _) λn1 n2 n3=>?_;have X':=X.keeps F.keep;refine sk X' (X' _ _ hC) O.sa n1 rfl λA tk eS=>B4 X' (X' _ _ hC) RX n1 λh' zj k1 k2 k3=>⟨rfl,?_⟩;refine LP k2 λod es ep o1 o2 o3 o4 o5=>?_;have hLs:L<hp.objs.size:=by obtain⟨oL,_,_,e1,_⟩:=F.ns;exact gq e1
 have h0n:h₀.get? hp.objs.size=none:=by
  cases z:h₀.get? hp.objs.size with
  |none=>rfl
  |some o=>exact absurd (gq<|F.keep _ _ z)<|sh _
 have hdr:∀p∈rest,p.1≠hp.objs.size:=λp vT=>ka<|gq (aax p<|.tail _ vT).1
 refine hq h' _ _ od (fr_but F k3 n2 n3) (λp vT=>?_) (gb<|ka<|gq n1) hdr λh2 e2=>⟨od,es,ep,e2,o2,o3,o4,o5⟩;rcases aX.mp vT with rfl | vT
 ·exact⟨k1,n2,n3⟩
 ·rcases aX.mp vT with rfl | vT
  ·exact⟨o1,nT hLs,h0n⟩
  ·exact news_but (λp hp=>aax p<|.tail _ hp) hr k3 p vT
theorem B8 {name:Str}{dx:Addr}{od:Obj}{mA:ly}{ns:cY}{Q:zA}(F:Fr h₀ L s.heap m)(X:K.In h₀)(aax:News h₀ L s.heap ((e,pM C (.ref t0)<|some dx)::(dx,od)::rest))(O:nW K C)(RX:findIn K (.ref C) name=some none)
  (dS:dx≠e) (hr:∀p∈rest,p.1≠dx) (BJ:∀h2:Heap,h2.get? dx=some od->h2.Ns1 dx mA) (hw:Within mA ns) (hsz:ns.length<=100)
  (hq:∀h' eS WM,Fr h₀ L h' m->News h₀ L h' ((e,pM C (.ref t0)<|some dx)::(dx,WM)::rest)->Q () {s with heap:=h',toks:=eS}):
  wpAny (model prog w) A (setAttr (.ref e) name v) Q E s:=by
 obtain⟨hp,g,d,tk,os⟩:=s;obtain⟨nm,q,NN,bs,D,sn,sub,ab,col,dd,k0,k1,k2,k3,k5,hC⟩:=O.cls;refine qr (aax _<|.head _) λn1 n2 n3=>qr (aax _<|.tail _<|.head _) λd1 d2 d3=>?_;have X':=X.keeps F.keep;refine sk X' (X' _ _ hC) O.sa n1 rfl λA tk eS=>B5 X' (X' _ _ hC) RX n1 dS (BJ _ d1) (λh' zj k2 k3=>⟨rfl,?_⟩) hw hsz;refine rm k2 λWM es ep o1 M=>hq h' _ WM (fr_but F k3 d2 d3) λp vT=>?_;rcases aX.mp vT with rfl | vT
 ·exact⟨k3 _ _ (gb dS) n1,n2,n3⟩
 ·rcases aX.mp vT with rfl | vT
  ·exact⟨o1,d2,d3⟩
  ·exact news_but (λp hp=>aax p<|.tail _<|.tail _ hp) hr k3 p vT
end
section
variable {prog:Program} {w:World} {A₀ A:Around} {s:Shared} {base h₀:Heap} {outer:List Env} {L a:Addr} {m:ly} {news:List (Addr × Obj)} {K:Frag} {p:Program} {loose:cY} {j7:ExcName->Option Value} {mg mb:ly}
  {R:Result->Shared->Prop} {name qual:Str} {params:Arguments} {body:List Stmt} {scope:Scope} {dV kV doc pm cdv ct oc:Value} {an od:Option Addr} {osl:Array (Option Value)} {f:Addr} {args:Args} {binds:List (Str × Value)} {cn:Str} {cs:Scope} {ccd:Value}
theorem code_defG {env:Env}(B:Below A₀ base outer h₀)(F:Fr h₀ L s.heap m)(xQ:K.In h₀)(aax:News h₀ L s.heap news)(T:Top p loose j7 mg mb h₀)(hA:A.frames=some (env::outer))(hf:env.frame=some L)(SH:env.scope.kind=.function)
  (ho:K.lookup f=some ⟨oc,od,.func<|fnOf name qual params body scope dV kV doc pm an cdv ct,osl⟩) (Lb:codeIn K cdv qual=true) (Lc:A.depth<recursionLimit)
  (pL:BindsTo s (fnOf name qual params body scope dV kV doc pm an cdv ct) args binds) (ZF:∀y∈binds,scope.names.lookup y.1=some .local)
  (h:∀g L' bx,(∀b o,s.heap.get? b=some o->b∉news.map (·.1)->g.get? b=some o)->Fr h₀ L g m->Fr g L' bx (λy=>binds.reverse.lookup y)->News g L' bx news->Below A base (env::outer) g->K.In g->Top p loose j7 mg mb g->(∀p∈news,p.1<L')->
   wpAny (model prog w) (A.deeper<|envOf qual scope L' f cdv) (execs body<|envOf qual scope L' f cdv)
    (λfl s'=>LeaveK h₀ L m g R (match fl with | .ret v=>v | _=>.none) s')
    (λe s'=>wpAny (model prog w) (A.deeper<|envOf qual scope L' f cdv) (leaving (envOf qual scope L' f cdv) e) (λM ri=>R (.error e) ri) (λe' ri=>R (.error e') ri) s')
    {s with heap:=bx,toks:=s.toks+binds.length})
  (LG:scope.isCoroutine=false) (DL:scope.isGenerator=false) (hk:scope.kind=.function)
  (V4:∀x∈scope.names,x.2≠.cell):codeAny (model prog w) A (.call (.ref f) args) R s:=by
 have X:=xQ.keeps F.keep;refine xN (groundX (R:=R) B F aax hA hf SH) λFG BG st lv=>codeAny_call_def (fd:=fnOf name qual params body scope dV kV doc pm an cdv ct) (body:=body) (binds:=binds) Lc (X _ _ ho) rfl (T.nolimit.keeps F.keep) (codeRec_of X Lb) rfl pL V4 ZF (λbx BJ iS=>?_) LG DL hk;exact cC (h _ s.heap.objs.size bx (λb o e nb=>hideAll_get _ e nb) FG ⟨BJ,λb o e=>iS b o<|of_hideAll _ e,qq<|hideAll_size _ _⟩
  (λp hp=>⟨iS _ _ (aax p hp).1,ka<|gq (aax p hp).1,hideAll_none _<|cB hp⟩) BG (xQ.keeps st) (T.keeps st) (λp hp=>gq (aax p hp).1)) (λfl s' hl=>lv _ _ hl) λM M y=>y
end
structure xS (h h':Heap)(e:Addr)(cls:Value):Prop where
 keeps:∀b o,h.get? b=some o->h'.get? b=some o
 new:h.get? e=none
 there:∃ob t,h'.get? e=some ob/\ob.cls=cls/\ob.data=.fields #[t,.none,.none,.none,.bool false,.none]
section
variable {aaw:Model} {A:Around} {E:du} {h:Heap} {L a e:Addr} {m:ly} {Q:zA}
end
section
local macro_rules | `(tactic| k_all) => `(tactic| assumption)
theorem Fb (w:World){p:Program}{loose:cY}{j7:ExcName->Option Value}{mg mb:ly}{A:Around}{env:Env}{outer:List Env}{A₀:Around}{base h₀:Heap}{L:Addr}{m:ly}{s:Shared}{e t C:Addr}{x:Str}{t1 t2:Tok}{k:Int}{rest:List (Addr × Obj)}
  {R:Result->Shared->Prop} (B:Below A₀ base outer h₀) (F:Fr h₀ L s.heap m) (X:(G1 w.params).In h₀) (aax:News h₀ L s.heap ((e,pM C (.ref t) none)::rest)) (T:Top p loose j7 mg mb h₀) (hr:∀p∈rest,p.1≠e)
  (hA:A.frames=some (env::outer)) (hf:env.frame=some L) (SH:env.scope.kind=.function) (WN:A.depth<recursionLimit) (O:nW (G1 w.params) C)
  (h:∀h' eS t' dx od,(∀b o,s.heap.get? b=some o->b≠e->(∀p∈rest,b≠p.1)->h'.get? b=some o)->Fr h₀ L h' m->News h₀ L h' ((e,pM C (.ref t')<|some dx)::(dx,od)::rest)->R (.ok<|.ret .none) {s with heap:=h',toks:=eS}):
  codeAny (model PySem.Challenge.rw_sa0448_01.prog w) A (.call (.ref 36) ⟨[.ref e,.str x t1,.int k t2],[]⟩) R s:=by
 revert X O
 k_fill
 intro X O
 k_dflt (refine' code_defG ?k1 ?k2 ?k3 ?k4 ?k5 ?kA ?kF ?kK ?k6 ?k7 ?k8 ?k9 ?kB ?_ ?c2 ?c3 ?c4 ?c5;(case kA=>assumption);(case kF=>assumption);(case kK=>assumption);(case k1=>k_asm);(case k2=>k_asm);(case k3=>k_asm);(case k4=>k_asm);(case k5=>k_asm);(case k6=>k_is);(case k7=>k_is);(case k8=>assumption);(case k9=>first | exact BindsTo.of_eq rfl | exact binds_K (by k_in) rfl (by k_is) rfl rfl rfl);(case c5=>decide);(case kB=>exact locs rfl);(case c2=>exact rfl);(case c3=>exact rfl);(case c4=>exact rfl);k_whole;intro g' L' h' HG FG' F' N' B' X' T' LT;clear LT;(try dsimp only);(try k_fold))
 repeat' (first | (k_unfold;(try dsimp only)) | (k_end;wrow_close) | walk1 | (k_here;k_dflt (refine' B3 (by k_asm) (by k_asm) ?_;k_whole)) | (k_here;k_dflt (refine' B6 (by k_asm) (by k_asm) (by k_asm) ‹_› ‹_› ?_;k_whole);intro h' t' F' N') | (k_here;k_dflt (first | (refine' B7 (by k_asm) (by k_asm) (by k_asm) ‹_› (nW.m1 ‹_›) ‹_› ?_;k_whole;intro h' eS dx od F' N' dS hr2 BJ) | (refine' B8 (by k_asm) (by k_asm) (by k_asm) ‹_› (nW.m2 ‹_›) ‹_› ‹_› ‹_› (by within_ways) (by decide) ?_;k_whole;intro h' eS WM F' N'))) | (dsimp only;walk1) | (leave1;walk_say "STEP leave1";try dsimp only) | fail "no step")
 rename Fr g' _ _ _=>FZ;exact h _ _ _ _ _ (λb o e nb nr=>FZ.keep _ _ (HG _ _ e (by
  intro hm;refine aY (aX.mp hm) (λz=>?_) λz=>?_
  ·exact nb z
  ·refine aI (bT.mp z) λp hp z=>?_;exact nr p hp z.symm))) ‹_› ‹_›
end
section
variable {w:World} {A A₀:Around} {E:du} {s:Shared} {base h₀:Heap} {outer:List Env} {L e C:Addr} {m:ly} {env:Env} {p:Program} {loose:cY} {j7:ExcName->Option Value} {mg mb:ly}
 {x:Str} {t1 t2:Tok} {k:Int}
theorem Hi {Q:du}(B:Below A₀ base outer h₀)(F:Fr h₀ L s.heap m)(X:(G1 w.params).In h₀)(T:Top p loose j7 mg mb h₀)
  (hA:(A.under (.builtin "type.__call__" ⟨.ref C::[.str x t1,.int k t2],[]⟩)).frames=some (env::outer)) (hf:env.frame=some L) (SH:env.scope.kind=.function)
  (WN:(A.under (.builtin "type.__call__" ⟨.ref C::[.str x t1,.int k t2],[]⟩)).depth<recursionLimit) (O:nW (G1 w.params) C)
  (h36:∃o,(G1 w.params).lookup 36=some o/\o.cls=.type "function")
  (h:∀h' eS e,xS s.heap h' e (.ref C)->Q (.ref e) {s with heap:=h',toks:=eS}):
  wpAny (model PySem.Challenge.rw_sa0448_01.prog w) A (call (.ref C) [.str x t1,.int k t2]) Q E s:=by
 obtain⟨hp,g,d,tk,os⟩:=s;obtain⟨nm,q,NN,bs,D,sn,sub,ab,col,dd,k0,k1,k2,k3,k5,hC⟩:=O.cls;obtain⟨o36,ZG,ZH⟩:=h36;have X':=X.keeps F.keep;refine Hg X' (X' _ _ hC) O.init (X' _ _ ZG) ZH (λh' e hm=>?_) (by size_fits);obtain⟨t,he,ht0,ht1⟩:=hm.there;have F1:Fr h₀ L h' m:=by
  obtain⟨oL,es,ep,e1,r⟩:=F.ns;exact⟨⟨oL,es,ep,hm.keeps _ _ e1,r⟩,λb o q=>hm.keeps _ _<|F.keep b o q,F.above⟩
 have hLe:e≠L:=λz=>by
  obtain⟨oL,es,ep,e1,r⟩:=F.ns;have:=hm.new;rw[z,e1] at this;cases this
 have h0e:h₀.get? e=none:=by
  cases z:h₀.get? e with
  |none=>rfl
  |some o=>have:=hm.new;rw[F.keep _ _ z] at this;cases this
 have N1:News h₀ L h' ((e,pM C (.ref t) none)::[]):=λp hp=>by
  rcases aX.mp hp with rfl | hp
  ·exact⟨he,hLe,h0e⟩
  ·cases hp
 refine wpAny_call<|codeAny_mono (Fb w (e:=e) (rest:=[]) (R:=λr s'=>r=.ok (.ret .none)/\Q (.ref e) s') B F1 X N1 T (λp hp=>nomatch hp) hA hf SH WN O ?_) λr s' hr=>?_
 ·intro h2 tk2 t' dx od kp F2 N2;refine⟨rfl,h h2 tk2 e ⟨λb o eb=>kp _ _ (hm.keeps _ _ eb) (λz=>?_) (λp hp=>nomatch hp),hm.new,?_⟩⟩
  ·have:=hm.new;rw[<-z,eb] at this;cases this
  ·exact⟨_,.ref t',(N2 _<|.head _).1,rfl,rfl⟩
 ·obtain⟨rfl,hr⟩:=hr;exact⟨rfl,hr⟩
end
theorem XF (w:World):∃o,(G1 w.params).lookup 36=some o/\o.cls=.type "function":=⟨_,rfl,rfl⟩
theorem LZ (w:World):nW (G1 w.params) 52:=⟨⟨_,_,_,_,_,_,_,_,_,_,_,_,_,_,_,rfl⟩,by kernel_rfl,by kernel_rfl,by kernel_rfl,by kernel_rfl⟩
theorem L0 (w:World):nW (G1 w.params) 64:=⟨⟨_,_,_,_,_,_,_,_,_,_,_,_,_,_,_,rfl⟩,by kernel_rfl,by kernel_rfl,by kernel_rfl,by kernel_rfl⟩
theorem L1 (w:World):nW (G1 w.params) 76:=⟨⟨_,_,_,_,_,_,_,_,_,_,_,_,_,_,_,rfl⟩,by kernel_rfl,by kernel_rfl,by kernel_rfl,by kernel_rfl⟩
local macro_rules | `(tactic| k_all) => `(tactic| kernel_rfl)

inductive V where
 |none
 |bool (b:Bool)
 |int (i:Int)
 |str (s:Str)
 |U (l:List V)
 |gl (l:List V)
 |rng (a b:Int)
 |ref (i:Nat)
inductive Cell where
 |list (l:List V)
 |dict (l:List (Str × V))
 |dictT (l:List (cY × V))
 |inst (C:Nat) (d:Nat)
  |dictX (l:List (Str × V)) (k:Str)
noncomputable abbrev af:=List Cell
inductive Res (α:Type) where
 |ok (a:α) (Y:af)
 |exc (C:Nat) (Y:af)
 |stuck
noncomputable def Res.bind {α β:Type}(r:Res α)(f:α->af->Res β):Res β:=match r with
 | .ok a Y=>f a Y
 | .exc C Y=>.exc C Y
 | .stuck=>.stuck
inductive Bi where
 |len | list | tuple | sorted | str | int | range | max
 deriving DecidableEq
inductive Bm where
 |rfind | startswith | split | join | append | pop | get
 deriving DecidableEq
inductive X where
 |l (i:Nat)
 |c (v:V)
 |U (l:List X)
 |s (l:List X)
 |dct (ks:cY) (l:List X)
 |m (op:CmpOp) (a b:X)
 |and (l:List X)
 |or (l:List X)
 |not (a:X)
 |ite (c a b:X)
 |bin (op:Operator) (a b:X)
 |i (a i:X)
 |slcTo (a hi:X)
 |slcFrom (a lo:X)
 |attr (a:X) (n:Str)
 |call (f:Nat) (l:List X)
 |new (C:Nat) (l:List X)
 |bG (a:X) (n:Str) (l:List X)
 |bi (b:Bi) (l:List X)
 |bm (a:X) (b:Bm) (l:List X)
 |comp (fr:List (Option Nat)) (ts:List Nat) (it:X) (cond:List X) (elt:X)
 |comp2 (fr:List (Option Nat)) (ts:List Nat) (it:X) (qj:List Nat) (qk:X) (elt:X)
 |word (fr:List (Option Nat)) (a:X)
inductive T where
 |l (i:Nat)
 |U (l:List T)
 |attr (a:X) (n:Str)
 |sub (a i:X)
inductive S where
 |ex (a:X)
 |set (t:T) (a:X)
 |ret (a:X)
 |ite (c:X) (a b:List S)
 |whl (c:X) (a:List S)
 |for (t:T) (it:X) (a:List S)
 |raise (C:Nat) (a b:X)
noncomputable abbrev Loc:=List<|Option V
noncomputable abbrev X.xs (x:Str):X:=.c<|.str x
noncomputable abbrev X.xi (i:Int):X:=.c<|.int i
abbrev ii:=List<|Str × V
abbrev mj:=List<|Nat × Cell
abbrev aG:=List V
abbrev jJ:=Option V
abbrev ai:Option V:=none
noncomputable abbrev zB (a:Array Nat):Str:=⟨a⟩
abbrev vX:=zB #[114,101,103,105,111,110,95,116,111,108,100]
abbrev Fc:=zB #[116,121,112,101,95,111,102]
abbrev B9:=zB #[116,114,97,105,116,95,111,102]
abbrev zC:=zB #[98,111,117,110,100,115,95,111,102]
abbrev Hj:=zB #[106,111,105,110,101,100]
abbrev zE:=zB #[112,97,114,101,110,116,95,111,102]
abbrev zF:=zB #[105,115,95,119,105,116,104,105,110]
abbrev zG:=zB #[95,108,97,119,95,112,111,111,108]
abbrev zH:=zB #[95,108,97,119,95,116,97,107,101]
abbrev Ca:=zB #[95,108,97,119,95,111,110,101]
abbrev vY:=zB #[95,108,97,119,95,106,111,105,110,101,100]
abbrev xT:=zB #[95,108,97,119,95,112,97,114,116,115]
abbrev Fe:=zB #[95,108,97,119,95,102,110]
abbrev zJ:=zB #[95,108,97,119,95,115,101,101,115]
abbrev sW:=zB #[95,108,97,119,95,119,97,121,95,115,101,101,110]
abbrev Cb:=zB #[95,108,97,119,95,117,115,101]
abbrev xU:=zB #[95,108,97,119,95,105,116,101,109,115]
abbrev XG:=zB #[95,108,97,119,95,112,117,98,108,105,99,115,95,114,105,103,104,116]
abbrev XH:=zB #[95,108,97,119,95,112,108,97,105,110,95,114,105,103,104,116]
abbrev XI:=zB #[95,108,97,119,95,99,104,97,105,110,95,114,105,103,104,116]
abbrev xV:=zB #[95,108,97,119,95,119,111,114,108,100]
abbrev zK:=zB #[95,108,97,119,95,112,97,116,104]
abbrev vZ:=zB #[95,108,97,119,95,114,101,103,105,111,110]
abbrev Cc:=zB #[95,108,97,119,95,97,108,108]
abbrev zL:=zB #[95,108,97,119,95,116,121,112,101]
abbrev xW:=zB #[95,108,97,119,95,98,111,117,110,100]
abbrev XJ:=zB #[95,108,97,119,95,98,111,117,110,100,115,95,114,105,103,104,116]
abbrev XK:=zB #[95,108,97,119,95,102,105,120,101,100,95,114,105,103,104,116]
abbrev Tm:=zB #[108,97,119]
abbrev zM:=zB #[76,101,110,100,69,114,114,111,114]
abbrev zN:=zB #[78,97,109,101,70,97,117,108,116]
abbrev XL:=zB #[86,105,115,105,98,105,108,105,116,121,70,97,117,108,116]
abbrev zO:=zB #[84,121,112,101,70,97,117,108,116]
abbrev Hk:=zB #[82,101,97,100,101,114]
abbrev Tn:=zB #[85,115,101]
abbrev L2:=zB #[84,97,98,108,101]
abbrev Ff:=zB #[77,111,100,117,108,101,115]
abbrev zP:=zB #[73,78,84,95,75,73,78,68,83]
abbrev lT:=zB #[105,56]
abbrev gZ:=zB #[105,49,54]
abbrev g6:=zB #[105,51,50]
abbrev g7:=zB #[105,54,52]
abbrev ft:=zB #[117,56]
abbrev fQ:=zB #[117,49,54]
abbrev g8:=zB #[117,51,50]
abbrev g9:=zB #[117,54,52]
abbrev dI:=zB #[117,115,105,122,101]
abbrev sX:=zB #[77,79,83,84,95,69,76,69,77,69,78,84,83]
abbrev sY:=zB #[80,82,69,76,85,68,69,95,78,65,77,69,83]
abbrev DU:=zB #[67,108,111,110,101]
abbrev Hl:=zB #[67,111,112,121]
abbrev wD:=zB #[68,101,102,97,117,108,116]
abbrev Hm:=zB #[68,114,111,112]
abbrev Ox:=zB #[69,114,114]
abbrev Hn:=zB #[78,111,110,101]
abbrev To:=zB #[79,107]
abbrev zQ:=zB #[79,112,116,105,111,110]
abbrev zR:=zB #[82,97,110,103,101,56]
abbrev zS:=zB #[82,101,115,117,108,116]
abbrev xX:=zB #[83,111,109,101]
abbrev Ho:=zB #[86,101,99,56]
abbrev wE:=zB #[115,119,97,112,112,101,100]
abbrev zT:=zB #[77,79,83,84,95,85,83,69,83]
abbrev PC:=zB #[87,65,89,83]
abbrev aQ:=zB #[99,114,97,116,101]
abbrev dJ:=zB #[115,101,108,102]
abbrev c9:=zB #[115,117,112,101,114]
abbrev v0:=zB #[80,76,65,73,78,95,78,65,77,69,83]
abbrev eU:=zB #[98,111,111,108]
abbrev cU:=zB #[66,111,120]
abbrev zU:=zB #[95,108,97,119,95,110,111,110,101]
abbrev v1:=zB #[95,108,97,119,95,112,108,97,99,101,115]
abbrev z_:=zB #[]
abbrev dG:=zB #[97]
abbrev aP:=zB #[97,58,58,98]
abbrev xY:=zB #[95,108,97,119,95,112,108,97,105,110]
abbrev Tp:=zB #[108,101,110]
abbrev PD:=zB #[108,105,115,116]
abbrev fj:=zB #[116,117,112,108,101]
abbrev Hp:=zB #[115,111,114,116,101,100]
abbrev Tq:=zB #[115,116,114]
abbrev pD:=zB #[105,110,116]
abbrev L3:=zB #[114,97,110,103,101]
abbrev Tr:=zB #[109,97,120]
abbrev pN:=zB #[98,97,114,101]
abbrev tD:=zB #[98,101,103,105,110]
abbrev mq:=zB #[99,97,110,95,115,101,101]
abbrev Hq:=zB #[99,104,101,99,107,101,100,95,112,117,98,108,105,99,115]
abbrev nX:=zB #[99,104,101,99,107,101,100,95,117,115,101,115]
abbrev mr:=zB #[100,101,99,108,97,114,101]
abbrev gt:=zB #[100,101,99,108,97,114,101,95,116,121,112,101]
abbrev tE:=zB #[101,110,116,101,114]
abbrev nY:=zB #[101,110,116,101,114,95,117,115,101]
abbrev jg:=zB #[101,110,116,101,114,95,118,97,114,105,97,110,116,115]
abbrev kO:=zB #[102,105,110,100]
abbrev pE:=zB #[102,105,110,100,95,112,114,101,102,105,120]
abbrev uh:=zB #[102,111,108,108,111,119]
abbrev mO:=zB #[105,115,95,116,97,107,101,110]
abbrev pO:=zB #[108,111,111,107]
abbrev hH:=zB #[109,97,121,95,116,101,108,108,95,111,110]
abbrev mP:=zB #[110,97,109,101,100]
abbrev lU:=zB #[112,97,116,104]
abbrev jh:=zB #[114,101,97,100]
abbrev qu:=zB #[115,105,110,103,108,101]
abbrev oR:=zB #[115,112,97,99,101]
abbrev mQ:=zB #[115,116,101,112]
abbrev ro:=zB #[117,110,107,110,111,119,110]
abbrev ui:=zB #[119,97,108,107]
abbrev L4:=zB #[114,102,105,110,100]
abbrev xZ:=zB #[115,116,97,114,116,115,119,105,116,104]
abbrev L5:=zB #[115,112,108,105,116]
abbrev PE:=zB #[106,111,105,110]
abbrev Hr:=zB #[97,112,112,101,110,100]
abbrev Ts:=zB #[112,111,112]
abbrev Tt:=zB #[103,101,116]
abbrev zV:=zB #[95,108,97,119,95,119,111,114,100]
abbrev gG:=zB #[109,111,100,117,108,101,115]
abbrev kP:=zB #[109,111,100,117,108,101]
abbrev bq:=zB #[103,101,110,101,114,105,99,115]
abbrev iH:=zB #[115,101,108,102,95,116,121,112,101]
abbrev tF:=zB #[102,114,101,115,104]
abbrev iT:=zB #[110,97,109,101,115]
abbrev jK:=zB #[105,115,95,112,117,98]
abbrev lV:=zB #[115,112,111,116]
abbrev gd:=zB #[116,121,112,101,115]
abbrev gu:=zB #[118,97,108,117,101,115]
abbrev gv:=zB #[117,115,101,115]
abbrev dM:=zB #[107,105,110,100,115]
abbrev dB:=zB #[112,117,98,108,105,99,115]
abbrev dK:=zB #[116,97,98,108,101,115]
abbrev kh:=zB #[105,116,101,109,115]
abbrev ji:=zB #[107,101,112,116]
abbrev pP:=zB #[39,95]
abbrev XM:=zB #[110,111,32,114,101,103,105,111,110,32,105,115,32,110,97,109,101,100,32]
abbrev qv:=zB #[114,101,102]
abbrev ki:=zB #[97,114,114,97,121]
abbrev XN:=zB #[116,111,111,32,109,97,110,121,32,101,108,101,109,101,110,116,115]
abbrev DV:=zB #[110,101,118,101,114]
abbrev Tu:=zB #[119,104,97,116,32,115,116,97,110,100,115,32,98,101,116,119,101,101,110,32,60,32,97,110,100,32,62,32,98,101,108,111,110,103,115,32,116,111,32,116,104,101,32,108,97,115,116,32,110,97,109,101]
abbrev uj:=zB #[83,101,108,102]
abbrev L6:=zB #[112,97,114,97,109]
abbrev Ht:=zB #[97,32,98,111,120,32,105,115,32,111,102,32,111,110,101,32,116,121,112,101]
abbrev pF:=zB #[98,111,120]
abbrev Tv:=zB #[32,104,97,115,32,110,111,32,103,101,110,101,114,105,99,115]
abbrev aB:=zB #[116,121,112,101]
abbrev bl:=zB #[115,116,114,117,99,116]
abbrev cX:=zB #[101,110,117,109]
abbrev v5:=zB #[32,105,115,32,110,111,32,116,121,112,101]
abbrev Tx:=zB #[32,104,97,115,32,97,110,111,116,104,101,114,32,110,117,109,98,101,114,32,111,102,32,114,101,103,105,111,110,115]
abbrev Ty:=zB #[32,104,97,115,32,97,110,111,116,104,101,114,32,110,117,109,98,101,114,32,111,102,32,116,121,112,101,115]
abbrev kQ:=zB #[97,100,116]
abbrev Tz:=zB #[97,32,116,114,97,105,116,32,104,97,115,32,110,111,32,114,101,103,105,111,110,115,32,104,101,114,101]
abbrev im:=zB #[116,114,97,105,116]
abbrev uk:=zB #[32,105,115,32,110,111,32,116,114,97,105,116]
abbrev Oy:=zB #[110,111,32,114,101,103,105,111,110,32,99,97,110,32,98,101,32,110,97,109,101,100,32]
abbrev nZ:=zB #[116,104,101,32,103,101,110,101,114,105,99,32]
abbrev Oz:=zB #[32,105,115,32,116,111,108,100,32,116,119,105,99,101,44,32,111,114,32,105,115,32,97,110,111,116,104,101,114,32,116,121,112,101]
abbrev DW:=zB #[97,32,98,111,117,110,100,32,105,115,32,97,32,116,114,97,105,116,32,119,105,116,104,111,117,116,32,97,114,103,117,109,101,110,116,115]
abbrev so:=zB #[58,58]
abbrev bU:=zB #[109,111,100]
abbrev sq:=zB #[117,115,101]
abbrev gH:=zB #[118,97,108,117,101]
abbrev iP:=zB #[102,110]
abbrev DX:=zB #[99,111,110,115,116]
abbrev lF:=zB #[116,104,101,32,110,97,109,101,32]
abbrev OA:=zB #[32,105,115,32,116,104,97,116,32,111,102,32,97,32,112,108,97,105,110,32,116,121,112,101]
abbrev jj:=zB #[32,105,115,32,116,111,108,100,32,116,119,105,99,101]
abbrev ul:=zB #[116,104,101,32,118,97,114,105,97,110,116,32]
abbrev cw:=zB #[118,97,114,105,97,110,116]
abbrev Hu:=zB #[110,111,116,104,105,110,103,32,105,115,32,110,97,109,101,100,32]
abbrev TA:=zB #[97,32,112,97,116,104,32,119,105,116,104,111,117,116,32,97,32,110,97,109,101]
abbrev TC:=zB #[116,104,101,114,101,32,105,115,32,110,111,116,104,105,110,103,32,97,98,111,118,101,32,116,104,101,32,114,111,111,116]
abbrev DY:=zB #[32,105,115,32,110,111,116,32,115,101,101,110,32,104,101,114,101]
abbrev v6:=zB #[116,104,101,32,117,115,101,32,111,102,32]
abbrev TD:=zB #[117,115,101,115,32,119,105,116,104,111,117,116,32,97,110,32,101,110,100,44,32,111,114,32,116,111,111,32,109,97,110,121,32,111,102,32,116,104,101,109,58,32]
abbrev ya:=zB #[119,104,97,116,32]
abbrev Hv:=zB #[32,116,101,108,108,115,32,116,111,32,97,108,108,32,105,115,32,110,111,116,32,115,101,101,110,32,98,121,32,97,108,108]
abbrev dQ:=zB #[102]
abbrev cx:=zB #[83]
abbrev eD:=zB #[69]
abbrev PF:=zB #[86]
abbrev mR:=zB #[117,110,105,116]
abbrev BR:=zB #[98]
abbrev WC:=zB #[117]
abbrev kR:=zB #[104,105,100,100,101,110]
abbrev yb:=zB #[66,111,120,101,115]
abbrev Cd:=zB #[105,49,50,56]
abbrev WD:=zB #[103]
abbrev aH:=zB #[110,97,109,101]
abbrev XO:=zB #[97,48]
abbrev ms:=zB #[71]
abbrev fF:=zB #[39,97]
abbrev lW:=zB #[84]
abbrev cD:=zB #[84,114]
abbrev iU:=zB #[70,101,119]
abbrev Hw:=zB #[85]
abbrev un:=zB #[109]
abbrev oS:=zB #[39,115,116,97,116,105,99]
abbrev rp:=zB #[39,98]
abbrev jL:=zB #[39,95,49]
abbrev jM:=zB #[39,95,97]
abbrev fR:=zB #[109,58,58,84,114]
abbrev sZ:=zB #[78,111]
abbrev L7:=zB #[97,58,58,102]
structure Tbl where
 init:Nat->Option Nat
 bG:Nat->Str->Option Nat
 attrs:Nat->Str->Bool
noncomputable def zW:List (Nat × Nat):=[(139,100),(203,200),(236,221),(367,254)]
def meths:List (Nat × List (Str × Nat)):=[(139,[⟨jh,105⟩,⟨ro,112⟩,⟨lU,117⟩,⟨qu,124⟩,⟨pN,131⟩,⟨mP,136⟩]),(203,[]),(236,[⟨oR,228⟩,⟨mO,233⟩]),(367,[⟨tE,261⟩,⟨mr,268⟩,⟨gt,273⟩,⟨jg,280⟩,⟨nY,287⟩,⟨mq,294⟩,⟨kO,302⟩,⟨ui,309⟩,⟨tD,316⟩,⟨mQ,323⟩,⟨pO,330⟩,⟨uh,337⟩,⟨pE,345⟩,⟨nX,352⟩,⟨Hq,359⟩,⟨hH,364⟩])]
def yc:List (Nat × cY):=[(139,[gG,kP,bq,iH,tF]),(203,[iT,jK,lV]),(236,[gd,gu,gv]),(367,[dM,dB,dK,bq,kh,ji])]
noncomputable def uo:Tbl:=⟨λC=>zW.lookup C,λC n=>(meths.lookup C).bind λl=>l.lookup n,λC n=>((yc.lookup C).getD []).contains n⟩
noncomputable def V.PG:V->Bool
 | .bool b=>b
 |_=>false
noncomputable def V.PH:V->Int
 | .int i=>i
 | .rng a _=>a
 |_=>0
noncomputable def V.XQ:V->Int
 | .rng _ b=>b
 |_=>0
noncomputable def V.XR:V->Str
 | .str s=>s
 |_=>⟨#[]⟩
noncomputable def V.TE:V->aG
 | .U l=>l
 | .gl l=>l
 |_=>[]
noncomputable def V.TF:V->Nat
 | .ref i=>i
 |_=>0
mutual
noncomputable def V.beq:V->V->Bool
 | .none,y=>y.ctorIdx==0
 | .bool a,y=>y.ctorIdx==1&&a==y.PG
 | .int a,y=>y.ctorIdx==2&&a==y.PH
 | .str a,y=>y.ctorIdx==3&&a==y.XR
 | .U a,y=>y.ctorIdx==4&&V.qw a y.TE
 | .gl a,y=>y.ctorIdx==5&&V.qw a y.TE
 | .rng a b,y=>y.ctorIdx==6&&(a==y.PH&&b==y.XQ)
 | .ref a,y=>y.ctorIdx==7&&a==y.TF
noncomputable def V.qw:List V->List V->Bool
 | [],y=>y.isEmpty
 |a::r,y=>!y.isEmpty&&(V.beq a (y.headD .none)&&V.qw r y.tail)
end
noncomputable def vR (Y:af)(i:Nat):Option (aG):=match Y[i]? with
 |some (.list l)=>some l
 |_=>none
noncomputable def OB (Y:af)(i:Nat):Option (ii):=match Y[i]? with
 |some (.dict l)=>some l
 |_=>none
noncomputable def pQ {α β:Type}(f:α->Option β):List α->Option (List β)
 | []=>some []
 |v::r=>(f v).bind λd=>(pQ f r).map λl=>d::l
def dH (Y:af):Nat->V->Option PyData
 | 0,_=>none
 |n+1,v=>match v with
  | .none=>some .none
  | .bool b=>some<|.bool b
  | .int i=>some<|.int i
  | .str s=>some<|.str s
  | .U l=>(pQ (dH Y n) l).map .tuple
  | .gl l=>(pQ (dH Y n) l).map .list
  | .rng _ _=>none
  | .ref i=>(vR Y i).bind λl=>(pQ (dH Y n) l).map .list
def jY (Y:af):V->Option (Bool × aG)
 | .U l=>some (true,l)
 | .gl l=>some (false,l)
 | .ref i=>(vR Y i).map λl=>(false,l)
 |_=>none
def v7 (Y:af)(a b:V):Option Bool:=(jY Y a).bind λx=>(jY Y b).bind λy=>if x.1==y.1&&!(x.2.isEmpty==y.2.isEmpty) then some false else none
def yd (Y:af)(a b:V):Option Bool:=(dH Y 12 a).bind λx=>(dH Y 12 b).bind λy=>if SeqAt.shaped x&&SeqAt.shaped y then some (PyData.eqv x y) else none
noncomputable def TG (Y:af)(a b:V):Option Bool:=match a with
 | .ref i=>match b with
  | .str _=>match Y[i]? with
   |some (.inst _ _)=>some false
   |_=>none
  |_=>none
 |_=>none
noncomputable def TH (a b:V):Option Bool:=match a with
 | .str s=>match b with
  | .str t=>some<|decide (s=t)
  |_=>none
 |_=>none
noncomputable def Lz (a b:Option Bool):Option Bool:=match a with
 |some r=>some r
 |none=>b
def OC (Y:af)(a b:V):Option Bool:=Lz (TH a b)<|Lz (v7 Y a b)<|Lz (TG Y a b)<|yd Y a b
noncomputable def bp (_σ:af):V->Option Bool
 | .none=>some false
 | .bool b=>some b
 | .int i=>some<|i != 0
 |_=>none
def cG (Y:af):V->Option (aG)
 | .U l=>some l
 | .gl l=>some l
 | .ref i=>vR Y i
 | .rng a b=>if -10000<=a/\a<=10000/\-10000<=b/\b<=10000 then some ((List.range (b - a).toNat).map λ(k:Nat)=>.int (a+(k:Int))) else none
 |_=>none
def same (Y:af)(v:V)(l:aG):Bool:=match v with
 | .ref i=>match vR Y i with
  |some l'=>V.qw l' l
  |none=>false
 |_=>true
noncomputable def strsOf:List V->Option (cY)
 | []=>some []
 |v::r=>match v with
  | .str s=>(strsOf r).map λl=>s::l
  |_=>none
def zX (Y:af)(x c:V):Option Bool:=(dH Y 12 c).bind λcc=>(dH Y 12 x).bind λd=>match cc with
 | .tuple xs=>if PyData.canLayAll0 xs&&d.canLay0&&decide (d.depth<=64) then some (xs.any λy=>PyData.eqv y d) else none
 | .list xs=>if PyData.canLayAll0 xs&&d.canLay0&&decide (d.depth<=64) then some (xs.any λy=>PyData.eqv y d) else none
 |_=>none
noncomputable def anyS (s:Str):List Str->Bool
 | []=>false
 |t::r=>decide (t=s)||anyS s r
def Fg (Y:af)(x c:V):Option Bool:=match x with
 | .str s=>(jY Y c).bind λl=>(strsOf l.2).map λts=>anyS s ts
 |_=>none
def Sz (Y:af)(x c:V):Option Bool:=Lz (Fg Y x c)<|zX Y x c
noncomputable def aL {α:Type}[DecidableEq α](l:List (α × V))(k:α):jJ:=(l.find? λp=>p.1=k).map (·.2)
noncomputable def rq {α:Type}[DecidableEq α](l:List (α × V))(k:α)(v:V):List (α × V):=
 if l.any λp=>p.1=k then l.map λp=>if p.1=k then (p.1,v) else p else l++[(k,v)]
noncomputable def ye {α:Type}(Y:af)(j:Nat)(f:Cell->Option α):Option α:=match Y[j]? with
 |some c=>f c
 |none=>none
noncomputable def TI {α:Type}(v:V)(f:Str->Option α):Option α:=match v with
 | .str s=>f s
 |_=>none
noncomputable def pR {α:Type}(v:V)(f:Int->Option α):Option α:=match v with
 | .int i=>f i
 |_=>none
noncomputable def L8 {α:Type}(v:V)(f:List V->Option α):Option α:=match v with
 | .U l=>f l
 |_=>none
def XS (a:V)(l:ii):Option Bool:=Lz (TI a λs=>some (aL l s).isSome)<|L8 a λks=>if l.isEmpty then (strsOf ks).map λM=>false else none
def XT (a:V)(l:List (cY × V)):Option Bool:=L8 a λks=>(strsOf ks).map λks=>(aL l ks).isSome
def inC (Y:af)(a b:V)(c:Cell):Option Bool:=match c with
 | .list _=>Sz Y a b
 | .dict l=>XS a l
 | .dictT l=>XT a l
 |_=>none
def isIn (Y:af)(a b:V):Option Bool:=match b with
 | .U _=>Sz Y a b
 | .gl _=>Sz Y a b
 | .ref i=>ye Y i<|inC Y a b
 |_=>none
noncomputable def PI (a b:V):Option Bool:=match b with
 | .none=>some (a.ctorIdx==0)
 |_=>none
def cy (Y:af)(op:CmpOp)(a b:V):Option Bool:=match op with
 | .Eq=>OC Y a b
 | .NotEq=>(OC Y a b).map λb=>!b
 | .Is=>PI a b
 | .IsNot=>(PI a b).map λb=>!b
 | .Lt=>pR a λi=>pR b λj=>some<|decide (i<j)
 | .LtE=>pR a λi=>pR b λj=>some<|decide (i<=j)
 | .Gt=>pR a λi=>pR b λj=>some<|decide (j<i)
 | .GtE=>pR a λi=>pR b λj=>some<|decide (j<=i)
 | .In=>isIn Y a b
 | .NotIn=>(isIn Y a b).map λb=>!b
noncomputable def smallInt (i:Int):Bool:=decide (-4294967296<i)&&decide (i<4294967296)
def WE (l:aG)(i:Int):jJ:=if smallInt i then (seqIndex? i l.length).bind λj=>l[j]? else none
def Ce (l:aG)(i:Int):jJ:=if smallInt i&&decide (0<=i) then l[i.toNat]? else none
def TJ (i:V)(c:Cell):jJ:=match c with
 | .list l=>pR i<|Ce l
 | .dict l=>TI i<|aL l
 | .dictT l=>L8 i λks=>(strsOf ks).bind<|aL l
 |_=>none
def cb (Y:af)(a i:V):jJ:=match a with
 | .U l=>pR i<|WE l
 | .gl l=>pR i<|Ce l
 | .ref j=>ye Y j<|TJ i
 |_=>none
noncomputable def fq {α β:Type}(o:Option α)(g:α->Res β):Res β:=match o with
 |some r=>g r
 |none=>.stuck
def da (r:Res V):Res Bool:=r.bind λv Y=>fq (bp Y v) λb=>.ok b Y
noncomputable def alloc (Y:af)(c:Cell):Res V:=.ok (.ref Y.length) (Y++[c])
noncomputable def qx (vs:aG)(f:V->Res V):Res V:=match vs with
 | []=>.stuck
 |v::r=>match r with
  | []=>f v
  |_::_=>.stuck
noncomputable def nM (v:V)(f:Int->Res V):Res V:=match v with
 | .int i=>f i
 |_=>.stuck
noncomputable def WF (v:V)(f:Bool->Res V):Res V:=match v with
 | .bool i=>f i
 |_=>.stuck
noncomputable def Hx (v:V)(f:Nat->Res V):Res V:=match v with
 | .ref i=>f i
 |_=>.stuck
def WG (vs:aG)(f:V->V->Res V):Res V:=match vs with
 | []=>.stuck
 |v::r=>qx r<|f v
def onSeq (Y:af)(v:V)(f:Bool->List V->Res V):Res V:=fq (jY Y v) λkl=>if kl.2.length<10000 then f kl.1 kl.2 else .stuck
def pS (Y:af)(i:Nat)(f:List (Str × V)->Res V):Res V:=fq (OB Y i) f
noncomputable def zn (v:V)(f:Str->Res V):Res V:=match v with
 | .str i=>f i
 |_=>.stuck
noncomputable def SA (v:V)(f:List V->Res V):Res V:=match v with
 | .U i=>f i
 |_=>.stuck
def pU (Y:af)(i:Nat)(f:List V->Res V):Res V:=fq (vR Y i) f
def jk.listOf (Y:af):V->Option (aG)
 | .gl l=>some l
 | .ref i=>vR Y i
 |_=>none
def Hy (Y:af)(a b:V):Res V:=fq (jk.listOf Y a) λl=>fq (jk.listOf Y b) λr=>if l.length+r.length<100000 then alloc Y (.list (l++r)) else .stuck
def jk (Y:af)(op:Operator)(a b:V):Res V:=match op with
 | .Add=>match a with
  | .int i=>nM b λj=>.ok (.int (i+j)) Y
  | .str s=>zn b λt=>if s.length+t.length<100000 then .ok (.str (s++t)) Y else .stuck
  | .U l=>SA b λr=>if l.length+r.length<100000 then .ok (.U (l++r)) Y else .stuck
  |x=>Hy Y x b
 | .Sub=>nM a λi=>nM b λj=>.ok (.int<|i - j) Y
 | .Mult=>match a with
  | .int i=>nM b λj=>if smallInt i||smallInt j then .ok (.int<|i * j) Y else .stuck
  | .U l=>nM b λj=>if l.length=1/\(j=0∨j=1∨j=2) then .ok (.U<|if j=0 then [] else if j=1 then l else l++l) Y else .stuck
  |_=>.stuck
 | .Mod=>nM a λi=>nM b λj=>if 0<j then .ok (.int<|i.fmod j) Y else .stuck
 | .FloorDiv=>nM a λi=>nM b λj=>if 0<j/\j<1000000 then .ok (.int<|i.fdiv j) Y else .stuck
 | .Pow=>nM a λi=>nM b λj=>if 0<=j/\j<200/\0<=i/\i<20 then .ok (.int<|i ^ j.toNat) Y else .stuck
 |_=>.stuck
def rt (Y:af)(a h:V):Res V:=nM h λk=>match a with
 | .U l=>if k= -1/\l.length<10000 then .ok (.U l.dropLast) Y else .stuck
 | .str s=>if s.length<10000 then .ok (.str<|Txt.slice s none<|some k) Y else .stuck
 | .ref i=>fq (vR Y i) λl=>if k= -1/\l.length<10000 then alloc Y (.list l.dropLast) else .stuck
 |_=>.stuck
def n0 (Y:af)(a h:V):Res V:=nM h λk=>Hx a λi=>fq (vR Y i) λl=>if 0<=k/\k<=l.length/\l.length<10000 then alloc Y (.list<|l.drop k.toNat) else .stuck
structure PJ where
 C:Nat
 d:Nat
 l:ii
 k:Option Str
def XU (C d:Nat)(c:Cell):Option PJ:=match c with
 | .dict l=>some ⟨C,d,l,none⟩
 | .dictX l k=>if (aL l k).isSome then none else some ⟨C,d,l,some k⟩
 |_=>none
def XV (Y:af)(c:Cell):Option PJ:=match c with
 | .inst C d=>ye Y d<|XU C d
 |_=>none
def n6 (Y:af)(a:V):Option PJ:=match a with
 | .ref i=>ye Y i<|XV Y
 |_=>none
def uq (Y:af)(a:V)(n:Str):Option PJ:=(n6 Y a).bind λaay=>if aay.k=some n then none else some aay
def jN (Y:af)(a:V)(n:Str):jJ:=(uq Y a n).bind λaay=>aL aay.l n
def L9 (Y:af)(n:Str)(v:V)(aay:PJ):Option af:=match aay.k with
 |some k=>if n=k then some Y else none
 |none=>some<|Y.set aay.d<|.dict<|rq aay.l n v
def iV (Y:af)(a:V)(n:Str)(v:V):Option af:=(n6 Y a).bind<|L9 Y n v
noncomputable def TK (Y:af)(j:Nat)(v:V)(l:aG)(k:Int):Option af:=if 0<=k/\k<l.length/\l.length<10000 then some (Y.set j<|.list<|l.set k.toNat v) else none
def TL (Y:af)(j:Nat)(v:V)(l:ii)(s:Str):Option af:=if l.length<10000 then some (Y.set j<|.dict<|rq l s v) else none
def TM (Y:af)(j:Nat)(v:V)(l:ii)(ks:aG):Option af:=if l.isEmpty then (strsOf ks).map λks=>Y.set j (.dictT [(ks,v)]) else none
def TN (Y:af)(j:Nat)(v:V)(l:List (cY × V))(ks:aG):Option af:=if l.length<10000 then (strsOf ks).map λks=>Y.set j (.dictT<|rq l ks v) else none
def TO (Y:af)(j:Nat)(i v:V)(l:ii):Option af:=match i with
 | .str s=>TL Y j v l s
 | .U ks=>TM Y j v l ks
 |_=>none
def setC (Y:af)(j:Nat)(i v:V)(c:Cell):Option af:=match c with
 | .list l=>pR i<|TK Y j v l
 | .dict l=>TO Y j i v l
 | .dictT l=>L8 i<|TN Y j v l
 |_=>none
def iW (Y:af)(a i v:V):Option af:=match a with
 | .ref j=>ye Y j<|setC Y j i v
 |_=>none
noncomputable def v8 (x:Str):List Str->cY
 | []=>[x]
 |y::r=>if decide (y.cps.toList<x.cps.toList) then y::v8 x r else x::y::r
def mt (l:cY):cY:=l.foldr v8 []
noncomputable def TP (x:V):Bool:=match x with
 | .str _=>true
 |_=>false
def PK (Y:af)(x:V):Bool:=match x with
 | .ref i=>(vR Y i).isSome
 |_=>false
def XW (Y:af)(x:V):Bool:=match x with
 | .ref i=>(OB Y i).isSome
 |_=>false
def OD (Y:af)(a:V)(m:Bm)(vs:aG):Res V:=match m with
 | .rfind=>zn a λs=>qx vs λv=>zn v λt=>.ok (.int<|Txt.rfind s t) Y
 | .startswith=>zn a λs=>qx vs λv=>zn v λt=>.ok (.bool<|Txt.startswith s t) Y
 | .split=>zn a λs=>qx vs λv=>zn v λt=>if s.length<1000&&!(t.length==0) then alloc Y (.list<|(Txt.split s t).map .str) else .stuck
 | .join=>zn a λs=>qx vs λv=>SA v λl=>fq (strsOf l) λl=>if (l.map (·.length)).sum+l.length * s.length<=16777216 then .ok (.str<|Txt.join s l) Y else .stuck
 | .append=>Hx a λi=>qx vs λv=>pU Y i λl=>if l.length<10000 then .ok .none (Y.set i<|.list (l++[v])) else .stuck
 | .pop=>match vs with
  | []=>Hx a λi=>pU Y i λl=>if l.length<10000 then fq l.getLast? λv=>.ok v (Y.set i<|.list l.dropLast) else .stuck
  |_::_=>.stuck
 | .get=>Hx a λi=>qx vs λv=>zn v λk=>pS Y i λl=>.ok ((aL l k).getD .none) Y
def Fh (Y:af)(x:V)(m:Bm):Bool:=match m with
 | .append=>PK Y x
 | .pop=>PK Y x
 | .get=>XW Y x
 |_=>TP x
def vS (Y:af)(b:Bi)(vs:aG):Res V:=match b with
 | .len=>qx vs λv=>onSeq Y v λM l=>.ok (.int l.length) Y
 | .list=>qx vs λv=>onSeq Y v λM l=>alloc Y<|.list l
 | .tuple=>qx vs λv=>onSeq Y v λM l=>.ok (.U l) Y
 | .int=>qx vs λv=>WF v λb=>.ok (.int<|if b then 1 else 0) Y
 | .str=>qx vs λv=>nM v λi=>if smallInt i then .ok (.str<|Str.ofString<|toString i) Y else .stuck
 | .max=>WG vs λx y=>nM x λa=>nM y λb=>.ok (.int<|if a<b then b else a) Y
 | .sorted=>qx vs λv=>Hx v λi=>pS Y i λl=>if l.length<64 then alloc Y (.list<|(mt<|l.map (·.1)).map .str) else .stuck
 | .range=>match vs with
  | []=>.stuck
  |x::r=>match r with
   | []=>nM x λn=>.ok (.rng 0 n) Y
   |y::_=>nM x λa=>qx r λy=>nM y λn=>.ok (.rng a n) Y
abbrev ar:=Nat->List V->af->Res V
def db (Y:af)(x:V)(n:Str):Bool:=match n6 Y x with
 |some aay=>uo.attrs aay.C n&&decide (aay.l.length<499)
 |none=>false
def eV (Y:af)(x:V)(n:Str):Option Nat:=(uq Y x n).bind λaay=>if (aL aay.l n).isSome then none else uo.bG aay.C n
noncomputable def frees (fr:List (Option Nat))(N:Loc):Loc:=fr.map λj=>match j with
 |some j=>(N[j]?).join
 |none=>none
noncomputable def dL:List Nat->List V->Loc->Option Loc
 | [],[],N=>some N
 |i::r,v::t,N=>match N[i]? with
  |some none=>dL r t<|N.set i<|some v
  |_=>none
 |_,_,_=>none
def dv (Y:af)(ts:List Nat)(v:V)(N:Loc):Option Loc:=if ts.length=1 then dL ts [v] N else (jY Y v).bind λl=>dL ts l.2 N
def dk (f:V->List V->af->Res (aG))(src:V)(all:aG):List V->List V->af->Res (aG)
 | [],acc,Y=>.ok acc Y
 |v::r,acc,Y=>(f v acc Y).bind λacc Y=>if same Y src all then dk f src all r acc Y else .stuck
noncomputable def lG (v:V)(acc:aG)(Y:af):Res (aG):=if acc.length<10000 then .ok (acc++[v]) Y else .stuck
noncomputable def qy:Res V->Res V
 | .ok v Y=>.ok v Y
 | .exc C Y=>if C=64 then .ok (.str (Str.ofString "hidden")) Y else if C=52 then .ok (.str (Str.ofString "name")) Y else if C=76 then .ok (.str (Str.ofString "type")) Y else .stuck
 | .stuck=>.stuck
mutual
noncomputable def aV (O:ar):X->Loc->af->Res V
 | .l i,N,Y=>match N[i]? with
  |some (some v)=>.ok v Y
  |_=>.stuck
 | .c v,_,Y=>.ok v Y
 | .U l,N,Y=>(nN O l N Y).bind λvs Y=>.ok (.U vs) Y
 | .s l,N,Y=>(nN O l N Y).bind λvs Y=>alloc Y<|.list vs
 | .dct ks l,N,Y=>(nN O l N Y).bind λvs Y=>alloc Y<|.dict<|ks.zip vs
 | .m op a b,N,Y=>(aV O a N Y).bind λx Y=>(aV O b N Y).bind λy Y=>fq (cy Y op x y) λb=>.ok (.bool b) Y
 | .and l,N,Y=>ny O l N Y
 | .or l,N,Y=>ur O l N Y
 | .not a,N,Y=>(da<|aV O a N Y).bind λb Y=>.ok (.bool !b) Y
 | .ite c a b,N,Y=>(da<|aV O c N Y).bind λt Y=>cond t (aV O a N Y)<|aV O b N Y
 | .bin op a b,N,Y=>(aV O a N Y).bind λx Y=>(aV O b N Y).bind λy Y=>jk Y op x y
 | .i a i,N,Y=>(aV O a N Y).bind λx Y=>(aV O i N Y).bind λy Y=>fq (cb Y x y) λv=>.ok v Y
 | .slcTo a h,N,Y=>(aV O a N Y).bind λx Y=>(aV O h N Y).bind λy Y=>rt Y x y
 | .slcFrom a h,N,Y=>(aV O a N Y).bind λx Y=>(aV O h N Y).bind λy Y=>n0 Y x y
 | .attr a n,N,Y=>(aV O a N Y).bind λx Y=>if db Y x n then fq (jN Y x n) λv=>.ok v Y else .stuck
 | .call f l,N,Y=>(nN O l N Y).bind λvs Y=>O f vs Y
 | .new C l,N,Y=>fq (uo.init C) λf=>(nN O l N Y).bind λvs Y=>(O f (.ref (Y.length+1)::vs)<|Y++[.dict [],.inst C Y.length]).bind λr Y'=>match r with
   | .none=>.ok (.ref (Y.length+1)) Y'
   |_=>.stuck
 | .bG a n l,N,Y=>(aV O a N Y).bind λx Y=>fq (eV Y x n) λf=>(nN O l N Y).bind λvs Y=>O f (x::vs) Y
 | .bi b l,N,Y=>(nN O l N Y).bind λvs Y=>vS Y b vs
 | .bm a m l,N,Y=>(aV O a N Y).bind λx Y=>if Fh Y x m then (nN O l N Y).bind λvs Y=>OD Y x m vs else .stuck
 | .comp fr ts it cd elt,N,Y=>(aV O it N Y).bind λsrc Y=>fq (cG Y src) λall=>(dk (λv acc Y=>fq (dv Y ts v<|frees fr N) λloc'=>
   (jl O cd loc' Y).bind λb Y=>cond b ((aV O elt loc' Y).bind λv Y=>lG v acc Y)<|.ok acc Y) src all all [] Y).bind λvs Y=>alloc Y<|.list vs
 | .comp2 fr ts it qj qk elt,N,Y=>(aV O it N Y).bind λsrc Y=>fq (cG Y src) λall=>(dk (λv acc Y=>fq (dv Y ts v<|frees fr N) λloc'=>
   (aV O qk loc' Y).bind λvN Y=>fq (cG Y vN) λall2=>dk (λv acc Y=>fq (dv Y qj v loc') λvO=>(aV O elt vO Y).bind λv Y=>lG v acc Y) vN all2 all2 acc Y) src all all [] Y).bind λvs Y=>alloc Y<|.list vs
 | .word fr a,N,Y=>qy<|aV O a (frees fr N) Y
noncomputable def nN (O:ar):List X->Loc->af->Res (aG)
 | [],_,Y=>.ok [] Y
 |a::r,N,Y=>(aV O a N Y).bind λv Y=>(nN O r N Y).bind λvs Y=>.ok (v::vs) Y
noncomputable def ny (O:ar):List X->Loc->af->Res V
 | [],_,_=>.stuck
 |a::r,N,Y=>(aV O a N Y).bind λv Y=>match r with
  | []=>.ok v Y
  |_::_=>fq (bp Y v) λt=>cond t (ny O r N Y)<|.ok v Y
noncomputable def ur (O:ar):List X->Loc->af->Res V
 | [],_,_=>.stuck
 |a::r,N,Y=>(aV O a N Y).bind λv Y=>match r with
  | []=>.ok v Y
  |_::_=>fq (bp Y v) λt=>cond t (.ok v Y)<|ur O r N Y
noncomputable def jl (O:ar):List X->Loc->af->Res Bool
 | [],_,Y=>.ok true Y
 |a::r,N,Y=>(da<|aV O a N Y).bind λt Y=>cond t (jl O r N Y)<|.ok false Y
end
mutual
noncomputable def tG (O:ar):T->V->Loc->af->Res Loc
 | .l i,v,N,Y=>.ok (N.set i<|some v) Y
 | .U ts,v,N,Y=>fq (jY Y v) λl=>if l.2.length=ts.length then ru O ts l.2 N Y else .stuck
 | .attr a n,v,N,Y=>(aV O a N Y).bind λx Y=>if db Y x n then fq (iV Y x n v) λY=>.ok N Y else .stuck
 | .sub a i,v,N,Y=>(aV O a N Y).bind λx Y=>(aV O i N Y).bind λy Y=>fq (iW Y x y v) λY=>.ok N Y
noncomputable def ru (O:ar):List T->List V->Loc->af->Res Loc
 | [],[],N,Y=>.ok N Y
 |t::ts,v::vs,N,Y=>(tG O t v N Y).bind λN Y=>ru O ts vs N Y
 |_,_,_,_=>.stuck
end
abbrev fc:=jJ × Loc
noncomputable def Cf (C:Nat)(x y:V)(Y:af):Res fc:=match x with
 | .str _=>match y with
  | .int _=>.exc C Y
  |_=>.stuck
 |_=>.stuck
noncomputable def Hz (f:fc)(Y:af)(r:Res fc):Res fc:=match f.1 with
 |some _=>.ok f Y
 |none=>r
def jm (test:Loc->af->Res Bool)(body:Loc->af->Res fc):Nat->Loc->af->Res fc
 | 0,_,_=>.stuck
 |n+1,N,Y=>(test N Y).bind λb Y=>cond b ((body N Y).bind λf Y=>Hz f Y<|jm test body n f.2 Y)<|.ok (none,N) Y
def forL (step:V->Loc->af->Res fc)(src:V)(all:aG):List V->Loc->af->Res fc
 | [],N,Y=>.ok (none,N) Y
 |v::r,N,Y=>(step v N Y).bind λf Y=>Hz f Y<|if same Y src all then forL step src all r f.2 Y else .stuck
mutual
noncomputable def nO (O:ar)(W:Nat):S->Loc->af->Res fc
 | .ex a,N,Y=>(aV O a N Y).bind λv Y=>match v with
  | .none=>.ok (none,N) Y
  |_=>.stuck
 | .set t a,N,Y=>(aV O a N Y).bind λv Y=>(tG O t v N Y).bind λN Y=>.ok (none,N) Y
 | .ret a,N,Y=>(aV O a N Y).bind λv Y=>.ok (some v,N) Y
 | .ite c a b,N,Y=>(da<|aV O c N Y).bind λt Y=>cond t (bZ O W a N Y)<|bZ O W b N Y
 | .whl c a,N,Y=>jm (λN Y=>da<|aV O c N Y) (λN Y=>bZ O W a N Y) W N Y
 | .for t it a,N,Y=>(aV O it N Y).bind λsrc Y=>fq (cG Y src) λall=>forL (λv N Y=>(tG O t v N Y).bind λN Y=>bZ O W a N Y) src all all N Y
 | .raise C a b,N,Y=>(aV O a N Y).bind λx Y=>(aV O b N Y).bind λy Y=>Cf C x y Y
noncomputable def bZ (O:ar)(W:Nat):List S->Loc->af->Res fc
 | [],N,Y=>.ok (none,N) Y
 |s::r,N,Y=>(nO O W s N Y).bind λf Y=>Hz f Y<|bZ O W r f.2 Y
end
structure gI where
 slots:Nat
 ps:List Nat
 dflt:aG
 body:List S
def jZ (slots:Nat):List Nat->List V->Option Loc
 |ps,vs=>dL ps vs<|List.replicate slots none
structure Text where
 fn:Nat->Option gI
 wh:Nat
def bk (tx:Text)(O:ar)(f:Nat)(vs:aG)(Y:af):Res V:=fq (tx.fn f) λi=>if vs.length<=i.ps.length/\i.ps.length<=vs.length+i.dflt.length then
   fq (jZ i.slots i.ps<|vs++i.dflt.drop (vs.length+i.dflt.length - i.ps.length)) λN=>(bZ O tx.wh i.body N Y).bind λr Y=>.ok (r.1.getD .none) Y
  else .stuck
def run (tx:Text):Nat->ar
 | 0=>λM M M=>.stuck
 |n+1=>bk tx<|run tx n
structure Gx where
 fn:Str->Option Nat
 cls:Str->Option Nat
 val:Str->jJ
 bi:Str->Option Bi
 um:Str->Bool
 bm:Str->Option Bm
 word:Str
noncomputable abbrev Ns:=List<|Str × NameKind
noncomputable def qA:NameKind->Bool
 | .local=>true
 | .cell=>true
 | .free=>true
 |_=>false
def slotAt (x:Str):Ns->Option Nat
 | []=>none
 |p::r=>if p.1==x then (if qA p.2 then some 0 else none) else (slotAt x r).map (· +1)
noncomputable def mS (x:Str):Bool:=!(x==("__debug__":Str))&&!(x==("__classdict__":Str))&&!(x==("__name__":Str))
def eW (ns:Ns)(x:Str):Option Nat:=if mS x then slotAt x ns else none
def iI (ns:Ns)(x:Str):Bool:=mS x&&ns.lookup x==some .globalImplicit
noncomputable def Cg:Const->jJ
 | .none=>some .none
 | .bool b=>some<|.bool b
 | .int i=>some<|.int i
 | .str s=>some<|.str s
 |_=>none
def de (ns:Ns)(inner:Ns):List (Option Nat):=inner.map λp=>if p.2==.free then eW ns p.1 else none
noncomputable def kindAt (ns:Ns)(i:Nat):Option NameKind:=(ns[i]?).map (·.2)
structure Pt where
 l:List Expr:=[]
 ops:List CmpOp:=[]
 op:Option Operator:=none
 bop:Option BoolOp:=none
 uop:Option UnaryOp:=none
 nm:Str:=default
 k:Option Const:=none
 ks:List (Option Expr):=[]
 gs:List Comprehension:=[]
 sc:Scope:=default
 bare:Bool:=false
 line:Nat:=0
noncomputable def Ch (lo hi st:Option Expr):List Expr:=if st.isSome then [] else lo.toList++hi.toList
noncomputable def pt:Expr->Pt
 | .BoolOp op l _=>{l,bop:=some op}
 | .BinOp a op b _=>{l:=[a,b],op:=some op}
 | .UnaryOp op a _=>{l:=[a],uop:=some op}
 | .Lambda a e sc _=>{l:=[e],sc,bare:=a.posonlyargs.isEmpty&&a.args.isEmpty&&a.vararg.isNone&&a.kwonlyargs.isEmpty&&a.kw_defaults.isEmpty&&a.kwarg.isNone&&a.defaults.isEmpty}
 | .IfExp c a b _=>{l:=[c,a,b]}
 | .Dict ks l _=>{l,ks}
 | .ListComp e gs sc _=>{l:=[e],gs,sc}
 | .Compare a ops l _=>{l:=a::l,ops}
 | .Call f l kw p=>{l:=f::l,bare:=kw.isEmpty,line:=p.line}
 | .Constant k _ _=>{k:=some k}
 | .Attribute a nm p=>{l:=[a],nm,line:=p.endLine}
 | .Subscript a i _=>{l:=[a,i]}
 | .Name nm _=>{nm}
 | .List l _=>{l}
 | .Tuple l _ _=>{l}
 | .Slice lo hi st _=>{l:=Ch lo hi st,bare:=lo.isSome}
 |_=>{}
noncomputable def LA:Expr:=.Constant .none 0 default
def hJ (e:Expr)(i:Nat):Expr:=((pt e).l[i]?).getD LA
def lX (ns:Ns)(e:Expr):Option Nat:=if e.ctorIdx==23 then (match eW ns (pt e).nm with
  |some i=>if kindAt ns i==some .local then some i else none
  |none=>none) else none
def kS (ns:Ns):List Expr->Option (List Nat)
 | []=>some []
 |e::r=>match lX ns e with
  |some i=>(kS ns r).map (i::·)
  |none=>none
def slotsOf (ns:Ns)(e:Expr):Option (List Nat):=if e.ctorIdx==23 then (lX ns e).map λi=>[i] else if e.ctorIdx==25&&decide (2<=(pt e).l.length) then kS ns (pt e).l else none
def keyOk (s:Str)(e:Option Expr):Bool:=match e with
 |some e=>e.ctorIdx==19&&decide ((pt e).k=some (.str s))
 |none=>false
def keysOk:List Str->List (Option Expr)->Bool
 | [],l=>l.isEmpty
 |s::r,l=>match l with
  |e::t=>keyOk s e&&keysOk r t
  | []=>false
def j1 (e:Expr):Bool:=!(e.ctorIdx==16&&(pt e).bare&&decide ((pt e).l.length=1)&&(hJ e 0).ctorIdx==23)
noncomputable def PL (ns:Ns):Bool:=decide (ns.map (·.1)).Nodup
def Ci (ns:Ns)(x:Str):Bool:=match eW ns x with
 |some j=>kindAt ns j==some .cell||kindAt ns j==some .free
 |none=>false
def okInner (ns:Ns)(sc:Scope):Bool:=sc.kind==.function&&PL sc.names&&sc.names.all (λp=>p.2 != .cell)&&sc.names.all λp=>p.2 != .free||Ci ns p.1
def Ma (gx:Gx)(e:Expr)(ns:Ns):jJ:=
 if e.ctorIdx==19 then (pt e).k.bind Cg
 else if e.ctorIdx==23 then (if (eW ns (pt e).nm).isNone&&iI ns (pt e).nm then gx.val (pt e).nm else none)
 else if e.ctorIdx==3&&(pt e).uop==some .USub&&(hJ e 0).ctorIdx==19 then (match (pt<|hJ e 0).k with
  |some (.int i)=>some<|.int (-i)
  |_=>none)
 else none
noncomputable def sr (e:Expr):Bool:=!(e.ctorIdx==7)
noncomputable def TQ (g:Comprehension):Bool:=g.is_async==0
def OF:Comprehension:=⟨LA,LA,[],0⟩
mutual
noncomputable def bS (gx:Gx):X->Bool->Expr->Ns->Bool
 | .l i,_,e,ns=>e.ctorIdx==23&&decide (eW ns (pt e).nm=some i)
 | .c v,_,e,ns=>match Ma gx e ns with
  |some u=>V.beq u v
  |none=>false
 | .U l,wd,e,ns=>e.ctorIdx==25&&(decide ((pt e).l.length<1000)&&kT gx l wd (pt e).l ns)
 | .s l,wd,e,ns=>e.ctorIdx==24&&(decide ((pt e).l.length<1000)&&kT gx l wd (pt e).l ns)
 | .dct ks l,wd,e,ns=>e.ctorIdx==6&&(keysOk ks (pt e).ks&&(decide (ks.length=(pt e).l.length/\ks.length<=15/\ks.Nodup)&&kT gx l wd (pt e).l ns))
 | .m op a b,wd,e,ns=>e.ctorIdx==15&&(decide ((pt e).ops=[op]/\(pt e).l.length=2)&&(!behindInMarks op (hJ e 1)&&(bS gx a wd (hJ e 0) ns&&bS gx b wd (hJ e 1) ns)))
 | .and l,wd,e,ns=>e.ctorIdx==0&&(decide ((pt e).bop=some .And)&&kT gx l wd (pt e).l ns)
 | .or l,wd,e,ns=>e.ctorIdx==0&&(decide ((pt e).bop=some .Or)&&kT gx l wd (pt e).l ns)
 | .not a,wd,e,ns=>e.ctorIdx==3&&(decide ((pt e).uop=some .Not)&&bS gx a wd (hJ e 0) ns)
 | .ite c a b,wd,e,ns=>e.ctorIdx==5&&(bS gx c wd (hJ e 0) ns&&(bS gx a wd (hJ e 1) ns&&bS gx b wd (hJ e 2) ns))
 | .bin op a b,wd,e,ns=>e.ctorIdx==2&&(decide ((pt e).op=some op)&&(bS gx a wd (hJ e 0) ns&&bS gx b wd (hJ e 1) ns))
 | .i a i,wd,e,ns=>e.ctorIdx==21&&(!((hJ e 1).ctorIdx==26)&&(bS gx a wd (hJ e 0) ns&&bS gx i wd (hJ e 1) ns))
 | .slcTo a i,wd,e,ns=>e.ctorIdx==21&&((hJ e 1).ctorIdx==26&&(decide ((pt<|hJ e 1).bare=false/\(pt<|hJ e 1).l.length=1)&&(bS gx a wd (hJ e 0) ns&&bS gx i wd (hJ (hJ e 1) 0) ns)))
 | .slcFrom a i,wd,e,ns=>e.ctorIdx==21&&((hJ e 1).ctorIdx==26&&(decide ((pt<|hJ e 1).bare=true/\(pt<|hJ e 1).l.length=1)&&(bS gx a wd (hJ e 0) ns&&bS gx i wd (hJ (hJ e 1) 0) ns)))
 | .attr a n,wd,e,ns=>e.ctorIdx==20&&(decide ((pt e).nm=n)&&(j1 (hJ e 0)&&bS gx a wd (hJ e 0) ns))
 | .call f l,wd,e,ns=>zY e ns&&(decide (gx.fn (pt<|hJ e 0).nm=some f)&&kT gx l wd (pt e).l.tail ns)
 | .new C l,wd,e,ns=>zY e ns&&(decide (gx.cls (pt<|hJ e 0).nm=some C)&&kT gx l wd (pt e).l.tail ns)
 | .bi b l,wd,e,ns=>zY e ns&&(decide (gx.bi (pt<|hJ e 0).nm=some b)&&kT gx l wd (pt e).l.tail ns)
 | .bG a n l,wd,e,ns=>Mb e&&(decide ((pt<|hJ e 0).nm=n)&&(bS gx a wd (hJ (hJ e 0) 0) ns&&kT gx l wd (pt e).l.tail ns))
 | .bm a m l,wd,e,ns=>Mb e&&(decide (gx.bm (pt<|hJ e 0).nm=some m)&&(bS gx a wd (hJ (hJ e 0) 0) ns&&kT gx l wd (pt e).l.tail ns))
 | .comp fr ts it cond elt,wd,e,ns=>e.ctorIdx==8&&(decide ((pt e).gs.length=1)&&(TR ((pt e).gs.headD OF) fr ts ns (pt e).sc&&(bS gx it wd ((pt e).gs.headD OF).iter ns&&(kT gx cond wd ((pt e).gs.headD OF).ifs (pt e).sc.names&&bS gx elt wd (hJ e 0) (pt e).sc.names))))
 | .comp2 fr ts it qj qk elt,wd,e,ns=>e.ctorIdx==8&&(decide ((pt e).gs.length=2)&&(TR ((pt e).gs.headD OF) fr ts ns (pt e).sc&&(TS ((pt e).gs.headD OF) ((pt e).gs.tail.headD OF) qj (pt e).sc.names&&(bS gx it wd ((pt e).gs.headD OF).iter ns&&(bS gx qk wd ((pt e).gs.tail.headD OF).iter (pt e).sc.names&&bS gx elt wd (hJ e 0) (pt e).sc.names)))))
 | .word fr a,wd,e,ns=>wd&&(zY e ns&&(decide ((pt e).l.length=2/\(pt<|hJ e 0).nm=gx.word)&&(PM (hJ e 1) fr ns&&bS gx a false (hJ (hJ e 1) 0) (pt<|hJ e 1).sc.names)))
noncomputable def kT (gx:Gx):List X->Bool->List Expr->Ns->Bool
 | [],_,l,_=>l.isEmpty
 |a::r,wd,l,ns=>!l.isEmpty&&(bS gx a wd (l.headD LA) ns&&kT gx r wd l.tail ns)
noncomputable def zY (e:Expr)(ns:Ns):Bool:=e.ctorIdx==16&&((hJ e 0).ctorIdx==23&&((pt e).bare&&iI ns (pt<|hJ e 0).nm))
noncomputable def Mb (e:Expr):Bool:=e.ctorIdx==16&&((hJ e 0).ctorIdx==20&&((pt e).bare&&(j1 (hJ (hJ e 0) 0)&&(decide ((pt e).l.length<31)&&(pt<|hJ e 0).line==(pt e).line))))
noncomputable def TR (g:Comprehension)(fr:List (Option Nat))(ts:List Nat)(ns:Ns)(sc:Scope):Bool:=okInner ns sc&&(TQ g&&(sr g.iter&&decide (fr=de ns sc.names/\slotsOf sc.names g.target=some ts)))
noncomputable def TS (g g2:Comprehension)(qj:List Nat)(ns:Ns):Bool:=TQ g2&&(sr g2.iter&&(g.ifs.isEmpty&&(g2.ifs.isEmpty&&decide (slotsOf ns g2.target=some qj))))
noncomputable def PM (e:Expr)(fr:List (Option Nat))(ns:Ns):Bool:=e.ctorIdx==4&&((pt e).bare&&(okInner ns (pt e).sc&&(!(pt e).sc.isCoroutine&&(!(pt e).sc.isGenerator&&decide (fr=de ns (pt e).sc.names)))))
end
def pG (ns:Ns)(x:Str):Option Nat:=match eW ns x with
 |some i=>if kindAt ns i==some .local||kindAt ns i==some .cell then some i else none
 |none=>none
def ut (e:Expr):Bool:=!(e.ctorIdx==25)||((pt e).l.all (foldedForSure 8)||!((pt e).l.all<|constantsAlone 8))
noncomputable def oU (e:Expr):Bool:=!(e.ctorIdx==8)&&(!(e.ctorIdx==9)&&!(e.ctorIdx==10))
mutual
noncomputable def s8 (gx:Gx):T->Bool->Expr->Ns->Bool
 | .l i,_,e,ns=>e.ctorIdx==23&&decide (pG ns (pt e).nm=some i)
 | .U l,wd,e,ns=>e.ctorIdx==25&&zZ gx l wd (pt e).l ns
 | .attr a n,wd,e,ns=>e.ctorIdx==20&&(decide ((pt e).nm=n)&&bS gx a wd (hJ e 0) ns)
 | .sub a i,wd,e,ns=>e.ctorIdx==21&&(bS gx a wd (hJ e 0) ns&&bS gx i wd (hJ e 1) ns)
noncomputable def zZ (gx:Gx):List T->Bool->List Expr->Ns->Bool
 | [],_,l,_=>l.isEmpty
 |a::r,wd,l,ns=>!l.isEmpty&&(s8 gx a wd (l.headD LA) ns&&zZ gx r wd l.tail ns)
end
structure Ps where
 es:List Expr:=[]
 b1:List Stmt:=[]
 b2:List Stmt:=[]
noncomputable def ps:Stmt->Ps
 | .Return v _=>{es:=v.toList}
 | .Assign ts v _=>{es:=v::ts}
 | .For t it a b _=>{es:=[t,it],b1:=a,b2:=b}
 | .While c a b _=>{es:=[c],b1:=a,b2:=b}
 | .If c a b _=>{es:=[c],b1:=a,b2:=b}
 | .Raise x y _=>{es:=if y.isSome then [] else x.toList}
 | .Expr e _=>{es:=[e]}
 |_=>{}
def ex (s:Stmt)(i:Nat):Expr:=((ps s).es[i]?).getD LA
noncomputable def yf:X->Bool
 | .comp _ _ _ _ _=>true
 | .comp2 _ _ _ _ _ _=>true
 |_=>false
mutual
noncomputable def v9 (gx:Gx):S->Bool->Stmt->Ns->Bool
 | .ex a,wd,s,ns=>s.ctorIdx==24&&(oU (ex s 0)&&bS gx a wd (ex s 0) ns)
 | .set t a,wd,s,ns=>s.ctorIdx==5&&(decide ((ps s).es.length=2)&&(ut (ex s 0)&&((oU (ex s 0)||(yf a&&t.ctorIdx==0))&&(s8 gx t wd (ex s 1) ns&&bS gx a wd (ex s 0) ns))))
 | .ret a,wd,s,ns=>s.ctorIdx==3&&(decide ((ps s).es.length=1)&&bS gx a wd (ex s 0) ns)
 | .ite c a b,wd,s,ns=>s.ctorIdx==12&&(bS gx c wd (ex s 0) ns&&(rx gx a wd (ps s).b1 ns&&rx gx b wd (ps s).b2 ns))
 | .whl c a,wd,s,ns=>s.ctorIdx==11&&((ps s).b2.isEmpty&&(bS gx c wd (ex s 0) ns&&rx gx a wd (ps s).b1 ns))
 | .for t it a,wd,s,ns=>s.ctorIdx==9&&((ps s).b2.isEmpty&&(sr (ex s 1)&&(s8 gx t wd (ex s 0) ns&&(bS gx it wd (ex s 1) ns&&rx gx a wd (ps s).b1 ns))))
 | .raise C a b,wd,s,ns=>s.ctorIdx==16&&(decide ((ps s).es.length=1/\(pt<|ex s 0).l.length=3)&&(zY (ex s 0) ns&&(decide (gx.cls (pt<|hJ (ex s 0) 0).nm=some C)&&((C==52||C==64||C==76)&&(bS gx a wd (hJ (ex s 0) 1) ns&&bS gx b wd (hJ (ex s 0) 2) ns)))))
noncomputable def rx (gx:Gx):List S->Bool->List Stmt->Ns->Bool
 | [],_,l,_=>l.isEmpty
 |a::r,wd,l,ns=>match l with
  |s::t=>v9 gx a wd s ns&&rx gx r wd t ns
  | []=>false
end
theorem b1 {a b:Bool}(h:(a&&b)=true):a=true:=(kJ _ _▸h:_/\_).1
theorem b2 {a b:Bool}(h:(a&&b)=true):b=true:=(kJ _ _▸h:_/\_).2
theorem nn {a:Bool}(h:(!a)=true):a=false:=by cases a;rfl;cases h
theorem ix {a b:Nat}(h:(a==b)=true):a=b:=eq_of_beq h
theorem od {p:Prop}[Decidable p](h:decide p=true):p:=lE h
theorem isNil {α:Type}{l:List α}(h:l.isEmpty=true):l=[]:=List.isEmpty_iff.mp h
theorem cons_of {α:Type}{l:List α}(h:(!l.isEmpty)=true)(d:α):l=l.headD d::l.tail:=by
 cases l with
 |nil=>cases h
 |cons _ _=>rfl
theorem oV {e:Expr}(h:e.ctorIdx=23):∃nm p,e=.Name nm p:=@Expr.Name.elim (λe=>∃nm p,e=.Name nm p) e h λnm p=>⟨nm,p,rfl⟩
theorem HA {s:Str}{e:Option Expr}(h:keyOk s e=true):∃j p,e=some (.Constant (.str s) j p):=by
 cases e with
 |none=>cases h
 |some e=>exact @Expr.Constant.elim (λe=>keyOk s (some e)=true->∃j p,some e=some (.Constant (.str s) j p)) e (ix<|b1 h) (λk j p h=>by
   have h:((19:Nat)==19&&decide (some k=some (.str s)))=true:=h;have h:some k=some (.str s):=od<|b2 h
   cases h;exact⟨j,p,rfl⟩) h
theorem su {s:Str}{r:cY}{e:Option Expr}{t:List (Option Expr)}(h:keysOk (s::r) (e::t)=true):(∃j p,e=some (.Constant (.str s) j p))/\keysOk r t=true:=
 have h:=h
 ⟨HA<|b1 h,b2 h⟩
theorem oW {ns:Ns}{e:Expr}{i:Nat}(h:lX ns e=some i):∃nm p,e=.Name nm p/\eW ns nm=some i/\(kindAt ns i==some .local)=true:=by
 unfold lX at h;by_cases hc:(e.ctorIdx==23)=true
 ·rw[if_pos hc] at h;refine kf (oV<|ix hc) λnm p dZ=>?_;subst dZ;cases q:eW ns nm with
  |none=>rw[show(pt<|.Name nm p).nm=nm from rfl,q] at h;cases h
  |some j=>
   rw[show(pt<|.Name nm p).nm=nm from rfl,q] at h;by_cases hk:(kindAt ns j==some .local)=true
   ·have h:(if (kindAt ns j==some .local)=true then some j else none)=some i:=h;rw[if_pos hk] at h;cases h;exact eT nm p rfl q hk
   ·have h:(if (kindAt ns j==some .local)=true then some j else none)=some i:=h;rw[if_neg hk] at h;cases h
 ·rw[if_neg hc] at h;cases h
theorem n7 {ns:Ns}{e:Expr}{r:List Expr}{ts:List Nat}(h:kS ns (e::r)=some ts):∃i t,lX ns e=some i/\kS ns r=some t/\ts=i::t:=by
 unfold kS at h;cases q:lX ns e with
 |none=>rw[q] at h;cases h
 |some i=>
  rw[q] at h;refine aI (Option.map_eq_some_iff.mp h) λt e mu=>?_;subst mu;exact eT i t rfl e rfl
theorem Cj {ns:Ns}{e:Expr}{ts:List Nat}(h:slotsOf ns e=some ts):(∃i,lX ns e=some i/\ts=[i])∨∃l k p,e=.Tuple l k p/\2<=l.length/\kS ns l=some ts:=by
 unfold slotsOf at h;by_cases hc:(e.ctorIdx==23)=true
 ·rw[if_pos hc] at h;refine aI (Option.map_eq_some_iff.mp h) λi e uu=>?_;subst uu;exact .inl<|bD i e rfl
 ·rw[if_neg hc] at h;by_cases h2:(e.ctorIdx==25&&decide (2<=(pt e).l.length))=true
  ·rw[if_pos h2] at h;exact @Expr.Tuple.elim (λe=>kS ns (pt e).l=some ts->2<=(pt e).l.length->(∃i,lX ns e=some i/\ts=[i])∨∃l k p,e=.Tuple l k p/\2<=l.length/\kS ns l=some ts) e (ix<|b1 h2) (λl k p a b=>.inr ⟨l,k,p,rfl,b,a⟩) h<|od<|b2 h2
  ·rw[if_neg h2] at h;cases h
theorem Ck {ns:Ns}{x:Str}{i:Nat}(h:pG ns x=some i):eW ns x=some i/\(kindAt ns i==some .local||kindAt ns i==some .cell)=true:=by
 unfold pG at h;cases q:eW ns x with
 |none=>rw[q] at h;cases h
 |some j=>
  rw[q] at h;have h:(if (kindAt ns j==some .local||kindAt ns j==some .cell)=true then some j else none)=some i:=h;by_cases hk:(kindAt ns j==some .local||kindAt ns j==some .cell)=true
  ·rw[if_pos hk] at h;cases h;exact⟨rfl,hk⟩
  ·rw[if_neg hk] at h;cases h
theorem Mc {a b:Bool}(h:(a||b)=true):a=true∨b=true:=by
 cases a
 ·exact .inr h
 ·exact .inl rfl
def TU:List (Str × Nat):=[(vX,86),(Fc,151),(B9,156),(zC,161),(Hj,172),(zE,179),(zF,186),(zG,378),(zH,385),(Ca,392),(vY,404),(xT,411),(Fe,425),(zJ,432),(sW,439),(Cb,446),(xU,453),(XG,458),(XH,465),(XI,472),(xV,479),(zK,486),(vZ,493),(Cc,498),(zL,503),(xW,510),(XJ,515),(XK,522),(Tm,529)]
def OG:List (Str × Nat):=[(zM,39),(zN,52),(XL,64),(zO,76),(Hk,139),(Tn,203),(L2,236),(Ff,367)]
def OH:ii:=[(zP,(.U [.str lT,.str gZ,.str g6,.str g7,.str ft,.str fQ,.str g8,.str g9,.str dI])),(sX,(.int 10000)),(sY,(.U [.str DU,.str Hl,.str wD,.str Hm,.str Ox,.str Hn,.str To,.str zQ,.str zR,.str zS,.str xX,.str Ho,.str wE])),(zT,(.int 30)),(PC,(.U [.str aQ,.str dJ,.str c9])),(v0,(.U [.str lT,.str gZ,.str g6,.str g7,.str ft,.str fQ,.str g8,.str g9,.str dI,.str eU,.str cU])),(zU,(.U [.U [],.U []])),(v1,(.gl [.str z_,.str dG,.str aP])),(xY,(.gl [.str lT,.str gZ,.str g6,.str g7,.str ft,.str fQ,.str g8,.str g9,.str dI,.str eU,.str cU]))]
def TV:List (Str × Bi):=[(Tp,.len),(PD,.list),(fj,.tuple),(Hp,.sorted),(Tq,.str),(pD,.int),(L3,.range),(Tr,.max)]
def umn:cY:=[pN,tD,mq,Hq,nX,mr,gt,tE,nY,jg,kO,pE,uh,mO,pO,hH,mP,lU,jh,qu,oR,mQ,ro,ui]
def XX:List (Str × Bm):=[⟨L4,.rfind⟩,⟨xZ,.startswith⟩,⟨L5,.split⟩,⟨PE,.join⟩,⟨Hr,.append⟩,⟨Ts,.pop⟩,⟨Tt,.get⟩]
def gx:Gx:=⟨λx=>TU.lookup x,λx=>OG.lookup x,λx=>OH.lookup x,λx=>TV.lookup x,λx=>umn.contains x,λx=>XX.lookup x,zV⟩
def f86:gI:=⟨3,[0,1],[],[.ite (.or [.m .Is (.l 0)<|.c .none,.m .Eq (.l 0)<|.xs pP]) [.ret<|.c .none] [],.ite (.m .Eq (.slcTo (.l 0)<|.xi 2)<|.xs pP) [.raise 52 (.bin .Add (.xs XM)<|.l 0)<|.l 1] [],.ret<|.l 0]⟩
def PN:gI:=⟨6,[0,1,2,3,4,5],[],[.set (.attr (.l 0) gG)<|.l 1,.set (.attr (.l 0) kP)<|.l 2,.set (.attr (.l 0) bq)<|.l 3,.set (.attr (.l 0) iH)<|.l 4,.set (.attr (.l 0) tF)<|.l 5]⟩
def Cm:gI:=⟨8,[0,1],[],[.set (.U [.l 2,.l 3])<|.U [.i (.l 1)<|.xi 0,.i (.l 1)<|.xi 1],.ite (.m .Eq (.l 2)<|.xs lU) [.ret<|.bG (.l 0) lU [.l 3,.i (.l 1)<|.xi 2]] [],.ite (.m .Eq (.l 2)<|.xs qv) [.ret<|.U [.xs qv,.call 86 [.i (.l 1)<|.xi 2,.l 3],.i (.l 1)<|.xi 3,.bG (.l 0) jh [.i (.l 1)<|.xi 4]]] [],.ite (.m .Eq (.l 2)<|.xs fj) [.ret<|.U [.xs fj,.bi .tuple [.comp [none,none,some 0] [1] (.i (.l 1)<|.xi 2) []<|.bG (.l 2) jh [.l 1]]]] [],.ite (.m .Eq (.l 2)<|.xs ki) [.ite (.m .Gt (.i (.l 1)<|.xi 3)<|.xi 10000) [.raise 76 (.xs XN)<|.l 3] [],.ret<|.U [.xs ki,.bG (.l 0) jh [.i (.l 1)<|.xi 2],.i (.l 1)<|.xi 3]] [],.ite (.m .Eq (.l 2)<|.xs DV) [.ret<|.U [.xs DV]] [],.ret<|.bG (.l 0) ro []]⟩
def Cn:gI:=⟨9,[0,1,2],[],[.set (.l 4)<|.bi .tuple [.comp [none,none] [1] (.l 2) []<|.i (.l 1)<|.xi 0],.ite (.m .Eq (.bi .len [.l 2])<|.xi 1) [.set (.l 5)<|.bG (.l 0) qu [.l 1,.i (.l 2)<|.xi 0],.ite (.m .IsNot (.l 5)<|.c .none) [.ret<|.l 5] []] [],.for (.l 3) (.slcTo (.l 2)<|.xi (-1)) [.ite (.or [.m .NotEq (.i (.l 3)<|.xi 1)<|.U [],.m .NotEq (.i (.l 3)<|.xi 2)<|.U []]) [.raise 76 (.xs Tu)<|.l 1] []],.ret<|.bG (.l 0) mP [.l 1,.l 4,.i (.l 2)<|.xi (-1)]]⟩
def z6:gI:=⟨9,[0,1,2],[],[.set (.U [.l 3,.l 4,.l 5])<|.l 2,.ite (.and [.m .In (.l 3)<|.attr (.l 0) bq,.m .NotEq (.l 3)<|.xs uj]) [.ret<|.bG (.l 0) pN [.l 1,.l 2,.U [.xs L6,.l 3]]] [],.ite (.and [.m .Eq (.l 3)<|.xs uj,.m .IsNot (.attr (.l 0) iH)<|.c .none]) [.ret<|.bG (.l 0) pN [.l 1,.l 2,.attr (.l 0) iH]] [],.ite (.m .In (.l 3)<|.c<|.U [.str lT,.str gZ,.str g6,.str g7,.str ft,.str fQ,.str g8,.str g9,.str dI]) [.ret<|.bG (.l 0) pN [.l 1,.l 2,.U [.xs pD,.l 3]]] [],.ite (.m .Eq (.l 3)<|.xs eU) [.ret<|.bG (.l 0) pN [.l 1,.l 2,.U [.xs eU]]] [],.ite (.m .NotEq (.l 3)<|.xs cU) [.ret<|.c .none] [],.ite (.or [.m .NotEq (.l 4)<|.U [],.m .NotEq (.bi .len [.l 5])<|.xi 1]) [.raise 76 (.xs Ht)<|.l 1] [],.ret<|.U [.xs pF,.bG (.l 0) jh [.i (.l 5)<|.xi 0]]]⟩
def TW:gI:=⟨5,[0,1,2,3],[],[.ite (.or [.m .NotEq (.i (.l 2)<|.xi 1)<|.U [],.m .NotEq (.i (.l 2)<|.xi 2)<|.U []]) [.raise 76 (.bin .Add (.i (.l 2)<|.xi 0)<|.xs Tv)<|.l 1] [],.ret<|.l 3]⟩
def Fi:gI:=⟨11,[0,1,2,3],[],[.set (.l 4)<|.bG (.attr (.l 0) gG) kO [.attr (.l 0) kP,.l 2,.xs aB,.l 1],.ite (.m .NotIn (.i (.attr (.attr (.l 0) gG) dM)<|.l 4)<|.U [.xs bl,.xs cX]) [.raise 76 (.bin .Add (.l 4)<|.xs v5)<|.l 1] [],.set (.U [.l 5,.l 6])<|.i (.attr (.attr (.l 0) gG) bq)<|.l 4,.ite (.and [.m .NotEq (.i (.l 3)<|.xi 1)<|.U [],.m .NotEq (.bi .len [.i (.l 3)<|.xi 1])<|.bi .len [.l 5]]) [.raise 76 (.bin .Add (.l 4)<|.xs Tx)<|.l 1] [],.ite (.m .NotEq (.bi .len [.i (.l 3)<|.xi 2])<|.bi .len [.l 6]) [.raise 76 (.bin .Add (.l 4)<|.xs Ty)<|.l 1] [],.set (.l 7)<|.ite (.m .NotEq (.i (.l 3)<|.xi 1)<|.U []) (.bi .tuple [.comp [none,none,none,some 1] [1] (.i (.l 3)<|.xi 1) []<|.call 86 [.l 1,.l 3]])<|.bin .Mult (.U [.c .none])<|.bi .len [.l 5],.ret<|.U [.xs kQ,.l 4,.l 7,.bi .tuple [.comp [none,none,some 0] [1] (.i (.l 3)<|.xi 2) []<|.bG (.l 2) jh [.l 1]]]]⟩
def TY:gI:=⟨7,[0,1,2,3,4,5],[.none],[.ret<|.bG (.new 139 [.l 0,.l 1,.l 2,.l 3,.l 5]) jh [.l 4]]⟩
def XY:gI:=⟨8,[0,1,2,3],[],[.ite (.m .NotEq (.comp [none,none] [1] (.slcTo (.l 2)<|.xi (-1)) [.or [.m .NotEq (.i (.l 1)<|.xi 1)<|.U [],.m .NotEq (.i (.l 1)<|.xi 2)<|.U []]]<|.l 1)<|.s []) [.raise 76 (.xs Tu)<|.l 3] [],.ite (.m .NotEq (.i (.i (.l 2)<|.xi (-1))<|.xi 1)<|.U []) [.raise 52 (.xs Tz)<|.l 3] [],.set (.l 4)<|.bG (.l 0) kO [.l 1,.bi .tuple [.comp [none,none] [1] (.l 2) []<|.i (.l 1)<|.xi 0],.xs aB,.l 3],.ite (.m .NotEq (.i (.attr (.l 0) dM)<|.l 4)<|.xs im) [.raise 52 (.bin .Add (.l 4)<|.xs uk)<|.l 3] [],.ret<|.l 4]⟩
def PO:gI:=⟨15,[0,1,2,3],[],[.set (.l 4)<|.s [],.for (.l 5) (.i (.l 2)<|.xi 0) [.ite (.m .Eq (.slcTo (.l 5)<|.xi 2)<|.xs pP) [.raise 52 (.bin .Add (.xs Oy)<|.l 5)<|.l 3] []],.for (.U [.l 6,.l 7]) (.i (.l 2)<|.xi 1) [.ite (.or [.m .In (.l 6)<|.comp [none,none] [1] (.l 4) []<|.i (.l 1)<|.xi 0,.m .In (.l 6)<|.c<|.U [.str lT,.str gZ,.str g6,.str g7,.str ft,.str fQ,.str g8,.str g9,.str dI],.m .In (.l 6)<|.U [.xs uj,.xs eU,.xs cU]]) [.raise 52 (.bin .Add (.bin .Add (.xs nZ)<|.l 6)<|.xs Oz)<|.l 3] [],.set (.l 8)<|.s [],.for (.l 9) (.l 7) [.ite (.or [.m .NotEq (.i (.i (.l 9)<|.xi (-1))<|.xi 1)<|.U [],.m .NotEq (.i (.i (.l 9)<|.xi (-1))<|.xi 2)<|.U []]) [.raise 52 (.xs DW)<|.l 3] [],.set (.l 10)<|.call 156 [.l 0,.l 1,.l 9,.l 3],.ite (.m .NotEq (.i (.i (.attr (.l 0) bq)<|.l 10)<|.xi 1)<|.U []) [.raise 52 (.xs DW)<|.l 3] [],.ex<|.bm (.l 8) .append [.l 10]],.ex<|.bm (.l 4) .append [.U [.l 6,.bi .tuple [.l 8]]]],.ret<|.l 4]⟩
def XZ:gI:=⟨2,[0,1],[],[.ret<|.ite (.m .Eq (.l 0)<|.xs z_) (.l 1)<|.bin .Add (.bin .Add (.l 0)<|.xs so)<|.l 1]⟩
def X0:gI:=⟨2,[0],[],[.set (.l 1)<|.bm (.l 0) .rfind [.xs so],.ret<|.ite (.m .Lt (.l 1)<|.xi 0) (.xs z_)<|.slcTo (.l 0)<|.l 1]⟩
def X1:gI:=⟨2,[0,1],[],[.ret<|.or [.m .Eq (.l 1)<|.xs z_,.m .Eq (.l 0)<|.l 1,.bm (.l 0) .startswith [.bin .Add (.l 1)<|.xs so]]]⟩
def TZ:gI:=⟨4,[0,1,2,3],[],[.set (.attr (.l 0) iT)<|.l 1,.set (.attr (.l 0) jK)<|.l 2,.set (.attr (.l 0) lV)<|.l 3]⟩
def T5:gI:=⟨1,[0],[],[.set (.attr (.l 0) gd)<|.dct [] [],.set (.attr (.l 0) gu)<|.dct [] [],.set (.attr (.l 0) gv)<|.dct [] []]⟩
def PP:gI:=⟨2,[0,1],[],[.ret<|.ite (.m .Eq (.l 1)<|.xs aB) (.attr (.l 0) gd)<|.attr (.l 0) gu]⟩
def T6:gI:=⟨3,[0,1,2],[],[.ret<|.or [.m .In (.l 1)<|.attr (.l 0) gv,.m .NotEq (.comp [none,none,some 1,some 0] [1] (.l 2) [.m .In (.l 2)<|.bG (.l 3) oR [.l 1]]<|.l 1)<|.s []]]⟩
def PQ:gI:=⟨9,[0,1],[],[.set (.attr (.l 0) dM)<|.dct [z_] [.xs bU],.set (.attr (.l 0) dB)<|.dct [z_] [.c<|.bool true],.set (.attr (.l 0) dK)<|.dct [z_] [.new 236 []],.set (.attr (.l 0) bq)<|.dct [] [],.set (.attr (.l 0) kh)<|.dct [] [],.set (.attr (.l 0) ji)<|.dct [] [],.set (.l 2)<|.s [.U [.xs z_,.bi .list [.l 1]]],.whl (.m .NotEq (.l 2)<|.s []) [.set (.U [.l 3,.l 4])<|.bm (.l 2) .pop [],.for (.l 5) (.l 4) [.ite (.m .Eq (.i (.l 5)<|.xi 0)<|.xs bU) [.ex<|.bm (.l 2) .append [.U [.call 172 [.l 3,.i (.l 5)<|.xi 2],.bi .list [.i (.l 5)<|.xi 3]]]] [],.ex<|.bG (.l 0) tE [.l 3,.l 5]]]]⟩
def Fj:gI:=⟨8,[0,1,2],[],[.set (.U [.l 3,.l 4])<|.U [.i (.l 2)<|.xi 0,.i (.l 2)<|.xi 1],.ite (.m .Eq (.l 3)<|.xs sq) [.ex<|.bG (.l 0) nY [.l 1,.l 2]] [.ite (.m .Eq (.l 3)<|.xs bU) [.ex<|.bG (.l 0) mr [.l 1,.i (.l 2)<|.xi 2,.l 3,.U [.xs aB],.i (.l 2)<|.xi 4,.l 4],.set (.sub (.attr (.l 0) dK)<|.call 172 [.l 1,.i (.l 2)<|.xi 2])<|.new 236 []] [.ite (.m .Eq (.l 3)<|.xs bl) [.set (.l 5)<|.ite (.m .Eq (.i (.l 2)<|.xi 4)<|.xs mP) (.U [.xs aB])<|.U [.xs aB,.xs gH],.ex<|.bG (.l 0) gt [.l 1,.l 2,.l 5,.i (.l 2)<|.xi 6]] [.ite (.m .Eq (.l 3)<|.xs cX) [.ex<|.bG (.l 0) gt [.l 1,.l 2,.U [.xs aB],.i (.l 2)<|.xi 5],.ex<|.bG (.l 0) jg [.call 172 [.l 1,.i (.l 2)<|.xi 2],.l 2]] [.ite (.m .Eq (.l 3)<|.xs im) [.ex<|.bG (.l 0) gt [.l 1,.l 2,.U [.xs aB],.i (.l 2)<|.xi 5]] [.ite (.m .In (.l 3)<|.U [.xs iP,.xs DX]) [.ex<|.bG (.l 0) mr [.l 1,.i (.l 2)<|.xi 2,.l 3,.U [.xs gH],.ite (.m .Eq (.l 3)<|.xs iP) (.i (.l 2)<|.xi 8)<|.i (.l 2)<|.xi 5,.l 4],.set (.sub (.attr (.l 0) kh)<|.call 172 [.l 1,.i (.l 2)<|.xi 2])<|.l 2] []]]]]]]⟩
def Md:gI:=⟨13,[0,1,2,3,4,5,6],[],[.set (.U [.l 7,.l 8])<|.U [.i (.attr (.l 0) dK)<|.l 1,.call 172 [.l 1,.l 2]],.ite (.and [.m .In (.xs aB)<|.l 4,.m .In (.l 2)<|.c<|.U [.str lT,.str gZ,.str g6,.str g7,.str ft,.str fQ,.str g8,.str g9,.str dI,.str eU,.str cU]]) [.raise 52 (.bin .Add (.bin .Add (.xs lF)<|.l 2)<|.xs OA)<|.l 6] [],.ite (.or [.bG (.l 7) mO [.l 2,.l 4],.m .In (.l 8)<|.attr (.l 0) dM]) [.raise 52 (.bin .Add (.bin .Add (.xs lF)<|.l 2)<|.xs jj)<|.l 6] [],.for (.l 9) (.l 4) [.set (.sub (.bG (.l 7) oR [.l 9])<|.l 2)<|.l 8],.set (.sub (.attr (.l 0) dM)<|.l 8)<|.l 3,.set (.sub (.attr (.l 0) dB)<|.l 8)<|.l 5]⟩
def PR:gI:=⟨10,[0,1,2,3,4],[],[.ex<|.bG (.l 0) mr [.l 1,.i (.l 2)<|.xi 2,.i (.l 2)<|.xi 0,.l 3,.l 4,.i (.l 2)<|.xi 1],.set (.l 5)<|.call 172 [.l 1,.i (.l 2)<|.xi 2],.set (.U [.l 6,.l 7])<|.i (.l 2)<|.xi 3,.set (.sub (.attr (.l 0) bq)<|.l 5)<|.U [.bi .tuple [.l 6],.bi .tuple [.comp [none,none] [1] (.l 7) []<|.i (.l 1)<|.xi 0]],.set (.sub (.attr (.l 0) kh)<|.l 5)<|.l 2]⟩
def T7:gI:=⟨6,[0,1,2],[],[.for (.l 3) (.i (.l 2)<|.xi 4) [.ite (.m .In (.call 172 [.l 1,.i (.l 3)<|.xi 0])<|.attr (.l 0) dM) [.raise 52 (.bin .Add (.bin .Add (.xs ul)<|.i (.l 3)<|.xi 0)<|.xs jj)<|.i (.l 2)<|.xi 1] [],.set (.sub (.attr (.l 0) dM)<|.call 172 [.l 1,.i (.l 3)<|.xi 0])<|.xs cw]]⟩
def T8:gI:=⟨14,[0,1,2],[],[.set (.U [.l 3,.l 4,.l 5,.l 6])<|.U [.i (.l 2)<|.xi 1,.i (.l 2)<|.xi 2,.i (.l 2)<|.xi 3,.i (.l 2)<|.xi 4],.set (.l 7)<|.ite (.m .Is (.l 5)<|.c .none) (.i (.l 4)<|.xi (-1))<|.l 5,.set (.l 8)<|.i (.attr (.l 0) dK)<|.l 1,.ite (.m .In (.l 7)<|.c<|.U [.str lT,.str gZ,.str g6,.str g7,.str ft,.str fQ,.str g8,.str g9,.str dI,.str eU,.str cU]) [.raise 52 (.bin .Add (.bin .Add (.xs lF)<|.l 7)<|.xs OA)<|.l 3] [],.ite (.or [.m .In (.l 7)<|.c<|.U [.str aQ,.str dJ,.str c9],.bG (.l 8) mO [.l 7,.U [.xs aB,.xs gH]]]) [.raise 52 (.bin .Add (.bin .Add (.xs lF)<|.l 7)<|.xs jj)<|.l 3] [],.set (.sub (.attr (.l 8) gv)<|.l 7)<|.new 203 [.bi .tuple [.l 4],.l 6,.l 3]]⟩
noncomputable def T9:gI:=⟨5,[0,1,2,3],[],[.ret<|.or [.l 3,.call 186 [.l 1,.l 2]]]⟩
def Fk:gI:=⟨6,[0,1,2,3,4],[.int 0],[.set (.attr (.l 0) ji)<|.dct [] [],.ret<|.bG (.l 0) ui [.l 1,.bi .tuple [.l 2],.l 3,.l 4,.s []]]⟩
def PS:gI:=⟨12,[0,1,2,3,4,5],[],[.set (.U [.l 6,.l 7])<|.bG (.l 0) tD [.l 1,.l 2,.l 4],.whl (.m .Lt (.l 7)<|.bi .len [.l 2]) [.set (.l 8)<|.ite (.m .Eq (.bin .Add (.l 7)<|.xi 1)<|.bi .len [.l 2]) (.l 3)<|.xs aB,.set (.l 9)<|.bG (.l 0) mQ [.l 1,.l 6,.i (.l 2)<|.l 7,.l 8,.l 4,.l 5],.ite (.m .Is (.l 9)<|.c .none) [.raise 52 (.bin .Add (.xs Hu)<|.bm (.xs so) .join [.l 2])<|.l 4] [],.set (.U [.l 6,.l 7])<|.U [.l 9,.bin .Add (.l 7)<|.xi 1]],.ite (.or [.m .Is (.l 6)<|.c .none,.and [.m .Eq (.l 3)<|.xs gH,.m .Eq (.i (.attr (.l 0) dM)<|.l 6)<|.xs bU]]) [.raise 52 (.bin .Add (.xs Hu)<|.bm (.xs so) .join [.l 2])<|.l 4] [],.ret<|.l 6]⟩
def Ua:gI:=⟨10,[0,1,2,3],[],[.ite (.m .Eq (.l 2)<|.U []) [.raise 52 (.xs TA)<|.l 3] [],.ite (.m .Eq (.i (.l 2)<|.xi 0)<|.xs aQ) [.ret<|.U [.xs z_,.xi 1]] [],.ite (.m .NotIn (.i (.l 2)<|.xi 0)<|.c<|.U [.str aQ,.str dJ,.str c9]) [.ret<|.U [.c .none,.xi 0]] [],.set (.U [.l 4,.l 5])<|.U [.l 1,.ite (.m .Eq (.i (.l 2)<|.xi 0)<|.xs dJ) (.xi 1)<|.xi 0],.whl (.and [.m .Lt (.l 5)<|.bi .len [.l 2],.m .Eq (.i (.l 2)<|.l 5)<|.xs c9]) [.ite (.m .Eq (.l 4)<|.xs z_) [.raise 52 (.xs TC)<|.l 3] [],.set (.U [.l 4,.l 5])<|.U [.call 179 [.l 4],.bin .Add (.l 5)<|.xi 1]],.ret<|.U [.l 4,.l 5]]⟩
def Uc:gI:=⟨9,[0,1,2,3,4,5,6],[],[.ite (.m .IsNot (.l 2)<|.c .none) [.ret<|.bG (.l 0) pO [.l 1,.l 2,.l 3,.l 4,.l 5,.l 6]] [],.set (.l 7)<|.bG (.l 0) pO [.l 1,.l 1,.l 3,.l 4,.l 5,.l 6],.ite (.and [.m .Is (.l 7)<|.c .none,.m .In (.l 3)<|.c<|.U [.str DU,.str Hl,.str wD,.str Hm,.str Ox,.str Hn,.str To,.str zQ,.str zR,.str zS,.str xX,.str Ho,.str wE]]) [.set (.l 7)<|.bG (.l 0) pO [.l 1,.xs z_,.l 3,.l 4,.l 5,.l 6]] [],.ret<|.l 7]⟩
def Me:gI:=⟨12,[0,1,2,3,4,5,6],[],[.ite (.m .Eq (.i (.attr (.l 0) dM)<|.l 2)<|.xs cX) [.set (.l 7)<|.call 172 [.l 2,.l 3],.ret<|.ite (.m .Eq (.bm (.attr (.l 0) dM) .get [.l 7])<|.xs cw) (.l 7)<|.c .none] [],.ite (.m .NotEq (.i (.attr (.l 0) dM)<|.l 2)<|.xs bU) [.ret<|.c .none] [],.set (.l 8)<|.i (.attr (.l 0) dK)<|.l 2,.set (.l 7)<|.bm (.bG (.l 8) oR [.l 4]) .get [.l 3],.ite (.m .IsNot (.l 7)<|.c .none) [.ite (.not<|.bG (.l 0) mq [.l 1,.l 2,.i (.attr (.l 0) dB)<|.l 7]) [.raise 64 (.bin .Add (.l 7)<|.xs DY)<|.l 5] [],.ret<|.l 7] [],.set (.l 9)<|.bm (.attr (.l 8) gv) .get [.l 3],.ite (.m .Is (.l 9)<|.c .none) [.ret<|.c .none] [],.ite (.not<|.bG (.l 0) mq [.l 1,.l 2,.attr (.l 9) jK]) [.raise 64 (.bin .Add (.bin .Add (.xs v6)<|.l 3)<|.xs DY)<|.l 5] [],.ret<|.bG (.l 0) uh [.l 2,.l 3,.l 9,.l 4,.l 6]]⟩
def X2:gI:=⟨10,[0,1,2,3,4,5],[],[.ite (.m .In (.U [.l 1,.l 2,.l 4])<|.attr (.l 0) ji) [.ret<|.i (.attr (.l 0) ji)<|.U [.l 1,.l 2,.l 4]] [],.ite (.or [.m .In (.U [.l 1,.l 2])<|.l 5,.m .GtE (.bi .len [.l 5])<|.xi 30]) [.raise 52 (.bin .Add (.xs TD)<|.l 2)<|.attr (.l 3) lV] [],.set (.l 6)<|.bG (.l 0) ui [.l 1,.attr (.l 3) iT,.l 4,.attr (.l 3) lV,.bin .Add (.l 5)<|.s [.U [.l 1,.l 2]]],.set (.sub (.attr (.l 0) ji)<|.U [.l 1,.l 2,.l 4])<|.l 6,.ret<|.l 6]⟩
def PT:gI:=⟨7,[0],[],[.for (.l 1) (.bi .sorted [.attr (.l 0) dK]) [.set (.l 2)<|.i (.attr (.l 0) dK)<|.l 1,.for (.l 3) (.bi .sorted [.attr (.l 2) gv]) [.set (.l 4)<|.i (.attr (.l 2) gv)<|.l 3,.ite (.and [.attr (.l 4) jK,.not<|.bG (.l 0) hH [.l 1,.l 4]]) [.raise 64 (.bin .Add (.bin .Add (.xs ya)<|.l 3)<|.xs Hv)<|.attr (.l 4) lV] []]]]⟩
def pV:gI:=⟨9,[0,1,2],[],[.set (.l 3)<|.i (.attr (.l 2) iT)<|.xi (-1),.ite (.m .In (.l 3)<|.c<|.U [.str aQ,.str dJ,.str c9]) [.ret<|.i (.attr (.l 0) dB)<|.bG (.l 0) kO [.l 1,.attr (.l 2) iT,.xs aB,.attr (.l 2) lV]] [],.set (.l 4)<|.ite (.m .Eq (.bi .len [.attr (.l 2) iT])<|.xi 1) (.l 1)<|.bG (.l 0) kO [.l 1,.slcTo (.attr (.l 2) iT)<|.xi (-1),.xs aB,.attr (.l 2) lV],.ite (.m .Eq (.i (.attr (.l 0) dM)<|.l 4)<|.xs cX) [.ret<|.i (.attr (.l 0) dB)<|.l 4] [],.set (.l 5)<|.i (.attr (.l 0) dK)<|.l 4,.set (.l 6)<|.comp [none,none,some 3,some 0] [1] (.U [.attr (.l 5) gd,.attr (.l 5) gu]) [.m .In (.l 2)<|.l 1]<|.i (.attr (.l 3) dB)<|.i (.l 1)<|.l 2,.ite (.m .In (.l 3)<|.attr (.l 5) gv) [.ex<|.bm (.l 6) .append [.attr (.i (.attr (.l 5) gv)<|.l 3) jK]] [],.ret<|.or [.m .Eq (.l 6)<|.s [],.m .In (.c<|.bool true)<|.l 6]]⟩
noncomputable def PU:gI:=⟨8,[0,1],[],[.set (.l 2)<|.ite (.m .Lt (.l 1)<|.bi .len [.l 0]) (.i (.l 0)<|.l 1)<|.xi 0,.set (.l 3)<|.bi .max [.l 2,.bin .Sub (.xi (-1))<|.l 2],.set (.l 4)<|.bin .Mod (.bin .Mult (.bin .Add (.bin .Add (.bin .Add (.bin .Mod (.l 3)<|.xi 2147483629)<|.bin .Mult (.bin .Mult (.xi 7919)<|.l 1)<|.l 1)<|.bin .Mult (.xi 31)<|.l 1)<|.xi 17)<|.xi 48271)<|.xi 2147483647,.ret<|.s [.bin .Mult (.l 3)<|.bi .int [.m .GtE (.l 3)<|.bin .Pow (.xi 10)<|.xi 18],.l 4]]⟩
noncomputable def X3:gI:=⟨3,[0,1],[],[.ite (.m .Gt (.i (.l 0)<|.xi 0)<|.xi 0) [.set (.l 2)<|.bin .Mod (.i (.l 0)<|.xi 0)<|.l 1,.set (.sub (.l 0)<|.xi 0)<|.bin .FloorDiv (.i (.l 0)<|.xi 0)<|.l 1,.ret<|.l 2] [],.set (.sub (.l 0)<|.xi 1)<|.bin .Mod (.bin .Add (.bin .Mult (.i (.l 0)<|.xi 1)<|.xi 39373)<|.xi 7)<|.xi 2147483647,.ret<|.bin .Mod (.bin .FloorDiv (.bin .Mod (.bin .Mult (.i (.l 0)<|.xi 1)<|.i (.l 0)<|.xi 1)<|.xi 2147483629)<|.xi 32)<|.l 1]⟩
noncomputable def X4:gI:=⟨4,[0,1],[],[.ret<|.i (.l 1)<|.call 385 [.l 0,.bi .len [.l 1]]]⟩
def X5:gI:=⟨2,[0,1],[],[.ret<|.ite (.m .Eq (.l 0)<|.xs z_) (.l 1)<|.bin .Add (.bin .Add (.l 0)<|.xs so)<|.l 1]⟩
def PV:gI:=⟨2,[0],[],[.ret<|.ite (.m .NotEq (.l 0)<|.xs z_) (.bi .tuple [.bm (.l 0) .split [.xs so]])<|.U []]⟩
def X6:gI:=⟨3,[0,1],[],[.ret<|.U [.xs iP,.xi 0,.l 0,.c<|.U [.U [],.U []],.c .none,.U [],.c .none,.c .none,.l 1]]⟩
def X7:gI:=⟨2,[0,1],[],[.ret<|.or [.m .Eq (.l 1)<|.xs z_,.m .Eq (.l 0)<|.l 1,.and [.m .Eq (.l 1)<|.xs dG,.m .Eq (.l 0)<|.xs aP]]]⟩
def Mf:gI:=⟨4,[0,1,2],[],[.ret<|.or [.m .NotEq (.l 2)<|.xs aP,.i (.l 0)<|.xs aP,.call 432 [.l 1,.xs dG]]]⟩
def n8:gI:=⟨17,[0,1,2],[],[.set (.U [.l 3,.l 4,.l 5])<|.U [.call 392 [.l 0,.c<|.gl [.str z_,.str dG,.str aP]],.call 385 [.l 0,.xi 8],.call 392 [.l 0,.c<|.gl [.str z_,.str dG,.str aP]]],.set (.U [.l 6,.l 7])<|.U [.bin .Add (.U [.xs aQ])<|.call 411 [.l 5],.call 392 [.l 0,.s [.xs dQ,.xs cx,.xs eD]]],.set (.l 8)<|.call 439 [.l 1,.l 3,.l 5],.ite (.m .Lt (.l 4)<|.xi 2) [.ret<|.s [.l 3,.bin .Add (.l 6)<|.U [.l 7],.and [.l 8,.i (.l 1)<|.call 404 [.l 5,.l 7]]]] [],.ite (.m .Eq (.l 4)<|.xi 2) [.ret<|.s [.l 3,.bin .Add (.l 6)<|.U [.xs eD,.xs PF],.and [.l 8,.i (.l 1)<|.call 404 [.l 5,.xs eD]]]] [],.ite (.m .Eq (.l 4)<|.xi 3) [.ret<|.s [.l 3,.U [.l 7],.i (.l 1)<|.call 404 [.l 3,.l 7]]] [],.ite (.m .Eq (.l 4)<|.xi 4) [.ret<|.s [.l 3,.U [.xs xX],.c<|.bool true]] [],.ite (.and [.m .Eq (.l 4)<|.xi 5,.m .NotEq (.l 2)<|.s []]) [.set (.l 9)<|.call 392 [.l 0,.l 2],.set (.l 10)<|.and [.call 439 [.l 1,.l 3,.i (.l 9)<|.xi 0],.i (.l 9)<|.xi 3],.ret<|.s [.l 3,.bin .Add (.bin .Add (.U [.xs aQ])<|.call 411 [.i (.l 9)<|.xi 0])<|.U [.i (.l 9)<|.xi 2],.l 10]] [],.ite (.and [.m .Eq (.l 4)<|.xi 6,.m .NotEq (.l 3)<|.xs z_]) [.ret<|.s [.l 3,.U [.xs c9],.or [.m .Eq (.l 3)<|.xs dG,.i (.l 1)<|.xs dG]]] [],.ite (.m .Eq (.l 5)<|.xs z_) [.ret<|.ite (.m .Eq (.l 3)<|.xs z_) (.s [.l 3,.call 392 [.l 0,.s [.U [.xs aQ],.U [.xs dJ]]],.c<|.bool true])<|.s [.l 3,.U [.xs aQ],.c<|.bool true]] [],.ret<|.s [.l 3,.l 6,.and [.or [.m .Eq (.l 5)<|.xs dG,.i (.l 1)<|.xs aP],.i (.l 1)<|.l 5]]]⟩
def Fm:gI:=⟨16,[0,1,2],[],[.set (.l 3)<|.s [.call 425 [.xs dQ,.i (.l 1)<|.call 404 [.l 0,.xs dQ]]],.ex<|.bm (.l 3) .append [.U [.xs bl,.xi 0,.xs cx,.c<|.U [.U [],.U []],.xs mR,.U [],.i (.l 1)<|.call 404 [.l 0,.xs cx]]],.ex<|.bm (.l 3) .append [.U [.xs cX,.xi 0,.xs eD,.c<|.U [.U [],.U []],.U [.U [.xs PF,.xs mR,.U []]],.i (.l 1)<|.call 404 [.l 0,.xs eD]]],.set (.l 4)<|.bm (.dct [z_,dG] [.xs dG,.xs BR]) .get [.l 0],.ite (.m .IsNot (.l 4)<|.c .none) [.set (.l 5)<|.call 404 [.l 0,.l 4],.ex<|.bm (.l 3) .append [.U [.xs bU,.xi 0,.l 4,.bi .tuple [.call 453 [.l 5,.l 1,.l 2]],.i (.l 1)<|.l 5]]] [],.for (.U [.l 6,.l 7,.l 8,.l 9,.l 10]) (.l 2) [.ite (.m .Eq (.l 6)<|.l 0) [.ex<|.bm (.l 3) .append [.U [.xs sq,.xi 0,.l 7,.l 8,.l 9]]] []],.ret<|.l 3]⟩
def HB:gI:=⟨15,[0],[],[.set (.U [.l 8,.l 7])<|.U [.dct [] [],.s []],.for (.l 1) (.bin .Add (.s [.xs dG,.xs aP])<|.comp2 [none,none,none,none] [1] (.c<|.gl [.str z_,.str dG,.str aP]) [2] (.s [.xs dQ,.xs cx,.xs eD])<|.call 404 [.l 1,.l 2]) [.set (.sub (.l 8)<|.l 1)<|.m .Gt (.call 385 [.l 0,.xi 3])<|.xi 0],.for (.l 2) (.bi .range [.bin .Add (.xi 1)<|.call 385 [.l 0,.xi 6]]) [.set (.U [.l 3,.l 4,.l 5])<|.call 446 [.l 0,.l 8,.l 7],.ex<|.bm (.l 7) .append [.U [.l 3,.l 4,.bin .Add (.xs WC)<|.bi .str [.l 2],.m .Gt (.call 385 [.l 0,.xi 3])<|.xi 0,.l 5]]],.set (.l 6)<|.ite (.m .NotEq (.comp [none,none] [1] (.l 7) [.and [.i (.l 1)<|.xi 3,.not<|.i (.l 1)<|.xi 4]]<|.l 1)<|.s []) (.xs kR)<|.c .none,.ret<|.m .Eq (.word [some 7,some 8,none,none]<|.bG (.new 367 [.call 453 [.xs z_,.l 1,.l 0]]) Hq [])<|.l 6]⟩
def PX:gI:=⟨12,[0],[],[.set (.U [.l 1,.l 2])<|.U [.call 392 [.l 0,.bin .Add (.c<|.gl [.str lT,.str gZ,.str g6,.str g7,.str ft,.str fQ,.str g8,.str g9,.str dI,.str eU,.str cU])<|.s [.xs yb,.xs Cd]],.call 385 [.l 0,.xi 7]],.set (.l 5)<|.i (.s [.U [.xs bl,.xi 0,.l 1,.c<|.U [.U [],.U []],.xs mP,.U [],.c<|.bool true],.U [.xs cX,.xi 0,.l 1,.c<|.U [.U [],.U []],.U [.U [.xs PF,.xs mR,.U []]],.c<|.bool true],.U [.xs im,.xi 0,.l 1,.c<|.U [.U [],.U []],.U [],.c<|.bool true],.U [.xs bU,.xi 0,.l 1,.U [],.c<|.bool true],.U [.xs sq,.xi 0,.U [.xs aQ,.xs WD],.l 1,.c<|.bool true],.call 425 [.l 1,.c<|.bool true],.U [.xs DX,.xi 0,.l 1,.U [.xs fj,.xi 0,.U []],.U [.xs fj,.xi 0,.U []],.c<|.bool true]])<|.l 2,.set (.l 3)<|.ite (.and [.m .Lt (.l 2)<|.xi 5,.m .In (.l 1)<|.c<|.gl [.str lT,.str gZ,.str g6,.str g7,.str ft,.str fQ,.str g8,.str g9,.str dI,.str eU,.str cU]]) (.xs aH)<|.c .none,.set (.l 4)<|.word [some 5,none,none]<|.new 367 [.s [.call 425 [.xs WD,.c<|.bool true],.l 0]],.ret<|.ite (.m .Eq (.l 3)<|.xs aH) (.m .Eq (.l 4)<|.xs aH)<|.m .NotEq (.l 4)<|.xs aH]⟩
def X8:gI:=⟨12,[0],[],[.set (.l 1)<|.s [.call 425 [.xs dQ,.c<|.bool true],.U [.xs sq,.xi 0,.U [.xs aQ],.xs XO,.c<|.bool true]],.for (.l 2) (.bi .range [.xi 1,.l 0]) [.ex<|.bm (.l 1) .append [.U [.xs sq,.xi 0,.bin .Mult (.U [.bin .Add (.xs dG)<|.bi .str [.bin .Sub (.l 2)<|.xi 1]])<|.xi 2,.bin .Add (.xs dG)<|.bi .str [.l 2],.c<|.bool true]]],.set (.U [.l 6,.l 5])<|.U [.new 367 [.l 1],.bin .Add (.xs dG)<|.bi .str [.bin .Sub (.l 0)<|.xi 1]],.set (.l 3)<|.word [some 5,some 6]<|.bG (.l 1) kO [.xs z_,.U [.l 0],.xs aB],.set (.l 4)<|.s [.l 3,.word [some 5,some 6]<|.bG (.l 1) kO [.xs z_,.U [.l 0,.xs dQ],.xs gH]],.ret<|.m .Eq (.l 4)<|.ite (.m .LtE (.l 0)<|.xi 30) (.s [.xs z_,.xs dQ])<|.s [.xs aH,.xs aH]]⟩
def X9:gI:=⟨3,[],[],[.set (.l 0)<|.s [.U [.xs bl,.xi 0,.xs cx,.c<|.U [.U [],.U []],.xs mR,.U [],.c<|.bool true]],.ex<|.bm (.l 0) .append [.U [.xs bl,.xi 0,.xs ms,.U [.U [.xs fF],.U [.U [.xs lW,.U []]]],.xs mR,.U [],.c<|.bool true]],.set (.l 0)<|.bin .Add (.l 0)<|.s [.U [.xs im,.xi 0,.xs cD,.c<|.U [.U [],.U []],.U [],.c<|.bool true],.U [.xs im,.xi 0,.xs iU,.U [.U [],.U [.U [.xs Hw,.U []]]],.U [],.c<|.bool true]],.ret<|.new 367 [.bin .Add (.l 0)<|.s [.U [.xs bU,.xi 0,.xs un,.U [.U [.xs im,.xi 0,.xs cD,.c<|.U [.U [],.U []],.U [],.c<|.bool true]],.c<|.bool true]]]]⟩
def Ya:gI:=⟨3,[0,1,2],[],[.ret<|.U [.xs lU,.xi 0,.U [.U [.l 0,.l 1,.l 2]]]]⟩
def Ud:gI:=⟨3,[0],[],[.set (.l 1)<|.call 392 [.l 0,.s [.c .none,.xs fF,.xs oS,.xs pP,.xs rp,.xs pP,.xs fF,.xs jL,.xs jM]],.ret<|.s [.l 1,.ite (.m .In (.l 1)<|.s [.xs jL,.xs jM]) (.xs aH)<|.ite (.m .Eq (.l 1)<|.xs pP) (.c .none)<|.l 1]]⟩
def HC:gI:=⟨3,[0],[],[.set (.l 1)<|.comp [none,none,none] [1,2] (.l 0) [.m .In (.l 2)<|.s [.xs aH,.xs aB]]<|.l 2,.ret<|.ite (.m .NotEq (.l 1)<|.s []) (.i (.l 1)<|.xi 0)<|.bi .tuple [.comp [none,none,none] [1,2] (.l 0) []<|.l 2]]⟩
def Fn:gI:=⟨23,[0,1],[],[.set (.l 2)<|.ite (.m .Gt (.l 1)<|.xi 0) (.call 385 [.l 0,.xi 7])<|.call 385 [.l 0,.xi 2],.ite (.m .Eq (.l 2)<|.xi 0) [.ret<|.s [.call 486 [.xs ft,.U [],.U []],.U [.xs pD,.xs ft]]] [],.ite (.m .Eq (.l 2)<|.xi 1) [.ret<|.s [.call 486 [.xs cx,.U [],.U []],.U [.xs kQ,.xs cx,.U [],.U []]]] [],.set (.l 3)<|.call 503 [.l 0,.bin .Sub (.l 1)<|.xi 1],.ite (.m .Eq (.l 2)<|.xi 2) [.set (.U [.l 4,.l 5])<|.U [.call 493 [.l 0],.m .Eq (.call 385 [.l 0,.xi 2])<|.xi 0],.set (.l 6)<|.ite (.m .In (.i (.l 3)<|.xi 1)<|.s [.xs aH,.xs aB]) (.i (.l 3)<|.xi 1)<|.U [.xs qv,.i (.l 4)<|.xi 1,.l 5,.i (.l 3)<|.xi 1],.ret<|.s [.U [.xs qv,.xi 0,.i (.l 4)<|.xi 0,.l 5,.i (.l 3)<|.xi 0],.ite (.m .Eq (.i (.l 4)<|.xi 1)<|.xs aH) (.xs aH)<|.l 6]] [],.ite (.m .Eq (.l 2)<|.xi 3) [.set (.l 7)<|.call 392 [.l 0,.s [.xi 0,.xi 3,.xi 9999,.xi 10000,.xi 10001,.bin .Pow (.xi 2)<|.xi 64]],.set (.l 6)<|.ite (.m .In (.i (.l 3)<|.xi 1)<|.s [.xs aH,.xs aB]) (.i (.l 3)<|.xi 1)<|.U [.xs ki,.i (.l 3)<|.xi 1,.l 7],.ret<|.s [.U [.xs ki,.xi 0,.i (.l 3)<|.xi 0,.l 7],.ite (.m .Gt (.l 7)<|.xi 10000) (.xs aB)<|.l 6]] [],.set (.l 8)<|.bin .Add (.s [.l 3])<|.comp [none,none,none,some 0] [1] (.bi .range [.call 392 [.l 0,.s [.xi 0,.xi 0,.xi 0,.xi 1]]]) []<|.call 503 [.l 3,.xi 0],.set (.l 8)<|.slcFrom (.l 8)<|.call 392 [.l 0,.s [.xi 0,.xi 0,.xi 0,.xi 1]],.set (.l 9)<|.call 498 [.l 8],.ite (.m .Eq (.l 2)<|.xi 4) [.set (.l 6)<|.ite (.m .In (.l 9)<|.s [.xs aH,.xs aB]) (.l 9)<|.U [.xs fj,.l 9],.ret<|.s [.U [.xs fj,.xi 0,.bi .tuple [.comp [none,none] [1] (.l 8) []<|.i (.l 1)<|.xi 0]],.l 6]] [],.set (.l 10)<|.comp [none,none,none,some 0] [1] (.bi .range [.call 392 [.l 0,.s [.xi 0,.xi 1,.xi 1,.xi 2]]]) []<|.call 493 [.l 3],.set (.l 10)<|.comp [none,none] [1] (.l 10) [.m .IsNot (.i (.l 1)<|.xi 0)<|.c .none]<|.l 1,.set (.U [.l 11,.l 12])<|.U [.bi .tuple [.comp [none,none] [1] (.l 10) []<|.i (.l 1)<|.xi 0],.bi .tuple [.comp [none,none] [1] (.l 8) []<|.i (.l 1)<|.xi 0]],.ite (.m .Eq (.l 2)<|.xi 5) [.ite (.or [.m .NotEq (.l 11)<|.U [],.m .NotEq (.bi .len [.l 8])<|.xi 1]) [.ret<|.s [.call 486 [.xs cU,.l 11,.l 12],.xs aB]] [],.ret<|.s [.call 486 [.xs cU,.U [],.l 12],.ite (.m .In (.l 9)<|.s [.xs aH,.xs aB]) (.l 9)<|.U [.xs pF,.i (.l 9)<|.xi 0]]] [],.ite (.or [.m .Gt (.bi .len [.l 11])<|.xi 1,.m .NotEq (.bi .len [.l 8])<|.xi 1]) [.ret<|.s [.call 486 [.xs ms,.l 11,.l 12],.xs aB]] [],.set (.l 13)<|.ite (.m .NotEq (.l 11)<|.U []) (.comp [none,none] [1] (.l 10) []<|.i (.l 1)<|.xi 1)<|.s [.c .none],.ite (.m .Eq (.l 13)<|.s [.xs aH]) [.ret<|.s [.call 486 [.xs ms,.l 11,.l 12],.xs aH]] [],.ret<|.s [.call 486 [.xs ms,.l 11,.l 12],.ite (.m .In (.l 9)<|.s [.xs aH,.xs aB]) (.l 9)<|.U [.xs kQ,.xs ms,.U [.i (.l 13)<|.xi 0],.l 9]]]⟩
def PY:gI:=⟨4,[0],[],[.set (.l 1)<|.call 486 [.xs ft,.U [],.U []],.ret<|.call 392 [.l 0,.s [.s [.U [.U [.xs cD,.U [],.U []]],.xs cD],.s [.U [.U [.xs un,.U [],.U []],.U [.xs cD,.U [],.U []]],.xs fR],.s [.U [.U [.xs aQ,.U [],.U []],.U [.xs cD,.U [],.U []]],.xs cD],.s [.U [.U [.xs cD,.U [],.U []]],.xs cD],.s [.U [.U [.xs iU,.U [],.U []]],.xs aH],.s [.U [.U [.xs iU,.U [],.U [.l 1]]],.xs aH],.s [.U [.U [.xs cD,.U [.xs fF],.U []]],.xs aH],.s [.U [.U [.xs un,.U [],.U [.l 1]],.U [.xs cD,.U [],.U []]],.xs aB],.s [.U [.U [.xs un,.U [.xs fF],.U []],.U [.xs cD,.U [],.U []]],.xs aB],.s [.U [.U [.xs un,.U [],.U [.l 1]],.U [.xs cD,.U [],.U [.l 1]]],.xs aH],.s [.U [.U [.xs cx,.U [],.U []]],.xs aH],.s [.U [.U [.xs sZ,.U [],.U []]],.xs aH],.s [.U [.U [.xs cD,.U [],.U []]],.xs cD]]]]⟩
def Mg:gI:=⟨20,[0,1],[],[.set (.l 11)<|.call 392 [.l 0,.s [.U [],.U [.xs fF],.U [.xs fF,.xs rp],.U [.xs pP],.U [.xs fF,.xs jL],.U [.xs jM]]],.set (.l 2)<|.call 392 [.l 0,.s [.U [.xs lW],.U [.xs lW,.xs Hw],.U [.xs lW,.xs Hw],.U [.xs lW,.xs lW],.U [.xs lW,.xs fQ],.U [.xs cU]]],.set (.U [.l 12,.l 3,.l 4])<|.U [.s [],.s [],.s []],.for (.l 5) (.l 2) [.set (.l 6)<|.comp [none,none,none,some 0] [1] (.bi .range [.call 385 [.l 0,.xi 3]]) []<|.call 510 [.l 3],.ex<|.bm (.l 12) .append [.U [.l 5,.bi .tuple [.comp [none,none] [1] (.l 6) []<|.i (.l 1)<|.xi 0]]],.set (.l 7)<|.call 498 [.l 6],.ex<|.bm (.l 3) .append [.U [.l 5,.l 7]],.set (.l 8)<|.or [.m .In (.l 5)<|.comp [none,none] [1] (.slcTo (.l 3)<|.xi (-1)) []<|.i (.l 1)<|.xi 0,.m .In (.l 5)<|.c<|.gl [.str lT,.str gZ,.str g6,.str g7,.str ft,.str fQ,.str g8,.str g9,.str dI,.str eU,.str cU]],.ex<|.bm (.l 4) .append [.ite (.l 8) (.xs aH)<|.ite (.m .In (.l 7)<|.s [.xs aH,.xs aB]) (.l 7)<|.xs z_]],.set (.l 9)<|.comp [none,none] [1] (.bin .Add (.s [.ite (.m .NotIn (.l 11)<|.s [.U [],.U [.xs fF],.U [.xs fF,.xs rp]]) (.xs aH)<|.xs z_])<|.l 4) [.m .NotEq (.l 1)<|.xs z_]<|.l 1,.set (.l 10)<|.word [some 1,some 11,some 12,none,none]<|.call 161 [.l 0,.xs z_,.U [.l 1,.bi .tuple [.l 2]],.xi 0],.ret<|.m .Eq (.l 10)<|.ite (.m .NotEq (.l 9)<|.s []) (.i (.l 9)<|.xi 0)<|.l 3]⟩
def Yb:gI:=⟨7,[0],[],[.set (.l 1)<|.new 367 [.s [.U [.xs bU,.xi 0,.xs dG,.U [.call 425 [.xs dQ,.c<|.bool false],.U [.xs sq,.xi 0,.U [.xs dJ,.xs dQ],.xs WD,.c<|.bool true]],.c<|.bool true]]],.ite (.or [.m .NotEq (.word [some 1]<|.bG (.l 0) Hq [])<|.xs kR,.m .NotEq (.bG (.l 1) kO [.xs z_,.U [.xs dG,.xs WD],.xs gH])<|.xs L7]) [.ret<|.c<|.bool false] [],.ite (.m .NotEq (.word [some 0,none]<|.call 156 [.l 0,.xs z_,.U [.U [.xs cD,.U [.xs fF],.U []]],.xi 0])<|.xs aH) [.ret<|.c<|.bool false] [],.ret<|.m .Eq (.call 156 [.l 0,.xs z_,.U [.U [.xs un,.U [],.U []],.U [.xs cD,.U [],.U [.call 486 [.xs ft,.U [],.U []]]]],.xi 0])<|.xs fR]⟩
def Ue:gI:=⟨17,[0],[],[.set (.U [.l 1,.l 4])<|.U [.call 378 [.l 0,.xi 0],.call 479 []],.ite (.or [.not<|.call 522 [.l 4],.not<|.call 472 [.xi 30],.not<|.call 472 [.xi 31]]) [.ret<|.c<|.bool false] [],.for (.l 2) (.bi .range [.xi 2]) [.ite (.or [.not<|.call 458 [.l 1],.not<|.call 465 [.l 1]]) [.ret<|.c<|.bool false] [],.set (.U [.l 5,.l 3])<|.call 503 [.l 1,.xi 3],.ite (.m .NotEq (.word [some 4,some 5,none]<|.call 151 [.l 0,.xs z_,.s [.xs lW],.c .none,.l 1])<|.l 3) [.ret<|.c<|.bool false] [],.ite (.not<|.call 515 [.l 1,.l 4]) [.ret<|.c<|.bool false] []],.ret<|.call 472 [.call 392 [.l 1,.s [.xi 1,.xi 2,.xi 9,.xi 28,.xi 29]]]]⟩
inductive BT where
 |leaf (k:Nat) (i:gI)
 |node (k:Nat) (l r:BT)
noncomputable def BT.find:BT->Nat->Option gI
 | .leaf k i,f=>if Nat.beq f k then some i else none
 | .node k l r,f=>if Nat.blt f k then l.find f else r.find f
noncomputable def BT.list:BT->List (Nat × gI)
 | .leaf k i=>[(k,i)]
 | .node _ l r=>l.list++r.list
theorem BT.HD:∀{t:BT} {f:Nat} {i:gI},t.find f=some i->(f,i)∈t.list:=by
 intro t
 induction t with
 |leaf k j=>
  intro f i h;have h:(if Nat.beq f k=true then some j else none)=some i:=h;by_cases q:Nat.beq f k=true
  ·rw[if_pos q] at h;cases h;rw[Nat.eq_of_beq_eq_true q];exact .head _
  ·rw[if_neg q] at h;cases h
 |node k l r ihl Ld=>
  intro f i h;have h:(if Nat.blt f k=true then l.find f else r.find f)=some i:=h;by_cases q:Nat.blt f k=true
  ·rw[if_pos q] at h;exact jF _<|ihl h
  ·rw[if_neg q] at h;exact kH _<|Ld h
def HE:BT:=.node 323 (.node 200 (.node 136 (.node 117 (.node 100 (.leaf 86 f86)<|.node 105 (.leaf 100 PN)<|.leaf 105 Cm)<|.node 124 (.leaf 117 Cn)<|.node 131 (.leaf 124 z6)<|.leaf 131 TW)<|.node 161 (.node 151 (.leaf 136 Fi)<|.node 156 (.leaf 151 TY)<|.leaf 156 XY)<|.node 179 (.node 172 (.leaf 161 PO)<|.leaf 172 XZ)<|.node 186 (.leaf 179 X0)<|.leaf 186 X1)<|.node 273 (.node 233 (.node 221 (.leaf 200 TZ)<|.node 228 (.leaf 221 T5)<|.leaf 228 PP)<|.node 261 (.node 254 (.leaf 233 T6)<|.leaf 254 PQ)<|.node 268 (.leaf 261 Fj)<|.leaf 268 Md)<|.node 294 (.node 280 (.leaf 273 PR)<|.node 287 (.leaf 280 T7)<|.leaf 287 T8)<|.node 309 (.node 302 (.leaf 294 T9)<|.leaf 302 Fk)<|.node 316 (.leaf 309 PS)<|.leaf 316 Ua)<|.node 446 (.node 385 (.node 359 (.node 330 (.leaf 323 Uc)<|.node 337 (.leaf 330 Me)<|.leaf 337 X2)<|.node 364 (.leaf 359 PT)<|.node 378 (.leaf 364 pV)<|.leaf 378 PU)<|.node 411 (.node 392 (.leaf 385 X3)<|.node 404 (.leaf 392 X4)<|.leaf 404 X5)<|.node 432 (.node 425 (.leaf 411 PV)<|.leaf 425 X6)<|.node 439 (.leaf 432 X7)<|.leaf 439 Mf)<|.node 493 (.node 465 (.node 453 (.leaf 446 n8)<|.node 458 (.leaf 453 Fm)<|.leaf 458 HB)<|.node 479 (.node 472 (.leaf 465 PX)<|.leaf 472 X8)<|.node 486 (.leaf 479 X9)<|.leaf 486 Ya)<|.node 510 (.node 498 (.leaf 493 Ud)<|.node 503 (.leaf 498 HC)<|.leaf 503 Fn)<|.node 522 (.node 515 (.leaf 510 PY)<|.leaf 515 Mg)<|.node 529 (.leaf 522 Yb)<|.leaf 529 Ue
noncomputable def tx:Text:=⟨HE.find,400⟩
section
noncomputable abbrev Led:=List<|Addr × Obj
noncomputable abbrev mT (x y:Int)(t u v:Tok):Obj:={cls:=.type "range",dict:=none,data:=.fields #[.int x t,.int y u,.int 1 v],slots:=#[]}
def jA (q:Str)(o:Obj):Prop:=∃vs t,o.data=.fields vs/\vs[1]?=some (.str q t)
def wa (o:Obj):Prop:=∃ps,o=tabObj ps/\TriplesOk ps.toList
variable {o:Obj}
theorem z7 {q:Str}(h:jA q o):¬wa o:=λ⟨ps,e,ht⟩=>by
 refine gm h λvs t h1 h2=>?_;rw[e] at h1;have h3:ps.toList[1]?=some (.str q t):=by rw[Array.getElem?_toList,show ps=vs from Data.fields.inj h1];exact h2
 revert h3;generalize ps.toList=l at ht
 fun_induction TriplesOk l with
 |case1=>exact λh=>nomatch h
 |case2=>exact λh=>nomatch h
 |case3=>exact ht.elim
theorem qB (h:wa o):o.cls=.none:=by obtain⟨ps,e,_⟩:=h;rw[e]
theorem qC (h:wa o):∃ps,o.data=.fields ps:=by obtain⟨ps,e,_⟩:=h;rw[e];exact⟨_,rfl⟩
noncomputable def hM:List Nat:=[458,465,472,515,522,529]
noncomputable def tabOf (K:Frag)(f:Nat):Option (Addr × Str):=match K.lookup f with
 |some ⟨_,_,.func fd,_⟩=>(match fd.code with
  | .ref c=>(match K.lookup c with
   |some ⟨_,_,.fields vs,_⟩=>(match (vs[11]?:Option Value) with
    |some (.ref P)=>some (P,fd.qualname++".<locals>."++"<lambda>")
    |_=>none)
   |_=>none)
  |_=>none)
 |_=>none
def gT (K:Frag):List (Addr × Str):=hM.filterMap<|tabOf K
def TabsOk (ρ:List Addr)(Z:Led):Prop:=∀t∈gT K,∃ps,(t.1,tabObj ps)∈Z/\t.1∉ρ/\TriplesOk ps.toList/\
 ∀pos cv,codeAmong pos ps.toList=some cv->∃c oc,cv=.ref c/\(c,oc)∈Z/\c∉ρ/\jA t.2 oc
theorem TabsOk.mono {ρ bR:List Addr}{Z Z':Led}(h:TabsOk ρ Z)(f:∀a o,(a,o)∈Z->a∉ρ->(wa o∨∃q,jA q o)->(a,o)∈Z'/\a∉bR):TabsOk bR Z':=λt ht=>by
 refine uc (h t ht) λps h1 h2 h3 h4=>cN (f _ _ h1 h2<|.inl ⟨ps,rfl,h3⟩) λk1 k2=>nV ps k1 k2 h3 λpos cv e=>?_;exact sU (h4 pos cv e) λc oc e1 e2 e3 e4=>cN (f _ _ e2 e3<|.inr ⟨_,e4⟩) λk3 k4=>BW c oc e1 k3 k4 e4
def Co (o:Obj):Prop:=(∀x y t u v,o≠mT x y t u v)/\¬wa o/\∀q,¬jA q o
theorem n9 (h:∀vs,o.data≠.fields vs):Co o:=
 ⟨(λM M M M M e=>h _<|by rw[e]),(λt=>by obtain⟨ps,e⟩:=qC t;exact h _ e),λM ⟨_,_,e,_⟩=>h _ e⟩
theorem gJ {Z:Led}{d:Addr}{o':Obj}(hn:(Z.map (·.1)).Nodup)(h1:(d,o)∈Z)(h2:(d,o')∈Z):o=o':=by
 refine aM (jb h1) λi hi=>aM (jb h2) λj hj=>?_;have e1:(Z.map (·.1))[i]?=some d:=by rw[fP,hi];rfl
 have e2:(Z.map (·.1))[j]?=some d:=by rw[fP,hj];rfl
 have E3:=(ub (bM.mp e1).1 hn).mp<|e1.trans e2.symm
 rw[E3,hj] at hi;cases hi;rfl
theorem Cq {Z:Led}{d a:Addr}{o':Obj}(hn:(Z.map (·.1)).Nodup)(hm:(d,o)∈Z)(nr:Co o)(h:(a,o')∈Z)(k:wa o'∨∃q,jA q o'):a≠d:=λe=>by
 subst e;have:=gJ hn h hm;subst this;refine aY k (λk=>?_) λUf=>?_
 ·exact nr.2.1 k
 ·exact aM Uf λq k=>nr.2.2 q k
def SB (Z:Led)(a:Addr)(o:Obj):Prop:=(a,o)∈Z∨K.lookup a=some o
mutual
inductive bF (ρ:List Addr)(Z:Led):Value->V->Prop
 |none:bF ρ Z .none .none
 |bool (b:Bool):bF ρ Z (.bool b) (.bool b)
 |int (i:Int) (t:Tok):bF ρ Z (.int i t) (.int i)
 |str (s:Str) (t:Tok):bF ρ Z (.str s t) (.str s)
 |U {a:Addr} {o:Obj} {vs:Array Value} {n:Nat} {l:aG}:SB Z a o->a∉ρ->o.cls=.type "tuple"->o.data=.seq vs n->cf ρ Z vs.toList l->bF ρ Z (.ref a) (.U l)
 |gl {a:Addr} {o:Obj} {vs:Array Value} {n:Nat} {l:aG}:K.lookup a=some o->o.cls=.type "list"->o.data=.seq vs n->cf ρ Z vs.toList l->bF ρ Z (.ref a) (.gl l)
 |rng {a:Addr} {x y:Int} {t u v:Tok}:(a,mT x y t u v)∈Z->a∉ρ->bF ρ Z (.ref a) (.rng x y)
 |ref {i:Nat} {a:Addr}:ρ[i]?=some a->bF ρ Z (.ref a) (.ref i)
inductive cf (ρ:List Addr)(Z:Led):List Value->List V->Prop
 |nil:cf ρ Z [] []
 |cons {v:Value} {x:V} {vs:List Value} {l:aG}:bF ρ Z v x->cf ρ Z vs l->cf ρ Z (v::vs) (x::l)
end
inductive jW {α:Type}(ρ:List Addr)(Z:Led):List (α × Value)->List (α × V)->Prop
 |nil:jW ρ Z [] []
 |cons {k:α} {v:Value} {x:V} {r:List (α × Value)} {t:List (α × V)}:bF ρ Z v x->jW ρ Z r t->jW ρ Z ((k,v)::r) ((k,x)::t)
def og (ρ:List Addr)(Z:Led)(ks:cY)(a:Addr):Prop:=bF ρ Z (.ref a)<|.U<|ks.map .str
structure OwnCls (K:Frag)(C:Addr):Prop where
 get:∀nm,plainGet K C nm=true
 hasDict:hasDictIn K C=true
 set:findIn K (.ref C) "__setattr__"=some (some (.builtin "object.__setattr__"))
 plain:plainOver K C=true
 eq:findIn K (.ref C) "__eq__"=some (some (.builtin "object.__eq__"))
 ne:findIn K (.ref C) "__ne__"=some (some (.builtin "object.__ne__"))
 sub:subIn K (.type "str") (.ref C)=some false
 obj:subIn K (.ref C) (.type "object")=some true
inductive LsOk (ρ:List Addr)(Z:Led)(l:aG)(o:Obj):Prop
 |mk (vs:Array Value) (n:Nat) (e:o=listOf vs n) (i:cf ρ Z vs.toList l)
inductive Yc (ρ:List Addr)(Z:Led)(l:ii)(o:Obj):Prop
 |mk (kvs:List (Str × Value)) (h:o.IsDictOf (strKind prog w) kvs) (i:jW ρ Z kvs l)
inductive Yd (ρ:List Addr)(Z:Led)(l:List (cY × V))(o:Obj):Prop
 |mk (xs:List (cY × Addr × Value)) (es:Array DictEntry) (ep:Nat) (h1:o.ExactDict) (h2:o.data=.dict es ep) (h3:es.toList=xs.map (entryOfKey (tupleKind (strKind prog w)))) (h4:(xs.map (·.1)).Nodup) (h5:∀x∈xs,og ρ Z x.1 x.2.1) (h6:jW ρ Z (xs.map λx=>(x.1,x.2.2)) l)
inductive Ye (ρ:List Addr)(C d:Nat)(o:Obj):Prop
 |mk (ad:Addr) (h:ρ[d]?=some ad) (e:o=instObj C ad) (ck:OwnCls K C)
inductive Yf (ρ:List Addr)(Z:Led)(l:ii)(k:Str)(o:Obj):Prop
 |mk (u:Value) (kvs:List (Str × Value)) (h:o.IsDictOf (strKind prog w) (kvs++[(k,u)])) (i:jW ρ Z kvs l)
def cR (ρ:List Addr)(Z:Led)(c:Cell)(o:Obj):Prop:=match c with
 | .list l=>LsOk ρ Z l o
 | .dict l=>Yc ρ Z l o
 | .dictT l=>Yd ρ Z l o
 | .inst C d=>Ye ρ C d o
 | .dictX l k=>Yf ρ Z l k o
structure Rep (ρ:List Addr)(Z:Led)(Y:af):Prop where
 len:ρ.length=Y.length
 nd:ρ.Nodup
 ndZ:(Z.map (·.1)).Nodup
 apart:∀a∈ρ,K.lookup a=none
 big:∀a∈ρ,(a==sysModules)=false
 cell:∀(i:Nat) (a:Addr),ρ[i]?=some a->∃c o,Y[i]?=some c/\(a,o)∈Z/\cR ρ Z c o
 tabs:TabsOk ρ Z
structure Ext (cs:List Addr)(ρ:List Addr)(Z:Led)(bR:List Addr)(Z':Led):Prop where
 pre:∀(i:Nat) (a:Addr),ρ[i]?=some a->bR[i]?=some a
 keep:∀p∈Z,p.1∉ρ->p.1∉cs->¬wa p.2->p∈Z'
 adr:∀a∈Z.map (·.1),a∈Z'.map (·.1)
 new:∀a∈bR,a∈ρ∨a∉Z.map (·.1)
theorem bn {α:Type}{l:List α}{i:Nat}{a:α}(h:l[i]?=some a):a∈l:=fN h
section
variable {cs ρ bR wb:List Addr} {Z Z' Z'':Led} {Y:af}
theorem Ext.refl:Ext cs ρ Z ρ Z:=⟨λM M h=>h,λM h M M M=>h,λM h=>h,λM h=>.inl h⟩
theorem Ext.trans (e:Ext cs ρ Z bR Z')(f:Ext cs bR Z' wb Z''):Ext cs ρ Z wb Z'' where
 pre:=λi a h=>f.pre i a<|e.pre i a h
 keep:=λp hp hn hc ht=>f.keep p (e.keep p hp hn hc ht) (λh=>(e.new _ h).elim hn λh=>h<|cB hp) hc ht
 adr:=λa h=>f.adr a<|e.adr a h
 new:=λa ha=>by
  refine aY (f.new a ha) (λh=>?_) λh=>?_
  ·exact e.new a h
  ·exact .inr λhz=>h<|e.adr a hz
theorem Ext.weaken {cs':List Addr}(e:Ext cs ρ Z bR Z')(h:∀a∈cs,a∈cs'):Ext cs' ρ Z bR Z':=⟨e.pre,λp hp hn hc ht=>e.keep p hp hn (λx=>hc<|h _ x) ht,e.adr,e.new⟩
variable {a:Addr}
theorem Ext.old (e:Ext cs ρ Z bR Z')(hz:a∈Z.map (·.1))(hn:a∉ρ):a∉bR:=λh=>(e.new a h).elim hn λx=>x hz
def oh (cs:List Addr)(Z:Led):Prop:=∀p∈Z,p.1∈cs->(p.2.cls=.type "tuple"->∀vs n,p.2.data≠.seq vs n)/\∀x y t u v,p.2≠mT x y t u v
variable {u:Value}
theorem bF.wF (h:bF ρ Z u .none):u=.none:=by cases h;rfl
theorem bF.z8 {b:Bool}(h:bF ρ Z u (.bool b)):u=.bool b:=by cases h;rfl
@[elab_as_elim] theorem bF.ta {C:Value->Prop}{u:Value}{i:Int}(h:bF ρ Z u (.int i))(f:∀t,C<|.int i t):C u:=by cases h;exact f _
@[elab_as_elim] theorem bF.pW {C:Value->Prop}{u:Value}{s:Str}(h:bF ρ Z u (.str s))(f:∀t,C<|.str s t):C u:=by cases h;exact f _
@[elab_as_elim] theorem bF.Mh {C:Value->Prop}{u:Value}{l:aG}(h:bF ρ Z u (.U l))(f:∀{a:Addr} {o:Obj} {vs:Array Value} {n:Nat},SB Z a o->a∉ρ->o.cls=.type "tuple"->o.data=.seq vs n->cf ρ Z vs.toList l->C (.ref a)):C u:=by
 cases h with | U h1 h2 h3 h4 h5=>exact f h1 h2 h3 h4 h5
@[elab_as_elim] theorem bF.Yg {C:Value->Prop}{u:Value}{l:aG}(h:bF ρ Z u (.gl l))(f:∀{a:Addr} {o:Obj} {vs:Array Value} {n:Nat},K.lookup a=some o->o.cls=.type "list"->o.data=.seq vs n->cf ρ Z vs.toList l->C (.ref a)):C u:=by
 cases h with | gl h1 h3 h4 h5=>exact f h1 h3 h4 h5
@[elab_as_elim] theorem bF.Ug {C:Value->Prop}{u:Value}{x y:Int}(h:bF ρ Z u (.rng x y))(f:∀{a:Addr} {t u v:Tok},(a,mT x y t u v)∈Z->a∉ρ->C (.ref a)):C u:=by
 cases h with | rng h1 h2=>exact f h1 h2
@[elab_as_elim] theorem bF.PZ {C:Value->Prop}{u:Value}{i:Nat}(h:bF ρ Z u (.ref i))(f:∀{a:Addr},ρ[i]?=some a->C (.ref a)):C u:=by
 cases h with | ref h1=>exact f h1
theorem cf.jO {us:List Value}(h:cf ρ Z us []):us=[]:=by cases h;rfl
@[elab_as_elim] theorem cf.ej {C:List Value->Prop}{us:List Value}{x:V}{l:aG}(h:cf ρ Z us (x::l))(f:∀{u:Value} {r:List Value},bF ρ Z u x->cf ρ Z r l->C (u::r)):C us:=by
 cases h with | cons h1 h2=>exact f h1 h2
theorem jW.jO {α:Type}{us:List (α × Value)}(h:jW ρ Z us []):us=[]:=by cases h;rfl
@[elab_as_elim] theorem jW.ej {α:Type}{C:List (α × Value)->Prop}{us:List (α × Value)}{p:α × V}{l:List (α × V)}(h:jW ρ Z us (p::l))(f:∀{u:Value} {r:List (α × Value)},bF ρ Z u p.2->jW ρ Z r l->C ((p.1,u)::r)):C us:=by
 cases h with | cons h1 h2=>exact f h1 h2
variable {x:V}
theorem bF.map (ht:∀a o vs n,SB Z a o->a∉ρ->o.cls=.type "tuple"->o.data=.seq vs n->SB Z' a o/\a∉bR)(hr:∀a x y t u v,(a,mT x y t u v)∈Z->a∉ρ->(a,mT x y t u v)∈Z'/\a∉bR)(hf:∀(i:Nat) (a:Addr),ρ[i]?=some a->bR[i]?=some a)(h:bF ρ Z u x):bF bR Z' u x:=
 bF.rec (motive_1:=λu x M=>bF bR Z' u x) (motive_2:=λus l M=>cf bR Z' us l) .none .bool .int .str (λh1 h2 h3 h4 M ih=>.U (ht _ _ _ _ h1 h2 h3 h4).1 (ht _ _ _ _ h1 h2 h3 h4).2 h3 h4 ih) (λh1 h3 h4 M ih=>.gl h1 h3 h4 ih) (λh1 h2=>.rng (hr _ _ _ _ _ _ h1 h2).1 (hr _ _ _ _ _ _ h1 h2).2) (λh=>.ref<|hf _ _ h) .nil (λM M i j=>.cons i j) h
theorem cf.mono {bR:List Addr}{Z':Led}(f:∀v x,bF ρ Z v x->bF bR Z' v x){vs:List Value}{l:aG}(h:cf ρ Z vs l):cf bR Z' vs l:=
 cf.rec (motive_1:=λM M M=>True) (motive_2:=λus l M=>cf bR Z' us l) trivial (λM=>trivial) (λM M=>trivial) (λM M=>trivial) (λM M M M M M=>trivial) (λM M M M M=>trivial) (λM M=>trivial) (λM=>trivial) .nil (λi M M j=>.cons (f _ _ i) j) h
theorem jW.mono {α:Type}{bR:List Addr}{Z':Led}(f:∀v x,bF ρ Z v x->bF bR Z' v x){r:List (α × Value)}{t:List (α × V)}(h:jW ρ Z r t):jW bR Z' r t:=
 jW.rec (motive:=λr t M=>jW bR Z' r t) .nil (λi M j=>.cons (f _ _ i) j) h
theorem bF.ext (e:Ext cs ρ Z bR Z')(hc:oh cs Z)(hK:∀a∈bR,K.lookup a=Option.none){v:Value}(h:bF ρ Z v x):bF bR Z' v x:=
 h.map (λa o vs n h hn zp hd=>⟨h.imp (λh=>e.keep _ h hn (λhm=>(hc _ h hm).1 zp _ _ hd) (λt=>by rw[qB t] at zp;cases zp)) id,h.elim (λh=>e.old (cB h) hn) λh hm=>by rw[hK _ hm] at h;cases h⟩)
  (λM M M M M M h hn=>⟨e.keep _ h hn (λhm=>(hc _ h hm).2 _ _ _ _ _ rfl) (λt=>nomatch qB t),e.old (cB h) hn⟩) e.pre
theorem cf.ext (e:Ext cs ρ Z bR Z')(hc:oh cs Z)(hK:∀a∈bR,K.lookup a=Option.none){vs:List Value}{l:aG}(h:cf ρ Z vs l):cf bR Z' vs l:=h.mono λM M h=>h.ext e hc hK
theorem jW.ext {α:Type}(e:Ext cs ρ Z bR Z')(hc:oh cs Z)(hK:∀a∈bR,K.lookup a=Option.none){r:List (α × Value)}{t:List (α × V)}(h:jW ρ Z r t):jW bR Z' r t:=h.mono λM M h=>h.ext e hc hK
variable {c:Cell} {o:Obj}
theorem cR.mono {bR:List Addr}{Z':Led}(f:∀v x,bF ρ Z v x->bF bR Z' v x)(g:∀(i:Nat) (a:Addr),ρ[i]?=some a->bR[i]?=some a)(h:cR ρ Z c o):cR bR Z' c o:=by
 cases c with
 |list l=>obtain⟨vs,n,h2,h3⟩:=h;exact⟨vs,n,h2,h3.mono f⟩
 |dict l=>obtain⟨kvs,h1,h2⟩:=h;exact⟨kvs,h1,h2.mono f⟩
 |dictT l=>obtain⟨xs,es,ep,h1,h2,h3,h4,h5,h6⟩:=h;exact⟨xs,es,ep,h1,h2,h3,h4,λx hx=>f _ _<|h5 x hx,h6.mono f⟩
 |inst C d=>obtain⟨ad,h1,h2,h3⟩:=h;exact⟨ad,g _ _ h1,h2,h3⟩
 |dictX l k=>obtain⟨v,kvs,h1,h2⟩:=h;exact⟨v,kvs,h1,h2.mono f⟩
theorem cR.ext (e:Ext cs ρ Z bR Z')(hc:oh cs Z)(hK:∀a∈bR,K.lookup a=none)(h:cR ρ Z c o):cR bR Z' c o:=h.mono (λM M h=>h.ext e hc hK) e.pre
theorem Ext.hide (hf:a∉Z.map (·.1))(R:Rep ρ Z Y):Ext [] ρ Z ρ ((a,o)::Z):=
 ⟨λM M h=>h,λM h M M M=>.tail _ h,λM h=>.tail _ h,λM h=>.inl h⟩
theorem bI:oh [] Z:=λM M h=>nomatch h
theorem Rep.hide (R:Rep ρ Z Y)(hf:a∉Z.map (·.1)):Rep ρ ((a,o)::Z) Y where
 len:=R.len
 nd:=R.nd
 ndZ:=gY.mpr ⟨hf,R.ndZ⟩
 apart:=R.apart
 big:=R.big
 tabs:=R.tabs.mono λa o h hn M=>⟨.tail _ h,hn⟩
 cell:=λi b hb=>by
  exact cZ (R.cell i b hb) λc o' h1 h2 h3=>eT c o' h1 (.tail _ h2)<|h3.ext (Ext.hide hf R) bI R.apart
theorem Rep.mv (R:Rep ρ Z Y)(hf:a∉Z.map (·.1)):a∉ρ:=λh=>by
 exact aM (jb h) λi hi=>cZ (R.cell i a hi) λc o M h2 M=>hf<|cB h2
theorem Ext.push (R:Rep ρ Z Y)(hf:a∉Z.map (·.1)):Ext [] ρ Z (ρ++[a]) ((a,o)::Z) where
 pre:=λi b h=>by rw[iE (bM.mp h).1];exact h
 keep:=λM h M M M=>.tail _ h
 adr:=λM h=>.tail _ h
 new:=λb h=>by
  refine aY (fb.mp h) (λh=>?_) λh=>?_
  ·exact .inl h
  ·rw[cK.mp h];exact .inr hf
theorem Rep.push (R:Rep ρ Z Y)(hf:a∉Z.map (·.1))(hK:K.lookup a=none)(hb:(a==sysModules)=false)(hc:cR (ρ++[a]) ((a,o)::Z) c o):Rep (ρ++[a]) ((a,o)::Z) (Y++[c]) where
 len:=by rw[b0,b0,R.len];rfl
 nd:=r9.mpr ⟨R.nd,by simp,λb hb c hc e=>by rw[cK.mp hc] at e;exact R.mv hf (e▸hb)⟩
 ndZ:=gY.mpr ⟨hf,R.ndZ⟩
 apart:=λb hb=>by
  refine aY (fb.mp hb) (λh=>?_) λh=>?_
  ·exact R.apart b h
  ·rw[cK.mp h];exact hK
 big:=λb BK=>by
  refine aY (fb.mp BK) (λh=>?_) λh=>?_
  ·exact R.big b h
  ·rw[cK.mp h];exact hb
 tabs:=R.tabs.mono λb o h hn M=>⟨.tail _ h,λq=>by
  refine aY (fb.mp q) (λq=>?_) λq=>?_
  ·exact hn q
  ·rw[cK.mp q] at h;exact hf<|cB h⟩
 cell:=λi b hb=>by
  by_cases hi:i<ρ.length
  ·rw[iE hi] at hb;refine cZ (R.cell i b hb) λc o' h1 h2 h3=>eT c o' ?_ (.tail _ h2)<|h3.ext (Ext.push R hf) bI λb hb=>?_
   ·rw[iE (R.len▸hi)];exact h1
   ·refine aY (fb.mp hb) (λh=>?_) λh=>?_
    ·exact R.apart b h
    ·rw[cK.mp h];exact hK
  ·rw[j9<|Nat.not_lt.mp hi] at hb;have h0:i - ρ.length=0:=by
    cases q:i - ρ.length with
    |zero=>rfl
    |succ n=>rw[q] at hb;cases hb
   rw[h0] at hb;cases hb;refine eT c o ?_ (.head _) hc;rw[j9<|R.len▸Nat.not_lt.mp hi,<-R.len,h0];rfl
noncomputable def gw (Z:Led)(a:Addr)(o:Obj):Led:=Z.map λp=>if p.1=a then (a,o) else p
theorem iJ (Z:Led)(a:Addr)(o:Obj):(gw Z a o).map (·.1)=Z.map (·.1):=by
 unfold gw;rw[List.map_map];refine t8 λp M=>?_;simp only[Function.comp];split
 ·next h=>exact h.symm
 ·rfl
theorem Ext.put (ha:a∈ρ):Ext [] ρ Z ρ (gw Z a o) where
 pre:=λM M h=>h
 keep:=λp hp hn M M=>bT.mpr ⟨p,hp,by rw[if_neg];intro e;exact hn (by rw[e];exact ha)⟩
 adr:=λb h=>by rw[iJ];exact h
 new:=λM h=>.inl h
theorem Rep.put {i:Nat}(R:Rep ρ Z Y)(hi:ρ[i]?=some a)(hc:cR ρ (gw Z a o) c o):Rep ρ (gw Z a o) (Y.set i c) where
 len:=by rw[qp];exact R.len
 nd:=R.nd
 ndZ:=by rw[iJ];exact R.ndZ
 apart:=R.apart
 big:=R.big
 tabs:=R.tabs.mono λb o h hn M=>⟨bT.mpr ⟨_,h,if_neg λe=>hn (by rw[show b=a from e];exact bn hi)⟩,hn⟩
 cell:=λj b hb=>by
  by_cases hj:i=j
  ·subst hj;rw[hi] at hb;cases hb;refine cZ (R.cell i a hi) λc' o' h1 h2 M=>eT c o ?_ (bT.mpr ⟨_,h2,by simp⟩) hc;rw[tZ (bM.mp h1).1]
  ·refine cZ (R.cell j b hb) λc' o' h1 h2 h3=>?_;have dS:b≠a:=λe=>hj (by
    subst e;have hl:=(bM.mp hi).1;exact(ub hl R.nd).mp (hi.trans hb.symm))
   refine eT c' o' ?_ (bT.mpr ⟨_,h2,by simp[dS]⟩)<|h3.ext (Ext.put<|bn hi) bI R.apart
   rw[eA hj];exact h1
theorem Rep.P0 {i:Nat}{c':Cell}(R:Rep ρ Z Y)(h:Y[i]?=some c)(f:∀o,cR ρ Z c o->cR ρ Z c' o):Rep ρ Z (Y.set i c') where
 len:=by rw[qp];exact R.len
 nd:=R.nd
 ndZ:=R.ndZ
 apart:=R.apart
 big:=R.big
 tabs:=R.tabs
 cell:=λj b hb=>by
  refine cZ (R.cell j b hb) λc₁ o h1 h2 h3=>?_;by_cases hj:i=j
  ·subst hj;rw[h] at h1;cases h1;exact eT c' o (by rw[tZ (bM.mp h).1]) h2<|f o h3
  ·exact eT c₁ o (by rw[eA hj];exact h1) h2 h3
theorem HF:∀{r:Led},(∀p∈r,p.1≠a)->gw r a o=r:=by
 intro r h;unfold gw
 conv=>rhs;rw[<-List.map_id r]
 refine t8 λp hp=>?_;rw[if_neg<|h p hp];rfl
variable {d:Addr} {o':Obj}
theorem Ext.swap:Ext [d] ρ Z ρ (gw Z d o') where
 pre:=λM M h=>h
 keep:=λp hp M hc M=>bT.mpr ⟨p,hp,by rw[if_neg];intro e;exact hc (by rw[e];exact .head _)⟩
 adr:=λb h=>by rw[iJ];exact h
 new:=λM h=>.inl h
theorem gy (hn:(Z.map (·.1)).Nodup)(hm:(d,o)∈Z)(no:o.cls=.type "tuple"->∀vs n,o.data≠.seq vs n)(nr:Co o):oh [d] Z:=λp hp hd=>by
 have e:p.1=d:=by simpa using hd
 have:p=(d,o):=by
  refine aM (jb hp) λi hi=>aM (jb hm) λj hj=>?_;have h1:(Z.map (·.1))[i]?=some d:=by rw[fP,hi,<-e];rfl
  have h2:(Z.map (·.1))[j]?=some d:=by rw[fP,hj];rfl
  have E3:=(ub (bM.mp h1).1 hn).mp<|h1.trans h2.symm
  rw[E3,hj] at hi;cases hi;rfl
 subst this;exact⟨no,nr.1⟩
theorem Rep.swap (R:Rep ρ Z Y)(hm:(d,o)∈Z)(hd:d∉ρ)(no:o.cls=.type "tuple"->∀vs n,o.data≠.seq vs n)(nr:Co o):Rep ρ (gw Z d o') Y where
 len:=R.len
 nd:=R.nd
 ndZ:=by rw[iJ];exact R.ndZ
 apart:=R.apart
 big:=R.big
 tabs:=R.tabs.mono λb o h hn k=>⟨bT.mpr ⟨_,h,if_neg<|Cq R.ndZ hm nr h k⟩,hn⟩
 cell:=λj b hb=>by
  refine cZ (R.cell j b hb) λc' kU h1 h2 h3=>?_;have dS:b≠d:=λe=>hd<|e▸bn hb
  exact eT c' kU h1 (bT.mpr ⟨_,h2,by simp[dS]⟩)<|h3.ext Ext.swap (gy R.ndZ hm no nr) R.apart
theorem bF.grow (hn:(Z.map (·.1)).Nodup)(hm:(d,o)∈Z)(hK:K.lookup d=Option.none)(no:o.cls=.type "tuple"->∀vs n,o.data≠.seq vs n)(nr:Co o){v:Value}(h:bF ρ Z v x):bF (ρ++[d]) Z v x:=
 h.map (λa kU M M h lR zp hd=>⟨h,λhq=>(fb.mp hq).elim lR λq=>h.elim (λh=>(gy hn hm no nr _ h q).1 zp _ _ hd) λh=>by rw[cK.mp q,hK] at h;cases h⟩)
  (λM M M M M M h lR=>⟨h,λhq=>(fb.mp hq).elim lR λq=>(gy hn hm no nr _ h q).2 _ _ _ _ _ rfl⟩)
  λi a h=>by rw[iE (bM.mp h).1];exact h
theorem Rep.adopt {ce:Cell}(R:Rep ρ Z Y)(hm:(d,o)∈Z)(nr:Co o)(hd:d∉ρ)(hK:K.lookup d=none)(hb:(d==sysModules)=false)(f:∀v x,bF ρ Z v x->bF (ρ++[d]) Z v x)(hc:cR (ρ++[d]) Z ce o):Rep (ρ++[d]) Z (Y++[ce]) where
 len:=by rw[b0,b0,R.len];rfl
 nd:=r9.mpr ⟨R.nd,by simp,λb BK c hc' e=>by rw[cK.mp hc'] at e;exact hd (e▸BK)⟩
 ndZ:=R.ndZ
 apart:=λb BK=>by
  refine aY (fb.mp BK) (λh=>?_) λh=>?_
  ·exact R.apart b h
  ·rw[cK.mp h];exact hK
 big:=λb BK=>by
  refine aY (fb.mp BK) (λh=>?_) λh=>?_
  ·exact R.big b h
  ·rw[cK.mp h];exact hb
 tabs:=R.tabs.mono λb o h hn k=>⟨h,λq=>by
  refine aY (fb.mp q) (λq=>?_) λq=>?_
  ·exact hn q
  ·exact Cq R.ndZ hm nr h k<|cK.mp q⟩
 cell:=λi b BK=>by
  by_cases hi:i<ρ.length
  ·rw[iE hi] at BK;refine cZ (R.cell i b BK) λc o' h1 h2 h3=>?_;refine eT c o' ?_ h2 (h3.mono f λi a h=>by rw[iE (bM.mp h).1];exact h);rw[iE (R.len▸hi)];exact h1
  ·rw[j9<|Nat.not_lt.mp hi] at BK;have h0:i - ρ.length=0:=by
    cases q:i - ρ.length with
    |zero=>rfl
    |succ n=>rw[q] at BK;cases BK
   rw[h0] at BK;cases BK;refine eT ce o ?_ hm hc;rw[j9<|R.len▸Nat.not_lt.mp hi,<-R.len,h0];rfl
theorem Ext.P3 (e:Ext cs ρ ((d,o)::Z) bR Z')(hz:d∉Z.map (·.1)):Ext cs ρ Z bR Z':=
 ⟨e.pre,λp hp hn hc ht=>e.keep p (.tail _ hp) hn hc ht,λa ha=>e.adr a<|.tail _ ha,λa ha=>(e.new a ha).imp id λq hq=>q<|.tail _ hq⟩
theorem Ext.yg (e:Ext cs ρ Z bR Z')(hz:d∉Z.map (·.1)):Ext cs ρ Z bR (gw Z' d o'):=
 ⟨e.pre,λp hp hn hc ht=>bT.mpr ⟨p,e.keep p hp hn hc ht,by rw[if_neg];intro q;exact hz (by rw[<-q];exact cB hp)⟩,λa ha=>by rw[iJ];exact e.adr a ha,e.new⟩
theorem Ext.adopt (e:Ext cs ρ Z bR Z')(hz:d∉Z.map (·.1)):Ext cs ρ Z (bR++[d]) Z':=
 ⟨λi a h=>by have:=e.pre i a h;rw[iE (bM.mp this).1];exact this,e.keep,e.adr,λa ha=>by
  refine aY (fb.mp ha) (λq=>?_) λq=>?_
  ·exact e.new a q
  ·rw[cK.mp q];exact .inr hz⟩
theorem gz (hm:(d,o)∈Z):(d,o')∈gw Z d o':=bT.mpr ⟨_,hm,by simp⟩
end
end
theorem HH {env:Env}{outer:List Env}{L b:Addr}(hf:env.frame=some L)(hm:b∈(env::outer).filterMap (·.frame)):b=L∨b∈outer.filterMap (·.frame):=by
 refine aI (List.mem_filterMap.mp hm) λe he h=>?_;rcases aX.mp he with rfl | he
 ·rw[hf] at h;exact .inl (aT h).symm
 ·exact .inr (List.mem_filterMap.mpr ⟨e,he,h⟩)
theorem tH {env:Env}{outer:List Env}{L:Addr}(hf:env.frame=some L):(env::outer).filterMap (·.frame)=L::outer.filterMap (·.frame):=by
 rw[List.filterMap_cons,hf]
def DZ (base:Heap)(fe:Env)(outer:List Env)(L e C:Addr)(g:Heap)(Z:Led)(b h':Heap):Prop:=
 RaisedSN base g (fe::outer) e (.ref C) Z h'∨RaisedHN base g (fe::outer) L e (.ref C) Z h'∨(xS g h' e (.ref C)/\News b L g Z)
theorem tb {env Oi:Env}(h:env.frame=Oi.frame)(e:Value):noteFrame e env=noteFrame e Oi:=by
 unfold noteFrame PySem.frameOf;rw[h]
section
variable {aaw:Model} {A A₀:Around} {E:du} {s:Shared} {base g b:Heap} {outer:List Env} {L e C:Addr} {m:ly} {env fe:Env} {Z:Led} {Q:zA}
theorem mU (B:Below A₀ base outer b)(F:Fr b L g m)(hf:fe.frame=some L)(hk:fe.scope.kind=.function)(hA:A.frames=some (fe::outer))(he:env.frame=some L)(X:DZ base fe outer L e C g Z b s.heap)(U:g.UpToSlots s.heap)
  (h:∀g' h',Fr b L g' m->RaisedHN base g' (fe::outer) L e (.ref C) Z h'->g'.UpToSlots h'->Q () {s with heap:=h'}):wpAny aaw A (noteFrame (.ref e) env) Q E s:=by
 rw[tb (he.trans hf.symm)];refine o3 X (λR=>?_) (λR=>?_) λUh=>?_
 ·exact sU R λB' a0 hB G8 hl RZ=>wpAny_looks_onW hA hf RZ λh' hh hs=>h g h' F ⟨B',a0,hB,G8,hl,hh⟩ (U.trans hs)
 ·have R':=R;exact sU R' λB' a0 hB G8 hl RZ=>wpAny_noteFrame_againW hf RZ.2.2.2 (h g s.heap F R U)
 ·refine cN Uh λR aax=>?_;have K':=pushX B F hf hk;have zk:∀env∈(fe::outer),∀b,env.frame=some b->b∈(fe::outer).filterMap (·.frame):=λenv he b hb=>List.mem_filterMap.mpr ⟨env,he,hb⟩;have st:base.StaysIn (hideAll g ((fe::outer).filterMap (·.frame))):=λb o q=>hideAll_get _ (K'.stays b o q) λhm=>by
   rw[(K'.frames.mem hm).1] at q;cases q
  have sg:∀b o,g.get? b=some o->b∉(fe::outer).filterMap (·.frame)->(hideAll g ((fe::outer).filterMap (·.frame))).get? b=some o:=λb o q nm=>hideAll_get _ q nm;have hl:∀q∈Z,(hideAll g ((fe::outer).filterMap (·.frame))).get? q.1=some q.2/\b.get? q.1=none/\base.get? q.1=none:=λq hq=>by
   refine⟨hideAll_get _ (aax q hq).1 λhm=>?_,(aax q hq).2.2,fresh_of_stays B.stays (aax q hq).2.2⟩;refine aY (HH hf hm) (λz=>?_) λz=>?_
   ·exact(aax q hq).2.1 z
   ·refine aI ((B.frames.mem z).2) λo ho M=>?_;rw[(aax q hq).2.2] at ho;cases ho
  refine cZ R.there λob tp he' wt hd=>?_;have Pi:(hideAll g ((fe::outer).filterMap (·.frame))).get? e=none:=by
   cases q:(hideAll g ((fe::outer).filterMap (·.frame))).get? e with
   |none=>rfl
   |some o=>have:=of_hideAll _ q;rw[R.new] at this;cases this
  unfold noteFrame;simp only[hf];refine av (wpAny_field (x:=Value.none) he' hd (by rfl) ?_);rw[if_neg (show¬(Value.none != Value.none)=true from by decide)];refine wpAny_entryW hA ((funFrames_hide K'.frames zk).of_keeps λb o hb M=>⟨o,R.keeps b o hb,rfl⟩) hf he' (λb o hb=>R.keeps b o (of_hideAll _ hb)) Pi hd (by simp) rfl λh' hN=>xN hN λk1 k2 k3 k4=>ud F.ns λoL es ep hL ZI ZJ ZK=>?_;have nL:L∉Z.map (·.1):=λq=>by
   exact aI (bT.mp q) λp hp e=>(aax p hp).2.1 e
  have nb:∀a o,b.get? a=some o->a∉Z.map (·.1):=λa o e q=>by
   refine aI (bT.mp q) λp hp dZ=>?_;subst dZ;rw[(aax p hp).2.2] at e;cases e
  have F':Fr b L (hideAll g (Z.map (·.1))) m:=⟨⟨oL,es,ep,hideAll_get _ hL nL,ZI,ZJ,ZK⟩,λa o e=>hideAll_get _ (F.keep a o e) (nb a o e),F.above⟩;have kp:∀a o,(hideAll g (Z.map (·.1))).get? a=some o->s.heap.get? a=some o:=λa o e=>R.keeps a o (of_hideAll _ e);exact h _ h' F' ⟨_,tp,st,λa o q nm=>sg a o (of_hideAll _ q) nm,λq hq=>⟨(hl q hq).1,hideAll_none _ (cB hq),(hl q hq).2.2⟩,k1,Pi,k2,by rw[<-wt];exact k3⟩ ((Heap.UpToSlots.of_keeps kp).trans k4)
variable {A':Around}
theorem oX (hf:env.frame=some L)(R:RaisedHN base g (fe::outer) L e (.ref C) Z s.heap)(U:g.UpToSlots s.heap)
  (h:∀h',RaisedHN base g (fe::outer) L e (.ref C) Z h'->g.UpToSlots h'->Q () {s with heap:=h'}):wpAny aaw A' (setFlight (.ref e) env.frame) Q E s:=by
 obtain⟨B',a0,hB,G8,hl,SI,Pi,Ha,oe,vs,T,oT,ts,he,wt,hd,h1,V5,WP,hT,SJ,h3⟩:=R;have V6:=(Array.getElem?_eq_some_iff.mp h3).1;have other:∀b,b≠T->(s.heap.update T (Obj.mapFields (·.setIfInBounds 3 ((some L).elim Value.none λf=>rawInt f)))).get? b=s.heap.get? b:=
  λb hb=>Heap.get?_update_other _ _ (gb hb)
 have BL:∀b o,s.heap.get? b=some o->(∀vs,o.data≠.fields vs)->b≠T:=λb o hb R0 q=>by
  rw[q,hT] at hb;injection hb with hb;subst hb;exact R0 ts SJ
 rw[hf];refine av (wpAny_field he hd h1 ?_);rw[if_pos (show(Value.ref T != Value.none)=true from by simp)];refine wpAny_setField hT SJ V6 (h _ ⟨B',a0,hB,G8,hl,λb o ZL=>(other b λq=>by rw[q,V5] at ZL;cases ZL).trans (SI b o ZL),Pi,
  Ha.of_keeps λb o hb R0=>⟨o,(other b (BL b o hb R0)).trans hb,rfl⟩,?_⟩ (U.trans λb o hb R0=>⟨o.slots,(other b (BL b o hb R0)).trans hb⟩))
 exact LR oe vs T _ _ (WB ((other e (gb WP)).trans he) wt hd h1 V5 WP (Heap.get?_update_self _ hT (Obj.isFreed_of_fields (Obj.data_mapFields SJ _))) (Obj.data_mapFields SJ _) (by simp[V6]))
theorem sv {Q:du}(R:RaisedHN base g (fe::outer) L e (.ref C) Z s.heap)(h:∀T,Q (.ref T) s):wpAny aaw A' (field (.ref e) 1) Q E s:=by
 obtain⟨B',a0,hB,G8,hl,SI,Pi,Ha,oe,vs,T,oT,ts,he,wt,hd,h1,_⟩:=R;exact wpAny_field he hd h1 (h T)
theorem pH {E':du}(hf:env.frame=some L)(R:RaisedHN base g (fe::outer) L e (.ref C) Z s.heap)(U:g.UpToSlots s.heap)
  (h:∀h',RaisedHN base g (fe::outer) L e (.ref C) Z h'->g.UpToSlots h'->E' (.ref e) {s with heap:=h'}):cameBackBy aaw A' env E' (.ref e) s:=by
 refine av (sv R λT=>?_);rw[if_neg (show¬((Value.ref T==Value.none)=true) from by simp)]
 first | exact av (aW (oX hf R U h)) | exact oX hf R U h
theorem z9 {α:Type}{E':du}{Q:α->Shared->Prop}{ZM:String}(hf:env.frame=some L)(R:RaisedHN base g (fe::outer) L e (.ref C) Z s.heap)(U:g.UpToSlots s.heap)
  (h:∀h',RaisedHN base g (fe::outer) L e (.ref C) Z h'->g.UpToSlots h'->E' (.ref e) {s with heap:=h'}):wpAny aaw A' (PySem.passOn ZM (.ref e) env:Sem α) Q E' s:=by
 refine av (sv R λT=>?_);rw[if_neg (show¬((Value.ref T==Value.none)=true) from by simp)]
 first | exact av (aW (av (oX hf R U λh' a b=>wpAny_throw (h h' a b)))) | exact av (oX hf R U λh' a b=>wpAny_throw (h h' a b))
theorem Aa (B:Below A₀ base outer b)(F:Fr b L g m)(hf:fe.frame=some L)(hk:fe.scope.kind=.function)(hA:A.frames=some (fe::outer))(X:DZ base fe outer L e C g Z b s.heap)(U:g.UpToSlots s.heap)
  (hQ:∀h',RaisedSN base b outer e (.ref C) Z h'->b.UpToSlots h'->Q () {s with heap:=h'}):wpAny aaw A (leaving fe (.ref e)) Q E s:=by
 refine av (mU B F hf hk hA hf X U λg' bx F' R U'=>?_);refine sU R λB' a0 hB G8 hl hh=>wpAny_landsW hh λh' RZ hs=>?_;refine xN RZ λk1 k2 Yh k4=>?_;refine qr Yh λ_ _ k3=>?_;exact hQ h' ⟨B',a0,hB,λa o q nm=>G8 a o (F'.keep a o q) (λhm=>by
  refine aY (HH hf hm) (λz=>?_) λz=>?_
  ·rw[z,kts_self F'] at q;cases q
  ·exact nm z),λq hq=>⟨(hl q hq).1,kts_none F'.keep (hl q hq).2.1,(hl q hq).2.2⟩,⟨k1,k2,k3,k4⟩⟩ ((Heap.UpToSlots.of_keeps F'.keep).trans (U'.trans hs))
theorem ry {h₀ b':Heap}(B:Below A₀ base outer h₀)(F:Fr h₀ L g m)(T:KtsTurn (L::outer.filterMap (·.frame)) g b'):∃uv,KtsTurn (outer.filterMap (·.frame)) h₀ uv/\Fr uv L b' m:=by
 obtain⟨wc,Yi⟩:=kts_turn_at
  (λb hb=>by
   refine S1 (B.frames.mem hb) λ_ o DM _=>?_;exact⟨o,DM⟩)
  (λa o e ZN=>T.other a o (F.keep a o e) (λq=>by
   refine aY (aX.mp q) (λz=>?_) λz=>?_
   ·rw[z,(kts_self F:h₀.get? L=none)] at e;cases e
   ·exact ZN z))
  (λa o e M=>T.up (F.keep a o e))
 refine ud F.ns λoL es ep hL ZI ZJ ZK=>aM (T.up hL) λsl hs=>?_;exact bD _ wc ⟨⟨_,es,ep,hs,ZI,ZJ,ZK⟩,Yi,by rw[wc.size];exact F.above⟩
theorem wG {uv b' h':Heap}{L':Addr}(F:Fr uv L b' m)(aax:News b' L' h' Z):News uv L h' Z:=λp hp=>by
 refine⟨(aax p hp).1,λq=>?_,kts_none F.keep (aax p hp).2.2⟩;refine rm F.ns λoL es ep hL M=>?_;have:=(aax p hp).2.2;rw[q,hL] at this;cases this
end
section
abbrev Mo:Model:=model prog w
structure Lv where
 O:ar
 n:Nat
 ns:Ns
structure Fx where
 base:Heap
 L:Addr
 fe:Env
 outer:List Env
 A:Around
 lY:Shared
@[reducible] noncomputable def Fx.fs (c:Fx):List Addr:=c.outer.filterMap (·.frame)
structure Fz extends Fx where
 t:Lv
 env:Env
 m:ly
 N:Loc
@[reducible] noncomputable def Fz.to (f:Fz)(m:ly)(l:Loc):Fz:={f with m:=m,N:=l}
inductive Look (L:Addr)(m:ly)(ρ:List Addr)(Z:Led)(env:Env)(x:Str)(u:Value):Prop
 |here:env.kindOf x=some .local->env.locals=L->m x=some u->Look L m ρ Z env x u
 |kW (o:Obj) (m₂:ly):env.kindOf x=some .local->(env.locals,o)∈Z->env.locals∉ρ->LCg.NsObj o m₂->m₂ x=some u->Look L m ρ Z env x u
 |cell (a:Addr) (o:Obj):(env.kindOf x=some .cell∨env.kindOf x=some .free)->env.cells.lookup x=some a->(a,o)∈Z->a∉ρ->o.data=.cell (some u)->Look L m ρ Z env x u
def gf (f:Fz)(ρ:List Addr)(Z:Led):Prop:=
 ∀(i:Nat) (x:Str) (k:NameKind) (v:V),f.t.ns[i]?=some (x,k)->f.N[i]?=some (some v)->∃u,bF ρ Z u v/\Look f.L f.m ρ Z f.env x u
def uw (c:Fx):Prop:=∃cc P,c.fe.code=.ref cc/\CodeHd c.base cc P/\(P,c.fe.qual++"<lambda>")∈gT K
structure Ok (c:Fx)(t:Lv)(e:Env):Prop where
 inB:K.In c.base
 topB:∃p loose j7 mg mb,Top p loose j7 mg mb c.base
 hh:c.A.handled=none
 frames:c.A.frames=some (c.fe::c.outer)
 frame:c.fe.frame=some c.L
 fkind:c.fe.scope.kind=.function
 depth:c.A.depth+t.n / 2+3<recursionLimit
 units:c.A.units+10 * (t.n / 2)+200<cLine
 wordy:t.n % 2=1->uw c
 kind:e.scope.kind=.function
 globals:e.globals=mainGlobals
 builtins:e.builtins=builtinsNs
 eframe:e.frame=some c.L
 code:e.code=c.fe.code
 qual:e.qual=c.fe.qual
 top:∀x,t.ns.lookup x=some .globalImplicit->e.kindOf x=some .globalImplicit
 local':∀x,(x,NameKind.local)∈t.ns->e.kindOf x=some .local
 cell:∀x k,(x,k)∈t.ns->k=.cell∨k=.free->(e.kindOf x=some .cell∨e.kindOf x=some .free)/\∃a,e.cells.lookup x=some a
structure St (f:Fz) where
 b:Heap
 h:Heap
 ρ:List Addr
 Z:Led
 Y:af
 tk:Nat
 ok:Ok f.toFx f.t f.env
 below:∃A₀:Around,Below A₀ f.base f.outer b
 dicts:KtsDicts f.fs b
 fr:Fr b f.L h f.m
 news:News b f.L h Z
 rep:Rep ρ Z Y
 lo:gf f ρ Z
noncomputable abbrev St.s {f:Fz}(q:St f):Shared:={f.lY with heap:=q.h,toks:=q.tk}
abbrev St.iv {f:Fz}(q:St f):Value->V->Prop:=bF q.ρ q.Z
abbrev St.oY {f:Fz}(q:St f):List Value->List V->Prop:=cf q.ρ q.Z
structure Bs where
 ρ:List Addr
 Z:Led
 b:Heap
@[reducible] noncomputable def St.bs {f:Fz}(q:St f):Bs:=⟨q.ρ,q.Z,q.b⟩
structure Kp (cs:List Addr)(g:Bs){f:Fz}(q:St f):Prop where
 ext:Ext cs g.ρ g.Z q.ρ q.Z
 turn:KtsTurn f.fs g.b q.b
abbrev mV (cs:List Addr){f f':Fz}(q:St f)(q':St f'):Prop:=Kp cs q.bs q'
def Flew (c:Fx)(cs ρ:List Addr)(Z:Led)(HI:Heap)(E:du)(C:Nat)(Y':af):Prop:=
 ∀m g e bR Z' h' eS ⦃b:Heap⦄,Fr b c.L g m->DZ c.base c.fe c.outer c.L e C g Z' b h'->g.UpToSlots h'->Rep bR Z' Y'->Ext cs ρ Z bR Z'->KtsTurn c.fs HI b->E (.ref e) {c.lY with heap:=h',toks:=eS}
abbrev St.Fl {f:Fz}(q:St f)(cs:List Addr)(E:du)(C:Nat)(Y':af):Prop:=Flew f.toFx cs q.ρ q.Z q.b E C Y'
abbrev Rl (α β:Type):=List Addr->Led->α->β->Prop
noncomputable def OI:Rl Bool Bool:=λM M u v=>u=v
def aE {α β:Type}(R:Rl α β){f:Fz}(q:St f)(r:Res β)(Q:α->Shared->Prop)(E:du):Prop:=match r with
 | .ok v Y'=>∀u (q':St f),mV [] q q'->q'.Y=Y'->R q'.ρ q'.Z u v->Q u q'.s
 | .exc C Y'=>q.Fl [] E C Y'
 | .stuck=>False
def cr (t:Lv)(e:Expr)(x:X):Prop:=∀(f:Fz) (q:St f) (Q E:du),f.t=t->aE bF q (aV t.O x f.N q.Y) Q E->wpAny Mo f.A (eval e f.env) Q E q.s
def Fo (t:Lv)(l:List Expr)(xs:List X):Prop:=∀(f:Fz) (q:St f) (pos:Pos) (Q:List Value->Shared->Prop) (E:du),f.t=t->aE cf q (nN t.O xs f.N q.Y) Q E->wpAny Mo f.A (spliced<|backTo pos<|starEach l f.env) Q E q.s
section
variable {cs ρ bR:List Addr} {Z Z':Led} {c:Fx} {f f' ZO:Fz} {q:St f} {q':St f'} {jw:St ZO} {E:du} {α β γ:Type} {R:Rl α β} {Y Y':af} {C:Nat}
theorem Kp.refl:mV cs q q:=⟨.refl,.refl⟩
theorem Kp.trans {g:Bs}(e:f'.fs=ZO.fs)(a:Kp cs g q')(d:mV cs q' jw):Kp cs g jw:=⟨a.ext.trans d.ext,KtsTurn.trans (e▸a.turn) d.turn⟩
theorem Kp.wH (a:mV [] q q'){u:Value}{v:V}(i:q.iv u v):q'.iv u v:=i.ext a.ext bI q'.rep.apart
theorem Kp.Yj (a:mV [] q q'){u:List Value}{v:aG}(i:q.oY u v):q'.oY u v:=i.ext a.ext bI q'.rep.apart
theorem Flew.on {b b':Heap}(x:Flew c cs ρ Z b E C Y)(e:Ext cs ρ Z bR Z')(t:KtsTurn c.fs b b'):Flew c cs bR Z' b' E C Y:=λm g e' wb Z'' tz zj M F R U Rp X T=>x m g e' wb Z'' tz zj F R U Rp (e.trans X)<|t.trans T
theorem Flew.less {b:Heap}(x:Flew c cs ρ Z b E C Y):Flew c [] ρ Z b E C Y:=λm g e' wb Z'' tz zj M F R U Rp X T=>x m g e' wb Z'' tz zj F R U Rp (X.weaken λM q=>nomatch q) T
theorem aE.shift {q':St f}{r:Res β}{Q:α->Shared->Prop}(a:mV [] q q')(x:aE R q r Q E):aE R q' r Q E:=by
 cases r with
 |ok v Cr=>exact λu jw d e i=>x u jw (a.trans rfl d) e i
 |exc C Cr=>exact Flew.on x a.ext a.turn
 |stuck=>exact x
theorem aE.bind {δ:Type}{R':Rl δ γ}{r:Res γ}{g:γ->af->Res β}{Q:α->Shared->Prop}{Q':δ->Shared->Prop}(x:aE R q (r.bind g) Q E)(k:∀{v u} (am:St f),mV [] q am->R' am.ρ am.Z u v->aE R am (g v am.Y) Q E->Q' u am.s):aE R' q r Q' E:=by
 cases r with
 |ok v Y'=>exact λu am a e i=>k am a i<|e▸aE.shift a x
 |exc C Y'=>exact x
 |stuck=>exact x
theorem aE.bindB {r:Res Bool}{g:Bool->af->Res β}{Q:α->Shared->Prop}{Q':Bool->Shared->Prop}(x:aE R q (r.bind g) Q E)(k:∀{v} (am:St f),mV [] q am->aE R am (g v am.Y) Q E->Q' v am.s):aE OI q r Q' E:=by
 cases r with
 |ok v Y'=>exact λu am a e (i:u=v)=>i▸k am a (e▸aE.shift a x)
 |exc C Y'=>exact x
 |stuck=>exact x
theorem Look.ext {L:Addr}{m:ly}{env:Env}{x:Str}{u:Value}(h:Look L m ρ Z env x u)(e:Ext [] ρ Z bR Z'):Look L m bR Z' env x u:=by
 cases h with
 |here a b c=>exact .here a b c
 |kW o m₂ hk h1 h2 h3 h4=>exact .kW o m₂ hk (e.keep _ h1 h2 dj λt=>aM (qC t) λps e=>gm h3 λes ep e1 M=>Data.noConfusion<|e.symm.trans e1) (e.old (cB h1) h2) h3 h4
 |cell a o hk h1 h2 h3 h4=>exact .cell a o hk h1 (e.keep _ h2 h3 dj λt=>aM (qC t) λps e=>Data.noConfusion<|e.symm.trans h4) (e.old (cB h2) h3) h4
theorem gf.ext (h:gf f ρ Z)(e:Ext [] ρ Z bR Z')(hK:∀a∈bR,K.lookup a=none):gf f bR Z':=λi x k v h1 h2=>
 let ⟨u,hu,hl⟩:=h i x k v h1 h2;⟨u,hu.ext e bI hK,hl.ext e⟩
theorem kX {A₀:Around}{base h₀ b:Heap}{outer:List Env}(B:Below A₀ base outer h₀)(T:KtsTurn (outer.filterMap (·.frame)) h₀ b):Below A₀ base outer b:=
 ⟨B.stack,λa o e=>T.other a o (B.stays a o e) (λhm=>by
  rw[(B.frames.mem hm).1] at e;cases e),B.frames.of_keeps λa o e M=>by
  refine aM (T.up e) λsl' BM=>?_;exact⟨_,BM,rfl⟩⟩
theorem St.SD (q:St f):K.In q.b:=let ⟨_,B⟩:=q.below;q.ok.inB.keeps B.stays
theorem St.sx (q:St f):K.In q.h:=q.SD.keeps q.fr.keep
theorem St.top (q:St f):∃p loose j7 mg mb,Top p loose j7 mg mb q.b:=by
 exact aM q.below λM B=>ue q.ok.topB λp l me mg mb T=>Xr p l me mg mb<|T.keeps B.stays
end
variable {f:Fz} {q:St f} {E:du} {bR:List Addr} {Z':Led} {Y':af}
noncomputable def St.to (q:St f)(tk:Nat){b h':Heap}(F:Fr b f.L h' f.m)(aax:News b f.L h' Z')(R:Rep bR Z' Y')(e:Ext [] q.ρ q.Z bR Z')(T:KtsTurn f.fs q.b b):St f where
 b:=b
 h:=h'
 ρ:=bR
 Z:=Z'
 Y:=Y'
 tk:=tk
 ok:=q.ok
 below:=let ⟨A₀,B⟩:=q.below;⟨A₀,kX B T⟩
 dicts:=q.dicts.turn T
 fr:=F
 news:=aax
 rep:=R
 lo:=q.lo.ext e R.apart
theorem aE.fin {α β:Type}{R:Rl α β}{v:β}{u:α}{Q:α->Shared->Prop}{h':Heap}(tk:Nat)(P:aE R q (.ok v Y') Q E)(F:Fr q.b f.L h' f.m)(aax:News q.b f.L h' Z')(Rp:Rep bR Z' Y')(e:Ext [] q.ρ q.Z bR Z')(i:R bR Z' u v):Q u {q.s with heap:=h',toks:=tk}:=
 P u (q.to tk F aax Rp e .refl) ⟨e,.refl⟩ rfl i
theorem aE.same {α β:Type}{R:Rl α β}{v:β}{u:α}{Q:α->Shared->Prop}{tk:Nat}(P:aE R q (.ok v q.Y) Q E)(i:R q.ρ q.Z u v):Q u {q.s with toks:=tk}:=
 P.fin tk q.fr q.news q.rep .refl i
theorem aE.here {α β:Type}{R:Rl α β}{v:β}{u:α}{Q:α->Shared->Prop}(P:aE R q (.ok v q.Y) Q E)(i:R q.ρ q.Z u v):Q u q.s:=P u q .refl rfl i
theorem St.cS (q:St f):q.h.objs.size∉q.Z.map (·.1):=λhm=>by
 refine aI (bT.mp hm) λp hp e=>?_;have:=gq (q.news p hp).1;rw[e] at this;exact sh _ this
theorem St.rz (q:St f):K.lookup q.h.objs.size=none:=by
 cases e:K.lookup q.h.objs.size with
 |none=>rfl
 |some o=>exact absurd (gq<|q.sx _ _ e)<|sh _
theorem St.yh (q:St f):(q.h.objs.size==sysModules)=false:=by
 refine ue q.top λp loose j7 mg mb T=>?_;refine aI T.nolimit λmc HJ M=>?_;refine rm HJ λo _ _ e _=>?_;have:sysModules<q.h.objs.size:=kI (by decide)<|gq<|q.fr.keep _ _ e
 exact beq_eq_false_iff_ne.mpr<|nT this
noncomputable def St.grow (q:St f){h':Heap}(hk:∀b o,q.h.get? b=some o->h'.get? b=some o)(tk:Nat):St f:=q.to tk (q.fr.keeps hk) (q.news.grown hk) q.rep .refl .refl
theorem aE.grow {α β:Type}{R:Rl α β}{r:Res β}{Q:α->Shared->Prop}(P:aE R q r Q E){h':Heap}(hk:∀b o,q.h.get? b=some o->h'.get? b=some o)(tk:Nat):aE R (q.grow hk tk) r Q E:=aE.shift ⟨.refl,.refl⟩ P
noncomputable def St.hide (q:St f)(o:Obj)(hf:o.isFreed=false)(tk:Nat):St f:=q.to tk (q.fr.push o) (q.news.push q.fr o hf) (q.rep.hide q.cS) (.hide q.cS q.rep) .refl
theorem St.hidden (q:St f)(o:Obj)(hf:o.isFreed=false)(tk:Nat):mV [] q (q.hide o hf tk):=⟨.hide q.cS q.rep,.refl⟩
theorem aE.hid {α β:Type}{R:Rl α β}{v:β}{u:α}{Q:α->Shared->Prop}{o:Obj}(hf:o.isFreed=false)(tk:Nat)(P:aE R q (.ok v q.Y) Q E)(i:R q.ρ ((q.h.objs.size,o)::q.Z) u v):Q u {q.s with heap:=q.h.push o,toks:=tk}:=
 P.fin tk (q.fr.push o) (q.news.push q.fr o hf) (q.rep.hide q.cS) (.hide q.cS q.rep) i
theorem aE.U {us:List Value}{l:aG}{Q:du}(tk:Nat)(P:aE bF q (.ok (.U l) q.Y) Q E)(i:q.oY us l):Q (.ref q.h.objs.size) {q.s with heap:=q.h.push {cls:=.type "tuple",data:=.seq us.toArray},toks:=tk}:=
 P.hid rfl tk (.U (.inl<|.head _) (q.rep.mv q.cS) rfl rfl<|i.ext (.hide q.cS q.rep) bI q.rep.apart)
theorem St.P4 (q:St f):∀a∈q.ρ++[q.h.objs.size],K.lookup a=none:=λM hb=>(fb.mp hb).elim (q.rep.apart _) λh=>cK.mp h▸q.rz
noncomputable def St.push (q:St f)(o:Obj)(ce:Cell)(tk:Nat)(hf:o.isFreed=false)(hc:cR (q.ρ++[q.h.objs.size]) ((q.h.objs.size,o)::q.Z) ce o):St f:=
 q.to tk (q.fr.push o) (q.news.push q.fr o hf) (q.rep.push q.cS q.rz q.yh hc) (.push q.rep q.cS) .refl
theorem ux {ρ:List Addr}{Z Z':Led}{a:Addr}{Y:af}(R:Rep ρ Z Y):bF (ρ++[a]) Z' (.ref a) (.ref Y.length):=.ref (by rw[<-R.len,j9<|a9 _,nU];rfl)
theorem aE.yi {ce:Cell}{o:Obj}{h':Heap}{Q:du}(tk:Nat)(P:aE bF q (alloc q.Y ce) Q E)(F:Fr q.b f.L h' f.m)(aax:News q.b f.L h' ((q.h.objs.size,o)::q.Z))(hc:cR (q.ρ++[q.h.objs.size]) ((q.h.objs.size,o)::q.Z) ce o):Q (.ref q.h.objs.size) {q.s with heap:=h',toks:=tk}:=
 P.fin tk F aax (q.rep.push q.cS q.rz q.yh hc) (.push q.rep q.cS) (ux q.rep)
theorem aE.alloc {ce:Cell}{o:Obj}{Q:du}(tk:Nat)(hf:o.isFreed=false)(P:aE bF q (alloc q.Y ce) Q E)(hc:cR (q.ρ++[q.h.objs.size]) ((q.h.objs.size,o)::q.Z) ce o):Q (.ref q.h.objs.size) {q.s with heap:=q.h.push o,toks:=tk}:=
 P.yi tk (q.fr.push o) (q.news.push q.fr o hf) hc
theorem St.ups (q:St f){o:Obj}{us:List Value}{l:aG}(i:q.oY us l):cf (q.ρ++[q.h.objs.size]) ((q.h.objs.size,o)::q.Z) us l:=i.ext (.push q.rep q.cS) bI q.P4
theorem aE.list {us:List Value}{l:aG}{k:Nat}{Q:du}(tk:Nat)(P:aE bF q (Internal.alloc q.Y<|.list l) Q E)(i:q.oY us l):Q (.ref q.h.objs.size) {q.s with heap:=q.h.push<|listOf us.toArray k,toks:=tk}:=
 P.alloc tk rfl ⟨_,_,rfl,q.ups i⟩
theorem aE.OJ {us:List Value}{l:aG}{k:Nat}{h':Heap}{Q:du}(tk:Nat)(P:aE bF q (Internal.alloc q.Y<|.list l) Q E)(F:Fr q.b f.L h' f.m)(aax:News q.b f.L h' ((q.h.objs.size,listOf us.toArray k)::q.Z))(i:q.oY us l):Q (.ref q.h.objs.size) {q.s with heap:=h',toks:=tk}:=
 P.yi tk F aax ⟨_,_,rfl,q.ups i⟩
theorem jP {b h h':Heap}{L t:Addr}{Z:Led}{o o':Obj}(aax:News b L h Z)(hm:(t,o)∈Z)(ho:h'.get? t=some o')(hs:Heap.SameBut t h h'):News b L h' (gw Z t o'):=λp hp=>by
 refine aI (bT.mp hp) λq hq e=>?_;by_cases hqt:q.1=t
 ·rw[if_pos hqt] at e;subst e;exact⟨ho,(aax _ hm).2⟩
 ·rw[if_neg hqt] at e;subst e;exact⟨(hs.2 _ hqt).trans (aax _ hq).1,(aax _ hq).2⟩
end
section
variable {ρ:List Addr} {Z:Led} {Y:af} {f:Fz} {q:St f} {Q E:du} {t:Lv} {ns:Ns} {x:Str} {pos:Pos} {i:Nat} {u:Value} {v:V}
theorem rA (h:mS x=true):(x==("__debug__":Str))=false/\(x==("__classdict__":Str))=false/\(x==("__name__":Str))=false:=by
 unfold mS at h;simp only[kJ,nS] at h;exact⟨h.1.1,h.1.2,h.2⟩
theorem Fp (ok:mS x=true)(h:Look f.L f.m q.ρ q.Z f.env x u)(hq:Q u q.s):wpAny Mo f.A (eval (.Name x pos) f.env) Q E q.s:=by
 have hd:=rA ok;refine wpAny_Name ?_ hd.1;cases h with
 |here hk hl hm=>exact wpAny_loadName_local q.ok.kind hk (hl▸q.fr.ns) hm hq
 |kW o m₂ hk h1 h2 h3 h4=>exact wpAny_loadName_local q.ok.kind hk (h3.ns (q.news _ h1).1) h4 hq
 |cell a o hk h1 h2 h3 h4=>
  refine aY hk (λhk=>?_) λhk=>?_
  ·exact wpAny_loadName_cell q.ok.kind hk h1 ⟨o,(q.news _ h2).1,h4⟩ hq
  ·exact wpAny_loadName_free q.ok.kind hk h1 ⟨o,(q.news _ h2).1,h4⟩ hq hd.2.1
theorem Cs:∀{ns:Ns} {i:Nat},slotAt x ns=some i->∃k,ns[i]?=some (x,k)/\qA k=true:=by
 intro ns
 induction ns with
 |nil=>intro i h;cases h
 |cons p r ih=>
  intro i h;obtain⟨y,k⟩:=p;have h:(if (y==x)=true then (if qA k=true then some 0 else none) else (slotAt x r).map (· +1))=some i:=h;by_cases hy:(y==x)=true
  ·rw[if_pos hy] at h;by_cases hk:qA k=true
   ·rw[if_pos hk] at h;cases h;exact bD k (by rw[eq_of_beq hy];rfl) hk
   ·rw[if_neg hk] at h;cases h
  ·rw[if_neg hy] at h;refine aI (Option.map_eq_some_iff.mp h) λj e dZ=>?_;subst dZ;exact ih e
theorem Cu (h:eW ns x=some i):mS x=true/\∃k,ns[i]?=some (x,k)/\qA k=true:=by
 unfold eW at h;by_cases ok:mS x=true
 ·rw[if_pos ok] at h;exact⟨ok,Cs h⟩
 ·rw[if_neg ok] at h;cases h
theorem mW (h:eW ns x=some i):mS x=true/\∃k,ns[i]?=some (x,k):=
 let ⟨a,k,b,_⟩:=Cu h;⟨a,k,b⟩
theorem mw {k k':NameKind}(h:ns[i]?=some (x,k))(e:(kindAt ns i==some k')=true):k=k':=by
 have e:=eq_of_beq e;unfold kindAt at e;rw[h] at e;exact aT e
theorem aE.N (P:aE bF q (aV t.O (.l i) f.N q.Y) Q E):∃v,f.N[i]?=some (some v)/\aE bF q (.ok v q.Y) Q E:=by
 have P:aE bF q (match f.N[i]? with
  |some (some v)=>.ok v q.Y
  |_=>.stuck) Q E:=P
 rcases e:f.N[i]? with _ | _ | v<;>rw[e] at P
 ·exact P.elim
 ·exact P.elim
 ·exact bD v rfl P
theorem Mi (h:eW t.ns x=some i):cr t (.Name x pos) (.l i):=by
 intro f q Q E ht P;refine BY (mW h) λok k hk=>aI P.N λv e P'=>?_;subst ht;exact aI (q.lo i x k v hk e) λu hu hl=>Fp ok hl (P'.here hu)
def HK (x:Str)(v:V):Prop:=∃u,nsIn K mainGlobals x=some (some u)/\bF [] [] u v
theorem D0 (R:Rep ρ Z Y)(h:bF [] [] u v):bF ρ Z u v:=
 h.map (λM M M M h M M M=>⟨h.elim (λh=>(dj h).elim) .inr,λhm=>h.elim (λh=>dj h) λh=>by rw[R.apart _ hm] at h;cases h⟩) (λM M M M M M h M=>(dj h).elim) λM a h=>nomatch (show(none:Option Addr)=some a from h)
theorem HL {u:List Value}{v:aG}(R:Rep ρ Z Y)(h:cf [] [] u v):cf ρ Z u v:=h.mono λM M=>D0 R
theorem qD (h:iI ns x=true):mS x=true/\ns.lookup x=some .globalImplicit:=by
 unfold iI at h;simp only[kJ,beq_iff_eq] at h;exact h
theorem oi (hn:iI f.t.ns x=true)(hu:nsIn K mainGlobals x=some (some u))(hq:Q u q.s):wpAny Mo f.A (eval (.Name x pos) f.env) Q E q.s:=by
 refine ue q.top λp loose j7 mg mb T=>Name_function_global q.ok.kind (q.ok.top x (qD hn).2) (loadGlobal_global ?_ (mg_of q.SD T.g hu) hq) (rA (qD hn).1).1;rw[q.ok.globals];exact T.g.keeps q.fr.keep
theorem Mj (h:iI t.ns x=true)(hv:HK x v):cr t (.Name x pos) (.c v):=by
 intro f q Q E ht P;subst ht;exact aI hv λu hu hi=>oi h hu (aE.here P (D0 q.rep hi))
noncomputable def sy:Bi->Value
 | .len=>.builtin "len"
 | .list=>.type "list"
 | .tuple=>.type "tuple"
 | .sorted=>.builtin "sorted"
 | .str=>.type "str"
 | .int=>.type "int"
 | .range=>.type "range"
 | .max=>.builtin "max"
def HM (x:Str)(b:Bi):Prop:=nsIn K mainGlobals x=some none/\bootBuiltins x=some (sy b)/\x≠"__name__"
theorem Mk {b:Bi}(hn:iI f.t.ns x=true)(hu:HM x b)(hq:Q (sy b) q.s):wpAny Mo f.A (eval (.Name x pos) f.env) Q E q.s:=by
 refine ue q.top λp loose j7 mg mb T=>?_;have T':=topRead_of T;refine qr hu λh1 h2 h3=>Name_function_global q.ok.kind (q.ok.top x (qD hn).2) (loadGlobal_builtin ?_ (mg_none_of q.SD T'.g h1) ?_ ((T'.builtins x h3).trans h2) hq) (rA (qD hn).1).1
 ·rw[q.ok.globals];exact T.g.keeps q.fr.keep
 ·rw[q.ok.builtins];exact T'.b.keeps q.fr.keep
theorem bc {u:List Value}{v:aG}:cf ρ Z u v->u.length=v.length:=by
 intro x
 induction v generalizing u with
 |nil=>cases x;rfl
 |cons a r ih=>exact x.ej λM t=>bH (· +1) (ih t)
theorem snd_const {k:Const}{j:Nat}(h:Cg k=some v):cr t (.Constant k j pos) (.c v):=by
 intro f q Q E ht P;cases k<;>cases h
 ·exact wpAny_Constant_none (aE.here P .none)
 ·exact wpAny_Constant_bool (aE.here P (.bool _))
 ·exact wpAny_Constant_int (aE.same P (.int _ _))
 ·exact wpAny_Constant_str (aE.same P (.str _ _))
theorem HN:Fo t [] []:=λM M M M M M P=>wpAny_items_nil (aE.here P .nil)
variable {xs:List X}
theorem Fq {e:Expr}{r:List Expr}{x:X}(he:∀env,starEach (e::r) env=(false,eval e env)::starEach r env)(bx:cr t e x)(eo:Fo t r xs):Fo t (e::r) (x::xs):=λM q pos Q E ht P=>
 wpAny_items_cons (bx _ q _ E ht (P.bind λam bJ bV aO=>eo _ am pos _ E ht (aO.bind λM bK iA dw=>dw.here (.cons (bK.wH bV) iA)))) (he _)
theorem qE {k:Nat}(h:k<1000):k<=sizeLine:=by rw[sizeLine_eq];omega
theorem gK {k:Nat}(h:k<10000):k<=sizeLine:=by rw[sizeLine_eq];omega
theorem Cv {O:ar}{N:Loc}:∀{xs:List X} {Y:af} {vs:aG} {Y':af},nN O xs N Y=.ok vs Y'->vs.length=xs.length:=by
 intro xs
 induction xs with
 |nil=>intro Y vs Y' h;cases h;rfl
 |cons x r ih=>
  intro Y vs Y' h;have h:((aV O x N Y).bind λv Y=>(nN O r N Y).bind λvs Y=>.ok (v::vs) Y)=.ok vs Y':=h;cases q:aV O x N Y with
  |ok v al=>
   rw[q] at h;have h:((nN O r N al).bind λvs Y=>Res.ok (v::vs) Y)=.ok vs Y':=h;cases bw:nN O r N al with
   |ok ws ax=>rw[bw] at h;cases h;exact bH (· +1) (ih bw)
   |exc C ax=>rw[bw] at h;cases h
   |stuck=>rw[bw] at h;cases h
  |exc C al=>rw[q] at h;cases h
  |stuck=>rw[q] at h;cases h
theorem aE.HO {O:ar}{N:Loc}{g:List V->af->Res V}{Q':List Value->Shared->Prop}{k:Nat}(hx:xs.length=k)(x:aE bF q ((nN O xs N q.Y).bind g) Q E)(kk:∀{v u} (am:St f),mV [] q am->am.oY u v->u.length=k->aE bF am (g v am.Y) Q E->Q' u am.s):aE cf q (nN O xs N q.Y) Q' E:=by
 cases e:nN O xs N q.Y with
 |ok v Y'=>rw[e] at x;exact λu am a e' i=>kk am a i ((bc i).trans ((Cv e).trans hx)) (e'▸aE.shift a x)
 |exc C Y'=>rw[e] at x;exact x
 |stuck=>rw[e] at x;exact x
theorem Ml {l:List Expr}{k:Nat}(hl:l.length<1000)(hx:xs.length=l.length)(h:Fo t l xs):cr t (.Tuple l k pos) (.U xs):=λM q M E ht P=>
 wpAny_Tuple (h _ q pos _ E ht (aE.HO hx P λam M bV el aO=>⟨qE (el▸hl),aO.U am.tk bV⟩))
theorem Mm {l:List Expr}(hl:l.length<1000)(hx:xs.length=l.length)(h:Fo t l xs):cr t (.List l pos) (.s xs):=λM q M E ht P=>
 wpAny_List (h _ q pos _ E ht (aE.HO hx P λam M bV el aO=>⟨qE (el▸hl),aO.list am.tk bV⟩))
end
section
open PyProof.V
theorem Fs (l:Addr)(y:Value)(n:Nat)(d:Option Addr)(sl:Array (Option Value))(u:Tok):
  Meets (Builtin.«tuple.__mul__» ⟨[.ref l,.int 2 u],[]⟩) (λM R s=>s.heap.get? l=some {cls:=.type "tuple",dict:=d,data:=.seq #[y] n,slots:=sl}/\R (.ok (.ret (Value.ref s.heap.objs.size))) {s with heap:=s.heap.push {cls:=Value.type "tuple",data:=Data.seq #[y,y]}}):=
 .of_wp λprog w A R s h=>by
  obtain⟨hp,g,d,tk,os⟩:=s;obtain⟨hl,h⟩:=h
  wp_walk
  exact⟨_,rfl,h⟩
theorem Ft (l:Addr)(y:Value)(n:Nat)(d:Option Addr)(sl:Array (Option Value))(u:Tok):
  Meets (Builtin.«tuple.__mul__» ⟨[.ref l,.int 0 u],[]⟩) (λM R s=>s.heap.get? l=some {cls:=.type "tuple",dict:=d,data:=.seq #[y] n,slots:=sl}/\R (.ok (.ret (Value.ref s.heap.objs.size))) {s with heap:=s.heap.push {cls:=Value.type "tuple",data:=Data.seq #[]}}):=
 .of_wp λprog w A R s h=>by
  obtain⟨hp,g,d,tk,os⟩:=s;obtain⟨hl,h⟩:=h
  wp_walk
  exact⟨_,rfl,h⟩
theorem Fu (l:Addr)(y:Value)(n:Nat)(d:Option Addr)(sl:Array (Option Value))(u:Tok):
  Meets (Builtin.«tuple.__mul__» ⟨[.ref l,.int 1 u],[]⟩) (λM R s=>s.heap.get? l=some {cls:=.type "tuple",dict:=d,data:=.seq #[y] n,slots:=sl}/\R (.ok (.ret (Value.ref l))) s):=
 .of_wp λprog w A R s h=>by
  obtain⟨hp,g,d,tk,os⟩:=s;obtain⟨hl,h⟩:=h
  wp_walk
  exact⟨_,rfl,h⟩
theorem Ab (a:Int)(t:Tok)(l:Addr)(items:Array Value)(n:Nat)(d:Option Addr)(sl:Array (Option Value)):
  Meets (Builtin.«int.__rmul__» ⟨[.int a t,.ref l],[]⟩) (λM R s=>s.heap.get? l=some {cls:=.type "tuple",dict:=d,data:=.seq items n,slots:=sl}/\R (.ok (.ret Value.notImplemented)) s):=
 .of_wp λprog w A R s h=>by obtain⟨hp,g,d,tk,os⟩:=s;obtain⟨hl,h⟩:=h;wp_walk;exact⟨_,rfl,h⟩
theorem rB:fillsNumberSlot (.type "tuple") "mul"=pure false:=
 PySem.fillsNumberSlot_seq F.slot_tuple_mul.lookup (by k_all) F.slot_tuple_rmul.lookup (by k_all)
theorem yj:seqRepeat? (.type "tuple")=pure (some (.builtin "tuple.__mul__")):=by
 unfold seqRepeat?;rw[PySem.seqSlot_of (T:="tuple") (name:="__mul__") (id:="tuple.__mul__") F.slot_tuple_mul.lookup (by k_all),PySem.seqSlot_of (T:="tuple") (name:="__rmul__") (id:="tuple.__rmul__") F.slot_tuple_rmul.lookup (by k_all)];rfl
variable {A:Around} {E:du} {s:Shared} {l:Addr} {y:Value} {u:Tok} {Q:du}
theorem yk {x:Int}(hl:IsTup s.heap l #[y])(h:∀k d sl,s.heap.get? l=some {cls:=.type "tuple",dict:=d,data:=.seq #[y] k,slots:=sl}->wpAny Mo A (call (.builtin "tuple.__mul__") [.ref l,.int x u]) Q E s):wpAny Mo A (binaryOp .Mult (.ref l) (.int x u)) Q E s:=by
 obtain⟨⟨cls,d,data,sl⟩,ho,zp,k,hd⟩:=id hl;simp only at zp hd;subst zp hd;exact wpAny_binaryOp_repeat_ref (by decide) ⟨_,ho,rfl⟩ (λs'=>typeIs_int s' x u) rB F.fills_int_mul F.slot_int_rmul yj F.slot_int_index.lookup
  (call_meets F.slot_int_rmul (typeIs_int s x u) F.entry_int_rmul (F.args_int_rmul_2 _ _) (Ab x u l #[y] k d sl) ⟨ho,rfl,⟨_,ho,rfl⟩,h k d sl ho⟩)
theorem HP (hl:IsTup s.heap l #[y])(h:Q (.ref s.heap.objs.size) {s with heap:=s.heap.push {cls:=Value.type "tuple",data:=Data.seq #[y,y]}}):wpAny Mo A (binaryOp .Mult (.ref l) (.int 2 u)) Q E s:=
 yk hl λk d sl ho=>call_meets F.slot_tuple_mul ⟨_,ho,rfl⟩ F.entry_tuple_mul (F.args_tuple_mul_2 _ _) (Fs l y k d sl u) ⟨ho,h⟩
theorem HQ (hl:IsTup s.heap l #[y])(h:Q (.ref s.heap.objs.size) {s with heap:=s.heap.push {cls:=Value.type "tuple",data:=Data.seq #[]}}):wpAny Mo A (binaryOp .Mult (.ref l) (.int 0 u)) Q E s:=
 yk hl λk d sl ho=>call_meets F.slot_tuple_mul ⟨_,ho,rfl⟩ F.entry_tuple_mul (F.args_tuple_mul_2 _ _) (Ft l y k d sl u) ⟨ho,h⟩
theorem HR (hl:IsTup s.heap l #[y])(h:Q (.ref l) s):wpAny Mo A (binaryOp .Mult (.ref l)<|.int 1 u) Q E s:=
 yk hl λk d sl ho=>call_meets F.slot_tuple_mul ⟨_,ho,rfl⟩ F.entry_tuple_mul (F.args_tuple_mul_2 _ _) (Fu l y k d sl u) ⟨ho,h⟩
end
section
variable {f:Fz} {q:St f} {Q E:du} {a b u:Value} {x y v:V} {us:List Value} {vs:aG}
theorem bF.cas {C:Value->V->Prop}{ρ:List Addr}{Z:Led}(i:bF ρ Z u v)(c0:C .none .none)(c1:∀b,C (.bool b)<|.bool b)(c2:∀i t,C (.int i t)<|.int i)(c3:∀s t,C (.str s t)<|.str s)(c4:∀a l,C (.ref a)<|.U l)(c5:∀a l,C (.ref a)<|.gl l)(c6:∀a x y,C (.ref a)<|.rng x y)(c7:∀a i,C (.ref a)<|.ref i):C u v:=
 bF.rec (motive_1:=λu v M=>C u v) (motive_2:=λM M M=>True) c0 c1 c2 c3 (λM M M M M M=>c4 _ _) (λM M M M M=>c5 _ _) (λM M=>c6 _ _ _) (λM=>c7 _ _) trivial (λM M M M=>trivial) i
theorem fB {α:Type}{r:α}{C:Prop}(h:none=some r):C:=nomatch h
theorem yl {Q:Bool->Shared->Prop}{r:Bool}(i:q.iv a x)(e:bp q.Y x=some r)(P:∀eS,Q r {q.s with toks:=eS}):wpAny Mo f.A (truthy a) Q E q.s:=by
 cases x with
 |none=>rw[i.wF];have P:Q false q.s:=(aT e:false=r)▸P q.tk;exact λM M M=>P
 |bool b=>rw[i.z8];exact wpAny_truthy_bool<|(aT e:b=r)▸P q.tk
 |int n=>exact i.ta λt=>truthy_int<|(aT e:(n != 0)=r)▸P q.tk
 |_=>exact fB e
theorem St.get (q:St f){a:Addr}{o:Obj}(x:SB q.Z a o):q.h.get? a=some o:=x.elim (λx=>(q.news _ x).1) λx=>q.sx _ _ x
@[elab_as_elim] theorem fG {C:Value->Prop}{l:aG}(i:q.iv a (.U l))(k:∀t vs,IsTup q.h t vs.toArray->q.oY vs l->q.iv (.ref t) (.U l)->C (.ref t)):C a:=i.Mh (λh1 M h2 h3 h4=>k _ _ ⟨_,q.get h1,h2,_,h3⟩ h4) i
@[elab_as_elim] theorem mX {C:Value->Prop}{j:Nat}{c:Cell}(i:q.iv a (.ref j))(e:q.Y[j]?=some c)(k:∀t o,q.ρ[j]?=some t->(t,o)∈q.Z->cR q.ρ q.Z c o->C (.ref t)):C a:=i.PZ λh1=>by
 exact cZ (q.rep.cell j _ h1) λM o h2 h3 h4=>k _ o h1 h3<|aT (h2.symm.trans e)▸h4
variable {Y:af} {j:Nat}
theorem HS {l:aG}(e:vR Y j=some l):Y[j]?=some (.list l):=by
 unfold vR at e;cases h:Y[j]? with
 |none=>rw[h] at e;exact fB e
 |some c=>
  rw[h] at e;cases c with
  |list l'=>exact bH (λl=>some<|Cell.list l)<|aT e
  |_=>exact fB e
theorem Cw {l:ii}(e:OB Y j=some l):Y[j]?=some (.dict l):=by
 unfold OB at e;cases h:Y[j]? with
 |none=>rw[h] at e;exact fB e
 |some c=>
  rw[h] at e;cases c with
  |dict l'=>exact bH (λl=>some<|Cell.dict l)<|aT e
  |_=>exact fB e
theorem qF {α:Type}{g:Cell->Option α}{r:α}(e:ye Y j g=some r):∃c,Y[j]?=some c/\g c=some r:=by
 unfold ye at e;cases h:Y[j]? with
 |none=>rw[h] at e;exact fB e
 |some c=>rw[h] at e;exact bD c rfl e
@[elab_as_elim] theorem qG {C:Value->Prop}{j:Nat}{l:aG}(i:q.iv a (.ref j))(e:vR q.Y j=some l)(k:∀t vs n,q.ρ[j]?=some t->(t,PySem.W.listOf vs n)∈q.Z->q.oY vs.toList l->C (.ref t)):C a:=mX i (HS e) λt o h1 h3 h4=>by
 obtain⟨vs,n,e,hi⟩:=h4;exact k t vs n h1 (e▸h3) hi
theorem St.isList (q:St f){t:Addr}{vs:Array Value}{n:Nat}(h:(t,PySem.W.listOf vs n)∈q.Z):q.h.IsList t vs:=⟨_,(q.news _ h).1,rfl,n,rfl⟩
@[elab_as_elim] theorem hU {C:Value->Prop}{l:aG}(i:q.iv a x)(e:jk.listOf q.Y x=some l)(k:∀t vs,q.h.IsList t vs.toArray->q.oY vs l->C (.ref t)):C a:=by
 cases x with
 |gl l'=>exact i.Yg λh1 h2 h3 h4=>k _ _ ⟨_,q.sx _ _ h1,h2,_,h3⟩<|(aT e:l'=l)▸h4
 |ref j=>exact qG i e λt vs n M h3 hi=>k t _ (q.isList h3) hi
 |_=>exact fB e
theorem gA {ρ:List Addr}{Z:Led}{HT P6:List Value}{nH we:aG}(bx:cf ρ Z HT nH)(eo:cf ρ Z P6 we):cf ρ Z (HT++P6) (nH++we):=by
 induction nH generalizing HT with
 |nil=>rw[bx.jO];exact eo
 |cons x r ih=>exact bx.ej λa t=>.cons a<|ih t
theorem lZ {i:Int}(h:smallInt i=true):Builtin.Int.intBits i<=64:=by
 have h:=fO.mp h;have h1:=lE h.1;have h2:=lE h.2;unfold Builtin.Int.intBits;split
 ·exact aN rfl
 ·next hz=>
  have:i.natAbs.log2<32:=(Nat.log2_lt (by simpa using hz:i.natAbs≠0)).mpr (by omega);exact lt_num ‹_› rfl
@[elab_as_elim] theorem aE.qx {C:List Value->Prop}{g:V->Res V}(is:q.oY us vs)(P:aE bF q (qx vs g) Q E)(k:∀u v,q.iv u v->aE bF q (g v) Q E->C [u]):C us:=by
 cases vs with
 |nil=>exact P.elim
 |cons v r=>
  cases r with
  |nil=>exact is.ej λi t=>t.jO▸k _ _ i P
  |cons _ _=>exact P.elim
@[elab_as_elim] theorem aE.WG {C:List Value->Prop}{g:V->V->Res V}(is:q.oY us vs)(P:aE bF q (WG vs g) Q E)(k:∀u v u' v',q.iv u v->q.iv u' v'->aE bF q (g v v') Q E->C [u,u']):C us:=by
 cases vs with
 |nil=>exact P.elim
 |cons v r=>exact is.ej λi t=>aE.qx t P λM M j P=>k _ _ _ _ i j P
@[elab_as_elim] theorem aE.nM {C:Value->Prop}{g:Int->Res V}(i:q.iv u v)(P:aE bF q (nM v g) Q E)(k:∀i t,aE bF q (g i) Q E->C (.int i t)):C u:=by
 cases v with
 |int n=>exact i.ta λt=>k _ t P
 |_=>exact P.elim
@[elab_as_elim] theorem aE.WF {C:Value->Prop}{g:Bool->Res V}(i:q.iv u v)(P:aE bF q (WF v g) Q E)(k:∀i,aE bF q (g i) Q E->C (.bool i)):C u:=by
 cases v with
 |bool n=>exact i.z8▸k _ P
 |_=>exact P.elim
@[elab_as_elim] theorem aE.Hx {C:Value->Prop}{g:Nat->Res V}(i:q.iv u v)(P:aE bF q (Hx v g) Q E)(k:∀i a,q.ρ[i]?=some a->aE bF q (g i) Q E->C (.ref a)):C u:=by
 cases v with
 |ref n=>exact i.PZ λh=>k _ _ h P
 |_=>exact P.elim
@[elab_as_elim] theorem aE.zn {C:Value->Prop}{g:Str->Res V}(i:q.iv u v)(P:aE bF q (zn v g) Q E)(k:∀i t,aE bF q (g i) Q E->C (.str i t)):C u:=by
 cases v with
 |str n=>exact i.pW λt=>k _ t P
 |_=>exact P.elim
theorem aE.SA {C:Prop}{g:List V->Res V}(i:q.iv u v)(P:aE bF q (SA v g) Q E)(k:∀l,q.iv u (.U l)->aE bF q (g l) Q E->C):C:=by
 cases v with
 |U l=>exact k l i P
 |_=>exact P.elim
theorem aE.ifs {α β:Type}{R:Rl α β}{Q:α->Shared->Prop}{C p:Prop}[Decidable p]{r:Res β}(P:aE R q (if p then r else .stuck) Q E)(k:p->aE R q r Q E->C):C:=by
 by_cases h:p
 ·rw[if_pos h] at P;exact k h P
 ·rw[if_neg h] at P;exact P.elim
theorem aE.fq {α β γ:Type}{R:Rl α β}{Q:α->Shared->Prop}{C:Prop}{o:Option γ}{g:γ->Res β}(P:aE R q (fq o g) Q E)(k:∀r,o=some r->aE R q (g r) Q E->C):C:=by
 cases o with
 |none=>exact P.elim
 |some r=>exact k r rfl P
theorem aE.pU {C:Prop}{g:List V->Res V}{i:Nat}{d:Addr}(hr:q.ρ[i]?=some d)(P:aE bF q (pU q.Y i g) Q E)(k:∀l vs n,(d,PySem.W.listOf vs n)∈q.Z->q.oY vs.toList l->aE bF q (g l) Q E->C):C:=P.fq λl e P=>by
 refine cZ (q.rep.cell i d hr) λM o h2 h3 h4=>?_;obtain⟨vs,n,e,hi⟩:=aT (h2.symm.trans<|HS e)▸h4;exact k l vs n (e▸h3) hi P
theorem aE.pS {C:Prop}{g:List (Str × V)->Res V}{i:Nat}{d:Addr}(hr:q.ρ[i]?=some d)(P:aE bF q (pS q.Y i g) Q E)(k:∀o l kvs,(d,o)∈q.Z->o.IsDictOf (PySem.strKind prog w) kvs->jW q.ρ q.Z kvs l->aE bF q (g l) Q E->C):C:=P.fq λl e P=>by
 refine cZ (q.rep.cell i d hr) λM o h2 h3 h4=>?_;obtain⟨kvs,hd,hk⟩:=aT (h2.symm.trans<|Cw e)▸h4;exact k o l kvs h3 hd hk P
theorem P7 (ia:q.iv a x)(ib:q.iv b y)(P:aE bF q (jk q.Y .Add x y) Q E):wpAny Mo f.A (binaryOp .Add a b) Q E q.s:=by
 have cat:aE bF q (Hy q.Y x y) Q E->wpAny Mo f.A (binaryOp .Add a b) Q E q.s:=λP=>by
  unfold Hy at P;refine P.fq λl q1 P=>P.fq λr q2 P=>P.ifs λhl P=>hU ia q1 λt vs ht hi=>hU ib q2 λt' ws GW hj=>?_;exact add_lists q.fr q.news ht GW (λh' F' N'=>P.OJ q.tk F' N'<|gA hi hj) (by rw[bc hi,bc hj,sizeLine_eq];omega)
 rcases x with _ | _ | i | x | l | l | _ | i
 ·exact P.elim
 ·exact P.elim
 ·exact ia.ta λt=>aE.nM ib P λj t' P=>add_int<|P.same<|.int _ _
 ·refine ia.pW λt=>aE.zn ib P λy t' P=>P.ifs λhl P=>?_;exact add_str (λt' tk=>P.same<|.str _ t') (by rw[sizeLine_eq];omega)
 ·refine aE.SA ib P λr ib P=>P.ifs λhl P=>fG ia λt vs ht hi ia=>fG ib λt' ws GW hj ib=>?_;refine add_tuples q.fr q.news ht GW ?_ ?_ ?_ (by rw[bc hi,bc hj,sizeLine_eq];omega)
  ·exact λe=>P.here (by rw[e] at hi;rw[qm (bc hi).symm];exact ib)
  ·exact λM e=>P.here (by rw[e] at hj;rw[qm (bc hj).symm,gp];exact ia)
  ·intro _ _ h' F' N';exact P.fin q.tk F' N' (q.rep.hide q.cS) (.hide q.cS q.rep)<|.U (.inl<|.head _) (q.rep.mv q.cS) rfl rfl<|(gA hi hj).ext (.hide q.cS q.rep) bI q.rep.apart
 ·exact cat P
 ·exact P.elim
 ·exact cat P
theorem Ui {op:Operator}(ia:q.iv a x)(ib:q.iv b y)(P:aE bF q (jk q.Y op x y) Q E):wpAny Mo f.A (binaryOp op a b) Q E q.s:=by
 have two:∀{g:Int->Int->Res V},aE bF q (nM x λi=>nM y λj=>g i j) Q E->(∀i t j t',aE bF q (g i j) Q E->wpAny Mo f.A (binaryOp op (.int i t)<|.int j t') Q E q.s)->wpAny Mo f.A (binaryOp op a b) Q E q.s:=λP k=>
  aE.nM ia P λi t P=>aE.nM ib P λj t' P=>k i t j t' P
 cases op with
 |Add=>exact P7 ia ib P
 |Sub=>exact two P λi t j t' P=>sub_int<|P.same<|.int _ _
 |Mult=>
  rcases x with _ | _ | i | _ | l | _ | _ | _<;>first | exact P.elim | skip
  ·refine ia.ta λt=>aE.nM ib P λj t P=>P.ifs λhs P=>aY (Bool.or_eq_true_iff.mp hs) (λh=>?_) λh=>?_
   ·exact mul_int (P.same<|.int _ _)<|IntMulOk.of_left<|lZ h
   ·exact mul_int (P.same<|.int _ _)<|IntMulOk.of_right<|lZ h
  ·refine aE.nM ib P λj tj P=>P.ifs λhj P=>fG ia λt vs ht hi it=>?_;refine aM (wx.mp<|(bc hi).trans hj.1) λz dZ=>?_;subst dZ;rcases hj.2 with rfl | rfl | rfl
   ·exact HQ ht<|P.U q.tk .nil
   ·exact HR ht<|P.here it
   ·exact HP ht<|P.U q.tk<|gA hi hi
 |Mod=>exact two P λi t j t' P=>P.ifs λhb P=>mod_int' (Int.ne_of_gt hb)<|P.same<|.int _ _
 |FloorDiv=>exact two P λi t j t' P=>P.ifs λhb P=>floordiv_int (Int.ne_of_gt hb.1) (P.same<|.int _ _)<|.inl<|PyProof.noPylong_small<|by omega
 |Pow=>exact two P λi t j t' P=>P.ifs λhb P=>pow_int_small hb.1 (by omega) (by omega)<|P.same<|.int _ _
 |_=>exact P.elim
end
theorem sz:isSubtype (.type "tuple") (.type "tuple")=pure true:=by rw[isSubtype_type];k_all
theorem uy:isSubtype (.type "list") (.type "list")=pure true:=by rw[isSubtype_type];k_all
section
variable {A:Around} {s:Shared} {Q E:du} {a b:Addr} {vs ws:List Value}
variable {P:Fin->Shared->Prop}
theorem Ac (hx:IsTup s.heap a vs.toArray)(hy:IsTup s.heap b ws.toArray)(dS:vs.isEmpty≠ws.isEmpty)(h:P (.done<|.ret<|.bool false) s):
  wpAny Mo A (Builtin.«tuple.__eq__» ⟨[.ref a,.ref b],[]⟩) P E s:=by
 have Le:=hy.typeIs;obtain⟨oa,R7,_,na,R8⟩:=hx;obtain⟨ob,zr,_,nb,R9⟩:=hy;show wpAny _ _ (isInstance (.ref b) (.type "tuple") >>= _) _ _ s;refine av<|wpAny_isInstance Le sz ?_
 simp only[Bool.not_true,Bool.false_eq_true,if_false];refine av<|wpAny_tupleItemsOf R7 R8 ?_
 refine av<|wpAny_tupleItemsOf zr R9 ?_
 have hz:vs.toArray.toList.zip ws.toArray.toList=[]:=by
  cases vs<;>cases ws<;>simp at dS⊢
 have hs:(vs.toArray.size==ws.toArray.size)=false:=by
  cases vs<;>cases ws<;>simp at dS⊢
 rw[hz];refine av<|aW ?_
 refine aW ?_;show P (.done<|.ret<|.bool (vs.toArray.size==ws.toArray.size)) s;rw[hs];exact h
theorem Ae (hx:IsTup s.heap a vs.toArray)(hy:IsTup s.heap b ws.toArray)(dS:vs.isEmpty≠ws.isEmpty)(h:P (.done<|.ret<|.bool true) s):
  wpAny Mo A (Builtin.«tuple.__ne__» ⟨[.ref a,.ref b],[]⟩) P E s:=by
 have Le:=hy.typeIs;obtain⟨oa,R7,_,na,R8⟩:=hx;obtain⟨ob,zr,_,nb,R9⟩:=hy;show wpAny _ _ (isInstance (.ref b) (.type "tuple") >>= _) _ _ s;refine av<|wpAny_isInstance Le sz ?_
 simp only[Bool.not_true,Bool.false_eq_true,if_false];refine av<|wpAny_tupleItemsOf R7 R8 ?_
 refine av<|wpAny_tupleItemsOf zr R9 ?_
 have hz:vs.toArray.toList.zip ws.toArray.toList=[]:=by
  cases vs<;>cases ws<;>simp at dS⊢
 have hs:(vs.toArray.size != ws.toArray.size)=true:=by
  cases vs<;>cases ws<;>simp at dS⊢
 rw[hz];refine av<|aW ?_
 refine aW ?_;show P (.done<|.ret<|.bool<|vs.toArray.size != ws.toArray.size) s;rw[hs];exact h
theorem HU (hu:A.units<cLine)(hx:IsTup s.heap a vs.toArray)(hy:IsTup s.heap b ws.toArray)(dS:vs.isEmpty≠ws.isEmpty)(h:Q (.bool false) s):wpAny Mo A (compareOp .Eq (.ref a)<|.ref b) Q E s:=
 cmp_ofEq (wpAny_richCompare_same_room hx.typeIs hy.typeIs F.slot_tuple_eq (wpAny_call_entry F.slot_tuple_eq hx.typeIs F.entry_tuple_eq (Ac hx hy dS ⟨_,rfl,(λe=>nomatch e),h⟩)<|F.args_tuple_eq_2 _ _) hu)
theorem HV (hu:A.units<cLine)(hx:IsTup s.heap a vs.toArray)(hy:IsTup s.heap b ws.toArray)(dS:vs.isEmpty≠ws.isEmpty)(h:Q (.bool true) s):wpAny Mo A (compareOp .NotEq (.ref a)<|.ref b) Q E s:=
 cmp_ofNotEq (wpAny_richCompare_same_room hx.typeIs hy.typeIs F.slot_tuple_ne (wpAny_call_entry F.slot_tuple_ne hx.typeIs F.entry_tuple_ne (Ae hx hy dS ⟨_,rfl,(λe=>nomatch e),h⟩)<|F.args_tuple_ne_2 _ _) hu)
theorem ym (hx:s.heap.IsList a vs.toArray)(hy:s.heap.IsList b ws.toArray)(dS:vs.isEmpty≠ws.isEmpty)(h:P (.done<|.ret<|.bool false) s):
  wpAny Mo A (Builtin.«list.__eq__» ⟨[.ref a,.ref b],[]⟩) P E s:=by
 have Le:s.TypeIs (.ref b) "list":=let ⟨o,ho,hc,_⟩:=hy;⟨o,ho,hc⟩;have hs:(vs.toArray.size != ws.toArray.size)=true:=by
  cases vs<;>cases ws<;>simp at dS⊢
 obtain⟨oa,R7,_,na,R8⟩:=hx;obtain⟨ob,zr,_,nb,R9⟩:=hy;show wpAny _ _ (isInstance (.ref b) (.type "list") >>= _) _ _ s;refine av<|wpAny_isInstance Le uy ?_
 simp only[Bool.not_true,Bool.false_eq_true,if_false];refine av<|wpAny_listItems R7 R8 ?_
 refine av<|wpAny_listItems zr R9 ?_
 rw[hs];simp only[if_true];exact av<|wpAny_rule<|aW h
theorem Fv (hu:A.units<cLine)(hx:s.heap.IsList a vs.toArray)(hy:s.heap.IsList b ws.toArray)(dS:vs.isEmpty≠ws.isEmpty)(h:Q (.bool false) s):wpAny Mo A (compareOp .Eq (.ref a)<|.ref b) Q E s:=
 have V7:=let ⟨o,ho,hc,_⟩:=hx;⟨o,ho,hc⟩;have Le:=let ⟨o,ho,hc,_⟩:=hy;⟨o,ho,hc⟩
 cmp_ofEq (wpAny_richCompare_same_room V7 Le F.slot_list_eq (wpAny_call_entry F.slot_list_eq V7 F.entry_list_eq (ym hx hy dS ⟨_,rfl,(λe=>nomatch e),h⟩)<|F.args_list_eq_2 _ _) hu)
theorem yn (hx:s.heap.IsList a vs.toArray)(hy:s.heap.IsList b ws.toArray)(dS:vs.isEmpty≠ws.isEmpty)(h:P (.done<|.ret<|.bool true) s):
  wpAny Mo A (Builtin.«list.__ne__» ⟨[.ref a,.ref b],[]⟩) P E s:=by
 have Le:s.TypeIs (.ref b) "list":=let ⟨o,ho,hc,_⟩:=hy;⟨o,ho,hc⟩;have hs:(vs.toArray.size != ws.toArray.size)=true:=by
  cases vs<;>cases ws<;>simp at dS⊢
 obtain⟨oa,R7,_,na,R8⟩:=hx;obtain⟨ob,zr,_,nb,R9⟩:=hy;show wpAny _ _ (isInstance (.ref b) (.type "list") >>= _) _ _ s;refine av<|wpAny_isInstance Le uy ?_
 simp only[Bool.not_true,Bool.false_eq_true,if_false];refine av<|wpAny_listItems R7 R8 ?_
 refine av<|wpAny_listItems zr R9 ?_
 rw[hs];simp only[if_true];exact av<|wpAny_rule<|aW h
theorem Fw (hu:A.units<cLine)(hx:s.heap.IsList a vs.toArray)(hy:s.heap.IsList b ws.toArray)(dS:vs.isEmpty≠ws.isEmpty)(h:Q (.bool true) s):wpAny Mo A (compareOp .NotEq (.ref a)<|.ref b) Q E s:=
 have V7:=let ⟨o,ho,hc,_⟩:=hx;⟨o,ho,hc⟩;have Le:=let ⟨o,ho,hc,_⟩:=hy;⟨o,ho,hc⟩
 cmp_ofNotEq (wpAny_richCompare_same_room V7 Le F.slot_list_ne (wpAny_call_entry F.slot_list_ne V7 F.entry_list_ne (yn hx hy dS ⟨_,rfl,(λe=>nomatch e),h⟩)<|F.args_list_ne_2 _ _) hu)
end
section
variable {f:Fz} {q:St f} {Q E:du} {a b:Value} {x y:V} {r:Bool}
theorem jd {α β:Type}{C:Prop}{o:Option α}{g:α->Option β}{r:β}(e:o.bind g=some r)(k:∀a,o=some a->g a=some r->C):C:=by
 cases o with
 |none=>exact fB e
 |some a=>exact k a rfl e
theorem qH {α β:Type}{C:Prop}{o:Option α}{g:α->β}{r:β}(e:o.map g=some r)(k:∀a,o=some a->g a=r->C):C:=by
 cases o with
 |none=>exact fB e
 |some a=>exact k a rfl<|aT e
theorem Cx {α:Type}{C p:Prop}[Decidable p]{o:Option α}{r:α}(e:(if p then o else none)=some r)(k:p->o=some r->C):C:=by
 by_cases h:p
 ·rw[if_pos h] at e;exact k h e
 ·rw[if_neg h] at e;exact fB e
theorem Uj {a b:Option Bool}{C:Prop}(e:Lz a b=some r)(k₁:a=some r->C)(k₂:b=some r->C):C:=by
 cases a with
 |none=>exact k₂ e
 |some x=>exact k₁ e
theorem rC {h:Heap}{g:V->Option PyData}(one:∀{u v d},q.iv u v->g v=some d->∃as,Reads h u d as):∀{vs:aG} {us:List Value} {ds:List PyData},q.oY us vs->pQ g vs=some ds->∃as,ReadsAll h us ds as:=by
 intro vs
 induction vs with
 |nil=>intro us ds i e;rw[i.jO,<-(aT e:[]=ds)];exact⟨_,.nil⟩
 |cons v r ih=>
  intro us ds i e;refine i.ej λi t=>jd e λd e1 e=>qH e λl e2 e=>?_;rw[<-e];exact aM (one i e1) λas ha=>aM (ih t e2) λbs hb=>⟨_,.cons ha hb⟩
theorem qI:∀(k:Nat) {u:Value} {v:V} {d:PyData},q.iv u v->dH q.Y k v=some d->∃as,Reads q.h u d as:=by
 intro k
 induction k with
 |zero=>exact λM e=>fB e
 |succ k one=>
  intro u v d i e;cases v with
  |none=>rw[i.wF,<-(aT e:PyData.none=d)];exact⟨_,.none⟩
  |bool b=>rw[i.z8,<-(aT e:PyData.bool b=d)];exact⟨_,.bool b⟩
  |int j=>rw[<-(aT e:PyData.int j=d)];exact i.ta λt=>⟨_,.int j t⟩
  |str s=>rw[<-(aT e:PyData.str s=d)];exact i.pW λt=>⟨_,.str s t⟩
  |U l=>
   refine qH e λds e1 e=>?_;rw[<-e];exact i.Mh λh1 M h3 h4 h5=>aM (rC one h5 e1) λas hr=>⟨_,.tuple (q.get h1) h3 h4 hr⟩
  |gl l=>
   refine qH e λds e1 e=>?_;rw[<-e];exact i.Yg λh1 h3 h4 h5=>aM (rC one h5 e1) λas hr=>⟨_,.list (q.sx _ _ h1) h3 h4 hr⟩
  |rng _ _=>exact fB e
  |ref j=>
   refine jd e λl e0 e=>qH e λds e1 e=>?_;rw[<-e];exact qG i e0 λt vs n M h3 hi=>aM (rC one hi e1) λas hr=>⟨_,.list (q.news _ h3).1 rfl rfl hr⟩
@[elab_as_elim] theorem tI {C:Value->Prop}{kl:Bool × aG}(i:q.iv a x)(e:jY q.Y x=some kl)(k:∀t vs,(kl.1=true->IsTup q.h t vs.toArray)->(kl.1=false->q.h.IsList t vs.toArray)->q.oY vs kl.2->C (.ref t)):C a:=by
 cases x with
 |U l=>rw[<-(aT e:(true,l)=kl)] at k;exact fG i λt vs h1 h2 M=>k t vs (λM=>h1) (λe=>nomatch e) h2
 |gl l=>rw[<-(aT e:(false,l)=kl)] at k;exact hU i rfl λt vs h1 h2=>k t vs (λe=>nomatch e) (λM=>h1) h2
 |ref j=>exact qH e λl e1 e=>by rw[<-e] at k;exact hU i e1 λt vs h1 h2=>k t vs (λe=>nomatch e) (λM=>h1) h2
 |_=>exact fB e
theorem uz {ρ:List Addr}{Z:Led}{u:List Value}{v:aG}(i:cf ρ Z u v):u.isEmpty=v.isEmpty:=by
 cases v with
 |nil=>rw[i.jO];rfl
 |cons x r=>exact i.ej λM M=>rfl
noncomputable abbrev nx (ne r:Bool):Bool:=cond ne (!r) r
noncomputable abbrev eqs (ne:Bool):CmpOp:=cond ne .NotEq .Eq
theorem HW (q:St f):f.A.units+200<cLine:=kI (t7 (dX _ _) 200) q.ok.units
theorem kY {k:Nat}(q:St f)(h:k<=200):f.A.units+k<cLine:=kI (Nat.add_le_add_left h _)<|HW q
theorem qJ (q:St f):f.A.in1.units<cLine:=by rw[units_in1];exact kY q (by decide)
theorem eqD {ne:Bool}(ia:q.iv a x)(ib:q.iv b y)(e:yd q.Y x y=some r)(P:Q (.bool<|nx ne r) q.s):wpAny Mo f.A (compareOp (eqs ne) a b) Q E q.s:=
 jd e λd1 q1 e=>jd e λd2 q2 e=>Cx e λhs e=>by
  rw[<-(aT e:PyData.eqv d1 d2=r)] at P;refine aM (qI 12 ia q1) λas h1=>aM (qI 12 ib q2) λbs h2=>?_;have hs:=fO.mp hs;cases ne with
  |false=>exact eq_dataH h1 h2 hs.1 hs.2 (kY q<|by decide) P
  |true=>exact ne_dataH h1 h2 hs.1 hs.2 (kY q<|by decide) P
theorem eqE {ne:Bool}(ia:q.iv a x)(ib:q.iv b y)(e:v7 q.Y x y=some r)(P:Q (.bool<|nx ne r) q.s):wpAny Mo f.A (compareOp (eqs ne) a b) Q E q.s:=
 jd e λd1 q1 e=>jd e λd2 q2 e=>Cx e λhc e=>by
  rw[<-(aT e:false=r)] at P;refine tI ia q1 λt vs h1 h2 h3=>tI ib q2 λt' ws V8 SK h3'=>?_;have hc:=fO.mp hc;have dS:vs.isEmpty≠ws.isEmpty:=by rw[uz h3,uz h3'];simpa using hc.2
  have hu:=kY (k:=0) q (by decide);rw[((eq_of_beq hc.1).symm:d2.1=d1.1)] at V8 SK;cases hk:d1.1 with
  |true=>cases ne with
   |false=>exact HU hu (h1 hk) (V8 hk) dS P
   |true=>exact HV hu (h1 hk) (V8 hk) dS P
  |false=>cases ne with
   |false=>exact Fv hu (h2 hk) (SK hk) dS P
   |true=>exact Fw hu (h2 hk) (SK hk) dS P
theorem eqS {ne:Bool}(ia:q.iv a x)(ib:q.iv b y)(e:TH x y=some r)(P:Q (.bool<|nx ne r) q.s):wpAny Mo f.A (compareOp (eqs ne) a b) Q E q.s:=by
 cases x with
 |str s=>
  cases y with
  |str t=>
   rw[<-(aT e:decide (s=t)=r)] at P;refine ia.pW λM=>ib.pW λM=>?_;cases ne with
   |false=>exact PyProof.Rows.eq_str P
   |true=>exact PyProof.Rows.ne_str P
  |_=>exact fB e
 |_=>exact fB e
end
section
variable {ρ:List Addr} {Z:Led} {f:Fz} {q:St f} {Q E:du} {a b u:Value} {x y v:V} {r:Bool}
theorem wI:∀{l:aG} {ks:cY},strsOf l=some ks->ks.map V.str=l:=by
 intro l
 induction l with
 |nil=>intro ks e;rw[<-(aT e:[]=ks)];rfl
 |cons v r ih=>
  intro ks e;cases v with
  |str t=>exact qH e λk e1 e=>by rw[<-e,d8,ih e1]
  |_=>exact fB e
theorem Af:∀{ks:cY} {vs:List Value},cf ρ Z vs (ks.map .str)->StrsAre vs ks:=by
 intro ks
 induction ks with
 |nil=>exact λh=>by rw[h.jO];exact .nil
 |cons k r ih=>exact λh=>cf.ej h λi t=>i.pW λM=>.cons _ _<|ih t
theorem pX {vs:List Value}{l:aG}{ks:cY}(e:strsOf l=some ks)(i:cf ρ Z vs l):StrsAre vs ks:=Af<|wI e▸i
theorem HX (s:Str):∀ts:cY,anyS s ts=ts.any (· ==s):=by
 intro ts
 induction ts with
 |nil=>rfl
 |cons t r ih=>rw[anyS,ih];rfl
noncomputable abbrev ins (ne:Bool):CmpOp:=cond ne .NotIn .In
variable {ne:Bool}
theorem inO (ia:q.iv a x)(ib:q.iv b y)(e:zX q.Y x y=some r)(P:Q (.bool<|nx ne r) q.s):wpAny Mo f.A (compareOp (ins ne) a b) Q E q.s:=
 jd e λcc q1 e=>jd e λd q2 e=>by
  refine aM (qI 12 ib q1) λas h1=>aM (qI 12 ia q2) λbs h2=>?_;have room:∀xs:List PyData,d.depth<=64->f.A.units+1+min (PyData.depthAll xs) d.depth<cLine:=λxs h=>
   Nat.add_assoc _ _ _▸kY q (d9 (Nat.add_le_add_left (d9 (Nat.min_le_right _ _) h) 1)<|by decide)
  cases cc with
  |tuple xs=>
   refine Cx e λhs e=>?_;have hs:=fO.mp hs;have Oj:=fO.mp hs.1;rw[<-aT e] at P;cases ne with
   |false=>exact SeqAt.in_tuple_reads h1 h2 Oj.1 Oj.2 (room xs<|lE hs.2) P
   |true=>exact SeqAt.notIn_tuple_reads h1 h2 Oj.1 Oj.2 (room xs<|lE hs.2) P
  |list xs=>
   refine Cx e λhs e=>?_;have hs:=fO.mp hs;have Oj:=fO.mp hs.1;rw[<-aT e] at P;cases ne with
   |false=>exact SeqAt.in_list_reads h1 h2 Oj.1 Oj.2 (room xs<|lE hs.2) P
   |true=>exact SeqAt.notIn_list_reads h1 h2 Oj.1 Oj.2 (room xs<|lE hs.2) P
  |_=>exact fB e
theorem inS (ia:q.iv a x)(ib:q.iv b y)(e:Fg q.Y x y=some r)(P:Q (.bool<|nx ne r) q.s):wpAny Mo f.A (compareOp (ins ne) a b) Q E q.s:=by
 cases x with
 |str s=>
  refine jd e λkl e1 e=>qH e λts e2 e=>?_;rw[<-e,HX] at P;refine tI ib e1 λt vs h1 h2 h3=>ia.pW λM=>?_;have hs:=pX e2 h3;cases hk:kl.1 with
  |true=>cases ne with
   |false=>exact in_tuple_strs (h1 hk) hs P
   |true=>exact notin_tuple_strs (h1 hk) hs P
  |false=>cases ne with
   |false=>exact in_list_strs (h2 hk) hs P
   |true=>exact notin_list_strs (h2 hk) hs P
 |_=>exact fB e
theorem inD (ia:q.iv a x)(ib:q.iv b y)(e:Sz q.Y x y=some r)(P:Q (.bool<|nx ne r) q.s):wpAny Mo f.A (compareOp (ins ne) a b) Q E q.s:=
 Uj e (λe=>inS ia ib e P) λe=>inO ia ib e P
theorem oj {l:aG}{vs:List Value}{j:Nat}(i:cf ρ Z vs l):l[j]?=some v->∃u,vs[j]?=some u/\bF ρ Z u v:=by
 induction l generalizing vs j with
 |nil=>exact λe=>fB e
 |cons x l ih=>
  refine i.ej λh t=>?_;cases j with
  |zero=>exact λe=>⟨_,rfl,aT e▸h⟩
  |succ j=>exact λe=>ih (j:=j) t e
section
variable {α:Type} [DecidableEq α] {k:α}
theorem Fy (k k':α)(x:V)(l:List (α × V)):aL ((k',x)::l) k=if k'=k then some x else aL l k:=by
 unfold aL;rw[List.find?_cons];by_cases h:k'=k
 ·rw[if_pos h,dP h];rfl
 ·rw[if_neg h,eN h]
theorem mY (k k':α)(x:Value)(l:List (α × Value)):valueAt ((k',x)::l) k=if k'=k then some x else valueAt l k:=by
 unfold valueAt;rw[List.find?_cons];by_cases h:k'=k
 ·rw[if_pos h,dP h];rfl
 ·rw[if_neg h,eN h]
variable {l:List (α × V)} {kvs:List (α × Value)}
theorem rD (i:jW ρ Z kvs l):(aL l k=none/\valueAt kvs k=none)∨∃v u,aL l k=some v/\valueAt kvs k=some u/\bF ρ Z u v:=by
 induction i with
 |nil=>exact .inl ⟨rfl,rfl⟩
 |@cons k' u x r t i _ ih=>
  rw[Fy,mY];by_cases h:k'=k
  ·rw[if_pos h,if_pos h];exact .inr<|eT _ _ rfl rfl i
  ·rw[if_neg h,if_neg h];exact ih
theorem D1 (i:jW ρ Z kvs l)(e:aL l k=some v):∃u,valueAt kvs k=some u/\bF ρ Z u v:=by
 refine aY (rD (k:=k) i) (λUh=>?_) λYk=>?_
 ·refine cN Uh λe1 _=>?_;rw[e] at e1;exact fB e1.symm
 ·exact cZ Yk λv' u e1 e2 e3=>bD u e2<|aT (e1.symm.trans e)▸e3
theorem HY (i:jW ρ Z kvs l)(e:aL l k=none):valueAt kvs k=none:=by
 refine aY (rD (k:=k) i) (λYl=>?_) λYm=>?_
 ·exact cN Yl λ_ e2=>e2
 ·refine gm Ym λv' u e1 _=>?_;rw[e] at e1;exact fB e1
theorem uA (i:jW ρ Z kvs l):(valueAt kvs k).isSome=(aL l k).isSome:=by
 rcases rD i with ⟨e1,e2⟩ | ⟨v',u,e1,e2,_⟩<;>rw[e1,e2]<;>rfl
end
variable {ks:cY}
theorem itemsAre {l:aG}{vs:List Value}(e:strsOf l=some ks)(i:cf ρ Z vs l):ItemsAre (strKind prog w) ks vs:=by
 have h:=pX e i;clear e i
 induction h with
 |nil=>exact .nil
 |cons _ _ _ ih=>exact .cons (strKind_is _ _ _ _) ih
theorem uB:∀ks:cY,strsOf (ks.map .str)=some ks:=by
 intro ks
 induction ks with
 |nil=>rfl
 |cons k r ih=>show(strsOf<|r.map .str).map _= _;rw[ih];rfl
theorem isKey {l:aG}{t:Addr}(i:q.iv (.ref t) (.U l))(e:strsOf l=some ks):IsTupleKey (strKind prog w) q.h ks t:=
 i.Mh (C:=λv=>∀t,v=.ref t->IsTupleKey (strKind prog w) q.h ks t) (λh1 M h2 h3 h4 t e'=>Value.ref.inj e'▸⟨_,_,_,q.get h1,h2,h3,itemsAre e h4⟩) t rfl
theorem OK {l:List (cY × V)}{d:Addr}{o:Obj}(hm:(d,o)∈q.Z)(hc:cR q.ρ q.Z (.dictT l) o):∃xs:List (cY × Addr × Value),q.h.DictOfH (tupleKind<|strKind prog w) d xs/\jW q.ρ q.Z (xs.map λx=>(x.1,x.2.2)) l:=by
 obtain⟨xs,es,ep,h1,h2,h3,h4,h5,h6⟩:=hc;exact bD xs ⟨o,es,ep,(q.news _ hm).1,h1,h2,h3,λx hx=>isKey (h5 x hx)<|uB _,h4⟩ h6
theorem Ag:∀{xs:List (cY × Addr × Value)},(atKey xs ks).map (·.2)=valueAt (xs.map λx=>(x.1,x.2.2)) ks:=by
 intro xs
 induction xs with
 |nil=>rfl
 |cons x r ih=>
  rw[d8,mY,<-ih];unfold atKey;rw[List.find?_cons];by_cases hk:x.1=ks
  ·rw[if_pos hk,dP hk];rfl
  ·rw[if_neg hk,eN hk]
theorem sA {i:Int}(h:smallInt i=true):-4294967296<i/\i<4294967296:=
 have h:=fO.mp h;⟨lE h.1,lE h.2⟩
theorem at0 {bA cz:Expr}{t:Addr}{vs:List Value}{l:aG}(hs:∀o i,subscripted cz false o i=operate [o,i] (getItem o i))(h1:q.h.IsList t vs.toArray)(h2:q.oY vs l)(ib:q.iv b y)(e:pR y (Ce l)=some v)
  (P:∀u eS,q.iv u v->Q u {q.s with toks:=eS}):wpAny Mo f.A (subscriptTail bA cz (.ref t) b) Q E q.s:=by
 cases y with
 |int k=>
  refine Cx e λhk e=>?_;have hk:=fO.mp hk;have h0:=lE hk.2;have h3:=sA hk.1;refine aI (oj h2 e) λu hu iu=>?_;exact ib.ta λM=>tail_any h1.typeIs slot_list_getitem.lookup (wpAny_getItem_list h1 h0 (by omega) (by rw[wA];exact hu)<|P u q.tk iu)<|hs _ _
 |_=>exact fB e
theorem Uk {bA cz:Expr}(hs:∀o i,subscripted cz false o i=operate [o,i] (getItem o i))(ia:q.iv a x)(ib:q.iv b y)(e:cb q.Y x y=some v)(P:∀u eS,q.iv u v->Q u {q.s with toks:=eS}):wpAny Mo f.A (subscriptTail bA cz a b) Q E q.s:=by
 cases x with
 |U l=>
  cases y with
  |int k=>
   refine Cx e λhk e=>jd e λj hj e=>fG ia λt vs h1 h2 M=>?_;have h3:=sA hk;refine aI (oj h2 e) λu hu iu=>?_;exact ib.ta λM=>tail_any h1.typeIs slot_tuple_getitem.lookup (getItem_tuple h1 (by omega) (by omega) (by rw[List.size_toArray,bc h2];exact hj) (by rw[wA];exact hu)<|P u q.tk iu)<|hs _ _
  |_=>exact fB e
 |gl l=>exact hU ia rfl λt vs h1 h2=>at0 hs h1 h2 ib e P
 |ref j=>
  refine aI (qF e) λc h2 e=>mX ia h2 λd o hr h3 h4=>?_;cases c with
  |list l=>
   obtain⟨vs,nn,ho,hi⟩:=h4;exact at0 hs (q.isList (ho▸h3)) hi ib e P
  |dict l=>
   obtain⟨kvs,hd,hk⟩:=h4;cases y with
   |str t=>
    exact aI (D1 hk e) λu hu iu=>ib.pW λM=>kdt_tail q.news h3 hd (kdt_getItem q.news h3 hd (strKind_is _ _ _ _) hu<|P u _ iu)<|hs _ _
   |_=>exact fB e
  |dictT l=>
   cases y with
   |U ks=>
    refine jd e λkk e1 e=>aI (OK h3 h4) λxs hd hk=>aI (D1 hk e) λu hu iu=>?_;rw[<-Ag] at hu;refine fG ib λt vs M M ib=>qH hu λp hp hu=>?_;rw[<-hu] at iu;exact tail_any hd.typeIs slot_dict_getitem.lookup (wpAny_getItem_heap (qJ q) (isKey ib e1) hd hp<|P _ _ iu)<|hs _ _
   |_=>exact fB e
  |_=>exact fB e
 |_=>exact fB e
end
section
variable {A:Around} {s:Shared} {E:du} {x C:Addr} {ox:Obj} {od:Option Obj}
theorem wK {name:Str}{id:String}{args:List Value}{Q:Option Value->Shared->Prop}(S:Slot "object" name id)(X:K.In s.heap)(aay:InstAt s.heap x ox C od)(hs:findIn K (.ref C) name=some (some (.builtin id)))
  (V9:wpAny Mo A (call (.builtin id) (.ref x::args)) (λv=>Q<|some v) E s):wpAny Mo A (callSpecialIfBound? (.ref x) name args) Q E s:=by
 simp only[callSpecialIfBound?,bindSpecialIfBound?];refine dF<|av<|av<|av<|aay.type.here<|(looks_findIn X hs).here ?_
 simp only[S.bind];refine av<|wpAny_askSetting<|wpAny_ite ?_
 have fin:wpAny Mo A (call (.builtin id) ([.ref x]++args) >>= λv=>pure<|some v) Q E s:=
  av (cC V9 (λv s' h'=>aW h') λM M h'=>h')
 split
 ·exact av<|aW<|aW fin
 ·exact wpAny_tryCatch<|av<|aW<|aW fin
theorem wL {id owner n:String}{rest:List Value}{Q:zA}(hk:builtinKind id=some .slot)(hs:splitId id=some (owner,n))(ha:argsOk id ⟨.ref x::rest,[]⟩)(X:K.In s.heap)(aay:InstAt s.heap x ox C od)
  (zr:subIn K (.ref C) (.type owner)=some true) (hq:Q () s):wpAny Mo A (checkBuiltinCall id ⟨.ref x::rest,[]⟩) Q E s:=by
 simp only[checkBuiltinCall,hk,hs];refine av ?_
 ·unfold isInstance;refine av<|aay.type.here<|(looks_subIn X zr).here ?_
  cases hsig:Manifest.signature? id with
  |none=>exact aW hq
  |some sig=>
   simp only[argsOk,hsig] at ha;have h2:=ha;show wpAny Mo A (Bind.checkArgs id sig ⟨.ref x::rest,[]⟩) Q E _;rw[h2];exact aW hq
variable {t:Str} {k:Tok}
theorem HZ {Q:Fin->Shared->Prop}(hq:Q (.done<|.ret .notImplemented) s):wpAny Mo A (Builtin.«object.__eq__» ⟨[.ref x,.str t k],[]⟩) Q E s:=by
 repeat (first | wp_step)
 exact hq
theorem special_eq {Q:Option Value->Shared->Prop}(X:K.In s.heap)(aay:InstAt s.heap x ox C od)(hs:findIn K (.ref C) "__eq__"=some (some (.builtin "object.__eq__")))(zr:subIn K (.ref C) (.type "object")=some true)(hq:Q (some .notImplemented) s):
  wpAny Mo A (callSpecialIfBound? (.ref x) "__eq__" [.str t k]) Q E s:=
 wK F.cmp_object.eq X aay hs (wpAny_call<|codeAny_call_builtin F.cmp_object.eq.plain F.cmpEntry_eq<|wL F.cmpKind_eq F.cmpSplit_eq (F.cmpArgs_eq _ _) X aay zr<|HZ hq)
theorem P9 {Q:Option Value->Shared->Prop}(X:K.In s.heap)(aay:InstAt s.heap x ox C od)(hs:findIn K (.ref C) "__eq__"=some (some (.builtin "object.__eq__")))(zr:subIn K (.ref C) (.type "object")=some true)(hq:Q none s):
  wpAny Mo A (tryCompare (.ref x) "__eq__" (.str t k)) Q E s:=by
 simp only[tryCompare];exact av<|special_eq X aay hs zr<|aW hq
theorem Qa {Q:Option Value->Shared->Prop}(X:K.In s.heap)(aay:InstAt s.heap x ox C od)(hs:findIn K (.ref C) "__eq__"=some (some (.builtin "object.__eq__")))(BM:findIn K (.ref C) "__ne__"=some (some (.builtin "object.__ne__")))(zr:subIn K (.ref C) (.type "object")=some true)(hu:A.units+1<cLine)(hq:Q none s):
  wpAny Mo A (tryCompare (.ref x) "__ne__" (.str t k)) Q E s:=by
 simp only[tryCompare];refine av<|wK F.cmp_object.ne X aay BM<|wpAny_call<|codeAny_call_builtin F.cmp_object.ne.plain F.cmpEntry_ne<|wL F.cmpKind_ne F.cmpSplit_ne (F.cmpArgs_ne _ _) X aay zr ?_
 repeat (first | with_reducible refine wpAny_cRoomFor hu ?_ | with_reducible refine special_eq X aay hs zr ?_ | wp_step)
 exact hq
end
theorem Ah (t:Str)(k:Tok)(x C ad:Addr):Meets (Builtin.«str.__eq__» ⟨[.str t k,.ref x],[]⟩) (λM R s=>s.heap.get? x=some (instObj C ad)/\R (.ok<|.ret .notImplemented) s):=
 .of_wp λprog w A R s h=>by obtain⟨hp,g,d,tk,os⟩:=s;obtain⟨hl,h⟩:=h;wp_walk using wpAny_loadPart' hl,wpAny_load hl;exact⟨_,rfl,h⟩
theorem Ai (t:Str)(k:Tok)(x C ad:Addr):Meets (Builtin.«str.__ne__» ⟨[.str t k,.ref x],[]⟩) (λM R s=>s.heap.get? x=some (instObj C ad)/\R (.ok<|.ret .notImplemented) s):=
 .of_wp λprog w A R s h=>by obtain⟨hp,g,d,tk,os⟩:=s;obtain⟨hl,h⟩:=h;wp_walk using wpAny_loadPart' hl,wpAny_load hl;exact⟨_,rfl,h⟩
section
variable {A:Around} {s:Shared} {E:du} {x C:Addr} {ox:Obj} {od:Option Obj}
variable {Q:du}
theorem Mn {t:Str}{k:Tok}(hu:A.units<cLine)(X:K.In s.heap)(aay:InstAt s.heap x ox C od)(Sa:subIn K (.type "str") (.ref C)=some false)
  (h1:∀{Q:Option Value->Shared->Prop},Q none s->wpAny Mo A (tryCompare (.ref x) "__eq__" (.str t k)) Q E s) (h2:∀{Q:Option Value->Shared->Prop},Q none s->wpAny Mo A (tryCompare (.str t k) "__eq__" (.ref x)) Q E s) (hq:Q (.bool false) s):wpAny Mo A (richCompare .Eq (.ref x) (.str t k)) Q E s:=by
 unfold richCompare;simp only[oneThing_ref];refine dF<|av<|wpAny_cRoomFor hu ?_
 refine av (aay.type.here (av (wpAny_of_eq (rfl:typeOf (.str t k)=pure (.type "str")) ?_)));have dS:((Value.ref C != Value.type "str")=true):=rfl;rw[if_pos dS];refine av<|(looks_subIn X Sa).here ?_
 simp only[Bool.false_eq_true,if_false,Bool.not_false,if_true];refine av<|h1<|av<|h2 ?_
 exact av<|wpAny_rule<|av<|wpAny_of_eq (rfl:isSame (.ref x) (.str t k)=pure false)<|aW hq
theorem Mp {t:Str}{k:Tok}(hu:A.units<cLine)(X:K.In s.heap)(aay:InstAt s.heap x ox C od)(Sa:subIn K (.type "str") (.ref C)=some false)
  (h1:∀{Q:Option Value->Shared->Prop},Q none s->wpAny Mo A (tryCompare (.ref x) "__ne__" (.str t k)) Q E s) (h2:∀{Q:Option Value->Shared->Prop},Q none s->wpAny Mo A (tryCompare (.str t k) "__ne__" (.ref x)) Q E s) (hq:Q (.bool true) s):wpAny Mo A (richCompare .NotEq (.ref x) (.str t k)) Q E s:=by
 unfold richCompare;simp only[oneThing_ref];refine dF<|av<|wpAny_cRoomFor hu ?_
 refine av (aay.type.here (av (wpAny_of_eq (rfl:typeOf (.str t k)=pure (.type "str")) ?_)));have dS:((Value.ref C != Value.type "str")=true):=rfl;rw[if_pos dS];refine av<|(looks_subIn X Sa).here ?_
 simp only[Bool.false_eq_true,if_false,Bool.not_false,if_true];refine av<|h1<|av<|h2 ?_
 exact av<|wpAny_rule<|av<|wpAny_of_eq (rfl:isSame (.ref x) (.str t k)=pure false)<|aW hq
theorem eqI {f:Fz}{q:St f}{E:du}{a b:Value}{x y:V}{r ne:Bool}(ia:q.iv a x)(ib:q.iv b y)(e:TG q.Y x y=some r)(P:Q (.bool<|nx ne r) q.s):wpAny Mo f.A (compareOp (eqs ne) a b) Q E q.s:=by
 cases x with
 |ref i=>
  cases y with
  |str t=>
   have e:(match q.Y[i]? with
    |some (.inst _ _)=>some false
    |_=>none)=some r:=e
   cases e1:q.Y[i]? with
   |none=>rw[e1] at e;exact fB e
   |some c=>
    rw[e1] at e;cases c with
    |inst C d=>
     rw[<-(aT e:false=r)] at P;refine mX ia e1 λxa o hr g2 g3=>ib.pW λk=>?_;obtain⟨ad,g4,rfl,ck⟩:=g3;refine cZ (q.rep.cell d ad g4) λce' o' k1 k2 k3=>?_;have aay:=InstAt.of_news q.news g2 k2;have u1:=kY (k:=1) q (by decide);have u0:=kY (k:=0) q (by decide);cases ne with
     |false=>exact Mn u0 q.sx aay ck.sub (λhq=>P9 q.sx aay ck.eq ck.obj hq) (λhq=>wpAny_tryCompare_declines (typeIs_str _ _ _) PySem.F.slot_str_eq<|call_meets PySem.F.slot_str_eq (typeIs_str _ _ _) PySem.F.entry_str_eq (PySem.F.args_str_eq_2 _ _) (Ah t k xa C ad) ⟨aay.at_,rfl,hq⟩) P
     |true=>exact Mp u0 q.sx aay ck.sub (λhq=>Qa q.sx aay ck.eq ck.ne ck.obj u1 hq) (λhq=>wpAny_tryCompare_declines (typeIs_str _ _ _) PySem.F.slot_str_ne<|call_meets PySem.F.slot_str_ne (typeIs_str _ _ _) PySem.F.entry_str_ne (PySem.F.args_str_ne_2 _ _) (Ai t k xa C ad) ⟨aay.at_,rfl,hq⟩) P
    |_=>exact fB e
  |_=>exact fB e
 |_=>exact fB e
end
section
variable {f:Fz} {q:St f} {Q E:du} {a b:Value} {x y:V} {r:Bool}
theorem Qb {d t:Addr}{k:cY}{xs:List (cY × Addr × Value)}(Ol:IsTupleKey (strKind prog w) q.h k t)(hd:(d==sysModules)=false)(hm:q.h.DictOfH (tupleKind<|strKind prog w) d xs)
  (h:Q (.bool<|!(atKey xs k).isSome) {q.s with toks:=q.tk+(k.length+1)}):wpAny Mo f.A (compareOp .NotIn (.ref t)<|.ref d) Q E q.s:=by
 intro Γ p hΓ;have h2:=wpAny_in_heap (s:=q.s) (A:=f.A) (E:=E) (Q:=λv s'=>∃b,v=.bool b/\Q (.bool !b) s') (knd:=tupleKind<|strKind prog w) (qJ q) Ol hd hm ⟨_,rfl,h⟩ Γ p hΓ;have e1:compareOp .In (.ref t) (.ref d)=(contains (.ref d) (.ref t) >>= λb=>pure<|.bool b):=rfl;have e2:compareOp .NotIn (.ref t) (.ref d)=(contains (.ref d) (.ref t) >>= λb=>pure<|.bool !b):=rfl;rw[e1] at h2;rw[e2];simp only[Sem.wp_bind'] at h2⊢;refine Sem.wp_mono _ Γ _ (λb M eu bx=>?_) (λM M M h'=>h') _ _ h2;refine aI (bx:∃b',Value.bool b=.bool b'/\_) λb' e hq=>?_;cases e;exact hq
theorem Ia {d:Addr}{o:Obj}(h3:(d,o)∈q.Z)(hd:o.IsDictOf (PySem.strKind prog w) []):q.h.DictOfH (tupleKind<|strKind prog w) d []:=by
 refine LO hd λes ep h1 h5 M h6 M=>?_;have hes:es.toList=[]:=by
  revert h6;generalize es.toList=l';intro h6;cases h6;rfl
 exact LQ o es ep<|SZ ((q.news _ h3).1) h1 h5 (by rw[hes];rfl) (λM hx=>nomatch hx) jG
theorem sx {ne:Bool}{d t:Addr}{k:cY}{xs:List (cY × Addr × Value)}(Ol:IsTupleKey (strKind prog w) q.h k t)(hd:(d==sysModules)=false)(hm:q.h.DictOfH (tupleKind<|strKind prog w) d xs)(e:(atKey xs k).isSome=r)
  (P:∀eS,Q (.bool<|nx ne r) {q.s with toks:=eS}):wpAny Mo f.A (compareOp (ins ne) (.ref t)<|.ref d) Q E q.s:=by
 rw[<-e] at P;cases ne with
 |false=>exact wpAny_in_heap (qJ q) Ol hd hm<|P _
 |true=>exact Qb Ol hd hm<|P _
theorem Ul {ne:Bool}(ia:q.iv a x)(ib:q.iv b y)(e:isIn q.Y x y=some r)(P:∀eS,Q (.bool<|nx ne r) {q.s with toks:=eS}):wpAny Mo f.A (compareOp (ins ne) a b) Q E q.s:=by
 cases y with
 |U l=>exact inD ia ib e<|P q.tk
 |gl l=>exact inD ia ib e<|P q.tk
 |ref j=>
  refine aI (qF e) λc h2 e=>?_;have ib0:=ib;refine mX ib h2 λd o hr h3 h4=>?_;have hb:=q.rep.big d<|bn hr
  cases c with
  |list l=>exact inD ia (.ref hr) e<|P q.tk
  |dict l=>
   obtain⟨kvs,hd,hk⟩:=h4;refine Uj e (λe=>?_) λe=>?_
   ·cases x with
    |str t=>
     rw[<-(aT e:(aL l t).isSome=r)] at P;refine ia.pW λM=>?_;cases ne with
     |false=>exact kda_in q.news h3 hd hb (strKind_is _ _ _ _) _ (uA hk)<|P _
     |true=>exact kdg_notin q.news h3 hd hb (strKind_is _ _ _ _) _ (uA hk)<|P _
    |_=>exact fB e
   ·cases x with
    |U ks=>
     refine Cx e λhe e=>qH e λkk e1 e=>fG ia λt vs M M ia=>?_;rw[List.isEmpty_iff.mp he] at hk;rw[hk.jO] at hd;exact sx (isKey ia e1) hb (Ia h3 hd) e P
    |_=>exact fB e
  |dictT l=>
   refine aI (OK h3 h4) λxs hm hk=>?_;cases x with
   |U ks=>
    refine qH e λkk e1 e=>fG ia λt vs M M ia=>sx (isKey ia e1) hb hm ?_ P;rw[<-e,<-uA hk,<-Ag,Option.isSome_map]
   |_=>exact fB e
  |_=>exact fB e
 |_=>exact fB e
theorem Mq (ia:q.iv a x):(a==Value.none)=(x.ctorIdx==0):=ia.cas (C:=λa x=>(a==Value.none)=(x.ctorIdx==0)) rfl (λM=>rfl) (λM M=>rfl) (λM M=>rfl) (λM M=>rfl) (λM M=>rfl) (λM M M=>rfl) λM M=>rfl
theorem isOk {ne:Bool}(ia:q.iv a x)(ib:q.iv b y)(e:PI x y=some r)(P:Q (.bool<|nx ne r) q.s):wpAny Mo f.A (compareOp (cond ne .IsNot .Is) a b) Q E q.s:=by
 cases y with
 |none=>
  rw[<-(aT e:(x.ctorIdx==0)=r),<-Mq ia] at P;rw[ib.wF];cases ne with
  |false=>exact is_none P
  |true=>exact isNot_none P
 |_=>exact fB e
theorem D2 {g:Int->Int->Bool}{op:CmpOp}(hop:∀{i j t t'},Q (.bool<|g i j) q.s->wpAny Mo f.A (compareOp op (.int i t)<|.int j t') Q E q.s)(ia:q.iv a x)(ib:q.iv b y)(e:(pR x λi=>pR y λj=>some<|g i j)=some r)(P:Q (.bool r) q.s):wpAny Mo f.A (compareOp op a b) Q E q.s:=by
 cases x with
 |int i=>
  cases y with
  |int j=>exact ia.ta λM=>ib.ta λM=>hop<|(aT e:g i j=r)▸P
  |_=>exact fB e
 |_=>exact fB e
theorem Um {ne:Bool}(ia:q.iv a x)(ib:q.iv b y)(e:OC q.Y x y=some r)(P:Q (.bool<|nx ne r) q.s):wpAny Mo f.A (compareOp (eqs ne) a b) Q E q.s:=
 Uj e (λe=>eqS ia ib e P) λe=>Uj e (λe=>eqE ia ib e P) λe=>Uj e (λe=>eqI ia ib e P) λe=>eqD ia ib e P
theorem OL {op:CmpOp}(ia:q.iv a x)(ib:q.iv b y)(e:cy q.Y op x y=some r)(P:∀eS,Q (.bool r) {q.s with toks:=eS}):wpAny Mo f.A (compareOp op a b) Q E q.s:=by
 have neg:∀{o:Option Bool},o.map (λb=>!b)=some r->o=some (!r):=λe=>qH e λb e1 e=>by rw[e1,<-e,Bool.not_not]
 have P1:∀eS,Q (.bool (!(!r))) {q.s with toks:=eS}:=λtk=>by rw[Bool.not_not];exact P tk
 cases op with
 |Eq=>exact Um (ne:=false) ia ib e<|P q.tk
 |NotEq=>exact Um (ne:=true) ia ib (neg e)<|P1 q.tk
 |Is=>exact isOk (ne:=false) ia ib e<|P q.tk
 |IsNot=>exact isOk (ne:=true) ia ib (neg e)<|P1 q.tk
 |Lt=>exact D2 lt_int ia ib e<|P q.tk
 |LtE=>exact D2 le_int ia ib e<|P q.tk
 |Gt=>exact D2 gt_int ia ib e<|P q.tk
 |GtE=>exact D2 ge_int ia ib e<|P q.tk
 |In=>exact Ul (ne:=false) ia ib e P
 |NotIn=>exact Ul (ne:=true) ia ib (neg e) P1
end
section
variable {ρ:List Addr} {Z:Led} {f:Fz} {q:St f} {Q E:du} {a b u:Value} {x y v:V} {nm:Str} {aay:PJ}
theorem Aj {e:DictEntry}{k nm:Str}(h:(strKind prog w).is k e.key=true):e.key.isStr nm=decide (k=nm)/\e.refKey=false:=by
 refine aM (Value.isStrOf_shape h) λtk hk=>?_;rw[hk];refine⟨show(k==nm)= _ from ?_,by unfold DictEntry.refKey;rw[hk]⟩;by_cases h:k=nm<;>simp[h]
variable {kvs:List (Str × Value)}
theorem Cy (nm:Str){es:List DictEntry}(h:Pairs (strKind prog w) es kvs):(es.find? (·.key.isStr nm)).map (·.val)=valueAt kvs nm/\es.any (·.refKey)=false:=by
 induction h with
 |nil=>exact⟨rfl,rfl⟩
 |@cons e kv r kvs h1 h2 t ih=>
  refine cN (Aj (nm:=nm) h1) λe1 e2=>?_;rw[List.find?_cons,mY,sj,ih.2,e1,e2,<-ih.1,<-h2];by_cases hk:kv.1=nm
  ·rw[if_pos hk,dP hk];exact⟨rfl,rfl⟩
  ·rw[if_neg hk,eN hk];exact⟨rfl,rfl⟩
theorem rE {o:Obj}(hd:o.IsDictOf (strKind prog w) kvs)(nm:Str):∃es k,o=dictOf es k/\getL nm es=some (valueAt kvs nm)/\Pairs (strKind prog w) es kvs:=by
 refine LO hd λes ep HJ h4 h5 h6 h7=>?_;refine qr HJ λh1 h2 h3=>?_;refine cN (Cy nm h6) λi1 i2=>eT es.toList ep ?_ ?_ h6
 ·cases o;simp only at h1 h2 h3 h4;subst h1 h2 h3 h4;rfl
 ·unfold getL;cases q:es.toList.find? (·.key.isStr nm) with
  |some e=>rw[q] at i1;rw[<-i1];rfl
  |none=>rw[q] at i1;rw[<-i1];show(if es.toList.any (·.refKey)=true then none else some none)=some none;rw[i2];rfl
theorem handed (i:bF ρ Z u v):handedIn u=true:=i.cas (C:=λu M=>handedIn u=true) rfl (λM=>rfl) (λM M=>rfl) (λM M=>rfl) (λM M=>rfl) (λM M=>rfl) (λM M M=>rfl) λM M=>rfl
theorem Qc {α:Type}{C p:Prop}[Decidable p]{r:α}{o:Option α}(e:(if p then none else o)=some r)(k:¬p->o=some r->C):C:=by
 by_cases h:p
 ·rw[if_pos h] at e;exact fB e
 ·rw[if_neg h] at e;exact k h e
inductive Rows (Y:af)(ρ:List Addr)(Z:Led)(aay:PJ)(kvs:List (Str × Value)):Prop
 |all (e:aay.k=none) (h:jW ρ Z kvs aay.l)
 |but (k:Str) (r3:List (Str × Value)) (u:Value) (e:aay.k=some k) (e':kvs=r3++[(k,u)]) (h:jW ρ Z r3 aay.l) (n:aL aay.l k=none) (s:Y[aay.d]?=some (.dictX aay.l k))
@[elab_as_elim] theorem uC {C:Value->Prop}(ia:q.iv a x)(e:n6 q.Y x=some aay)
  (k:∀xa ad od kvs,q.iv (.ref xa) x->InstAt q.h xa (instObj aay.C ad) aay.C (some od)->od.IsDictOf (strKind prog w) kvs->OwnCls K aay.C->(ad,od)∈q.Z->q.ρ[aay.d]?=some ad->Rows q.Y q.ρ q.Z aay kvs->C (.ref xa)):C a:=by
 cases x with
 |ref i=>
  refine aI (qF e) λc e1 e=>?_;cases c with
  |inst CC d=>
   refine aI (qF e) λc' e2 e=>mX ia e1 λxa o hr g2 g3=>?_;obtain⟨ad,g4,go,ck⟩:=g3;rw[go] at g2;refine cZ (q.rep.cell d ad g4) λc'' o' k1 k2 k3=>?_;have k3:=aT (k1.symm.trans e2)▸k3;cases c' with
   |dict l=>
    obtain⟨kvs,hd,hk⟩:=k3;rw[<-(aT e)] at k;exact k xa ad o' kvs (.ref hr) (InstAt.of_news q.news g2 k2) hd ck k2 g4 (.all rfl hk)
   |dictX l kk=>
    obtain⟨u,kvs,hd,hk⟩:=k3;refine Qc e λhn e=>?_;rw[<-aT e] at k;exact k xa ad o' _ (.ref hr) (InstAt.of_news q.news g2 k2) hd ck k2 g4 (.but kk kvs u rfl rfl hk (Option.not_isSome_iff_eq_none.mp hn) e2)
   |_=>exact fB e
  |_=>exact fB e
 |_=>exact fB e
theorem Ak (e:uq q.Y x nm=some aay):n6 q.Y x=some aay/\aay.k≠some nm:=jd e λM e1 e=>Qc e λh e=>aT e▸⟨e1,h⟩
theorem yo {k nm:Str}{u:Value}(h:nm≠k):valueAt (kvs++[(k,u)]) nm=valueAt kvs nm:=by
 unfold valueAt;rw[List.find?_append,List.find?_cons,show(decide (k=nm))=false from eN λe=>h e.symm,List.find?_nil,Option.or_none]
theorem Rows.at {Y:af}(R:Rows Y ρ Z aay kvs)(h:aay.k≠some nm):(aL aay.l nm=none/\valueAt kvs nm=none)∨∃v u,aL aay.l nm=some v/\valueAt kvs nm=some u/\bF ρ Z u v:=by
 cases R with
 |all _ hk=>exact rD hk
 |but k r3 u e e' hk _ _=>rw[e',yo λq=>h (e.trans (bH some q.symm))];exact rD hk
theorem attrOk {expr:Bool}(hC:findIn K (.ref aay.C) nm=some none)(e0:n6 q.Y x=some aay)(ia:q.iv a x)(e:jN q.Y x nm=some v)(P:∀u eS,q.iv u v->Q u {q.s with toks:=eS}):wpAny Mo f.A (getAttr a nm expr) Q E q.s:=
 jd e λI' e1 e=>by
  refine cN (Ak e1) λe1 hk=>?_;rw[<-(aT (e0.symm.trans e1))] at e hk;refine uC ia e0 λxa ad od kvs M J hd ck M M R=>aY (R.at hk) (λYn=>?_) λYo=>?_
  ·refine cN Yn λn _=>?_;rw[n] at e;exact fB e
  ·refine cZ Yo λv' u g1 g2 iu=>?_;refine cZ (rE hd nm) λes kk mu hl M=>?_;subst mu;rw[g2] at hl;exact get_own q.fr q.SD J (ck.get nm) ck.hasDict hC rfl hl (handed iu) (P u _ (aT (g1.symm.trans e)▸iu))
section
variable {α:Type} [DecidableEq α] {k:α}
theorem D3 {u:Value}{r:List (α × Value)}(h:∀p∈r,p.1≠k):(r.map λkv=>if kv.1=k then (kv.1,u) else kv)=r:=by
 conv=>rhs;rw[<-List.map_id r]
 exact t8 λp hp=>if_neg (h p hp)
theorem Al {u u':Value}{r:List (α × Value)}(h:∀p∈r,p.1≠k):stored ((k,u')::r) k u=(k,u)::r:=by
 unfold stored;rw[if_pos (by rw[sj,dP rfl];rfl),d8,if_pos rfl,D3 h]
variable {l:List (α × V)} {kvs:List (α × Value)}
theorem Mr (h:jW ρ Z kvs l):(kvs.any λkv=>kv.1=k)=l.any λp=>p.1=k:=by
 induction h with
 |nil=>rfl
 |cons _ _ ih=>rw[sj,sj,ih]
theorem yp (i:bF ρ Z u v)(h:jW ρ Z kvs l):jW ρ Z (stored kvs k u) (rq l k v):=by
 unfold stored rq;rw[Mr h];by_cases hq:(l.any λp=>p.1=k)=true
 ·rw[if_pos hq,if_pos hq];clear hq
  induction h with
  |nil=>exact .nil
  |@cons k' u' v' r t i' _ ih=>
   rw[d8,d8];by_cases hk:k'=k
   ·rw[if_pos hk,if_pos hk];exact .cons i ih
   ·rw[if_neg hk,if_neg hk];exact .cons i' ih
 ·rw[if_neg hq,if_neg hq];clear hq
  induction h with
  |nil=>exact .cons i .nil
  |cons j _ ih=>exact .cons j ih
omit [DecidableEq α] in
theorem qK (h:jW ρ Z kvs l):kvs.length=l.length:=by
 induction h with
 |nil=>rfl
 |cons _ _ ih=>exact bH (· +1) ih
theorem yq (k:α)(u:Value)(h:(kvs.map (·.1)).Nodup):((stored kvs k u).map (·.1)).Nodup:=by
 unfold stored;by_cases hn:(kvs.any λkv=>kv.1=k)=true
 ·rw[if_pos hn];have e:(kvs.map λkv=>if kv.1=k then (kv.1,u) else kv).map (·.1)=kvs.map (·.1):=by
   rw[List.map_map];exact t8 λp M=>show(if p.1=k then (p.1,u) else p).1=p.1 by by_cases hp:p.1=k;rw[if_pos hp];rw[if_neg hp]
  rw[e];exact h
 ·rw[if_neg hn,jc,r9];refine⟨h,gY.mpr ⟨dj,jG⟩,λa ha b hb e=>hn ?_⟩;refine aI (bT.mp ha) λp hp uu=>?_;subst uu;exact List.any_eq_true.mpr ⟨p,hp,dP (e.trans (cK.mp hb))⟩
end
abbrev Ib (e:DictEntry):Prop:=∃k,(strKind prog w).is k e.key=true/\e.hash=(strKind prog w).hash k
variable {kvs:List (Str × Value)}
theorem Cz {tk:Tok}{hs:Int}(hh:hs=hashStr w nm){es:List DictEntry}(h:Pairs (strKind prog w) es kvs):(kvs.map (·.1)).Nodup->(∀e∈es,Ib e)->
  Pairs (strKind prog w) (putL nm hs (.str nm tk) u es) (stored kvs nm u)/\∀e∈putL nm hs (.str nm tk) u es,Ib e:=by
 induction h with
 |nil=>exact λM M=>⟨.cons (strKind_is _ _ _ _) rfl .nil,λe he=>by rw[cK.mp he];exact⟨nm,strKind_is _ _ _ _,hh⟩⟩
 |@cons e kv r kvs h1 h2 t ih=>
  intro hn hk;have lR:=gY.mp hn;have mm:=λe' he=>hk e' (.tail _ he);have k0:=hk e (.head _);unfold putL;rw[(Aj h1).1];by_cases h:kv.1=nm
  ·have e1:stored (kv::kvs) nm u=(kv.1,u)::kvs:=by
    rw[<-h];exact Al λq hq e=>lR.1 (by show kv.1∈_;rw[<-e];exact cB hq)
   rw[dP h,if_pos rfl,e1];exact⟨.cons h1 rfl t,λe' he=>(aX.mp he).elim (λq=>by rw[q];exact k0) (mm e')⟩
  ·have e1:stored (kv::kvs) nm u=kv::stored kvs nm u:=by
    unfold stored;rw[sj,eN h,Bool.false_or,d8,if_neg h];by_cases hq:(kvs.any λkv=>kv.1=nm)=true
    ·rw[if_pos hq,if_pos hq]
    ·rw[if_neg hq,if_neg hq];rfl
   rw[eN h,if_neg Bool.false_ne_true,e1];refine cN (ih lR.2 mm) λi1 i2=>?_;exact⟨.cons h1 h2 i1,λe' he=>(aX.mp he).elim (λq=>by rw[q];exact k0) (i2 e')⟩
variable {o':Obj}
theorem tJ {a:Addr}{o:Obj}{Z:Led}(hn:(Z.map (·.1)).Nodup)(hm:(a,o)∈Z):Upd a o o' Z (gw Z a o'):=by
 induction Z with
 |nil=>exact nomatch hm
 |cons p r ih=>
  have lR:=gY.mp hn;show Upd a o o' (p::r) ((if p.1=a then (a,o') else p)::gw r a o');refine aY (aX.mp hm) (λe=>?_) λhm=>?_
  ·rw[<-e] at lR⊢;have off:∀p∈r,p.1≠a:=λp hp e=>lR.1 (by show a∈_;rw[<-e];exact cB hp);rw[if_pos rfl,HF off];exact .head off
  ·have dS:p.1≠a:=λe=>lR.1 (by show p.1∈_;rw[e];exact cB hm);rw[if_neg dS];exact .tail dS (ih lR.2 hm)
theorem Ic (nm:Str)(hs:Int)(k v:Value)(es:List DictEntry):(putL nm hs k v es).length<=es.length+1:=by
 induction es with
 |nil=>exact a9 _
 |cons e r ih=>
  unfold putL;split
  ·exact kN _
  ·exact Nat.succ_le_succ ih
theorem pairs_len {es:List DictEntry}(h:Pairs (strKind prog w) es kvs):es.length=kvs.length:=by
 induction h with
 |nil=>rfl
 |cons _ _ _ ih=>exact bH (· +1) ih
theorem Am {k:Str}{u u':Value}(h:valueAt kvs k=none):stored (kvs++[(k,u)]) k u'=kvs++[(k,u')]:=by
 have hf:∀p∈kvs,p.1≠k:=λp hp e=>by
  unfold valueAt at h;rw[Option.map_eq_none_iff,List.find?_eq_none] at h;exact h p hp (dP e)
 unfold stored;rw[if_pos (by rw[List.any_append];simp),jc,D3 hf];simp
theorem aE.put {α β:Type}{R:Rl α β}{i:Nat}{t:Addr}{ce:Cell}{h':Heap}{v:β}{u:α}{Q:α->Shared->Prop}(tk:Nat)(P:aE R q (.ok v (q.Y.set i ce)) Q E)(F:Fr q.b f.L h' f.m)(aax:News q.b f.L h' (gw q.Z t o'))(hr:q.ρ[i]?=some t)(hc:cR q.ρ (gw q.Z t o') ce o')(r:R q.ρ (gw q.Z t o') u v):Q u {q.s with heap:=h',toks:=tk}:=
 P.fin tk F aax (q.rep.put hr hc) (.put (bn hr)) r
theorem St.Id (q:St f){i:Nat}{t:Addr}(hr:q.ρ[i]?=some t){u:Value}{v:V}(h:q.iv u v):bF q.ρ (gw q.Z t o') u v:=h.ext (.put (bn hr)) bI q.rep.apart
noncomputable def WH:Rl Unit Unit:=λM M M M=>True
theorem FA {Q:zA}(hC:findIn K (.ref aay.C) nm=some none)(hl:aay.l.length<499)(e0:n6 q.Y x=some aay)(ia:q.iv a x)(iu:q.iv u v){Y':af}(e:iV q.Y x nm v=some Y')(P:aE WH q (.ok () Y') Q E):wpAny Mo f.A (setAttr a nm u) Q E q.s:=by
 have e:L9 q.Y nm v aay=some Y':=jd e λI' e1 e=>aT (e1.symm.trans e0)▸e;refine uC ia e0 λxa ad od kvs M J hd ck k2 hr R=>?_;have h1:takerIn K aay.C nm=some none:=by unfold takerIn;rw[hC];rfl
 refine cZ (rE hd nm) λes kk An lS hp=>?_;subst An;refine LO hd λes0 ep0 hx Lf hko hpr tr=>?_;obtain⟨rfl,rfl⟩:=Lf;refine cN (Cz (tk:=q.s.toks+1) (u:=u) (hs:=PyData.keyHash w.params nm) (nm:=nm) rfl hp tr (λe he=>hko e (by simpa using he):∀e∈es,Ib e)) λp1 p2=>?_;have hlen:kvs.length<500:=by
  cases R with
  |all _ h=>rw[qK h];exact Nat.lt_succ_of_lt hl
  |but k r3 u e e' h _ _=>rw[e',b0,qK h];exact Nat.succ_lt_succ hl
 refine set_dict q.fr q.SD q.news J rfl ck.set ck.plain h1 ck.hasDict (by rw[lS];rfl) rfl (tJ (o':=dictOf (putL nm (PyData.keyHash w.params nm) (.str nm (q.s.toks+1)) u es) (putN nm es kk)) q.rep.ndZ k2) (d9 (Ic _ _ _ _ _) (by rw[pairs_len hp];exact d9 (Nat.succ_le_succ (Nat.le_of_lt hlen)) (by decide))) λh' F' N'=>?_;have zs:(dictOf (putL nm (PyData.keyHash w.params nm) (.str nm (q.s.toks+1)) u es) (putN nm es kk)).IsDictOf (strKind prog w) (stored kvs nm u):=⟨_,_,hx,rfl,λe he=>p2 e (by simpa using he),by simpa using p1,yq nm u tr⟩;cases R with
 |all e1 h=>
  unfold L9 at e;rw[e1] at e;rw[<-aT e] at P;exact P.put _ F' N' hr ⟨_,zs,(yp iu h).ext (.put (bn hr)) bI q.rep.apart⟩ trivial
 |but k r3 aam e1 e2 h n s=>
  unfold L9 at e;rw[e1] at e;refine Cx e λhk e=>?_;rw[<-hk] at s n e2;rw[e2,Am (HY h n)] at zs;have e0:q.Y.set aay.d (.dictX aay.l nm)=q.Y:=by
   refine aM (bM.mp s) λh1 h2=>?_;rw[<-h2,List.set_getElem_self]
  rw[<-aT e,<-e0] at P;exact P.put _ F' N' hr ⟨u,r3,zs,h.ext (.put (bn hr)) bI q.rep.apart⟩ trivial
end
section
variable {ρ:List Addr} {Z:Led} {f:Fz} {q:St f} {E:du} {Q:zA} {a b u:Value} {x y v:V} {j:Nat} {Y':af}
theorem Ie {vs:List Value}{l:aG}(h:cf ρ Z vs l)(i:bF ρ Z u v):cf ρ Z (vs.set j u) (l.set j v):=by
 induction l generalizing vs j with
 |nil=>rw[h.jO];exact .nil
 |cons x l ih=>
  refine h.ej λh t=>?_;cases j with
  |zero=>exact .cons i t
  |succ j=>exact .cons h (ih t)
theorem Ao {α:Type}[DecidableEq α](k:α)(t:Addr)(u:Value)(xs:List (α × Addr × Value)):(storedH xs k t u).map (λx=>(x.1,x.2.2))=stored (xs.map λx=>(x.1,x.2.2)) k u:=by
 have e:(atKey xs k).isSome=(xs.map λx=>(x.1,x.2.2)).any λkv=>kv.1=k:=by
  unfold atKey
  induction xs with
  |nil=>rfl
  |cons x r ih=>
   rw[List.find?_cons,d8,sj,<-ih];by_cases h:x.1=k
   ·rw[dP h];rfl
   ·rw[eN h];rfl
 unfold storedH stored;rw[e];split
 ·rw[List.map_map,List.map_map];refine t8 λx M=>?_;show((putAt k u x).1,(putAt k u x).2.2)=if x.1=k then (x.1,u) else (x.1,x.2.2);unfold putAt;split<;>rfl
 ·rw[jc];rfl
theorem Un {d tt:Addr}{o:Obj}{xs:List (cY × Addr × Value)}{l:List (cY × V)}{ks:aG}{kk:cY}(ib:q.iv (.ref tt) (.U ks))(e1:strsOf ks=some kk)(iu:q.iv u v)(hm:(d,o)∈q.Z)(hr:q.ρ[j]?=some d)
  (hx:q.h.DictOfH (tupleKind (strKind prog w)) d xs) (h8:∀x∈xs,og q.ρ q.Z x.1 x.2.1) (h9:jW q.ρ q.Z (xs.map λx=>(x.1,x.2.2)) l) (hl:l.length<10000) (P:aE WH q (.ok () (q.Y.set j (.dictT (rq l kk v)))) Q E):wpAny Mo f.A (setItem (.ref d) (.ref tt) u) Q E q.s:=by
 have hlen:xs.length=l.length:=by rw[<-qK h9,cu]
 refine wpAny_setItem_heap (qJ q) (isKey ib e1) hx (λh' hm' hs=>?_) (gK (by rw[hlen];exact hl));refine Pu hm' λo' es' ep' zq=>DS zq λDM k1 k2 k3 k4 k5=>P.put _ (q.fr.change hs (q.news _ hm).2.1 (q.news _ hm).2.2) (jP q.news hm DM hs) hr ⟨_,es',ep',k1,k2,k3,k5,λz hz=>?_,?_⟩ trivial
 ·have old:∀z∈xs,og q.ρ (gw q.Z d o') z.1 z.2.1:=λz hz=>q.Id hr (h8 z hz);unfold storedH at hz;split at hz
  ·refine aI (bT.mp hz) λz' WQ dZ=>?_;subst dZ;have:=old z' WQ;unfold putAt;split<;>exact this
  ·refine aY (fb.mp hz) (λhz=>?_) λhz=>?_
   ·exact old z hz
   ·rw[cK.mp hz];unfold og;rw[wI e1];exact q.Id hr ib
 ·rw[Ao];exact(yp iu h9).ext (.put (bn hr)) bI q.rep.apart
theorem FB (ia:q.iv a x)(ib:q.iv b y)(iu:q.iv u v)(e:iW q.Y x y v=some Y')(P:aE WH q (.ok () Y') Q E):wpAny Mo f.A (setItem a b u) Q E q.s:=by
 cases x with
 |ref j=>
  refine aI (qF e) λc h2 e=>mX ia h2 λt o hr h3 h4=>?_;cases c with
  |list l=>
   obtain⟨vs,nn,ho,hi⟩:=h4;rw[ho] at h3;cases y with
   |int k=>
    refine Cx e λhk e=>ib.ta λM=>?_;rw[<-aT e] at P;have hsz:vs.size=l.length:=by rw[<-bc hi,qo]
    have ho:=(q.news _ h3).1;refine ki_setAt ho hk.1 (by omega) (by omega) ?_;exact P.put q.tk (q.fr.change (Heap.SameBut.update ..) (q.news _ h3).2.1 (q.news _ h3).2.2) (jP q.news h3 (PySem.IsL.update ho (·.setIfInBounds k.toNat u)) (Heap.SameBut.update ..)) hr ⟨_,_,rfl,by
     rw[Array.toList_setIfInBounds];exact Ie (hi.ext (.put (bn hr)) bI q.rep.apart) (q.Id hr iu)⟩ trivial
   |_=>exact fB e
  |dict l=>
   obtain⟨kvs,hd,hi⟩:=h4;cases y with
   |str k=>
    refine Cx e λhk e=>ib.pW λM=>?_;rw[<-aT e] at P;refine wpAny_setItem_pairs (knd:=PySem.strKind prog w) (hsz:=gK (by rw[qK hi];exact hk)) (strKind_is _ _ _ _) (Heap.dictOf_iff.mpr ⟨o,(q.news _ h3).1,hd⟩) λh' hmm hs=>?_;exact aI (Heap.dictOf_iff.mp hmm) λo' DM zs=>P.put _ (q.fr.change hs (q.news _ h3).2.1 (q.news _ h3).2.2) (jP q.news h3 DM hs) hr ⟨_,zs,(yp iu hi).ext (.put (bn hr)) bI q.rep.apart⟩ trivial
   |U ks=>
    refine Cx e λhe e=>qH e λkk e1 e=>fG ib λtt vs M M ib=>?_;rw[List.isEmpty_iff.mp he] at hi;rw[hi.jO] at hd;rw[<-e] at P;exact Un ib e1 iu h3 hr (Ia h3 hd) (λM h=>nomatch h) .nil (by decide) P
   |_=>exact fB e
  |dictT l=>
   cases y with
   |U ks=>
    refine Cx e λhk e=>qH e λkk e1 e=>fG ib λtt vs M M ib=>?_;obtain⟨xs,es,ep,h1,h5,h6,h7,h8,h9⟩:=h4;rw[<-e] at P;exact Un ib e1 iu h3 hr ⟨o,es,ep,(q.news _ h3).1,h1,h5,h6,λx hx=>isKey (h8 x hx) (uB _),h7⟩ h8 h9 hk P
   |_=>exact fB e
  |_=>exact fB e
 |_=>exact fB e
end
noncomputable def Uo:Bm->String
 | .rfind=>"str.rfind"
 | .startswith=>"str.startswith"
 | .split=>"str.split"
 | .join=>"str.join"
 | .append=>"list.append"
 | .pop=>"list.pop"
 | .get=>"dict.get"
noncomputable def rF:Bm->Str
 | .rfind=>"rfind"
 | .startswith=>"startswith"
 | .split=>"split"
 | .join=>"join"
 | .append=>"append"
 | .pop=>"pop"
 | .get=>"get"
def Qd (l:cY):Prop:=l.Pairwise λa b=>¬(b.cps.toList<a.cps.toList)
theorem yr {a b:Str}(h:¬(b.cps.toList<a.cps.toList))(h':¬(a.cps.toList<b.cps.toList)):a=b:=by
 have:a.cps.toList=b.cps.toList:=List.le_antisymm h h';exact PyProof.Rows.str_of_list this
theorem Ig:∀{a b:cY},a.Perm b->Qd a->Qd b->a=b:=by
 intro a
 induction a with
 |nil=>exact λp M M=>p.nil_eq
 |cons x r ih=>
  intro b p ha hb;cases b with
  |nil=>exact absurd p.length_eq (by simp)
  |cons y t=>
   have hx:x∈y::t:=p.mem_iff.mp (.head _);have hy:y∈x::r:=p.mem_iff.mpr (.head _);have e:x=y:=(aX.mp hx).elim id λh=>(aX.mp hy).elim Eq.symm λh'=>yr ((ua.mp ha).1 y h') ((ua.mp hb).1 x h);rw[e] at p⊢;rw[ih (List.Perm.cons_inv p) (ua.mp ha).2 (ua.mp hb).2]
theorem wM (x:Str)(l:cY):(v8 x l).Perm (x::l):=by
 induction l with
 |nil=>exact .refl _
 |cons y r ih=>
  unfold v8;split
  ·exact(ih.cons y).trans (.swap x y r)
  ·exact .refl _
theorem Ih (x:Str){l:cY}(h:Qd l):Qd (v8 x l):=by
 induction l with
 |nil=>exact List.pairwise_singleton _ _
 |cons y r ih=>
  have h1:=ua.mp h;unfold v8;split
  ·next mM=>
   have mM:=lE mM;exact ua.mpr ⟨λz hz=>(aX.mp ((wM x r).mem_iff.mp hz)).elim (λe=>e▸List.lt_asymm mM) (h1.1 z),ih h1.2⟩
  ·next mM=>
   have mM:¬(y.cps.toList<x.cps.toList):=λh=>mM (dP h);exact ua.mpr ⟨λz hz=>(aX.mp hz).elim (λe=>e▸mM) λhz=>List.not_lt.mpr (List.le_trans (List.not_lt.mp mM) (List.not_lt.mp (h1.1 z hz))),h⟩
theorem uD (l:cY):(mt l).Perm l/\Qd (mt l):=by
 induction l with
 |nil=>exact⟨.refl _,.nil⟩
 |cons x r ih=>exact⟨(wM x _).trans (ih.1.cons x),Ih x ih.2⟩
theorem sorted_out {vs:List Value}{ss:cY}(hS:StrsAre vs ss){xs:Array Keyed}(hp:xs.Perm (pairsOf vs))(hs:SortedToK PyProof.Rows.strKind xs (pairsOf vs).size):
  StrsAre (xs.map (·.2)).toList (mt ss):=by
 have hl:xs.toList.Perm (vs.zip vs):=by rw[<-pairsOf_toList];exact Array.perm_iff_toList_perm.mp hp
 have tA:∀p,p∈xs.toList->p.1=p.2/\p.1∈vs:=λp vT=>mem_zip_self (hl.mem_iff.mp vT);have e:(xs.map (·.2)).toList=xs.toList.map (·.1):=by
  rw[Array.toList_map];exact t8 λp vT=>(tA p vT).1.symm
 have a1:StrsAre (xs.map (·.2)).toList (xs.toList.map (λp=>strOf p.1)):=by
  rw[e];have h1:=strsAre_map (xs.toList.map (·.1)) (by
   intro v hv;refine aI (bT.mp hv) λp vT mu=>?_;subst mu;exact hS.all _ (tA p vT).2)
  rwa [List.map_map] at h1
 have a2:(xs.toList.map (λp=>strOf p.1)).Perm ss:=by
  have h1:=hl.map (λp=>strOf p.1);have e2:(vs.zip vs).map (λp=>strOf p.1)=ss:=by
   have:(vs.zip vs).map (λp=>strOf p.1)=((vs.zip vs).map Prod.fst).map strOf:=by rw[List.map_map];rfl
   rw[this,List.map_fst_zip (a9 _),hS.strs]
  rwa [e2] at h1
 have a3:Qd (xs.toList.map (λp=>strOf p.1)):=by
  unfold Qd;rw[List.pairwise_iff_getElem];intro i j hi hj E3;have WR:i<xs.size:=by simpa using hi
  have hj':j<xs.size:=by simpa using hj
  have h1:=hs i j (Nat.le_of_lt E3) (by rw[<-hp.size_eq];exact hj');refine kf (hS.all _ (tA xs[i] (by simp)).2) λx t ex=>kf (hS.all _ (tA xs[j] (by simp)).2) λy u ey=>?_;rw[KK_str WR (Prod.ext ex rfl),KK_str hj' (Prod.ext ey rfl)] at h1
  change decide (y.cps.toList<x.cps.toList)=false at h1
  simp only[List.getElem_map,Array.getElem_toList];rw[show strOf xs[i].1=x by rw[ex];rfl,show strOf xs[j].1=y by rw[ey];rfl];exact of_decide_eq_false h1
 rw[<-Ig (a2.trans (uD ss).1.symm) a3 (uD ss).2];exact a1
theorem sortedHeap_at {h:Heap}{a:Addr}{vs:List Value}{out xs:Array Value}{k:Nat}(ho:h.get? a=some (seqObj "list" xs k)):∃e,(sortedHeap h a vs out).get? a=some (listOf out e):=by
 have h1:=get?_update_seq ho λM=>#[];have h2:=kG (seqObj "tuple" vs.toArray 0) h1;have h3:=kG (seqObj "list" #[] 0) h2;exact⟨_,get?_update_seq h3 λM=>out⟩
theorem sortedHeap_old {h:Heap}{a b:Addr}{o:Obj}{vs:List Value}{out:Array Value}(hb:b≠a)(ho:h.get? b=some o):(sortedHeap h a vs out).get? b=some o:=by
 unfold sortedHeap;rw[Heap.get?_update_other _ _ (gb hb)];refine kG _ (kG _ ?_);rw[Heap.get?_update_other _ _ (gb hb)];exact ho
section
variable {f:Fz} {q:St f} {Q E:du} {a u:Value} {x v:V} {us:List Value} {vs:aG}
theorem wN {ρ:List Addr}{Z:Led}{vs:List Value}{ss:cY}(h:StrsAre vs ss):cf ρ Z vs (ss.map .str):=by
 induction h with
 |nil=>exact .nil
 |cons y t _ ih=>exact .cons (.str y t) ih
theorem St.Up (q:St f){h':Heap}{o:Obj}(hk:∀b o,q.h.get? b=some o->h'.get? b=some o)(ho:h'.get? q.h.objs.size=some o):News q.b f.L h' ((q.h.objs.size,o)::q.Z):=λp hp=>by
 rcases aX.mp hp with rfl | hp
 ·refine⟨ho,λe=>?_,?_⟩
  ·refine rm q.fr.ns λoL M M e1 M=>?_;have:=gq e1;rw[show f.L=q.h.objs.size from e.symm] at this;exact sh _ this
  ·cases e:q.b.get? q.h.objs.size with
   |none=>rfl
   |some o=>exact absurd (gq<|q.fr.keep _ _ e)<|sh _
 ·exact⟨hk _ _ (q.news p hp).1,(q.news p hp).2⟩
theorem FC {kvs:List (Str × Value)}{l:ii}(hk:jW q.ρ q.Z kvs l){us:List Value}(hl:us.length=kvs.length)(hv:∀(j:Nat) (v:Value),us[j]?=some v->∃k x,kvs[j]?=some (k,x)/\(PySem.strKind prog w).is k v=true):StrsAre us (l.map (·.1)):=by
 induction us generalizing kvs l with
 |nil=>
  rw[qm (l:=kvs) hl.symm] at hk;cases l with
  |nil=>exact .nil
  |cons p r=>exact nomatch hk
 |cons u us ih=>
  cases l with
  |nil=>rw[hk.jO] at hl;exact nomatch hl
  |cons p r=>
   refine hk.ej (C:=λkvs=>us.length+1=kvs.length->(∀(j:Nat) (v:Value),(u::us)[j]?=some v->∃k x,kvs[j]?=some (k,x)/\(PySem.strKind prog w).is k v=true)->StrsAre (u::us) ((p::r).map (·.1))) (λi t hl hv=>?_) hl hv;refine gm (hv 0 u rfl) λk x e1 e2=>?_;rw[<-show p.1=k from bH Prod.fst (aT e1)] at e2;refine aM (Value.isStrOf_shape e2) λt' e=>?_;rw[e];exact .cons _ _<|ih t (jH hl) λj v e=>hv (j+1) v e
theorem Ii {d:Addr}{o:Obj}{kvs:List (Str × Value)}{l:ii}(lo:(d==sysModules)=false)(hm:(d,o)∈q.Z)(hd:o.IsDictOf (PySem.strKind prog w) kvs)(hk:jW q.ρ q.Z kvs l)(ZP:l.length<64)
  (P:aE bF q (alloc q.Y (.list ((mt (l.map (·.1))).map .str))) Q E):wpAny Mo f.A (call (.builtin "sorted") [.ref d]) Q E q.s:=by
 have hlen:=qK hk;have hD:q.h.DictOf (PySem.strKind prog w) d kvs:=Heap.dictOf_iff.mpr ⟨o,(q.news _ hm).1,hd⟩;refine aM hD.dictAt λep SL=>?_;have hc:kvs.length<1000:=by rw[hlen];exact Nat.lt_trans ZP (by decide)
 refine call_function_entry kind_sorted plain_sorted entry_sorted (args_sorted1 _) (av (m:=checkCount "sorted" 1 1 _) (aW ?_));refine av<|kdu_collect (A:=f.A.in1) (kdl_dict (knd:=PySem.strKind prog w) (kvs:=kvs) (ep:=ep) lo) q.ok.hh SL (qE hc) λh' tk acc mm Om=>?_
 have hl:acc.toList.length=kvs.length:=by rw[qo];exact Om.1
 have hS:=FC hk hl λj v e=>Om.2 j v (by rw[<-Array.getElem?_toList];exact e);refine av<|wpAny_newList ?_ (by rw[hl];exact qE hc)
 have RY:(h'.push (seqObj "list" acc.toList.toArray 0)).get? h'.objs.size=some (seqObj "list" acc.toList.toArray 0):=Heap.get?_push_size _ rfl;refine av<|dF<|wpAny_call_entry slot_list_sort ⟨_,RY,rfl⟩ entry_list_sort (list_sort_treeK strKind_oneLt RY hS.keysOf (λnH we rest e=>keyKind_strs (by rw[<-e];exact hS)) (by omega) λst' a1 a2=>⟨_,rfl,?_⟩)<|args_list_sort _
 refine aW ⟨_,rfl,?_⟩;refine aM (sortedHeap_at (vs:=acc.toList) (out:=(arrOf st').map (·.2)) RY) λe he=>?_;let q':=q.grow mm tk;have old:∀b o,q'.h.get? b=some o->(sortedHeap (h'.push (seqObj "list" acc.toList.toArray 0)) h'.objs.size acc.toList ((arrOf st').map (·.2))).get? b=some o:=λb o e=>sortedHeap_old (ka (gq e)) (kG _ e);have P':aE bF q' (alloc q'.Y<|.list<|(mt<|l.map (·.1)).map .str) Q E:=P.grow mm tk;exact P'.yi tk (q'.fr.keeps old) (q'.Up old he) ⟨_,_,rfl,wN<|sorted_out hS a1 a2⟩
theorem D4 {x y:Int}{t u v:Tok}{tk:Nat}(P:aE bF q (.ok (.rng x y) q.Y) Q E):Q (.ref q.h.objs.size) {q.s with heap:=q.h.push<|mT x y t u v,toks:=tk}:=P.hid rfl tk<|.rng (.head _)<|q.rep.mv q.cS
@[elab_as_elim] theorem aE.onSeq {C:Value->Prop}{g:Bool->List V->Res V}(i:q.iv u v)(P:aE bF q (onSeq q.Y v g) Q E)
  (k:∀(t:Addr) (vs:List Value) (b:Bool) (l:aG),(b=true->IsTup q.h t vs.toArray/\q.iv (.ref t) (.U l))->(b=false->q.h.IsList t vs.toArray)->q.oY vs l->vs.length<10000->aE bF q (g b l) Q E->C (.ref t)):C u:=by
 refine P.fq λkl e P1=>P1.ifs λhl P2=>?_;clear P P1;cases v with
 |U l=>
  rw[<-(aT e:(true,l)=kl)] at P2 hl;exact fG i λt vs h1 h2 i=>k t vs true l (λM=>⟨h1,i⟩) (λe=>nomatch e) h2 (bc h2▸hl) P2
 |gl l=>
  rw[<-(aT e:(false,l)=kl)] at P2 hl;exact hU (l:=l) i rfl λt vs h1 h2=>k t vs false l (λe=>nomatch e) (λM=>h1) h2 (bc h2▸hl) P2
 |ref j=>
  refine qH e λl e1 e=>?_;rw[<-e] at P2 hl;exact hU (l:=l) i e1 λt vs h1 h2=>k t vs false l (λe=>nomatch e) (λM=>h1) h2 (bc h2▸hl) P2
 |_=>exact fB e
theorem tK {vs:List Value}(h:vs.length<10000):vs.toArray.size<=sizeLine:=gK (by rw[List.size_toArray];exact h)
theorem s63 {vs:List Value}(h:vs.length<10000):(vs.toArray.size:Int)<2 ^ 63:=by rw[List.size_toArray];omega
theorem Uq {bi:Bi}(is:q.oY us vs)(P:aE bF q (vS q.Y bi vs) Q E):wpAny Mo f.A (call (sy bi) us) Q E q.s:=by
 cases bi with
 |len=>
  refine aE.qx is P λu v i P=>aE.onSeq i P λt vs k l h1 h2 h3 hl P=>?_;have hi:∀t,q.iv (.int (vs.toArray.size:Int) t) (.int (l.length:Int)):=λt=>by rw[List.size_toArray,bc h3];exact .int _ _
  cases k with
  |true=>exact len_tuple (h1 rfl).1 (s63 hl)<|P.same<|hi _
  |false=>exact len_list (h2 rfl) (s63 hl)<|P.same<|hi _
 |list=>
  refine aE.qx is P λu v i P=>aE.onSeq i P λt vs k l h1 h2 h3 hl P=>?_;have fin:∀h',Fr q.b f.L h' f.m->(∀b o,q.h.get? b=some o->h'.get? b=some o)->NewPlain h' q.Z q.h.objs.size vs.toArray->Q (.ref q.h.objs.size) {q.s with heap:=h'}:=λh' F' hk hp=>by
   refine cN hp λHJ hz=>?_;refine aM HJ λe hD=>?_;exact P.OJ (k:=e) q.tk F' (q.Up hk hD) h3
  cases k with
  |true=>exact list_copyTP (hsz:=tK hl) q.fr q.news (h1 rfl).1 λh' F' hk hn M hp=>fin h' F' hk hp
  |false=>exact list_copyLP (hsz:=tK hl) q.fr q.news (h2 rfl) λh' F' hk hn M hp=>fin h' F' hk hp
 |tuple=>
  refine aE.qx is P λu v i P=>aE.onSeq i P λt vs k l h1 h2 h3 hl P=>?_;cases k with
  |true=>exact call_tuple_same (h1 rfl).1<|P.here (h1 rfl).2
  |false=>exact call_tuple_list (hsz:=tK hl) (h2 rfl) λh' hk=>aE.U (q:=q.grow hk q.tk) q.tk (P.grow hk q.tk) h3
 |int=>exact aE.qx is P λu v i P=>aE.WF i P λb P=>call_int_bool<|P.same<|.int _ _
 |str=>
  refine aE.qx is P λu v i P=>aE.nM i P λi t P=>P.ifs λhs P=>PySem.P.str_of_int ?_<|P.same<|.str _ _
  have hb:=lZ hs;unfold Builtin.Int.intBits at hb;split at hb
  ·next hz=>simp at hz;subst hz;decide
  ·exact PA ‹_› rfl
 |max=>exact aE.WG is P λu v u' v' i j P=>aE.nM i P λi t P=>aE.nM j P λj t P=>max_two_N q.ok.hh q.fr q.news λh' tk F' N'=>P.fin tk F' N' q.rep .refl<|.int _ _
 |sorted=>exact aE.qx is P λu v i P=>aE.Hx i P λj d hr P=>aE.pS hr P λo l kvs h3 hd hk P=>P.ifs λZP P=>Ii (q.rep.big d<|bn hr) h3 hd hk ZP P
 |range=>
  cases vs with
  |nil=>exact P.elim
  |cons v r=>
   refine is.ej λi t=>?_;cases r with
   |nil=>rw[t.jO];exact aE.nM i P λi t P=>call_range_1<|D4 P
   |cons v' r=>exact aE.nM i P λi M P=>aE.qx (C:=λr=>wpAny Mo f.A (call (sy .range) (_::r)) Q E q.s) t P λM M j P=>aE.nM j P λj t P=>call_range_2<|D4 P
end
section
variable {ρ:List Addr} {Z:Led} {f:Fz} {q:St f} {Q E:du} {a u:Value} {x v:V} {us:List Value} {vs:aG}
theorem FD {me:Bm}{pl:Sem Bool}{Q:Value × List Value->Shared->Prop}(ia:q.iv a x)(ok:Fh q.Y x me=true)(hq:Q (.builtin<|Uo me,[a]) q.s):wpAny Mo f.A (getMethod a (rF me) pl) Q E q.s:=by
 have st:∀{id:String} {nm:Str},TP x=true->Slot "str" nm id->typeOf (.builtin id)=pure (.type "method_descriptor")->Q (.builtin id,[a]) q.s->wpAny Mo f.A (getMethod a nm pl) Q E q.s:=λhx sl ty=>by
  cases x with
  |str u=>exact ia.pW λM hq=>getMethod_builtin (typeIs_str _ _ _) PySem.F.plainAttrs_str sl ty (λM e=>nomatch e) hq
  |_=>exact nomatch hx
 have li:∀{id:String} {nm:Str},PK q.Y x=true->Slot "list" nm id->typeOf (.builtin id)=pure (.type "method_descriptor")->Q (.builtin id,[a]) q.s->wpAny Mo f.A (getMethod a nm pl) Q E q.s:=λhx sl ty=>by
  cases x with
  |ref i=>
   exact aM (Option.isSome_iff_exists.mp hx) λl e=>qG ia e λt vs n M h3 M hq=>kl_method q.news h3 sl ty hq
  |_=>exact nomatch hx
 cases me with
 |rfind=>exact st ok PySem.F.slot_str_rfind PySem.F.type_str_rfind hq
 |startswith=>exact st ok PySem.F.slot_str_startswith PySem.F.type_str_startswith hq
 |split=>exact st ok PySem.F.slot_str_split PySem.F.type_str_split hq
 |join=>exact st ok PySem.F.slot_str_join PySem.F.type_str_join hq
 |append=>exact li ok PySem.F.slot_list_append PySem.F.type_list_append hq
 |pop=>exact li ok PySem.F.slot_list_pop PySem.F.type_list_pop hq
 |get=>
  have ok:=ok;cases x with
  |ref i=>
   refine aM (Option.isSome_iff_exists.mp ok) λl e=>?_;revert hq;refine mX ia (Cw e) λt o M h3 h4 hq=>?_;obtain⟨kvs,hd,hk⟩:=h4;exact kob_method PySem.F.slot_dict_get PySem.F.type_dict_get q.news h3 hd hq
  |_=>exact nomatch ok
inductive Ur (ρ:List Addr)(Z:Led)(us:List Value)(l:aG)(v:V):Prop
 |mk (p:List Value) (y:Value) (e:kl_last us=some (p,y)) (hp:cf ρ Z p l.dropLast) (hy:bF ρ Z y v)
theorem FE {l:aG}:∀{us:List Value},cf ρ Z us l->l.getLast?=some v->Ur ρ Z us l v:=by
 induction l with
 |nil=>exact λM e=>fB e
 |cons x l ih=>
  cases l with
  |nil=>exact λh=>h.ej λi t e=>by rw[t.jO];exact⟨_,_,rfl,.nil,aT e▸i⟩
  |cons x' r=>
   refine λh=>h.ej λi t=>t.ej λj t e=>?_;obtain⟨p,y,e1,hp,hy⟩:=ih (.cons j t) (List.getLast?_cons_cons▸e);exact⟨_,y,by unfold kl_last;rw[e1],.cons i hp,hy⟩
theorem uE {g:Str->Str->Res V}{me:String}(ia:q.iv a x)(is:q.oY us vs)(P:aE bF q (zn x λs=>qx vs λv=>zn v λt=>g s t) Q E)(k:∀s t s' t',aE bF q (g s s') Q E->wpAny Mo f.A (call (.builtin me) [.str s t,.str s' t']) Q E q.s):wpAny Mo f.A (call (.builtin me) (a::us)) Q E q.s:=
 aE.zn ia P λs t P=>aE.qx is P λM v j P=>aE.zn j P λs' t' P=>k s t s' t' P
theorem Us {me:Bm}(ia:q.iv a x)(is:q.oY us vs)(P:aE bF q (OD q.Y x me vs) Q E):wpAny Mo f.A (call (.builtin<|Uo me) (a::us)) Q E q.s:=by
 cases me with
 |rfind=>exact uE ia is P λs t s' t' P=>SC.rfind<|P.same<|.int _ _
 |startswith=>exact uE ia is P λs t s' t' P=>SC.startswith<|P.here<|.bool _
 |split=>
  refine uE ia is P λs t s' t' P=>P.ifs λhc P=>?_;have hc:=fO.mp hc;have h1:=lE hc.1;refine splitN1 q.fr q.news (nn hc.2) (λl h' k e F' N'=>?_) (by rw[sizeLine_eq];omega);exact P.yi k F' N' ⟨_,_,rfl,by rw[<-e];exact wN<|strsAre_of_values l⟩
 |join=>exact aE.zn ia P λu t P=>aE.qx is P λM v j P=>aE.SA j P λl j P=>P.fq λks e P=>P.ifs λhc P=>fG j λt vs ht hi M=>join_tuple ht (pX e hi) hc λt' k=>P.same<|.str _ _
 |append=>
  refine aE.Hx ia P λi d hr P=>aE.qx is P λu v j P=>aE.pU hr P λl us nn hm hi P=>P.ifs λhc P=>?_;refine append_K q.fr q.news (tJ q.rep.ndZ hm) (λh' F' N'=>P.put q.tk F' N' hr ⟨_,_,rfl,?_⟩ .none)<|gK (by rw[<-qo,bc hi];exact hc)
  rw[Array.toList_push];exact gA (hi.ext (.put<|bn hr) bI q.rep.apart)<|.cons (q.Id hr j) .nil
 |pop=>
  cases vs with
  |cons _ _=>exact P.elim
  |nil=>
   rw[is.jO];refine aE.Hx ia P λi d hr P=>aE.pU hr P λl us nn hm hi P=>P.ifs λhc P=>P.fq λv hv P=>?_;obtain⟨p,y,e1,hp,hy⟩:=FE hi hv;exact kl_pop q.fr q.news e1 (tJ q.rep.ndZ hm) (gK (by rw[bc hi];exact hc)) λh' F' N'=>P.put q.tk F' N' hr ⟨_,_,rfl,hp.ext (.put<|bn hr) bI q.rep.apart⟩<|q.Id hr hy
 |get=>
  refine aE.Hx ia P λi d hr P=>aE.qx is P λu v j P=>aE.zn j P λk t P=>aE.pS hr P λo l kvs h3 hd hk P=>?_;have hb:=q.rep.big d<|bn hr
  refine aY (rD (k:=k) hk) (λYp=>?_) λYq=>?_
  ·refine cN Yp λe1 e2=>?_;rw[e1] at P;exact kdg_get1 q.news h3 hd hb (strKind_is _ _ _ _) none e2<|P.same .none
  ·refine cZ Yq λv u e1 e2 iu=>?_;rw[e1] at P;exact kdg_get1 q.news h3 hd hb (strKind_is _ _ _ _) (some u) e2<|P.same iu
end
theorem m1 (m:Nat):(-1:Int)+((m+1:Nat):Int)=(m:Int):=(Int.add_comm _ _).trans<|Int.add_neg_cancel_right (m:Int) 1
theorem FF (n:Nat):Builtin.Slice.sliceAdjust none (some (-1)) 1 (n:Int)=(0,((n - 1:Nat):Int)):=by
 cases n with
 |zero=>decide
 |succ m=>
  show((0:Int),max ((-1:Int)+((m+1:Nat):Int)) 0)=(0,(m:Int));rw[m1,Int.max_eq_left<|Int.natCast_nonneg m]
theorem FH (n:Nat):Builtin.Slice.slicePlaces 0 (n:Int) 1=n:=by
 cases n with
 |zero=>rfl
 |succ m=>
  show(if (0:Int)<((m+1:Nat):Int) then (((m+1:Nat):Int) - 0 - 1) / 1+1 else 0).toNat=m+1;rw[if_pos<|show(0:Int)<((m+1:Nat):Int) from Int.ofNat_lt.mpr (Nat.succ_pos m),Int.sub_zero,show((m+1:Nat):Int) - 1=(m:Int) from Int.add_sub_cancel (m:Int) 1,Int.ediv_one];rfl
section
variable {A:Around} {E:du} {s:Shared}
theorem tc {sl:Addr}{n:Nat}{u:Tok}{Q:Int × Int × Nat->Shared->Prop}(hs:s.heap.IsSliceOf sl .none (.int (-1) u) .none)(h:Q (0,1,n - 1) s):
  wpAny Mo A (Builtin.Slice.sliceApplied (.ref sl)<|pure (n:Int)) Q E s:=by
 refine jI (id hs) λos Wa BU Sb=>av<|av<|wpAny_field Wa Sb (x:=.none) rfl<|av<|wpAny_field Wa Sb (x:=.int (-1) u) rfl<|av<|wpAny_field Wa Sb (x:=.none) rfl<|aW ?_
 refine av<|slicePart_none ?_
 rw[if_neg<|by decide];refine av<|slicePart_none<|av<|slicePart_int<|av<|aW ?_
 show wpAny _ _ (match Builtin.Slice.sliceAdjust none (some (-1)) 1 (n:Int) with | (lo,hi)=>pure (lo,(1:Int),Builtin.Slice.slicePlaces lo hi 1)) _ _ s;rw[FF];show wpAny _ _ (pure ((0:Int),(1:Int),Builtin.Slice.slicePlaces 0 ((n - 1:Nat):Int) 1)) _ _ s;rw[FH];exact aW h
theorem Ms (xs:Array Value)(b:Nat):((List.range b).filterMap λ(k:Nat)=>xs[((0:Int)+(k:Int) * 1).toNat]?).toArray=(xs.toList.take b).toArray:=by
 have e:(λ(k:Nat)=>xs[((0:Int)+(k:Int) * 1).toNat]?)=λk=>xs[0+k]?:=by
  funext k
  rw[Int.zero_add,Int.mul_one,Int.toNat_natCast,Nat.zero_add]
 rw[e];have:=pick_run xs 0 b;rw[List.filterMap_map,List.drop_zero] at this;exact bH _ this
theorem Mt {n:Nat}(h:n - 1=n):n=0:=by
 cases n with
 |zero=>rfl
 |succ m=>exact absurd h<|ka<|Nat.lt_succ_self m
theorem rG {t sl:Addr}{items:Array Value}{u:Tok}{Q:du}(ht:IsTup s.heap t items)(hs:s.heap.IsSliceOf sl .none (.int (-1) u) .none)
  (h0:items.size=0->Q (.ref t) s) (h:items.size≠0->Q (.ref s.heap.objs.size) {s with heap:=s.heap.push {cls:=.type "tuple",data:=.seq (items.toList.take (items.size - 1)).toArray}})
  (hsz:items.size<=sizeLine):wpAny Mo A (getItem (.ref t)<|.ref sl) Q E s:=by
 have Wb:sizeOk (.seq (items.toList.take<|items.size - 1).toArray):=by
  show(items.toList.take<|items.size - 1).toArray.size<=sizeLine;rw[List.size_toArray,List.length_take,qo];exact d9 (Nat.min_le_right _ _) hsz
 refine jI (id hs) λos Wa BU Sb=>?_;unfold getItem
 try with_reducible refine dF ?_
 first | refine av (aW ?_) | skip
 refine av<|wpAny_sequenceKey ht.typeIs (by decide) ?_
 refine av (wpAny_callSpecial?_slot (name:=Str.ofString "__getitem__") ht.typeIs slot_tuple_getitem
  (wpAny_call_entry slot_tuple_getitem ht.typeIs entry_tuple_getitem ?_<|args_tuple_getitem _ _))
 show wpAny _ _ (Builtin.Tuple.tupleItemsOf (.ref t) >>= _) _ _ s;refine av<|tupleItemsOf_ ht ?_
 refine av (wpAny_typeOf (⟨os,Wa,BU⟩:s.TypeIs (.ref sl) "slice") ?_);rw[if_pos<|by decide];refine av<|tc hs ?_
 show wpAny _ _ (if ((0:Int)==0&&(1:Int)==1&&(items.size - 1)==items.size)=true then _ else _) _ _ s;by_cases hz:items.size=0
 ·rw[if_pos (by rw[hz];rfl)];exact av<|av<|wpAny_typeOf ht.typeIs<|aW (by rw[if_pos<|by decide];exact av<|wpAny_rule<|aW ⟨_,rfl,aW<|h0 hz⟩)
 ·rw[if_neg λe=>hz<|Mt<|eq_of_beq<|b2 e,Ms items];exact av (m:=Builtin.Tuple.tupleExact _)<|wpAny_newObj_type (aW ⟨_,rfl,aW<|h hz⟩) Wb
theorem FI (n:Nat):sliceBounds none (some (-1)) none n=sliceBounds (some ((0:Nat):Int)) (some ((n - 1:Nat):Int)) none n:=by
 cases n with
 |zero=>decide
 |succ m=>
  show((0:Int),max 0<|min ((-1:Int)+((m+1:Nat):Int)) ((m+1:Nat):Int),(1:Int))=((0:Int),max 0<|min (m:Int) ((m+1:Nat):Int),(1:Int));rw[m1]
theorem ys (items:Array Value):slicePick items none (some (-1)) none=(items.toList.take<|items.size - 1).toArray:=by
 have h2:=slicePick_run items 0 (items.size - 1) (Nat.sub_le _ _)<|pC _
 unfold slicePick at h2⊢;rw[FI,h2,List.drop_zero,Nat.sub_zero]
end
def pq (t:Lv)(e:Expr)(x:X):Prop:=∀(f:Fz) (q:St f) (Q:Bool->Shared->Prop) (E:du),f.t=t->aE OI q (da<|aV t.O x f.N q.Y) Q E->wpAny Mo f.A (isTrue e f.env<|eval e f.env) Q E q.s
inductive dy (t:Lv):List Expr->List X->Prop
 |nil:dy t [] []
 |cons {e:Expr} {x:X} {r:List Expr} {xs:List X}:(∀env r,starEach (e::r) env=(false,eval e env)::starEach r env)->cr t e x->pq t e x->dy t r xs->dy t (e::r) (x::xs)
abbrev wO (Q E:du):Result->Shared->Prop:=λr s'=>match r with | .ok (.ret v)=>Q v s' | .ok _=>False | .error e=>E e s'
def hV (O:ar)(n:Nat):Prop:=∀(fn:Nat) (f:Fz) (q:St f) (A':Around) (Q E:du) (us:List Value) (vs:aG),f.t.n=n->A'.frames=f.A.frames->A'.handled=f.A.handled->A'.depth<=f.A.depth+1->A'.units<=f.A.units+16->q.oY us vs->
 aE bF q (O fn vs q.Y) Q E->codeAny Mo A' (.call (.ref fn) ⟨us,[]⟩) (wO Q E) q.s
section
variable {t:Lv} {f:Fz} {q:St f} {Q E:du} {a b:Value} {x y:V} {l:List Expr} {xs:List X} {pos p:Pos} {bA cz:Expr} {jo jQ:X}
theorem dy.length (h:dy t l xs):xs.length=l.length:=by
 induction h with
 |nil=>rfl
 |cons _ _ _ _ ih=>exact bH (· +1) ih
theorem dy.CA (h:dy t l xs):Fo t l xs:=by
 induction h with
 |nil=>exact HN
 |cons he hx _ _ ih=>exact Fq (λenv=>he env _) hx ih
theorem dy.plain (h:dy t l xs)(pos:Pos)(env:Env):(backTo pos<|starEach l env).any (·.1)=false:=by
 induction h with
 |nil=>rfl
 |cons he _ _ _ ih=>rw[he env];exact ih
theorem dy.all (h:dy t l xs)(pos:Pos)(env:Env):(backTo pos<|starEach l env).all (λx=>!x.1)=true:=by
 induction h with
 |nil=>rfl
 |cons he _ _ _ ih=>rw[he env];exact ih
theorem dy.args (h:dy t l xs){fv:Value}{Q:Args->Shared->Prop}(hh:wpAny Mo f.A (spliced<|backTo pos<|starEach l f.env) (λvs s'=>Q ⟨vs,[]⟩ s') E q.s):wpAny Mo f.A (evalArgs fv true (backTo pos<|starEach l f.env) []) Q E q.s:=by
 cases h with
 |nil=>
  refine av<|cC hh (λvs s' h'=>?_) λM M x=>x
  first
   |exact dF (av (aW (av (aW (aW h')))))
   |exact av (aW (dF (av (aW (av (aW (aW h')))))))
 |cons he _ _ _=>
  rw[he f.env] at hh⊢;exact Calls.evalArgs_plain hh
theorem Mu {op:Operator}(bx:cr t bA jo)(eo:cr t cz jQ):cr t (.BinOp bA op cz pos) (.bin op jo jQ):=λM q M E ht P=>
 wpAny_BinOp (bx _ q _ E ht<|P.bind λam M bV aO=>eo _ am _ E ht<|aO.bind λM bK iA dw=>Ui (bK.wH bV) iA dw)
theorem Mv {op:CmpOp}(hm:behindInMarks op cz=false)(bx:cr t bA jo)(eo:cr t cz jQ):cr t (.Compare bA [op] [cz] pos) (.m op jo jQ):=λM q M E ht P=>
 wpAny_Compare1 (bx _ q _ E ht<|P.bind λam M bV aO=>eo _ am _ E ht<|aO.bind λM bK iA dw=>dw.fq λM e dw=>OL (bK.wH bV) iA e λM=>dw.same<|.bool _) hm
theorem Res.bind_assoc {α β γ:Type}(r:Res α)(g:α->af->Res β)(k:β->af->Res γ):(r.bind g).bind k=r.bind λa Y=>(g a Y).bind k:=by
 cases r<;>rfl
theorem Ij {op:CmpOp}(hm:behindInMarks op cz=false)(bx:cr t bA jo)(eo:cr t cz jQ):pq t (.Compare bA [op] [cz] pos) (.m op jo jQ):=λf q Q E ht P=>by
 have P:aE OI q (((aV t.O jo f.N q.Y).bind λx Y=>(aV t.O jQ f.N Y).bind λy Y=>fq (cy Y op x y) λb=>.ok (.bool b) Y).bind λv Y=>fq (bp Y v) λb=>.ok b Y) Q E:=P;rw[Res.bind_assoc] at P;refine wpAny_isTrue_Compare1 (bx _ q _ E ht<|P.bind λam M bV aO=>eo _ am _ E ht<|aE.bind (Res.bind_assoc _ _ _▸aO) λbw bK iA dw=>?_) hm;cases e:cy bw.Y op _ _ with
 |none=>rw[e] at dw;exact dw.elim
 |some r=>rw[e] at dw;exact OL (bK.wH bV) iA e λM=>wpAny_truthy_bool<|aE.same dw rfl
theorem CB {e:Expr}{x:X}(he:∀env whole,isTrue e env whole=(do let v<-whole;standAt e.pos;holding [v] (truthy v)))(h:cr t e x):pq t e x:=λf q Q E ht P=>by
 rw[he];exact av<|h _ q _ E ht<|P.bind λM M bV aO=>av<|f8<|dF<|aO.fq λM e aO=>yl bV e λM=>aO.same rfl
theorem Mw {CD:Expr}{FJ:X}(bx:pq t bA jo)(eo:cr t cz jQ)(mZ:cr t CD FJ):cr t (.IfExp bA cz CD pos) (.ite jo jQ FJ):=λM q M E ht P=>
 wpAny_IfExp (bx _ q _ E ht (P.bindB λ{v} am M aO=>by
  cases v with
  |true=>exact eo _ am _ E ht aO
  |false=>exact mZ _ am _ E ht aO))
theorem yt {e:Expr}(h:∀a b c p,e≠.Slice a b c p)(o i:Value):subscripted e false o i=operate [o,i] (getItem o i):=by
 cases e with
 |Slice=>exact absurd rfl<|h _ _ _ _
 |_=>rfl
theorem Mx (hs:∀a b c p,cz≠.Slice a b c p)(bx:cr t bA jo)(eo:cr t cz jQ):cr t (.Subscript bA cz pos) (.i jo jQ):=λM q M E ht P=>
 Subscript_ (bx _ q _ E ht<|P.bind λam M bV aO=>eo _ am _ E ht<|aO.bind λM bK iA dw=>dw.fq λM e dw=>Uk (yt hs) (bK.wH bV) iA e λM M iu=>dw.same iu)
theorem wP {ρ:List Addr}{Z:Led}{l:aG}{vs:List Value}(h:cf ρ Z vs l)(k:Nat):cf ρ Z (vs.take k) (l.take k):=by
 induction k generalizing l vs with
 |zero=>exact .nil
 |succ k ih=>cases l with
  |nil=>rw[h.jO];exact .nil
  |cons x l=>exact h.ej λi t=>.cons i<|ih t
theorem FK {ρ:List Addr}{Z:Led}{l:aG}{vs:List Value}(h:cf ρ Z vs l)(k:Nat):cf ρ Z (vs.drop k) (l.drop k):=by
 induction k generalizing l vs with
 |zero=>exact h
 |succ k ih=>cases l with
  |nil=>rw[h.jO];exact .nil
  |cons x l=>exact h.ej λM t=>ih t
theorem St.D5 (q:St f)(o:Obj):∀z o',q.h.get? z=some o'->(q.h.push o).get? z=some o':=λM M e=>kG _ e
theorem Qe (ia:q.iv a x)(ib:q.iv b y)(P:aE bF q (rt q.Y x y) Q E):
  wpAny Mo f.A (subscriptTail bA (.Slice none (some cz) none p) a (.ref q.h.objs.size)) Q E {q.s with heap:=q.h.push {cls:=.type "slice",data:=.fields #[.none,b,.none]}}:=by
 have hs:∀o i,subscripted (.Slice none (some cz) none p) false o i=operate [i,o] (getItem o i):=λM M=>rfl;refine aE.nM ib P λk tk P=>?_;cases x with
 |U l=>
  refine aE.ifs P λhk P'=>fG ia λt vs ht hi ia=>?_;refine cN hk λdZ hl=>?_;subst dZ;have ng:=q.D5 {cls:=.type "slice",data:=.fields #[.none,.int (-1) tk,.none]};have P1:=P'.grow ng q.tk;have hlen:=bc hi;have GW:=ht.keeps ng;refine tail_any GW.typeIs slot_tuple_getitem.lookup (rG GW (Heap.IsSliceOf.new ..) (λh0=>P1.here ?_) (λh0=>P1.U q.tk ?_)<|tK (hlen▸hl))<|hs _ _
  ·rw[qm<|hlen.symm.trans h0] at ia⊢;exact ia
  ·rw[List.dropLast_eq_take,<-hlen];exact wP hi _
 |str s=>
  have ng:=q.D5 {cls:=.type "slice",data:=.fields #[.none,.int k tk,.none]};refine aE.ifs (P.grow ng q.tk) λhl P1=>ia.pW λM=>?_;exact tail_any (s:=(q.grow ng q.tk).s) (typeIs_str _ _ _) PySem.F.slot_str_getitem.lookup (wpAny_getItem_str_slice (l:=none) (u:=some (k,tk)) (st:=none) ⟨_,Heap.get?_push_size _ rfl,rfl,rfl⟩ rfl
   (post_val_or_str ⟨d9 (Txt.slice_le s _ _)<|gK hl,λt' tk=>P1.same<|.str _ _⟩)) (hs _ _)
 |ref i=>
  refine aE.fq P λl e P'=>P'.ifs λhk P''=>qG ia e λt vs n M h3 hi=>?_;refine cN hk λmu hl=>?_;subst mu;have ng:=q.D5 {cls:=.type "slice",data:=.fields #[.none,.int (-1) tk,.none]};have hlen:=bc hi;have ht:=(q.isList h3).push {cls:=.type "slice",data:=.fields #[.none,.int (-1) tk,.none]};have hsz:vs.size<=sizeLine:=by rw[<-qo];exact gK (hlen▸hl)
  refine tail_any (Heap.IsList.typeIs ht) list_getitem_lookup (wpAny_getItem_list_slice ht (Heap.IsSliceOf.new ..) .none (.int _ _) .none (by simp) ?_ hsz)<|hs _ _
  rw[ys];exact(P''.grow ng q.tk).list q.tk (by rw[List.dropLast_eq_take,<-hlen,qo];exact wP hi _)
 |_=>exact P.elim
theorem Ik (ia:q.iv a x)(ib:q.iv b y)(P:aE bF q (n0 q.Y x y) Q E):
  wpAny Mo f.A (subscriptTail bA (.Slice (some cz) none none p) a (.ref q.h.objs.size)) Q E {q.s with heap:=q.h.push {cls:=.type "slice",data:=.fields #[b,.none,.none]}}:=by
 refine aE.nM ib P λk tk P=>?_;have ng:=q.D5 {cls:=.type "slice",data:=.fields #[.int k tk,.none,.none]};cases x with
 |ref i=>
  refine aE.fq (P.grow ng q.tk) λl e P1=>P1.ifs λhk P1=>qG ia e λt vs n M h3 hi=>?_;have ht:=(q.isList h3).push {cls:=.type "slice",data:=.fields #[.int k tk,.none,.none]};have hsz:vs.size=l.length:=by rw[<-qo];exact(bc hi)
  refine tail_any (Heap.IsList.typeIs ht) list_getitem_lookup (wpAny_getItem_list_slice ht (Heap.IsSliceOf.new ..) (.int _ _) .none .none (by simp) ?_<|gK (hsz▸hk.2.2))<|(λM M=>rfl:∀o i,subscripted (.Slice (some cz) none none p) false o i=operate [i,o] (getItem o i)) _ _
  rw[show(some k:Option Int)=some (k.toNat:Int) by rw[Int.toNat_of_nonneg hk.1],slicePick_from _ _ (by rw[hsz];exact Int.toNat_le.mpr hk.2.1)];exact P1.list q.tk<|FK hi _
 |_=>exact P.elim
theorem FL (bx:cr t bA jo)(eo:cr t cz jQ):cr t (.Subscript bA (.Slice none (some cz) none p) pos) (.slcTo jo jQ):=λM q M E ht P=>
 Subscript_ (bx _ q _ E ht<|P.bind λam M bV aO=>wpAny_Slice<|evalPart_none_step<|evalPart_some_step<|eo _ am _ E ht<|aO.bind λM bK iA dw=>evalPart_none_step<|Qe (bK.wH bV) iA dw)
theorem Ap (bx:cr t bA jo)(eo:cr t cz jQ):cr t (.Subscript bA (.Slice (some cz) none none p) pos) (.slcFrom jo jQ):=λM q M E ht P=>
 Subscript_ (bx _ q _ E ht<|P.bind λam M bV aO=>wpAny_Slice<|evalPart_some_step<|eo _ am _ E ht<|aO.bind λM bK iA dw=>evalPart_none_step<|evalPart_none_step<|Ik (bK.wH bV) iA dw)
theorem D6 {o:Expr}(hb:j1 o=true)(nm:Str)(env:Env)(t:Sem Value):attributeBase o nm env t=t:=by
 cases o with
 |Call g l kw p=>
  cases g with
  |Name=>
   cases l with
   |nil=>
    cases kw with
    |nil=>exact nomatch hb
    |cons=>rfl
   |cons=>rfl
  |_=>rfl
 |_=>rfl
def tL:Prop:=∀C nm,uo.attrs C nm=true->findIn K (.ref C) nm=some none
theorem uF {nm:Str}(hT:tL){Y:af}(h:db Y x nm=true):∃aay,n6 Y x=some aay/\findIn K (.ref aay.C) nm=some none/\aay.l.length<499:=by
 unfold db at h;cases e:n6 Y x with
 |none=>rw[e] at h;exact nomatch h
 |some aay=>
  rw[e] at h;have h:=fO.mp h;exact lA aay rfl (hT _ _ h.1)<|lE h.2
theorem Il (hT:tL){nm:Str}(hb:j1 bA=true)(bx:cr t bA jo):cr t (.Attribute bA nm pos) (.attr jo nm):=λf q Q E ht P=>by
 refine Attribute_any_ (bx _ q _ E ht<|P.bind λam M bV aO=>aO.ifs λhm aO=>aO.fq λr e aO=>?_) (by
  show(do let o<-attributeBase bA nm f.env (eval bA f.env);_)= _;rw[D6 hb])
 exact jI (uF hT hm) λaay e0 hC M=>attrOk hC e0 bV e λM M iu=>aO.same iu
end
section
variable {t:Lv} {f:Fz} {q:St f} {Q E:du} {a b:Value} {x y:V} {l:List Expr} {xs:List X} {pos p:Pos} {bA cz:Expr} {jo jQ:X}
theorem Res.aJ {α:Type}(r:Res α):(r.bind λv Y=>.ok v Y)=r:=by cases r<;>rfl
noncomputable abbrev OM (o:Bool):BoolOp:=cond o .Or .And
def CE (o:Bool)(O:ar)(l:List X)(N:Loc)(Y:af):Res V:=cond o (ur O l N Y) (ny O l N Y)
variable {O:ar} {N:Loc} {Y:af}
theorem Aq (o:Bool){x:X}:CE o O [x] N Y=aV O x N Y:=by
 cases o<;>exact Res.aJ _
theorem Ar (o:Bool){x y:X}{r:List X}:CE o O (x::y::r) N Y=(aV O x N Y).bind λv Y=>fq (bp Y v) λt=>cond (o==t) (.ok v Y) (CE o O (y::r) N Y):=by
 cases o
 ·refine bH (Res.bind (aV O x N Y)) (funext λv=>funext λY=>bH (fq (bp Y v)) (funext λt=>?_));cases t<;>rfl
 ·refine bH (Res.bind (aV O x N Y)) (funext λv=>funext λY=>bH (fq (bp Y v)) (funext λt=>?_));cases t<;>rfl
theorem Im (o:Bool)(hs:dy t l xs):∀(f:Fz) (q:St f) (pos:Pos) (Q E:du),f.t=t->aE bF q (CE o t.O xs f.N q.Y) Q E->wpAny Mo f.A (boolOp pos (OM o) (evalEach l f.env)) Q E q.s:=by
 induction hs with
 |nil=>intro f q pos Q E _ P;cases o<;>exact P.elim
 |@cons e x r xs he hx ht hr ih=>
  intro f q pos Q E e0 P;cases hr with
  |nil=>
   rw[Aq] at P;cases o<;>exact hx f q Q E e0 P
  |@cons cz jQ My aac ON aad aae Io=>
   rw[Ar] at P;have step:∀w,(wpAny Mo f.A (eval e f.env) (λv eu=>wpAny Mo f.A (truthy v) (λb kj=>cond (o==b) (Q v kj) (wpAny Mo f.A (boolOp pos (OM o) (evalEach (cz::My) f.env)) Q E kj)) E eu) E q.s)->w=boolOp pos (OM o) (evalEach (e::cz::My) f.env)->wpAny Mo f.A w Q E q.s:=λw h hw=>by
    rw[hw];cases o with
    |false=>
     show wpAny Mo f.A (do
      let v<-eval e f.env
      standAt pos
      let t<-holding [v] (truthy v)
      match BoolOp.And,t with
      | .And,false | .Or,true=>pure v
      |_,_=>boolOp pos .And (evalEach (cz::My) f.env)) Q E q.s
     refine av (cC h (λv eu bx=>av (f8 (av (dF (cC bx (λb kj eo=>?_) λM M x=>x))))) λM M x=>x);cases b with
     |false=>exact aW eo
     |true=>exact eo
    |true=>
     show wpAny Mo f.A (do
      let v<-eval e f.env
      standAt pos
      let t<-holding [v] (truthy v)
      match BoolOp.Or,t with
      | .And,false | .Or,true=>pure v
      |_,_=>boolOp pos .Or (evalEach (cz::My) f.env)) Q E q.s
     refine av (cC h (λv eu bx=>av (f8 (av (dF (cC bx (λb kj eo=>?_) λM M x=>x))))) λM M x=>x);cases b with
     |true=>exact aW eo
     |false=>exact eo
   refine step _ (hx f q _ E e0 (P.bind λam M bV aO=>aO.fq λb eb aO=>yl bV eb λtk=>?_)) rfl;cases hb:(o==b) with
   |true=>rw[hb] at aO;exact aO.same bV
   |false=>rw[hb] at aO;exact ih f (am.grow (λM M h=>h) tk) pos Q E e0 (aO.grow (λM M h=>h) tk)
theorem As (o:Bool){x:X}(hx:∀O N Y,aV O x N Y=CE o O xs N Y)(hs:dy t l xs):cr t (.BoolOp (OM o) l pos) x:=λf q Q E e P=>Im o hs f q pos Q E e (hx _ _ _▸P)
def Mz (o:Bool)(O:ar)(l:List X)(N:Loc)(Y:af):Res Bool:=da (CE o O l N Y)
theorem Ip (o:Bool){x:X}:Mz o O [x] N Y=da (aV O x N Y):=bH da (Aq o)
theorem sB {α:Type}(r:Res α)(g:α->af->Res V):da (r.bind g)=r.bind λa Y=>da (g a Y):=Res.bind_assoc _ _ _
theorem CF (o:Bool)(r:Res V)(g:af->Res V):da (r.bind λv Y=>fq (bp Y v) λt=>cond (o==t) (.ok v Y) (g Y))=(da r).bind λt Y=>cond (o==t) (.ok t Y) (da (g Y)):=by
 cases r with
 |ok v Y=>
  show da (fq (bp Y v) λt=>cond (o==t) (.ok v Y) (g Y))=(fq (bp Y v) λt=>Res.ok t Y).bind _;cases e:bp Y v with
  |none=>rfl
  |some t=>
   show da (cond (o==t) (.ok v Y) (g Y))=cond (o==t) (.ok t Y) (da (g Y));cases (o==t) with
   |true=>show fq (bp Y v) _= _;rw[e];rfl
   |false=>rfl
 |exc C Y=>rfl
 |stuck=>rfl
theorem Iq (o:Bool){x y:X}{r:List X}:Mz o O (x::y::r) N Y=(da (aV O x N Y)).bind λt Y=>cond (o==t) (.ok t Y) (Mz o O (y::r) N Y):=(bH da (Ar o)).trans (CF o _ _)
theorem FM (o:Bool)(hs:dy t l xs):∀(f:Fz) (q:St f) (Q:Bool->Shared->Prop) (E:du),f.t=t->aE OI q (Mz o t.O xs f.N q.Y) Q E->wpAny Mo f.A (allTrue (OM o) l f.env) Q E q.s:=by
 induction hs with
 |nil=>intro f q Q E _ P;cases o<;>exact P.elim
 |@cons e x r xs he hx ht hr ih=>
  intro f q Q E e0 P;have step:∀(h:wpAny Mo f.A (isTrue e f.env (eval e f.env)) (λb eu=>cond (o==b) (Q b eu) (wpAny Mo f.A (allTrue (OM o) r f.env) Q E eu)) E q.s),wpAny Mo f.A (allTrue (OM o) (e::r) f.env) Q E q.s:=λh=>by
   cases o with
   |false=>
    refine av (cC h (λb eu bx=>?_) λM M x=>x);cases b with
    |false=>exact aW bx
    |true=>exact bx
   |true=>
    refine av (cC h (λb eu bx=>?_) λM M x=>x);cases b with
    |true=>exact aW bx
    |false=>exact bx
  cases hr with
  |nil=>
   rw[Ip] at P;refine step (ht f q _ E e0 ?_);refine aE.bindB (Res.aJ (da (aV t.O x f.N q.Y))▸P) λ{v} am M aO=>?_;cases hv:(o==v) with
   |true=>exact aO.here rfl
   |false=>
    have hv:v= !o:=by cases o<;>cases v<;>first | rfl | exact nomatch hv
    rw[hv] at aO;cases o<;>exact aW (aO.here rfl)
  |cons _ _ _ _=>
   rw[Iq] at P;refine step (ht f q _ E e0 (P.bindB λ{v} am M aO=>?_));cases hv:(o==v) with
   |true=>rw[hv] at aO;exact aO.here rfl
   |false=>rw[hv] at aO;exact ih f am Q E e0 aO
theorem wQ (o:Bool){x:X}(hx:∀O N Y,aV O x N Y=CE o O xs N Y)(hs:dy t l xs):pq t (.BoolOp (OM o) l pos) x:=λf q Q E e P=>by
 rw[hx] at P;cases o<;>exact FM _ hs f q Q E e P
theorem snd_and (hs:dy t l xs):cr t (.BoolOp .And l pos) (.and xs):=As false (λM M M=>rfl) hs
theorem Qf (hs:dy t l xs):cr t (.BoolOp .Or l pos) (.or xs):=As true (λM M M=>rfl) hs
theorem Ir (hs:dy t l xs):pq t (.BoolOp .And l pos) (.and xs):=wQ false (λM M M=>rfl) hs
theorem MA (hs:dy t l xs):pq t (.BoolOp .Or l pos) (.or xs):=wQ true (λM M M=>rfl) hs
theorem It {e:Expr}{x:X}(ht:pq t e x):pq t (.UnaryOp .Not e pos) (.not x):=λf q Q E e0 P=>by
 have P:aE OI q (da ((da (aV t.O x f.N q.Y)).bind λb Y=>.ok (.bool !b) Y)) Q E:=P;rw[sB] at P;exact wpAny_isTrue_Not (ht f q _ E e0 (P.bindB λam M aO=>aO.here rfl))
theorem Iu {CD:Expr}{FJ:X}(bx:pq t bA jo)(eo:pq t cz jQ)(mZ:pq t CD FJ):pq t (.IfExp bA cz CD pos) (.ite jo jQ FJ):=λf q Q E e0 P=>by
 have P:aE OI q (da ((da (aV t.O jo f.N q.Y)).bind λb Y=>cond b (aV t.O jQ f.N Y) (aV t.O FJ f.N Y))) Q E:=P;rw[sB] at P;refine av (bx f q _ E e0 (P.bindB λ{v} am M aO=>?_));cases v with
 |true=>exact eo f am Q E e0 aO
 |false=>exact mZ f am Q E e0 aO
theorem MB {e:Expr}{x:X}(bx:cr t e x):cr t (.UnaryOp .Not e pos) (.not x):=λf q Q E e0 P=>by
 have P:aE bF q (((aV t.O x f.N q.Y).bind λv Y=>fq (bp Y v) λb=>.ok b Y).bind λb Y=>.ok (.bool !b) Y) Q E:=P;rw[Res.bind_assoc] at P;refine wpAny_UnaryOp (bx f q _ E e0 (P.bind λ{v u} am M bV aO=>dF (av ?_)));cases e:bp am.Y v with
 |none=>rw[e] at aO;exact aO.elim
 |some b=>rw[e] at aO;exact yl bV e λM=>aW (aE.same aO (.bool _))
theorem MC {i:Int}{j:Nat}:cr t (.UnaryOp .USub (.Constant (.int i) j p) pos) (.c (.int (-i))):=λM M M M M P=>wpAny_UnaryOp (wpAny_Constant_int (neg_int (aE.same P (.int _ _))))
end
section
variable {t:Lv} {f:Fz} {q:St f} {Q E:du} {a b:Value} {x:X} {l:List Expr} {xs:List X} {pos fp apos:Pos} {o:Expr} {nm:Str} {s:Shared}
theorem At {b:Bi}{args:List (Bool × Sem Value)}(hp:args.any (·.1)=false)(h:wpAny Mo f.A (evalArgs (sy b) true args []) (λa eu=>wpAny Mo f.A (call (sy b) ([]++a.pos) a.kw) Q E eu) E s):wpAny Mo f.A (callWith pos (sy b) [] args []) Q E s:=by
 cases b with
 |len=>exact Calls.callWith_builtin hp h
 |sorted=>exact Calls.callWith_builtin hp h
 |max=>exact Calls.callWith_builtin hp h
 |list=>exact zt hp h
 |tuple=>exact zt hp h
 |str=>exact zt hp h
 |int=>exact zt hp h
 |range=>exact zt hp h
theorem Qg {b:Bi}(hn:iI t.ns nm=true)(hb:HM nm b)(hl:dy t l xs):cr t (.Call (.Name nm fp) l [] pos) (.bi b xs):=λf q Q E ht P=>
 wpAny_Call_ofName (Mk (ht▸hn) hb<|At (hl.plain pos f.env)<|hl.args<|hl.CA f q pos _ E ht<|P.bind λM M bV aO=>Uq bV aO)
theorem km {g:Value}{first:List Value}(hl:dy t l xs)(hk:keepIn K g=true)(h:wpAny Mo f.A (spliced<|backTo pos<|starEach l f.env) (λus eu=>K.In eu.heap/\wpAny Mo f.A (call g (first++us)) Q E eu) E q.s):wpAny Mo f.A (callWith pos g first (backTo pos<|starEach l f.env) []) Q E q.s:=
 callWith_of (by rw[hl.plain pos f.env];rfl) (λh X=>keeps_K hk h X) (hl.args h)
theorem hV.here {O:ar}{n fn:Nat}{us:List Value}{vs:aG}(hO:hV O n)(hn:f.t.n=n)(i:q.oY us vs)(P:aE bF q (O fn vs q.Y) Q E):wpAny Mo f.A (call (.ref fn) us) Q E q.s:=wpAny_call<|hO fn f q f.A Q E us vs hn rfl rfl (kN _) (dX _ _) i P
theorem Iv (hO:hV t.O t.n){a:Nat}(hn:iI t.ns nm=true)(hf:nsIn K mainGlobals nm=some (some<|.ref a))(hk:keepIn K (.ref a)=true)(hl:dy t l xs):cr t (.Call (.Name nm fp) l [] pos) (.call a xs):=λf q Q E ht P=>
 wpAny_Call_ofName (oi (ht▸hn) hf<|km hl hk<|hl.CA f q pos _ E ht<|P.bind λam M bV aO=>⟨am.sx,hO.here (bH Lv.n ht) bV aO⟩)
theorem wR (hb:j1 o=true)(hlen:l.length<30)(BN:(apos.endLine==pos.line)=true)(hl:dy t l xs)
  (h:wpAny Mo f.A (eval o f.env) (λov eu=>wpAny Mo f.A (getMethod ov nm<|do return (<-importBound o f.env).getD true) (λfx kj=>wpAny Mo f.A (callWith pos fx.1 fx.2 (backTo pos<|starEach l f.env) []) Q E kj) E eu) E q.s):
  wpAny Mo f.A (eval (.Call (.Attribute o nm apos) l [] pos) f.env) Q E q.s:=by
 rw[arm_eval_Call,D6 hb];refine av<|cC h (λov eu bx=>av<|f8 ?_) λM M e=>e
 have Wc:methodCallForm (l.length+([]:List Keyword).length) (backTo pos<|starEach l f.env) (backToKw pos<|keywordEach [] f.env)=true:=by
  unfold methodCallForm;rw[hl.all pos f.env];rw[show backToKw pos (keywordEach [] f.env)=[] from rfl];simpa using hlen
 have ZQ:methodCallPos true o f.env apos pos=pure pos:=by unfold methodCallPos;simp[BN]
 unfold methodCall calleeOf;rw[Wc];simp only[if_true];refine av<|dF<|cC bx (λfx kj eo=>?_) λM M e=>e
 rw[ZQ];exact av<|aW eo
theorem Qh {me:Bm}(hb:j1 o=true)(hlen:l.length<30)(BN:(apos.endLine==pos.line)=true)(ho:cr t o x)(hl:dy t l xs):cr t (.Call (.Attribute o (rF me) apos) l [] pos) (.bm x me xs):=λf q Q E ht P=>
 wR hb hlen BN hl (ho f q _ E ht<|P.bind λam M bV aO=>aO.ifs λhm aO=>FD bV hm<|Calls.callWith_builtin (hl.plain pos f.env)<|hl.args<|hl.CA f am pos _ E ht<|aO.bind λM bK iA dw=>Us (bK.wH bV) iA dw)
def D7:Prop:=∀C nm f,uo.bG C nm=some f->findIn K (.ref C) nm=some (some (.ref f))/\typeIn K (.ref f)=some (.type "function")/\keepIn K (.ref f)=true
def D8:Prop:=∀C f,uo.init C=some f->findIn K (.ref C) "__init__"=some (some (.ref f))/\typeIn K (.ref f)=some (.type "function")/\makesIn K C=true/\keepIn K (.ref C)=true/\OwnCls K C
theorem Iw {C:Addr}(h:plainGet K C ""=true):findIn K (.ref C) "__getattribute__"=some (some (.builtin "object.__getattribute__"))/\findIn K (.ref C) "__getattr__"=some none:=
 have h:=h
 ⟨eq_of_beq<|b1 h,eq_of_beq<|b2 h⟩
theorem Ix (hO:hV t.O t.n)(hT:D7)(hb:j1 o=true)(hlen:l.length<30)(BN:(apos.endLine==pos.line)=true)(ho:cr t o x)(hl:dy t l xs):cr t (.Call (.Attribute o nm apos) l [] pos) (.bG x nm xs):=λf q Q E ht P=>
 wR hb hlen BN hl (ho f q _ E ht (P.bind λam M bV aO=>aO.fq λfn hm aO=>jd hm λaay e1 hm=>by
  refine cN (Ak e1) λe0 hk=>Qc hm λhd hm=>qr (hT _ _ _ hm) λh1 h2 h3=>uC bV e0 λxa ad od kvs bV J We ck M M R=>?_;have hn:valueAt kvs nm=none:=by
   refine aY (R.at hk) (λQi=>?_) λQj=>?_
   ·exact cN Qi λ_ n=>n
   ·refine gm Qj λv' u g1 _=>?_;exact absurd (by rw[g1];rfl) hd
  have pg:=Iw (ck.get "");have hsh:shadowIn (some od) nm=some false:=by
   refine cZ (rE We nm) λes kk dZ tB M=>?_;subst dZ;rw[hn] at tB;show(getL nm es).map (·.isSome)=some false;rw[tB];rfl
  exact method_fn am.sx J pg.1 pg.2 h1 h2 hsh<|km hl h3<|hl.CA f am pos _ E ht<|aO.bind λbw bK iA dw=>⟨bw.sx,hO.here (bH Lv.n ht) (.cons (bK.wH bV) iA) dw⟩))
end
section
variable {t:Lv} {f:Fz} {q:St f} {Q E:du} {l:List Expr} {xs:List X} {pos fp:Pos} {nm:Str}
theorem m3:Obj.IsDictOf (PySem.strKind prog w) emptyDict []:=by
 refine aI (Heap.dictOf_iff.mp<|Heap.DictOf.new (knd:=PySem.strKind prog w) (default:Heap)) λo h1 h2=>?_;rw[Heap.get?_push_size _ rfl] at h1;rw[(aT h1:emptyDict=o)];exact h2
theorem St.Iy (q:St f){o:Obj}{ce:Cell}{tk:Nat}(hf:o.isFreed=false)(hc:cR (q.ρ++[q.h.objs.size]) ((q.h.objs.size,o)::q.Z) ce o):mV [] q (q.push o ce tk hf hc):=⟨.push q.rep q.cS,.refl⟩
theorem MD (hO:hV t.O t.n)(hT:D8){C:Nat}(hn:iI t.ns nm=true)(hf:nsIn K mainGlobals nm=some (some<|.ref C))(hl:dy t l xs):cr t (.Call (.Name nm fp) l [] pos) (.new C xs):=λf q Q E ht P=>by
 refine aE.fq P λfi e P=>Xi (hT C fi e) λh1 h2 h3 h4 ck=>wpAny_Call_ofName<|oi (ht▸hn) hf<|km hl h4<|hl.CA f q pos _ E ht<|P.bind λ{vs us} am M bV aO=>⟨am.sx,wpAny_call ?_⟩
 have hc1:cR (am.ρ++[am.h.objs.size]) ((am.h.objs.size,emptyDict)::am.Z) (.dict []) emptyDict:=⟨[],m3,.nil⟩;let bw:=am.push emptyDict (.dict []) am.tk rfl hc1;have hc2:cR (bw.ρ++[bw.h.objs.size]) ((bw.h.objs.size,instObj C am.h.objs.size)::bw.Z) (.inst C am.Y.length) (instObj C am.h.objs.size):=⟨_,by
  show((am.ρ++[am.h.objs.size])++[bw.h.objs.size])[am.Y.length]?= _;rw[<-am.rep.len,bQ,j9<|a9 _,nU];rfl,rfl,ck⟩
 let d5:=bw.push (instObj C am.h.objs.size) (.inst C am.Y.length) am.tk rfl hc2;have a:mV [] am d5:=(am.Iy rfl hc1).trans rfl<|bw.Iy rfl hc2
 have er:d5.Y=am.Y++[Cell.dict [],Cell.inst C am.Y.length]:=bQ _ _ _;have es:bw.h.objs.size=am.h.objs.size+1:=Heap.size_push ..;have Pj:d5.iv (.ref (am.h.objs.size+1)) (.ref (am.Y.length+1)):=.ref (by
  show((am.ρ++[am.h.objs.size])++[bw.h.objs.size])[am.Y.length+1]?= _;rw[<-am.rep.len,bQ,j9<|kN _,Nat.succ_sub<|a9 _,nU,es];rfl)
 have dw:=aE.shift a aO;rw[<-er] at dw;refine make_core (makes_of am.sx h3) (looks_findIn am.sx h1) (λself=>bind_fn am.sx self h2) (.inl rfl) ?_;have go:=hO fi f d5 (f.A.under (.builtin "type.__call__" ⟨.ref C::us,[]⟩)) (λu s'=>u=.none/\Q (.ref (am.h.objs.size+1)) s') E (.ref (am.h.objs.size+1)::us) (.ref (am.Y.length+1)::vs) (bH Lv.n ht) rfl rfl (a9 _) (show f.A.units+1<=f.A.units+16 from Nat.add_le_add_left (by decide) _) (.cons Pj (a.Yj bV)) (dw.bind λ{v u} Au jR Yr FN=>by
  cases v with
  |none=>exact⟨Yr.wF,FN.here<|jR.wH Pj⟩
  |_=>exact FN.elim)
 refine codeAny_mono go λr s' hr=>?_;cases r with
 |ok fl=>
  cases fl with
  |ret u=>exact hr
  |_=>exact hr.elim
 |error e=>exact hr
theorem FO (hs:dy t l xs):∀(ks:cY) (keys:List (Option Expr)) (f:Fz) (q:St f) (pos:Pos) (Q:List (Value × Value)->Shared->Prop) (E:du),
  keysOk ks keys=true->ks.length=l.length->f.t=t->aE cf q (nN t.O xs f.N q.Y) (λus s'=>∀ps,Carries (PySem.strKind prog w) ps (ks.zip us)->∀eS,Q ps {s' with toks:=eS}) E->wpAny Mo f.A (evalPairs<|pairTrees keys l f.env pos) Q E q.s:=by
 induction hs with
 |nil=>
  intro ks keys f q pos Q E hk hl ht P;obtain rfl:ks=[]:=qm hl;rw[isNil hk];exact aW<|aE.here P .nil [] trivial q.tk
 |@cons e x r xs he hx ht hr ih=>
  intro ks keys f q pos Q E hk hl e0 P;cases ks with
  |nil=>exact nomatch hl
  |cons s ks'=>
  cases keys with
  |nil=>exact nomatch hk
  |cons k0 keys'=>
   refine cN (su hk) λHJ mm=>?_;refine kf HJ λj p dZ=>?_;subst dZ;show wpAny Mo f.A (do
    let kv<-eval (.Constant (.str s) j p) f.env;let vv<-holding [kv] (do let x<-eval e f.env;standAt pos;pure x)
    return (kv,vv)::(<-holding [kv,vv] (evalPairs<|pairTrees keys' r f.env pos))) Q E q.s
   refine av<|wpAny_Constant_str<|av<|dF<|av<|hx f (q.grow (λM M h=>h) (q.tk+1)) _ E e0<|aE.bind (P.grow (λM M h=>h) (q.tk+1)) λ{v u} am M bV aO=>av<|f8<|aW ?_
   refine av<|dF<|cC (ih ks' keys' f am pos (λps s'=>Q ((.str s q.tk,u)::ps) s') E mm (jH hl) e0<|aO.bind λbw bK iA dw ps On eS=>?_) (λps s' hq=>aW hq) λM M x=>x
   exact dw.here (.cons (bK.wH bV) iA) ((.str s q.tk,u)::ps) ⟨strKind_is _ _ _ _,rfl,On⟩ eS
theorem Av {kvs:List (Str × Value)}:∀{acc:List (Str × Value)},((acc++kvs).map (·.1)).Nodup->merged acc kvs=acc++kvs:=by
 induction kvs with
 |nil=>exact λM=>(gp _).symm
 |cons kv r ih=>
  intro acc h;have e:stored acc kv.1 kv.2=acc++[kv]:=by
   unfold stored;rw[if_neg];intro hq;refine aI (List.any_eq_true.mp hq) λp hp hk=>?_;rw[jc,r9] at h;exact h.2.2 p.1 (cB hp) kv.1 (.head _)<|lE hk
  have h':((acc++[kv]++r).map (·.1)).Nodup:=by rw[bQ];exact h
  show merged (stored acc kv.1 kv.2) r= _;rw[e,ih h',bQ];rfl
theorem ME {ρ:List Addr}{Z:Led}{vs:aG}:∀{us:List Value} (ks:cY),cf ρ Z us vs->jW ρ Z (ks.zip us) (ks.zip vs):=by
 induction vs with
 |nil=>intro us ks i;rw[i.jO,List.zip_nil_right,List.zip_nil_right];exact .nil
 |cons v r ih=>
  intro us ks i;cases ks with
  |nil=>exact .nil
  |cons k ks=>exact i.ej λi t=>.cons i<|ih ks t
theorem MF (ks:cY):∀(us:List Value),((ks.zip us).map (·.1)).Sublist ks:=by
 induction ks with
 |nil=>exact λM=>List.Sublist.slnil
 |cons k ks ih=>
  intro us;cases us with
  |nil=>exact List.nil_sublist _
  |cons u us=>exact List.Sublist.cons_cons k<|ih us
theorem Iz:∀{ks:cY} {keys:List (Option Expr)},keysOk ks keys=true->keys.all (·.isSome)=true/\keys.length=ks.length:=by
 intro ks
 induction ks with
 |nil=>intro keys h;rw[isNil h];exact⟨rfl,rfl⟩
 |cons s r ih=>
  intro keys h;cases keys with
  |nil=>exact nomatch h
  |cons e t=>
   refine cN (su h) λYh q=>?_;refine kf Yh λj p mu=>?_;subst mu;exact cN (ih q) λa b=>⟨a,bH (· +1) b⟩
theorem aE.IA {α β γ δ:Type}{R:Rl α β}{R':Rl δ γ}{am:St f}{r:Res γ}{g:γ->af->Res β}{Q:α->Shared->Prop}{Q':δ->Shared->Prop}(a:mV [] q am)(x:aE R q (r.bind g) Q E)(k:∀{v u} (bw:St f),mV [] am bw->R' bw.ρ bw.Z u v->aE R q (g v bw.Y) Q E->Q' u bw.s):aE R' am r Q' E:=by
 cases r with
 |ok v Y'=>exact λu am a e i=>k am a i (e▸x)
 |exc C Y'=>exact Flew.on x a.ext a.turn
 |stuck=>exact x
theorem pY {o:Obj}(h:∃es ep,o.data=.dict es ep):(o.cls=.type "tuple"->∀vs n,o.data≠.seq vs n)/\Co o:=by
 exact kf h λes ep h=>⟨λM M M e=>Data.noConfusion<|h.symm.trans e,n9 λM e=>Data.noConfusion<|h.symm.trans e⟩
theorem MG {keys:List (Option Expr)}{ks:cY}(hk:keysOk ks keys=true)(hl:ks.length=l.length)(h15:ks.length<=15)(tr:ks.Nodup)(hs:dy t l xs):cr t (.Dict keys l pos) (.dct ks xs):=λf q Q E ht P=>by
 have P:=P;refine cN (Iz hk) λSc WS=>?_;by_cases h0:keys=[]
 ·rw[h0] at WS⊢;obtain rfl:ks=[]:=qm WS.symm;obtain rfl:l=[]:=qm hl.symm;cases hs;exact wpAny_Dict_empty<|aE.alloc q.tk rfl P ⟨[],m3,.nil⟩
 ·let am:=q.hide emptyDict rfl q.tk;refine wpAny_Dict_walk (knd:=PySem.strKind prog w) Sc (by rw[WS];exact hl) h0 (by rw[WS];exact h15)<|FO hs ks keys f am _ _ E hk hl ht ?_
  have hd:=q.rep.mv q.cS;refine P.IA (q.hidden emptyDict rfl q.tk:mV [] q am) λ{vs us} bw bK iA dw ps On eS=>?_;have hm:=bK.ext.keep _ (.head _) hd dj λt=>nomatch qB t;have OO:=bK.ext.old (.head _) hd;refine lA (ks.zip us) On (Heap.dictOf_iff.mpr ⟨_,(bw.news _ hm).1,m3⟩) λh' zs BM=>?_;refine aI (Heap.dictOf_iff.mp zs) λo' DM ZR=>?_;rw[show merged [] (ks.zip us)=ks.zip us from Av ((MF ks us).nodup tr)] at ZR;have pl:=pY (o:=emptyDict) ⟨_,_,rfl⟩;have ZS:=pY (by obtain⟨es,ep,_,e2,_⟩:=ZR;exact⟨es,ep,e2⟩);have MH:=bw.rep.swap (o':=o') hm OO pl.1 pl.2;have gr:∀v x,bF bw.ρ (gw bw.Z q.h.objs.size o') v x->bF (bw.ρ++[q.h.objs.size]) (gw bw.Z q.h.objs.size o') v x:=λv x i=>i.grow MH.ndZ (gz hm) q.rz ZS.1 ZS.2;have Ys:=MH.adopt (gz hm) ZS.2 OO q.rz q.yh gr (ce:=.dict<|ks.zip vs) ⟨_,ZR,ME ks<|(iA.ext Ext.swap (gy bw.rep.ndZ hm pl.1 pl.2) bw.rep.apart:cf bw.ρ (gw bw.Z q.h.objs.size o') us vs).mono gr⟩;have ex:=((bK.ext.P3 q.cS).yg (o':=o') q.cS).adopt q.cS;exact dw (.ref q.h.objs.size) (q.to _ (bw.fr.change BM (bw.news _ hm).2.1 (bw.news _ hm).2.2) (jP bw.news hm DM BM) Ys ex bK.turn) ⟨ex,bK.turn⟩ rfl<|ux bw.rep
end
section
inductive G4
 |list (l:Addr)
 |U (t:Addr)
 |rng (a b:Int)
def om (kd:G4)(k:Nat)(o:Obj):Prop:=match kd with
 | .list l=>o.cls=.type "list_iterator"/\o.data=.fields #[.ref l,.int k 0]
 | .U t=>o.cls=.type "tuple_iterator"/\o.data=.fields #[.ref t,.int k 0]
 | .rng a b=>o={cls:=.type "range_iterator",dict:=none,data:=.fields #[rawInt (a+k),rawInt (((b - a).toNat:Int) - k),rawInt 1],slots:=#[]}
def lH (ρ:List Addr)(Z:Led)(kd:G4)(src:V):Prop:=match kd with
 | .list l=>bF ρ Z (.ref l) src/\∀Y,cG Y src=jk.listOf Y src
 | .U t=>bF ρ Z (.ref t) src/\∃l',src=.U l'
 | .rng a b=>src=.rng a b/\-10000<=a/\a<=10000/\-10000<=b/\b<=10000
structure Iter (n:String)(o:Obj):Prop where
 cls:o.cls=.type n
 nm:n="list_iterator"∨n="tuple_iterator"∨n="range_iterator"
 data:∃vs,o.data=.fields vs/\∀(q:Str) t,vs[1]?≠some (.str q t)
theorem om.iter {kd:G4}{k:Nat}{o:Obj}(h:om kd k o):∃n,Iter n o:=by
 cases kd with
 |list l=>exact⟨_,h.1,.inl rfl,_,h.2,λM M e=>Value.noConfusion<|aT e⟩
 |U t=>exact⟨_,h.1,.inr<|.inl rfl,_,h.2,λM M e=>Value.noConfusion<|aT e⟩
 |rng a b=>
  have h:=h;exact⟨"range_iterator",by rw[h],.inr (.inr rfl),_,by rw[h],λM M e=>Value.noConfusion (aT e)⟩
theorem om.fields {kd:G4}{k:Nat}{o:Obj}(h:om kd k o):∃vs,o.data=.fields vs:=let ⟨_,i⟩:=h.iter;let ⟨vs,e,_⟩:=i.data;⟨vs,e⟩
theorem om.plain {kd:G4}{k:Nat}{o:Obj}(h:om kd k o):(o.cls=.type "tuple"->∀vs n,o.data≠.seq vs n)/\Co o:=by
 refine aM h.iter λn i=>aI i.data λvs e h1=>⟨λM M M e'=>Data.noConfusion<|e.symm.trans e',λM M M M M e'=>?_,λt=>?_,λq ⟨E4,t,e1,e2⟩=>?_⟩
 ·have c:=i.cls.symm.trans (by rw[e']);have c:=Value.type.inj c;rcases i.nm with h | h | h<;>rw[h] at c<;>exact absurd c (by decide)
 ·exact Value.noConfusion<|i.cls.symm.trans<|qB t
 ·exact h1 q t<|(Data.fields.inj<|e.symm.trans e1)▸e2
theorem om.mx {kd:G4}{k:Nat}{o:Obj}(h:om kd k o):o.isFreed=false:=let ⟨_,hf⟩:=h.fields;Obj.isFreed_of_fields hf
variable {ρ bR:List Addr} {Z Z':Led} {f:Fz} {q:St f} {E:du} {u:Value} {src v:V} {kd:G4} {k:Nat} {aay:Addr} {o:Obj} {all:aG}
theorem lH.mono (g:∀v x,bF ρ Z v x->bF bR Z' v x)(h:lH ρ Z kd src):lH bR Z' kd src:=by
 cases kd with
 |list l=>exact⟨g _ _ h.1,h.2⟩
 |U t=>exact⟨g _ _ h.1,h.2⟩
 |rng a b=>exact h
theorem Aw {a b:Int}:Builtin.Range.rangeSize a b 1=((b - a).toNat:Int):=by
 show(if a<b then (b - a - 1) / 1+1 else 0)= _;by_cases h:a<b
 ·rw[if_pos h,Int.ediv_one,Int.sub_add_cancel,Int.toNat_of_nonneg<|Int.sub_nonneg_of_le<|Int.le_of_lt h]
 ·rw[if_neg h,Int.toNat_of_nonpos<|Int.sub_nonpos_of_le<|Int.not_lt.mp h];rfl
theorem fits {x:Int}(h1:-20000<=x)(h2:x<=20000):Builtin.Range.rangeFitsLong x=true:=
 fO.mpr ⟨dP (Int.le_trans (by decide) h1),dP<|Int.lt_of_le_of_lt h2<|by decide⟩
theorem FP {a b:Int}(hb:-10000<=a/\a<=10000/\-10000<=b/\b<=10000):Builtin.Range.small a b 1=true:=by
 have two:∀{x:Int},-10000<=x->x<=10000->Builtin.Range.rangeFitsLong x=true:=λh1 h2=>fits (Int.le_trans (by decide) h1)<|Int.le_trans h2<|by decide
 have hl:Builtin.Range.rangeFitsLong (Builtin.Range.rangeSize a b 1)=true:=by
  rw[Aw];exact fits (Int.le_trans (by decide)<|Int.natCast_nonneg _)<|Int.ofNat_le.mpr<|Int.toNat_le.mpr<|Int.sub_le_sub hb.2.2.2 hb.1
 show((((_&&_)&&_)&&_)&&(_||Builtin.Range.rangeFitsLong (b+(1 - 1))))=true;rw[two hb.1 hb.2.1,two hb.2.2.1 hb.2.2.2,hl,show b+(1 - 1)=b from Int.add_zero b,two hb.2.2.1 hb.2.2.2,Bool.or_true];decide
theorem pZ {Q:du}(iu:q.iv u src)(e:cG q.Y src=some all)(h:∀kd o,om kd 0 o->lH q.ρ q.Z kd src->Q (.ref q.h.objs.size) {q.s with heap:=q.h.push o}):wpAny Mo f.A (pyIter u) Q E q.s:=by
 cases src with
 |U l=>exact fG iu λt vs ht M iu=>wpAny_pyIter_tuple ht<|h (.U _) _ ⟨rfl,rfl⟩ ⟨iu,_,rfl⟩
 |gl l=>
  refine hU iu e (λt vs ht M iu=>wpAny_pyIter_list ht<|h (.list _) _ ⟨rfl,rfl⟩ ⟨iu,λM=>rfl⟩) iu
 |ref i=>
  refine hU iu e (λt vs ht M iu=>wpAny_pyIter_list ht<|h (.list _) _ ⟨rfl,rfl⟩ ⟨iu,λM=>rfl⟩) iu
 |rng a b=>
  refine Cx e λhb M=>iu.Ug λhm hn=>wpAny_pyIter_range (q.news _ hm).1 (FP hb) ?_;rw[Aw];exact h (.rng a b) _ (by show _= _;rw[show a+((0:Nat):Int)=a from Int.add_zero a,show((b - a).toNat:Int) - ((0:Nat):Int)=((b - a).toNat:Int) from Int.sub_zero _]) ⟨rfl,hb⟩
 |_=>exact fB e
theorem wS {α β:Type}{l:List α}{m:List β}{k:Nat}(h:l.length=m.length)(e:m[k]?=none):l[k]?=none:=zw.mpr<|h▸zw.mp e
theorem wT {Q:Option Value->Shared->Prop}(iu:lH q.ρ q.Z kd src)(e:cG q.Y src=some all)(ho:q.h.get? aay=some o)(hk:om kd k o)
  (Lg:∀v,all[k]?=some v->∀x h' o' eS,h'.get? aay=some o'->om kd (k+1) o'->Heap.SameBut aay q.h h'->q.iv x v->Q (some x) {q.s with heap:=h',toks:=eS})
  (none_:all[k]?=none->∀h',Heap.ExtBut aay q.h h'->Q none {q.s with heap:=h'}):wpAny Mo f.A (pyNext<|.ref aay) Q E q.s:=by
 cases kd with
 |list l=>
  rw[iu.2 q.Y] at e;have hit:q.h.IsListIter aay l k:=⟨o,ho,hk.1,hk.2⟩;refine hU (C:=λu=>u=.ref l->wpAny Mo f.A (pyNext<|.ref aay) Q E q.s) iu.1 e (λt vs ht hi et=>?_) rfl;rw[Value.ref.inj et] at ht;cases e1:all[k]? with
  |some v=>
   refine aI (oj hi e1) λx hx ix=>?_;refine wpAny_pyNext_list_item hit ht (by rw[wA];exact hx) λh' Lh hs=>?_;exact jI Lh λo' DM h1 h2=>Lg v e1 x h' o' q.tk DM ⟨h1,h2⟩ hs ix
  |none=>exact wpAny_pyNext_list_end q.ok.hh hit ht (by rw[wA];exact wS (bc hi) e1) λh' hx=>none_ e1 h' hx
 |U t=>
  refine BY iu λi1 l' el=>?_;rw[el] at i1 e;rw[aT e] at i1;have hit:q.h.IsTupleIter aay t k:=⟨o,ho,hk.1,hk.2⟩;refine fG (C:=λu=>u=.ref t->wpAny Mo f.A (pyNext<|.ref aay) Q E q.s) i1 (λt' vs ht hi M et=>?_) rfl;rw[Value.ref.inj et] at ht;cases e1:all[k]? with
  |some v=>
   refine aI (oj hi e1) λx hx ix=>?_;refine wpAny_pyNext_tuple_item hit ht (by rw[wA];exact hx) λh' Lh hs=>?_;exact jI Lh λo' DM g1 g2=>Lg v e1 x h' o' q.tk DM ⟨g1,g2⟩ hs ix
  |none=>exact wpAny_pyNext_tuple_end q.ok.hh hit ht (by rw[wA];exact wS (bc hi) e1) λh' hx=>none_ e1 h' hx
 |rng a b=>
  refine cN iu λes hb=>?_;rw[es] at e;refine Cx e λM e=>?_;have e:=aT e;have hit:IsRangeIter q.h aay (a+k) (((b - a).toNat:Int) - k) 1:=by rw[IsRangeIter,ho];exact bH some hk
  by_cases mM:k<(b - a).toNat
  ·refine wpAny_pyNext_range_item hit (Int.sub_pos_of_lt<|Int.ofNat_lt.mpr mM) λh' Lh hs=>Lg (.int (a+k)) ?_ _ h' _ _ Lh ?_ hs<|.int _ _
   ·rw[<-e,fP,t9 mM];rfl
   ·show _= _;rw[show((k+1:Nat):Int)=(k:Int)+1 from rfl,<-Int.add_assoc,<-Int.sub_sub]
  ·exact wpAny_pyNext_range_end q.ok.hh hit (Int.sub_nonpos_of_le<|Int.ofNat_le.mpr<|Nat.not_lt.mp mM) λh' hx=>none_ (by rw[<-e,zw,cu,List.length_range];exact Nat.not_lt.mp mM) h' hx
theorem Ut (t:Expr)(it v:Value):letOwnedTupleGo t it v=letOwnedTupleGo (.Tuple [] 0 default) it v∨letOwnedTupleGo t it v=pure ():=by
 cases t with
 |Tuple=>exact .inl rfl
 |List=>exact .inl rfl
 |_=>exact .inr rfl
theorem IB {t:Expr}{v:Value}{s:Shared}{Q:zA}(ho:s.heap.get? aay=some o)(hk:om kd k o)(hq:Q () s):wpAny Mo f.A (letOwnedTupleGo t (.ref aay) v) Q E s:=by
 refine aM hk.iter λnn i=>?_;rcases Ut t (.ref aay) v with e | e<;>rw[e]
 ·cases v with
  |ref a=>
   refine av<|wpAny_load ho ?_
   refine aI i.data λvs hd M=>?_;rw[i.cls,hd];dsimp only;rw[if_neg (by
    rcases i.nm with rfl | rfl | rfl<;>simp)]
   exact aW hq
  |_=>exact aW hq
 ·exact aW hq
end
section
section
variable {A:Around} {E:du} {s:Shared}
theorem FQ {it t:Addr}{items:Array Value}(dS:t≠it):∀(n i:Nat) (s:Shared) (Q:List Value->Shared->Prop),s.heap.IsListIter it t i->s.heap.IsList t items->i+n<=items.size->
  (∀h',h'.IsListIter it t (i+n)->Heap.SameBut it s.heap h'->Q ((items.toList.drop i).take n) {s with heap:=h'})->wpAny Mo A (draw (.ref it) n) Q E s:=by
 intro n
 induction n with
 |zero=>exact λi s Q hit M M hQ=>aW<|hQ s.heap hit<|Heap.SameBut.refl ..
 |succ n ih=>
  intro i s Q hit ht hle hQ;have mM:=eB (Nat.lt_add_of_pos_right<|Nat.succ_pos n) hle;have e1:i+(n+1)=i+1+n:=by rw[Nat.add_assoc,Nat.add_comm 1 n]
  rw[e1] at hQ hle;refine av<|wpAny_pyNext_list_item hit ht (x:=items[i]) (Array.getElem?_eq_getElem mM) λbx CG oo=>?_
  refine av<|dF<|ih (i+1) _ _ CG (ht.extBut oo.extBut dS) hle λeo Ql Uu=>aW ?_
  have hd:=List.drop_eq_getElem_cons (by rw[qo];exact mM);have:=hQ eo Ql<|oo.trans Uu
  rw[hd,List.take_succ_cons] at this;exact this
theorem rH {t:Addr}{items:Array Value}{Q:List Value->Shared->Prop}(hh:A.handled=none)(ht:s.heap.IsList t items)
  (hQ:∀h',Heap.ExtBut s.heap.objs.size s.heap h'->Q items.toList {s with heap:=h'}):wpAny Mo A (unpackItems (.ref t) items.size none) Q E s:=by
 have mM:t≠s.heap.objs.size:=by obtain⟨o,ho,_⟩:=ht;exact ka<|gq ho
 refine av ?_
 ·unfold notIterableAtAll;refine av<|wpAny_specialOf ht.typeIs slot_list_iter.lookup ?_
  refine aW ?_;simp only[Bool.false_eq_true,if_false];refine av<|dF<|wpAny_pyIter_list ht ?_
  refine av<|dF<|FQ mM items.size 0 _ _ ⟨_,Heap.get?_push_size _ rfl,rfl,rfl⟩ (ht.push _) (by omega) λbx CG oo=>?_
  have Sc:List.take items.size (List.drop 0 items.toList)=items.toList:=by
   rw[List.drop_zero];exact List.take_of_length_le (by simp)
  rw[Sc];rw[if_neg<|by simp];have Uv:=(ht.push _).extBut oo.extBut mM;refine av<|dF<|wpAny_pyNext_list_end hh CG Uv (by simp) λeo ON=>?_
  simp only[Option.isSome_none,Bool.false_eq_true,if_false];refine aW<|hQ eo λb o hb e=>ON b o hb<|oo.extBut b o hb<|kG _ e
end
variable {ρ:List Addr} {Z:Led} {f:Fz} {q:St f} {E:du} {u:Value} {v x:V} {C:Addr} {o:Obj} {m₂:ly} {L:Addr} {m:ly} {env:Env} {d:Addr} {i:Nat} {nm:Str}
theorem uG {kl:Bool × aG}{Q:List Value->Shared->Prop}(iu:q.iv u x)(e:jY q.Y x=some kl)(h:∀us h',(∀b o,q.h.get? b=some o->h'.get? b=some o)->q.oY us kl.2->us.length=kl.2.length->Q us {q.s with heap:=h'}):wpAny Mo f.A (unpackItems u kl.2.length none) Q E q.s:=by
 refine tI iu e λt vs h1 h2 h3=>?_;have hlen:=bc h3;have up:∀h',Heap.ExtBut q.h.objs.size q.h h'->∀b o,q.h.get? b=some o->h'.get? b=some o:=λh' he b o e=>he b o (ka<|gq e) e;rw[show kl.2.length=vs.toArray.size by rw[List.size_toArray,hlen]];cases hk:kl.1 with
 |true=>exact unpackItems_tuple q.ok.hh (h1 hk) λh' he=>h _ h' (up h' he) h3 hlen
 |false=>exact rH q.ok.hh (h2 hk) λh' he=>h _ h' (up h' he) h3 hlen
theorem IC {o:Obj}{m₁ m₂:ly}(h1:LCg.NsObj o m₁)(h2:LCg.NsObj o m₂)(x:Str):m₁ x=m₂ x:=by
 refine cZ h1 λes ep e1 M f1=>?_;refine cZ h2 λes' ep' e2 M f2=>?_;refine cN (Data.dict.inj<|e1.symm.trans e2) λdZ M=>?_;subst dZ;exact(f1 x).symm.trans (f2 x)
theorem fC (h:LCg.NsObj o m₂):(o.cls=.type "tuple"->∀vs n,o.data≠.seq vs n)/\Co o:=by
 refine gm h λes ep e1 M=>?_;exact pY ⟨es,ep,e1⟩
theorem kZ {v:Option Value}(h:o.data=.cell v):(o.cls=.type "tuple"->∀vs n,o.data≠.seq vs n)/\Co o:=⟨λM M M e=>Data.noConfusion (h.symm.trans e),n9 λM e=>Data.noConfusion (h.symm.trans e)⟩
structure SE (C:Addr)(ρ:List Addr)(Z:Led)(o:Obj)(m₂:ly):Prop where
 mem:(C,o)∈Z
 off:C∉ρ
 ns:LCg.NsObj o m₂
theorem Look.turn {Z':Led}(hk:∀z oz,(z,oz)∈Z->z≠d->(z,oz)∈Z')(hn:(Z.map (·.1)).Nodup)(hm:(d,o)∈Z)(hc:∀vs,o.data≠.cell vs)(hd:∀es ep,o.data≠.dict es ep)(h:Look L m ρ Z env nm u):Look L m ρ Z' env nm u:=by
 cases h with
 |here a b c=>exact .here a b c
 |kW kU m₁ mm g1 g2 g3 g4=>
  refine .kW kU m₁ mm (hk _ _ g1 λe=>?_) g2 g3 g4;refine gm g3 λes ep e1 M=>?_;have e0:=gJ hn (by rw[<-e];exact g1) hm;rw[e0] at e1;exact hd _ _ e1
 |cell a kU mm g1 g2 g3 g4=>
  refine .cell a kU mm g1 (hk _ _ g2 λe=>?_) g3 g4;have e0:=gJ hn (by rw[<-e];exact g2) hm;rw[e0] at g4;exact hc _ g4
theorem hY {d:Addr}{o':Obj}:∀z oz,(z,oz)∈Z->z≠d->(z,oz)∈gw Z d o':=λM M hp hn=>bT.mpr ⟨_,hp,if_neg hn⟩
theorem Qm {ns:Ns}{i j:Nat}{x:Str}{k k':NameKind}(hn:(ns.map (·.1)).Nodup)(h1:ns[i]?=some (x,k))(h2:ns[j]?=some (x,k')):i=j:=by
 have e1:(ns.map (·.1))[i]?=some x:=by rw[fP,h1];rfl
 have e2:(ns.map (·.1))[j]?=some x:=by rw[fP,h2];rfl
 exact(ub (bM.mp e1).1 hn).mp (e1.trans e2.symm)
theorem gf.set {bR:List Addr}{Z':Led}{m':ly}{k:NameKind}(hn:(f.t.ns.map (·.1)).Nodup)(hi:f.t.ns[i]?=some (nm,k))(lo:gf f ρ Z)(iu:bF bR Z' u v)(g:∀v x,bF ρ Z v x->bF bR Z' v x)(new:Look f.L m' bR Z' f.env nm u)(old:∀x u,x≠nm->Look f.L f.m ρ Z f.env x u->Look f.L m' bR Z' f.env x u):gf (f.to m'<|f.N.set i<|some v) bR Z':=λj x k' v' hj hl=>by
 have hj:=hj;have hl:=hl;by_cases E3:i=j
 ·rw[<-E3] at hj hl;have mM:i<f.N.length:=by have:=(bM.mp hl).1;rwa [qp] at this
  rw[tZ mM] at hl;have ev:=aT<|aT hl
  have ex:nm=x:=bH Prod.fst<|aT<|hi.symm.trans hj
  exact bD u (ev▸iu) (ex▸new)
 ·rw[eA E3] at hl;refine aI (lo j x k' v' hj hl) λu' Wf lk=>?_;exact bD u' (g _ _ Wf)<|old x u' (λe=>E3<|Qm hn hi (e▸hj)) lk
noncomputable def St.set (q:St f){Z':Led}{h':Heap}{m':ly}{loc':Loc}(tk:Nat)(F:Fr q.b f.L h' m')(aax:News q.b f.L h' Z')(R:Rep q.ρ Z' q.Y)(lo:gf (f.to m' loc') q.ρ Z'):St (f.to m' loc') where
 b:=q.b
 h:=h'
 ρ:=q.ρ
 Z:=Z'
 Y:=q.Y
 tk:=tk
 ok:=q.ok
 below:=q.below
 dicts:=q.dicts
 fr:=F
 news:=aax
 rep:=R
 lo:=lo
structure LB (C:Addr){f:Fz}(q:St f){loc':Loc}(q':St (f.to f.m loc')):Prop where
 ρ:q'.ρ=q.ρ
 Y:q'.Y=q.Y
 b:q'.b=q.b
 kW:∃o m₂,SE C q'.ρ q'.Z o m₂
 mono:∀v x,q.iv v x->q'.iv v x
 keep:∀z o,(z,o)∈q.Z->z≠C->(z,o)∈q'.Z
 adr:q'.Z.map (·.1)=q.Z.map (·.1)
theorem FS {Q:zA}(B:SE C q.ρ q.Z o m₂)(hC:f.env.locals=C)(hn:(f.t.ns.map (·.1)).Nodup)(hi:f.t.ns[i]?=some (nm,.local))(iu:q.iv u v)(h:∀q':St (f.to f.m<|f.N.set i<|some v),LB C q q'->Q () q'.s):wpAny Mo f.A (bindName f.env nm u) Q E q.s:=by
 subst hC;have hk:=q.ok.local' nm<|fN hi
 refine wpAny_bindName<|wpAny_storeName_local hk (B.ns.ns (q.news _ B.mem).1) (λh' BJ hs=>?_) (by rw[q.ok.kind];rfl)
 refine aI (LCg.ns_obj BJ) λo' DM Sd=>?_;have pl:=fC B.ns;have g:∀v x,q.iv v x->bF q.ρ (gw q.Z f.env.locals o') v x:=λv x i=>i.ext Ext.swap (gy q.rep.ndZ B.mem pl.1 pl.2) q.rep.apart;have L':=gf.set (m':=f.m) hn hi q.lo (g _ _ iu) g (.kW o' _ hk (gz B.mem) B.off Sd<|if_pos rfl) λx u' dS lk=>by
  cases lk with
  |here _ hl _=>exact absurd hl (q.news _ B.mem).2.1
  |kW kU m₁ mm g1 g2 g3 g4=>
   have e0:=gJ q.rep.ndZ g1 B.mem;rw[e0] at g3;exact .kW o' _ mm (gz B.mem) g2 Sd (by rw[if_neg dS,<-IC g3 B.ns x];exact g4)
  |cell a kU mm g1 g2 g3 g4=>
   refine .cell a kU mm g1 (hY _ _ g2 λe=>?_) g3 g4;have e0:=gJ q.rep.ndZ (by rw[<-e];exact g2) B.mem;rw[e0] at g4;refine gm B.ns λes ep e1 M=>?_;exact Data.noConfusion<|g4.symm.trans e1
 have F':=q.fr.change hs (q.news _ B.mem).2.1 (q.news _ B.mem).2.2;have N':=jP q.news B.mem DM hs;have R':=q.rep.swap (o':=o') B.mem B.off pl.1 pl.2;exact h (q.set _ F' N' R' L') ⟨rfl,rfl,rfl,⟨_,_,gz B.mem,B.off,Sd⟩,g,hY,iJ _ _ _⟩
end
section
variable {f:Fz} {q:St f} {E:du} {u:Value} {v:V} {C:Addr} {o:Obj} {m₂:ly} {env:Env} {N loc' vO:Loc} {Y:af} {ns:Ns} {Q:zA}
theorem Ax {nm:Str}{p:Pos}{i:Nat}(hi:lX f.t.ns (.Name nm p)=some i)(B:SE C q.ρ q.Z o m₂)(hC:f.env.locals=C)(hn:(f.t.ns.map (·.1)).Nodup)(iu:q.iv u v)(h:∀q':St (f.to f.m<|f.N.set i<|some v),LB C q q'->Q () q'.s):wpAny Mo f.A (assign (.Name nm p) f.env u) Q E q.s:=by
 refine cZ (oW hi) λM M he hj LH=>?_;refine cN (Expr.Name.inj he) λdZ mu=>?_;subst dZ;subst mu;refine BY (mW hj) λ_ k hk=>?_;rw[arm_assign_Name];exact av<|f8<|FS B hC hn (mw hk LH▸hk) iu h
theorem LB.trans {am:St (f.to f.m loc')}{bw:St ((f.to f.m loc').to f.m vO)}(x:LB C q am)(y:LB C am bw):LB C q (f:=f) bw:=
 ⟨y.ρ.trans x.ρ,y.Y.trans x.Y,y.b.trans x.b,y.kW,λv z i=>y.mono v z<|x.mono v z i,λz o hp hn=>y.keep z o (x.keep z o hp hn) hn,y.adr.trans x.adr⟩
theorem nA {e:Expr}{r:List Expr}(h:(lX ns e).isSome=true):assignEach (e::r) env=(false,assign e env)::assignEach r env:=by
 refine aM (Option.isSome_iff_exists.mp h) λi hi=>?_;refine gm (oW hi) λM M uu M=>?_;subst uu;rfl
theorem jB {i:Nat}{r:List Nat}{v:V}{t:aG}(h:dL (i::r) (v::t) N=some loc'):N[i]?=some none/\dL r t (N.set i<|some v)=some loc':=by
 have h:(match N[i]? with
  |some none=>dL r t<|N.set i<|some v
  |_=>none)=some loc':=h
 rcases e:N[i]? with _ | _ | _<;>rw[e] at h
 ·exact fB h
 ·exact⟨rfl,h⟩
 ·exact fB h
theorem qL {P:List Nat->List V->Loc->Prop}(h0:P [] [] loc')(h1:∀i r v t N,N[i]?=some none->dL r t (N.set i<|some v)=some loc'->P r t (N.set i<|some v)->P (i::r) (v::t) N):∀{ts:List Nat} {l:aG} {N:Loc},dL ts l N=some loc'->P ts l N:=by
 intro ts
 induction ts with
 |nil=>
  intro l N h;cases l with
  |nil=>rw[aT h];exact h0
  |cons _ _=>exact fB h
 |cons i r ih=>
  intro l N h;cases l with
  |nil=>exact fB h
  |cons v t=>
   exact cN (jB h) λe1 e2=>h1 i r v t N e1 e2<|ih e2
variable {ts:List Nat}
theorem yu {l:aG}(h:dL ts l N=some loc'):∀(j:Nat) (v:V),N[j]?=some (some v)->loc'[j]?=some (some v):=
 qL (P:=λM M N=>∀(j:Nat) (v:V),N[j]?=some (some v)->loc'[j]?=some (some v)) (λM M e=>e) (λi r v t N e1 M ih j x e=>ih j x (by rw[eA (λq=>by rw[q,e] at e1;exact fB (aT e1).symm)];exact e)) h
theorem qM {l:aG}(h:dL ts l N=some loc'):ts.length=l.length:=
 qL (P:=λts l M=>ts.length=l.length) rfl (λM M M M M M M ih=>bH (· +1) ih) h
theorem oq (h:dv Y ts v N=some loc'):(ts.length=1/\dL ts [v] N=some loc')∨(ts.length≠1/\∃kl,jY Y v=some kl/\dL ts kl.2 N=some loc'):=by
 unfold dv at h;by_cases hl:ts.length=1
 ·rw[if_pos hl] at h;exact .inl ⟨hl,h⟩
 ·rw[if_neg hl] at h;exact .inr ⟨hl,jd h λkl e h=>⟨kl,e,h⟩⟩
theorem yv (h:dv Y ts v N=some loc'):∀(j:Nat) (x:V),N[j]?=some (some x)->loc'[j]?=some (some x):=by
 rcases oq h with ⟨_,h⟩ | ⟨_,kl,_,h⟩<;>exact yu h
theorem FT (elts:List Expr):∀(f:Fz) (q:St f) (ts:List Nat) (us:List Value) (l:aG) (loc':Loc) (o:Obj) (m₂:ly),kS f.t.ns elts=some ts->dL ts l f.N=some loc'->SE C q.ρ q.Z o m₂->f.env.locals=C->(f.t.ns.map (·.1)).Nodup->q.oY us l->(∀q':St (f.to f.m loc'),LB C q q'->Q () q'.s)->wpAny Mo f.A (assignInOrder ((assignEach elts f.env).map (·.2)) us) Q E q.s:=by
 induction elts with
 |nil=>
  intro f q ts us l loc' o m₂ ht e B hC hn iu h;rw[<-(aT ht:[]=ts)] at e;cases l with
  |nil=>
   rw[iu.jO];rw[<-(aT e:f.N=loc')] at h;exact aW<|h q ⟨rfl,rfl,rfl,⟨_,_,B⟩,λM M i=>i,λM M hp M=>hp,rfl⟩
  |cons _ _=>exact fB e
 |cons e r ih=>
  intro f q ts us l loc' o m₂ ht es B hC hn iu h;refine cZ (n7 ht) λi ts' hi hr An=>?_;subst An;cases l with
  |nil=>exact fB es
  |cons v l'=>
   refine iu.ej λiu Wf=>?_;rw[nA (by rw[hi];rfl)];refine gm (oW hi) λnm p FU M=>?_;subst FU;refine av<|dF<|Ax hi B hC hn iu λam dT=>?_
   exact kf dT.kW λkU m₁ uH=>ih (f.to f.m<|f.N.set i<|some v) am ts' _ l' loc' kU m₁ hr (jB es).2 uH hC hn (Wf.mono dT.mono) λq' b'=>h q'<|dT.trans b'
theorem CI:∀{l:List Expr} {r:List Nat},kS ns l=some r->r.length=l.length:=by
 intro l
 induction l with
 |nil=>intro r h;rw[<-(aT h:[]=r)];rfl
 |cons e l ih=>
  intro r h;refine cZ (n7 h) λi t M h2 Qn=>?_;subst Qn;exact bH (· +1)<|ih h2
theorem ot (l:List Expr)(env:Env):(assignEach l env).length=l.length:=by
 induction l with
 |nil=>rfl
 |cons e r ih=>cases e<;>exact bH (· +1) ih
theorem MI:∀{l:List Expr} {ts:List Nat},kS ns l=some ts->(assignEach l env).findIdx? (·.1)=none:=by
 intro l
 induction l with
 |nil=>intro ts h;rfl
 |cons e l ih=>
  intro ts h;refine cZ (n7 h) λi t h1 h2 Uw=>?_;subst Uw;rw[nA (by rw[h1];rfl),List.findIdx?_cons,ih h2];rfl
theorem CJ {t:Expr}(ht:slotsOf f.t.ns t=some ts)(e:dv q.Y ts v f.N=some loc')(B:SE C q.ρ q.Z o m₂)(hC:f.env.locals=C)(hn:(f.t.ns.map (·.1)).Nodup)(iu:q.iv u v)(h:∀q':St (f.to f.m loc'),LB C q q'->Q () q'.s):wpAny Mo f.A (assign t f.env u) Q E q.s:=by
 rcases Cj ht with Qo | Qp
 ·obtain⟨i,hi,rfl⟩:=Qo;refine gm (oW hi) λnm p e8q M=>?_;subst e8q;rcases oq e with Qq | Qr
  ·obtain⟨_,e⟩:=Qq;rw[<-aT (jB e).2] at h;exact Ax hi B hC hn iu h
  ·obtain⟨hl,_⟩:=Qr;exact absurd rfl hl
 ·obtain⟨l,k,p,rfl,h2,ht⟩:=Qp;have hl:=CI ht;rcases oq e with Qs | Qt
  ·obtain⟨h1,_⟩:=Qs;rw[<-hl,h1] at h2;exact absurd h2 (by decide)
  ·obtain⟨_,kl,e1,e2⟩:=Qt;rw[arm_assign_Tuple];refine av<|f8 ?_
   unfold unpack;rw[MI ht,ot,show l.length=kl.2.length by rw[<-hl,qM e2]];refine av<|dF<|uG iu e1 λus bx hk Wg M=>?_
   exact FT l f (q.grow hk q.tk) ts us kl.2 loc' o m₂ ht e2 B hC hn Wg λq' b=>h q' ⟨b.ρ,b.Y,b.b,b.kW,b.mono,b.keep,b.adr⟩
end
section
noncomputable def ou (Z:Led)(d:Addr):Led:=Z.filter λp=>!(p.1==d)
theorem dN {Z:Led}{d:Addr}{p:Addr × Obj}:p∈ou Z d↔p∈Z/\p.1≠d:=by
 unfold ou;rw[List.mem_filter];simp
variable {cs ρ bR:List Addr} {Z Z':Led} {Y:af} {h h' b:Heap} {d:Addr} {o:Obj}
theorem bF.drop (hn:(Z.map (·.1)).Nodup)(hm:(d,o)∈Z)(no:o.cls=.type "tuple"->∀vs n,o.data≠.seq vs n)(nr:Co o){v:Value}{x:V}(h:bF ρ Z v x):bF ρ (ou Z d) v x:=
 have nc:=gy hn hm no nr
 h.map (λM M M M h lR zp hd=>⟨h.imp (λh=>dN.mpr ⟨h,λe=>(nc _ h (by rw[e];exact List.Mem.head _)).1 zp _ _ hd⟩) id,lR⟩) (λM M M M M M h lR=>⟨dN.mpr ⟨h,λe=>(nc _ h (by rw[e];exact List.Mem.head _)).2 _ _ _ _ _ rfl⟩,lR⟩) λM M h=>h
theorem Rep.drop (R:Rep ρ Z Y)(hm:(d,o)∈Z)(hd:d∉ρ)(no:o.cls=.type "tuple"->∀vs n,o.data≠.seq vs n)(nr:Co o):Rep ρ (ou Z d) Y where
 len:=R.len
 nd:=R.nd
 ndZ:=(List.Sublist.map _ (List.filter_sublist)).nodup R.ndZ
 apart:=R.apart
 big:=R.big
 tabs:=R.tabs.mono λb o h hn k=>⟨dN.mpr ⟨h,Cq R.ndZ hm nr h k⟩,hn⟩
 cell:=λj b hb=>by
  refine cZ (R.cell j b hb) λc' kU h1 h2 h3=>?_;have dS:b≠d:=λe=>hd<|e▸bn hb
  exact eT c' kU h1 (dN.mpr ⟨h2,dS⟩)<|h3.mono (λv x i=>i.drop R.ndZ hm no nr) λM M h=>h
theorem Ext.drop (e:Ext cs ρ Z bR Z')(hz:d∉Z.map (·.1)):Ext cs ρ Z bR (ou Z' d) where
 pre:=e.pre
 keep:=λp hp hn hc ht=>dN.mpr ⟨e.keep p hp hn hc ht,λq=>hz (by rw[<-q];exact cB hp)⟩
 adr:=λa ha=>by
  refine aI (bT.mp<|e.adr a ha) λp hp e1=>bT.mpr ⟨p,dN.mpr ⟨hp,λq=>hz ?_⟩,e1⟩;rw[<-q,e1];exact ha
 new:=e.new
theorem rI {L:Addr}(aax:News b L h Z)(hs:∀a o,a≠d->h.get? a=some o->h'.get? a=some o):News b L h' (ou Z d):=λp hp=>by
 exact cN (dN.mp hp) λh1 h2=>⟨hs _ _ h2 (aax p h1).1,(aax p h1).2⟩
theorem yw {base Pk h h':Heap}{l:List Env}(F:h.FunFrames base l)(h1:∀b,base.get? b=none->Pk.get? b=none)(h2:∀b o,base.get? b=none->h.get? b=some o->h'.get? b=some o):h'.FunFrames Pk l:=by
 induction l with
 |nil=>trivial
 |cons e r ih=>
  refine qr F λhk HJ hr=>?_;refine sU HJ λL o hf hn ho hd=>?_;exact⟨hk,⟨L,o,hf,h1 _ hn,h2 _ _ hn ho,hd⟩,ih hr⟩
theorem FV {base g:Heap}{fe:Env}{outer:List Env}{L e C:Addr}(R:RaisedHN base g (fe::outer) L e (.ref C) Z h)(hm:(d,o)∈Z)(hs:Heap.SameBut d h h'):RaisedHN base g (fe::outer) L e (.ref C) (ou Z d) h':=by
 obtain⟨B,a0,hB,G8,hl,SI,Pi,Ha,oe,vs,T,oT,ts,he,wt,hd,h1,V5,WP,hT,SJ,h3⟩:=R;have hBd:=(hl _ hm).1;have hbd:=(hl _ hm).2.2;have ZC:=(hl _ hm).2.1;have dS:∀{b o},B.get? b=none->h.get? b=some o->h'.get? b=some o:=λ{b o} hb hq=>(hs.2 b (λe=>by rw[e,hBd] at hb;cases hb)).trans hq;have hh:∀b o,(B.hide d).get? b=some o->h'.get? b=some o:=λb o hq=>by
  have ZT:b≠d:=λe=>by rw[e,Heap.hide_self] at hq;cases hq
  exact(hs.2 b ZT).trans (SI b o<|Heap.of_hide hq)
 refine⟨B.hide d,a0,λb o q=>(Heap.hide_ne B λe=>by rw[e,hbd] at q;cases q).trans<|hB b o q,λb o q nm=>(Heap.hide_ne B λe=>by rw[e,ZC] at q;cases q).trans<|G8 b o q nm,
  λp hp=>?_,hh,?_,?_,oe,vs,T,oT,ts,dS Pi he,wt,hd,h1,?_,WP,dS V5 hT,SJ,h3⟩
 ·exact cN (dN.mp hp) λp1 p2=>⟨(Heap.hide_ne B p2).trans (hl _ p1).1,(hl _ p1).2⟩
 ·cases q:(B.hide d).get? e with
  |none=>rfl
  |some z=>have:=Heap.of_hide q;rw[Pi] at this;cases this
 ·refine yw Ha (λb hb=>?_) λb o hb hq=>dS hb hq;cases q:(B.hide d).get? b with
  |none=>rfl
  |some z=>have:=Heap.of_hide q;rw[hb] at this;cases this
 ·cases q:(B.hide d).get? T with
  |none=>rfl
  |some z=>have:=Heap.of_hide q;rw[V5] at this;cases this
end
noncomputable def oy (cells:vQ):Ns->List (Str × Addr)->vQ
 | [],acc=>acc
 |(x,k)::r,acc=>oy cells r (if k==.free then (x,(cells.lookup x).getD 0)::acc else acc)
theorem uI {sc:Scope}{env:Env}(h:∀x,(x,NameKind.free)∈sc.names->∃a,env.cells.lookup x=some a):closureFor sc env=pure (oy env.cells sc.names []):=by
 unfold closureFor;have key:∀(l:Ns) (acc:vQ),(∀x,(x,NameKind.free)∈l->∃a,env.cells.lookup x=some a)->
   (forIn l acc λ(p:Str × NameKind) (cs:vQ)=>if (p.2==NameKind.free)=true then (do let a<-cellOf env p.1;pure (ForInStep.yield ((p.1,a)::cs)):Sem (ForInStep (vQ))) else pure (ForInStep.yield cs))=pure (oy env.cells l acc):=by
  intro l
  induction l with
  |nil=>intro acc _;rfl
  |cons p r ih=>
   intro acc hl;obtain⟨x,k⟩:=p;rw[List.forIn_cons];by_cases hk:(k==NameKind.free)=true
   ·have mm:k=.free:=eq_of_beq hk;subst mm;refine aM (hl x<|.head _) λa ha=>?_;have e:cellOf env x=pure a:=by unfold cellOf;rw[ha]
    have:=ih ((x,a)::acc) λy hy=>hl y<|.tail _ hy
    simp only[hk,if_true,e,pure_bind];rw[this]
    conv=>rhs;unfold oy
    simp[hk,ha]
   ·have:=ih acc λy hy=>hl y<|.tail _ hy
    simp only[hk,if_false,pure_bind,Bool.false_eq_true];rw[this]
    conv=>rhs;unfold oy
    simp[hk]
 have:=key sc.names [] h;simp only[bind_pure] at this⊢
 first
  |exact this
  |(show(do let r<-forIn sc.names [] _;pure r)= _;rw[this];rfl)
theorem m4 {cells:vQ}(l:Ns):∀(acc:vQ) (x:Str),(∀y,(y,NameKind.free)∈l->∃a,cells.lookup y=some a)->((x,NameKind.free)∈l∨acc.lookup x=cells.lookup x)->(oy cells l acc).lookup x=cells.lookup x:=by
 induction l with
 |nil=>exact λacc x M h=>h.elim (λh=>nomatch h) id
 |cons p r ih=>
  intro acc x hl h;refine ih _ x (λz hz=>hl z<|.tail _ hz) ?_;by_cases hk:(p.2==NameKind.free)=true
  ·rw[if_pos hk];refine aM (hl p.1<|(Prod.ext rfl (eq_of_beq hk):p=(p.1,NameKind.free))▸.head _) λa ha=>?_;by_cases hx:x=p.1
   ·exact .inr (by rw[hx,kL,kM,ha];rfl)
   ·refine aY h (λh=>?_) λh=>?_
    ·refine aY (aX.mp h) (λe=>?_) λe=>?_
     ·exact absurd (bH Prod.fst e) hx
     ·exact .inl e
    ·exact .inr (by rw[kL,beq_eq_false_iff_ne.mpr hx];exact h)
  ·rw[if_neg hk];exact h.imp (λh=>(aX.mp h).resolve_left λe=>hk (by rw[<-e];rfl)) id
theorem bz {l:Ns}{x:Str}{k:NameKind}(hn:(l.map (·.1)).Nodup)(h:(x,k)∈l):l.lookup x=some k:=by
 induction l with
 |nil=>exact nomatch h
 |cons p r ih=>
  have lR:=gY.mp hn;rw[kL];refine aY (aX.mp h) (λe=>?_) λe=>?_
  ·rw[<-e,kM]
  ·have dS:x≠p.1:=λq=>lR.1 (by show p.1∈_;rw[<-q];exact cB e);rw[beq_eq_false_iff_ne.mpr dS];exact ih lR.2 e
theorem la {env:Env}{l:Ns}{x:Str}{k:NameKind}(h:l.lookup x=some k):
  (l.map λ(n,k)=>if (k==NameKind.free&&env.scope.kind==.function&&env.kindOf n==some .cell) then (n,NameKind.cell) else (n,k)).lookup x=some (if (k==NameKind.free&&env.scope.kind==.function&&env.kindOf x==some .cell) then NameKind.cell else k):=by
 induction l with
 |nil=>exact fB h
 |cons p r ih=>
  obtain⟨n,k'⟩:=p;have e:(if (k'==NameKind.free&&env.scope.kind==.function&&env.kindOf n==some .cell)=true then (n,NameKind.cell) else (n,k'))=(n,if (k'==NameKind.free&&env.scope.kind==.function&&env.kindOf n==some .cell)=true then NameKind.cell else k'):=by
   split<;>rfl
  show List.lookup x ((if (k'==NameKind.free&&env.scope.kind==.function&&env.kindOf n==some .cell)=true then (n,NameKind.cell) else (n,k'))::_)= _;rw[e,kL];rw[kL] at h;cases hx:x==n with
  |true=>
   rw[hx] at h;rw[<-eq_of_beq hx,<-(aT h:k'=k)]
  |false=>rw[hx] at h;exact ih h
theorem fH {ns:Ns}{sc:Scope}(h:okInner ns sc=true):sc.kind=.function/\(sc.names.map (·.1)).Nodup/\(∀p∈sc.names,p.2≠.cell)/\∀x,(x,NameKind.free)∈sc.names->∃j k,eW ns x=some j/\ns[j]?=some (x,k)/\(k=.cell∨k=.free):=by
 have Wh:=b1 h;have h12:=b1 Wh;refine⟨eq_of_beq<|b1 h12,od<|b2 h12,λp hp=>bne_iff_ne.mp<|gn.mp (b2 Wh) p hp,λx hx=>?_⟩;have this:Ci ns x=true:=gn.mp (b2 h) _ hx;unfold Ci at this;cases q:eW ns x with
 |none=>rw[q] at this;exact nomatch this
 |some j=>
  rw[q] at this;exact BY (mW q) λ_ k hk=>eT j k rfl hk<|(Mc this).imp (mw hk)<|mw hk
abbrev yx (sc:Scope)(C:Addr)(env:Env):Env:=compEnvC sc (oy env.cells sc.names []) C env
noncomputable abbrev Lv.in (t:Lv)(sc:Scope):Lv:={t with ns:=sc.names}
@[reducible] def Fz.kW (f:Fz)(sc:Scope)(C:Addr):Fz:={f with t:=f.t.in sc,env:=yx sc C f.env,N:=frees (de f.t.ns sc.names) f.N}
section
variable {c:Fx} {t:Lv} {env:Env} {sc:Scope} {C:Addr} {f:Fz} {ρ:List Addr} {Z:Led}
theorem iB (hi:okInner t.ns sc=true)(V:Ok c t env):∀x,(x,NameKind.free)∈sc.names->∃a,env.cells.lookup x=some a:=λx hx=>by
 exact cZ ((fH hi).2.2.2 x hx) λj k M h2 h3=>(V.cell x k (fN h2) h3).2
theorem Ok.kW (hi:okInner t.ns sc=true)(V:Ok c t env):Ok c (t.in sc) (yx sc C env):=
 {inB:=V.inB,topB:=V.topB,hh:=V.hh,frames:=V.frames,frame:=V.frame,fkind:=V.fkind,depth:=V.depth,units:=V.units,wordy:=V.wordy,kind:=(fH hi).1,globals:=V.globals,builtins:=V.builtins,eframe:=V.eframe,code:=V.code,qual:=V.qual
  top:=λx hx=>la hx
  local':=λx hx=>la<|bz (fH hi).2.1 hx
  cell:=λx k hx hk=>by
   have hf:k=.free:=hk.resolve_left<|(fH hi).2.2.1 _ hx
   rw[hf] at hx;refine aM (iB hi V x hx) λa ha=>S5 ?_ a ?_
   ·have e:(yx sc C env).kindOf x=some (if (NameKind.free==NameKind.free&&env.scope.kind==.function&&env.kindOf x==some .cell) then NameKind.cell else NameKind.free):=la<|bz (fH hi).2.1 hx
    rw[e];split
    ·exact .inl rfl
    ·exact .inr rfl
   ·show(oy env.cells sc.names []).lookup x=some a;rw[m4 _ _ _ (iB hi V)<|.inl hx,ha]}
theorem Ay {ns names:Ns}{N:Loc}{i:Nat}{x:Str}{k:NameKind}{v:V}(hx:names[i]?=some (x,k))(hl:(frees (de ns names) N)[i]?=some (some v)):k=.free/\∃j,eW ns x=some j/\N[j]?=some (some v):=by
 unfold frees de at hl;rw[List.map_map,fP,hx] at hl;have hl:(match (if (k==NameKind.free)=true then eW ns x else none) with
  |some j=>(N[j]?).join
  |none=>none)=some v:=aT hl
 by_cases hk:(k==NameKind.free)=true
 ·rw[if_pos hk] at hl;refine⟨eq_of_beq hk,?_⟩;cases q:eW ns x with
  |none=>rw[q] at hl;exact fB hl
  |some j=>
   rw[q] at hl;exact bD j rfl<|Option.join_eq_some_iff.mp (hl:(N[j]?).join=some v)
 ·rw[if_neg hk] at hl;exact fB hl
theorem gf.kW (hi:okInner f.t.ns sc=true)(V:Ok f.toFx f.t f.env)(Lo:gf f ρ Z):gf (f.kW sc C) ρ Z:=λi x k v hx hl=>by
 refine S1 (Ay hx hl) λhk j h1 hl=>?_;rw[hk] at hx;have tA:=fN hx;refine cZ ((fH hi).2.2.2 x tA) λj' k' V8 h2 h3=>?_;rw[(aT (V8.symm.trans h1):j'=j)] at h2;refine aI (Lo j x k' v h2 hl) λu iu lk=>?_;have Wi:f.env.kindOf x=some .local->False:=λmm=>(V.cell x k' (fN h2) h3).1.elim (λe=>NameKind.noConfusion<|aT<|e.symm.trans mm) λe=>NameKind.noConfusion<|aT<|e.symm.trans mm
 cases lk with
 |here mm _ _=>exact(Wi mm).elim
 |kW _ _ mm _ _ _ _=>exact(Wi mm).elim
 |cell a o _ g1 g2 g3 g4=>
  refine bD u iu<|.cell a o ((V.kW hi).cell x .free tA<|.inr rfl).1 ?_ g2 g3 g4
  show(oy f.env.cells sc.names []).lookup x=some a;rw[m4 _ _ _ (iB hi V)<|.inl tA,g1]
end
inductive oA (B:Addr)(ρ:List Addr)(Z:Led):Prop
 |mk (o:Obj) (m₂:ly) (h:SE B ρ Z o m₂)
inductive yy (D:Addr)(ρ:List Addr)(Z:Led)(acc:aG):Prop
 |mk (vs:Array Value) (n:Nat) (mem:(D,listOf vs n)∈Z) (off:D∉ρ) (is:cf ρ Z vs.toList acc)
def iK (c:Fx)(B D:Addr)(g:Bs)(E:du)(C:Nat)(Y':af):Prop:=
 ∀m gg e bR Z' h' eS ⦃b:Heap⦄,Fr b c.L gg m->DZ c.base c.fe c.outer c.L e C gg Z' b h'->gg.UpToSlots h'->Rep bR Z' Y'->Ext [B,D] g.ρ g.Z bR Z'->KtsTurn c.fs g.b b->oA B bR Z'->E (.ref e) {c.lY with heap:=h',toks:=eS}
def my (c:Fx)(B D:Addr)(g:Bs)(E:du)(C:Nat)(Y':af):Prop:=
 ∀m gg e bR Z' h' eS ⦃b:Heap⦄,Fr b c.L gg m->RaisedHN c.base gg (c.fe::c.outer) c.L e (.ref C) Z' h'->gg.UpToSlots h'->Rep bR Z' Y'->Ext [B,D] g.ρ g.Z bR Z'->KtsTurn c.fs g.b b->oA B bR Z'->E (.ref e) {c.lY with heap:=h',toks:=eS}
structure Bl (B D:Addr)(acc:aG){f:Fz}(q:St f):Prop where
 kW:oA B q.ρ q.Z
 acc:yy D q.ρ q.Z acc
def eE (B D:Addr)(g:Bs)(f:Fz)(r:Res (aG))(Q:Shared->Prop)(X:Nat->af->Prop):Prop:=match r with
 | .ok wu Y'=>∀q':St f,Kp [B,D] g q'->q'.Y=Y'->Bl B D wu q'->Q q'.s
 | .exc C Y'=>X C Y'
 | .stuck=>False
section
variable {B D d:Addr} {g:Bs} {c:Fx} {f f':Fz} {q:St f} {am:St f'} {A:Around} {env:Env} {ρ bR:List Addr} {Z Z':Led} {Y:af} {E:du} {C:Nat} {acc:aG} {r:Res (aG)} {Q Q':Shared->Prop} {X X':Nat->af->Prop} {u:Value} {v x:V} {o o':Obj} {h':Heap} {loc':Loc}
theorem my.Ux (hB:∃A₀:Around,Below A₀ f.base f.outer g.b)(ok:Ok f.toFx f.t f.env)(x:my f.toFx B D g E C Y):iK f.toFx B D g (notedBy Mo f.A f.env E) C Y:=by
 intro m gg e bR Z' h' eS b F X U Rp Ex T J;exact aM hB λA₀ Bl=>mU (kX Bl T) F ok.frame ok.fkind ok.frames ok.eframe X U λg' tz F' R' U'=>x m g' e bR Z' tz eS F' R' U' Rp Ex T J
theorem iK.held (x:iK c B D g E C Y):my c B D g E C Y:=λm gg e bR Z' h' eS M F X U Rp Ex T J=>x m gg e bR Z' h' eS F (.inr<|.inl X) U Rp Ex T J
theorem my.back (he:env.frame=some c.L)(x:my c B D g E C Y):my c B D g (cameBackBy Mo A env E) C Y:=
 λm gg e bR Z' h' eS M F X U Rp Ex T J=>pH he X U λtz X' U'=>x m gg e bR Z' tz eS F X' U' Rp Ex T J
theorem oA.ext (J:oA B ρ Z)(e:Ext [] ρ Z bR Z'):oA B bR Z':=by
 obtain⟨o,m₂,k⟩:=J;exact⟨o,m₂,e.keep _ k.mem k.off dj ((fC k.ns).2.2.1:¬wa o),e.old (cB k.mem) k.off,k.ns⟩
theorem iK.from (a:Kp [B,D] g q)(J:oA B q.ρ q.Z)(x:iK f.toFx B D g E C Y):q.Fl [] E C Y:=
 λm gg e wb Z'' tz zj M F R U Rp X T=>x m gg e wb Z'' tz zj F R U Rp (a.ext.trans<|X.weaken λM q=>nomatch q) (a.turn.trans T)<|J.ext X
theorem iK.on (a:Kp [B,D] g q)(x:iK f.toFx B D g E C Y):iK f.toFx B D q.bs E C Y:=
 λm gg e wb Z'' tz zj M F R U Rp X T J=>x m gg e wb Z'' tz zj F R U Rp (a.ext.trans X) (a.turn.trans T) J
theorem yy.ext (J:yy D ρ Z acc)(e:Ext [] ρ Z bR Z')(hK:∀a∈bR,K.lookup a=none):yy D bR Z' acc:=by
 obtain⟨vs,n,h1,h2,h3⟩:=J;exact⟨vs,n,e.keep _ h1 h2 dj (λt=>nomatch qB t),e.old (cB h1) h2,h3.ext e bI hK⟩
theorem Bl.step (J:Bl B D acc q)(a:mV [] q am):Bl B D acc am:=⟨J.kW.ext a.ext,J.acc.ext a.ext am.rep.apart⟩
theorem Kp.step (e:f.fs=f'.fs)(a:Kp [B,D] g q)(d:mV [] q am):Kp [B,D] g am:=⟨a.ext.trans (d.ext.weaken λM q=>nomatch q),KtsTurn.trans (e▸a.turn) d.turn⟩
noncomputable def St.less (q:St (f.to f.m loc'))(k:∀(j:Nat) (x:V),f.N[j]?=some (some x)->loc'[j]?=some (some x)):St f:=
 {b:=q.b,h:=q.h,ρ:=q.ρ,Z:=q.Z,Y:=q.Y,tk:=q.tk,ok:=q.ok,below:=q.below,dicts:=q.dicts,fr:=q.fr,news:=q.news,rep:=q.rep,lo:=λi x k' v h1 h2=>q.lo i x k' v h1 (k i v h2)}
theorem eE.mono (hq:∀s,Q s->Q' s)(hx:∀C Y,X C Y->X' C Y)(x:eE B D g f r Q X):eE B D g f r Q' X':=by
 cases r with
 |ok wu Y'=>exact λq' a e J=>hq _<|x q' a e J
 |exc C Y'=>exact hx _ _ x
 |stuck=>exact x
theorem eE.bind {γ δ:Type}{R:Rl δ γ}{r:Res γ}{k:γ->af->Res (aG)}{Q':δ->Shared->Prop}(a:Kp [B,D] g q)(J:Bl B D acc q)(x:eE B D g f (r.bind k) Q (iK f.toFx B D g E))
  (kk:∀{v u} (am:St f),mV [] q am->Kp [B,D] g am->Bl B D acc am->R am.ρ am.Z u v->eE B D g f (k v am.Y) Q (iK f.toFx B D g E)->Q' u am.s):aE R q r Q' E:=by
 cases r with
 |ok v Y'=>exact λu am d e i=>kk am d (a.step rfl d) (J.step d) i (e▸x)
 |exc C Y'=>exact iK.from a J.kW x
 |stuck=>exact x
theorem eE.bindB {r:Res Bool}{k:Bool->af->Res (aG)}{Q':Bool->Shared->Prop}(a:Kp [B,D] g q)(J:Bl B D acc q)(x:eE B D g f (r.bind k) Q (iK f.toFx B D g E))
  (kk:∀{v} (am:St f),Kp [B,D] g am->Bl B D acc am->eE B D g f (k v am.Y) Q (iK f.toFx B D g E)->Q' v am.s):aE OI q r Q' E:=
 eE.bind a J x λam M a J i P=>i▸kk am a J P
theorem eE.re {r:Res (aG)}{k:List V->af->Res (aG)}{Uy:Nat->af->Prop}{q:St (f.to f.m loc')}(hX:∀C Y,X C Y->Uy C Y)(less:∀(j:Nat) (x:V),f.N[j]?=some (some x)->loc'[j]?=some (some x))(a:Kp [B,D] g q)(x:eE B D g f (r.bind k) Q X)
  (kk:∀{wu} (am:St f),Ext [B,D] q.ρ q.Z am.ρ am.Z->Kp [B,D] g am->Bl B D wu am->eE B D g f (k wu am.Y) Q X->Q' am.s):eE B D q.bs (f.to f.m loc') r Q' Uy:=by
 cases r with
 |ok wu Y'=>exact λam d e J=>kk (am.less less) d.ext ⟨a.ext.trans d.ext,a.turn.trans d.turn⟩ ⟨J.kW,J.acc⟩ (e▸x)
 |exc C Y'=>exact hX _ _ x
 |stuck=>exact x
theorem Kp.to {am:St (f.to f.m loc')}(a:Kp [B,D] g q)(b:LB B q am):Kp [B,D] g am:=
 ⟨a.ext.trans ⟨λM M h=>b.ρ▸h,λp hp M hc M=>b.keep _ _ hp λe=>hc<|e▸.head _,λz hz=>b.adr▸hz,λM h=>.inl (b.ρ▸h)⟩,b.b▸a.turn⟩
theorem Bl.to {am:St (f.to f.m loc')}(dS:B≠D)(J:Bl B D acc q)(b:LB B q am):Bl B D acc am:=by
 refine kf b.kW λo m₂ hb=>?_;obtain⟨vs,n,h1,h2,h3⟩:=J.acc;exact⟨⟨o,m₂,hb⟩,vs,n,b.keep _ _ h1<|gb dS,b.ρ▸h2,h3.mono b.mono⟩
structure Own (o:Obj):Prop where
 U:o.cls=.type "tuple"->∀vs n,o.data≠.seq vs n
 odd:Co o
 cell:∀vs,o.data≠.cell vs
 dict:∀es ep,o.data≠.dict es ep
theorem iX {vs:Array Value}{k:Nat}:Own (listOf vs k):=⟨λe=>absurd e (by show Value.type "list"≠Value.type "tuple";decide),n9 (λM e=>Data.noConfusion e),λM e=>Data.noConfusion e,λM M e=>Data.noConfusion e⟩
theorem Az {kd:G4}{k:Nat}(h:om kd k o):Own o:=by
 exact aM h.fields λvs e=>⟨h.plain.1,h.plain.2,λM e'=>Data.noConfusion<|e.symm.trans e',λM M e'=>Data.noConfusion<|e.symm.trans e'⟩
theorem gf.turn {Z':Led}(g:∀v x,q.iv v x->bF q.ρ Z' v x)(hk:∀z oz,(z,oz)∈q.Z->z≠d->(z,oz)∈Z')(hm:(d,o)∈q.Z)(ow:Own o):gf f q.ρ Z':=λi x k v h1 h2=>
 let ⟨u,iu,lk⟩:=q.lo i x k v h1 h2;⟨u,g _ _ iu,lk.turn hk q.rep.ndZ hm ow.cell ow.dict⟩
theorem St.MJ (q:St f)(hm:(d,o)∈q.Z)(ow:Own o):∀v x,q.iv v x->bF q.ρ (gw q.Z d o') v x:=λM M i=>i.ext Ext.swap (gy q.rep.ndZ hm ow.U ow.odd) q.rep.apart
def St.own (q:St f)(tk:Nat)(hm:(d,o)∈q.Z)(hd:d∉q.ρ)(ow:Own o)(F:Fr q.b f.L h' f.m)(aax:News q.b f.L h' (gw q.Z d o')):St f:=
 {b:=q.b,h:=h',ρ:=q.ρ,Z:=gw q.Z d o',Y:=q.Y,tk:=tk,ok:=q.ok,below:=q.below,dicts:=q.dicts,fr:=F,news:=aax,rep:=q.rep.swap hm hd ow.U ow.odd,lo:=gf.turn (q.MJ hm ow) hY hm ow}
def St.gone (q:St f)(hm:(d,o)∈q.Z)(hd:d∉q.ρ)(ow:Own o)(hs:Heap.ExtBut d q.h h'):St f:=
 {b:=q.b,h:=h',ρ:=q.ρ,Z:=ou q.Z d,Y:=q.Y,tk:=q.tk,ok:=q.ok,below:=q.below,dicts:=q.dicts
  fr:=⟨q.fr.ns.extBut hs<|gb (q.news _ hm).2.1,λz o' e=>hs z o' (λe'=>by rw[e',(q.news _ hm).2.2] at e;exact fB e)<|q.fr.keep z o' e,q.fr.above⟩
  news:=rI q.news λz o' e q=>hs z o' e q,rep:=q.rep.drop hm hd ow.U ow.odd,lo:=gf.turn (λM M i=>i.drop q.rep.ndZ hm ow.U ow.odd) (λM M h e=>dN.mpr ⟨h,e⟩) hm ow}
theorem Bl.append {A':Around}{Q:du}{E':du}(dS:B≠D)(J:Bl B D acc q)(iu:q.iv u v)(hl:acc.length<10000)(hQ:∀q':St f,mV [B,D] q q'->q'.Y=q.Y->Bl B D (acc++[v]) q'->Q .none q'.s):wpAny Mo A' (call (.builtin "list.append") [.ref D,u]) Q E' q.s:=by
 obtain⟨vs,k,h1,h2,h3⟩:=J.acc;have kk:=q.MJ (o':=listOf (vs.push u) (k+1)) h1 iX;refine append_K q.fr q.news (tJ q.rep.ndZ h1) (λh' F' N'=>hQ (q.own q.tk h1 h2 iX F' N') ⟨Ext.swap.weaken λM q=>cK.mp q▸.tail _ (.head _),.refl⟩ rfl ⟨?_,vs.push u,k+1,gz h1,h2,?_⟩)<|gK (by rw[<-qo,bc h3];exact hl)
 ·obtain⟨o,m₂,kb⟩:=J.kW;exact⟨o,m₂,hY _ _ kb.mem dS,kb.off,kb.ns⟩
 ·rw[Array.toList_push];exact gA (h3.mono kk)<|.cons (kk _ _ iu) .nil
end
theorem V.beq_eq {a b:V}(h:V.beq a b=true):a=b:=
 V.rec (motive_1:=λa=>∀b,V.beq a b=true->a=b) (motive_2:=λa=>∀b,V.qw a b=true->a=b)
  (λb h=>@V.none.elim (λb=>.none=b) b (ix h) rfl)
  (λa b h=>@V.bool.elim (λb=>V.beq (.bool a) b=true->.bool a=b) b (ix<|b1 h) (λc h=>bH _<|eq_of_beq<|show(a==c)=true from h) h)
  (λa b h=>@V.int.elim (λb=>V.beq (.int a) b=true->.int a=b) b (ix<|b1 h) (λc h=>bH _<|eq_of_beq<|show(a==c)=true from h) h)
  (λa b h=>@V.str.elim (λb=>V.beq (.str a) b=true->.str a=b) b (ix<|b1 h) (λc h=>bH _<|eq_of_beq<|show(a==c)=true from h) h)
  (λa ih b h=>@V.U.elim (λb=>V.beq (.U a) b=true->.U a=b) b (ix<|b1 h) (λc h=>bH _<|ih c h) h)
  (λa ih b h=>@V.gl.elim (λb=>V.beq (.gl a) b=true->.gl a=b) b (ix<|b1 h) (λc h=>bH _<|ih c h) h)
  (λa a' b h=>@V.rng.elim (λb=>V.beq (.rng a a') b=true->.rng a a'=b) b (ix<|b1 h) (λc d h=>by
   have h:(a==c&&a'==d)=true:=h;rw[eq_of_beq<|b1 h,eq_of_beq<|b2 h]) h)
  (λa b h=>@V.ref.elim (λb=>V.beq (.ref a) b=true->.ref a=b) b (ix<|b1 h) (λc h=>bH _<|eq_of_beq<|show(a==c)=true from h) h)
  (λb h=>(isNil h).symm)
  (λa r ia ir b h=>by
   have h:(!b.isEmpty&&(V.beq a (b.headD .none)&&V.qw r b.tail))=true:=h;rw[cons_of (b1 h) .none,<-ia _ (b1<|b2 h),<-ir _ (b2<|b2 h)]) a b h
theorem V.D9 {a b:aG}(h:V.qw a b=true):a=b:=by
 induction a generalizing b with
 |nil=>exact(isNil h).symm
 |cons x r ih=>
  have h:=h;rw[cons_of (b1 h) .none,<-V.beq_eq (b1<|b2 h),<-ih (b2<|b2 h)]
theorem uJ {Y Y':af}{src:V}{all:aG}(e:cG Y src=some all)(h:same Y' src all=true):cG Y' src=some all:=by
 cases src with
 |ref i=>
  have h:(match vR Y' i with
   |some l'=>V.qw l' all
   |none=>false)=true:=h
  show vR Y' i=some all;cases e':vR Y' i with
  |none=>rw[e'] at h;exact nomatch h
  |some l=>rw[e'] at h;exact bH some<|V.D9 h
 |_=>exact e
theorem lH.ext {cs ρ bR:List Addr}{Z Z':Led}{kd:G4}{src:V}(ex:Ext cs ρ Z bR Z')(hc:oh cs Z)(hK:∀a∈bR,K.lookup a=none)(h:lH ρ Z kd src):lH bR Z' kd src:=h.mono λM M i=>i.ext ex hc hK
section
noncomputable abbrev Rest:=Fz->(Shared->Prop)->(du)->Shared->Prop
def FW (t:Lv)(B D:Addr)(REST:Rest)(fn:Loc->List V->af->Res (aG)):Prop:=∀(f:Fz) (q:St f) (acc:aG) (Q:Shared->Prop) (E:du),f.t=t->f.env.locals=B->Bl B D acc q->eE B D q.bs f (fn f.N acc q.Y) Q (iK f.toFx B D q.bs E)->REST f Q E q.s
def mz (f:Fz)(e:Expr)(depth:Nat)(it acc:Value)(target:Expr)(REST:(Shared->Prop)->(du)->Shared->Prop):Prop:=
 ∀(Q:Fin->Shared->Prop) (E:du) (s:Shared),
  wpAny Mo f.A (pyNext it) (λr eu=>match r with
   |none=>Q (.done .next) eu
   |some v=>wpAny Mo f.A (letOwnedTupleGo target it v) (λM kj=>wpAny Mo f.A (assign target f.env v) (λM te=>REST (Q<|.again<|.compLoop e depth it acc f.env) E te) E kj) E eu) E s->
  wpAny Mo f.A (compTurn e depth it acc f.env) Q E s
variable {B D aay:Addr} {g:Bs} {f:Fz} {q:St f} {E:du} {acc:aG} {o:Obj} {kd:G4} {k:Nat} {src:V} {all:aG} {t:Lv} {sc:Scope} {s:Shared}
abbrev jC (Yt:List Nat)(fn:Loc->List V->af->Res (aG))(N:Loc):V->List V->af->Res (aG):=λv acc Y=>fq (dv Y Yt v N) λloc'=>fn loc' acc Y
theorem Ea {β:Type}{Y:af}{r:Res β}{P:Res β->Prop}(hs:¬P .stuck)(h:P (if same Y src all then r else .stuck)):same Y src all=true/\P r:=by
 cases e:same Y src all with
 |true=>rw[e] at h;exact⟨rfl,h⟩
 |false=>rw[e] at h;exact absurd h hs
inductive Eb (B D:Addr)(g:Bs)(f:Fz)(aay:Addr)(kd:G4)(src:V)(all:aG)(F:V->List V->af->Res (aG))(Q:Shared->Prop)(X:Nat->af->Prop):Nat->Shared->Prop
 |mk {k:Nat} {acc:aG} {o:Obj} (q:St f) (a:Kp [B,D] g q) (J:Bl B D acc q) (hI:(aay,o)∈q.Z) (hr:aay∉q.ρ) (hk:om kd k o) (hs:lH q.ρ q.Z kd src) (e:cG q.Y src=some all) (hle:k<=all.length)
  (P:eE B D g f (dk F src all (all.drop k) acc q.Y) Q X):Eb B D g f aay kd src all F Q X (all.length - k) q.s
variable {elt target:Expr} {pos:Pos}
theorem sC {gens:List Comprehension}{depth:Nat}{REST:Rest}{fn:Loc->List V->af->Res (aG)}{ts:List Nat}{R':Result->Shared->Prop}
  (hT:mz f (.ListComp elt gens sc pos) depth (.ref aay) (.ref D) target (REST f)) (hF:∀N,REST (f.to f.m N)=REST f) (ht:slotsOf f.t.ns target=some ts) (hR:FW f.t B D REST fn) (hB:f.env.locals=B) (dS:B≠D) (hn:(f.t.ns.map (·.1)).Nodup) (Wj:aay≠B) (WT:aay≠D) (ZU:aay∉g.Z.map (·.1))
  (hb:∃A₀:Around,Below A₀ f.base f.outer g.b) (a:Kp [B,D] g q) (J:Bl B D acc q) (hI:(aay,o)∈q.Z) (hr:aay∉q.ρ) (hk:om kd 0 o) (hs:lH q.ρ q.Z kd src) (e:cG q.Y src=some all)
  (P:eE B D g f (dk (jC ts fn f.N) src all all acc q.Y) (λs'=>R' (.ok .next) s') (my f.toFx B D g λe s'=>R' (.error e) s')):
  codeAny Mo f.A (.compLoop (.ListComp elt gens sc pos) depth (.ref aay) (.ref D) f.env) R' q.s:=by
 refine codeAny_loop rfl (Eb B D g f aay kd src all (jC ts fn f.N) (λs'=>R' (.ok .next) s')<|my f.toFx B D g λe s'=>R' (.error e) s') (λn' s' x=>?_) (all.length - 0) ⟨q,a,J,hI,hr,hk,hs,e,pC _,P⟩;clear a hI hr hk hs e P J
 induction x with | @mk k acc o q a J hI hr hk hs e hle P=>?_
 have ow:=Az hk;refine wpAny_noted<|hT _ _ _<|wT hs e (q.news _ hI).1 hk (λv hv x bx kU ID AA iS oo ix=>?_) λhv bx he=>?_
 ·obtain⟨mM,ev⟩:=bM.mp hv;rw[List.drop_eq_getElem_cons mM,ev] at P;have kk:=q.MJ (o':=kU) hI ow;let am:=q.own ID hI hr ow (q.fr.change oo (q.news _ hI).2.1 (q.news _ hI).2.2)<|jP q.news hI AA oo
  have qN:Bl B D acc am:=by
   obtain⟨⟨ob,m₂,kb⟩,⟨vs,n,h1,h2,h3⟩⟩:=J;exact⟨⟨ob,m₂,hY _ _ kb.mem<|gb Wj,kb.off,kb.ns⟩,vs,n,hY _ _ h1<|gb WT,h2,h3.mono kk⟩
  refine IB AA iS ?_;have P:eE B D g f ((fq (dv q.Y ts v f.N) λloc'=>fn loc' acc q.Y).bind λacc Y=>if same Y src all then dk (jC ts fn f.N) src all (all.drop (k+1)) acc Y else .stuck) (λs'=>R' (.ok .next) s') (my f.toFx B D g λe s'=>R' (.error e) s'):=P;cases qt:dv q.Y ts v f.N with
  |none=>rw[qt] at P;exact P.elim
  |some IE=>
   rw[qt] at P;obtain⟨ob,m₂,kb⟩:=qN.kW;refine CJ (q:=am) ht qt kb hB hn (kk _ _ ix) λbw bt=>?_;have bK:=(⟨a.ext.yg ZU,a.turn⟩:Kp [B,D] g am).to bt;have OP:=bt.keep _ _ (gz hI) Wj;have Io:=bt.ρ▸hr;have IF:=qN.to dS bt;rw[<-hF IE];refine hR (f.to f.m IE) bw acc _ _ rfl hB IF<|eE.re (λC Y x=>iK.on bK<|my.Ux hb q.ok x) (yv qt) bK (bt.Y▸P) λ{wu} d5 ex mB Yu FN=>?_
   obtain⟨ZV,FN⟩:=Ea (P:=λr=>eE B D g f r (λs'=>R' (.ok .next) s')<|my f.toFx B D g λe s'=>R' (.error e) s') id FN;refine⟨rfl,_,Nat.sub_succ_lt_self _ _ mM,⟨d5,mB,Yu,ex.keep _ OP Io (λh=>(aX.mp h).elim Wj λh=>WT<|cK.mp h) iS.plain.2.2.1,ex.old (cB OP) Io,iS,lH.ext ex ?_ d5.rep.apart ((hs.mono kk).mono bt.mono:lH bw.ρ bw.Z kd src),uJ e ZV,mM,FN⟩⟩;rintro ⟨pa,po⟩ hp Oo;rcases aX.mp Oo with e | e
   ·obtain⟨Uz,aan,IG⟩:=IF.kW;exact(gJ bw.rep.ndZ (by rw[show B=pa from e.symm];exact hp) IG.mem:po=Uz)▸⟨(fC IG.ns).1,(fC IG.ns).2.1⟩
   ·obtain⟨vs,kk,h1,_,_⟩:=IF.acc;exact(gJ bw.rep.ndZ (by rw[show D=pa from(cK.mp e).symm];exact hp) h1:po=listOf vs kk)▸⟨iX.U,iX.odd.1⟩
 ·rw[List.drop_eq_nil_of_le<|zw.mp hv] at P;refine(P:eE B D g f (.ok acc q.Y) (λs'=>R' (.ok .next) s') (my f.toFx B D g λe s'=>R' (.error e) s')) (q.gone hI hr ow he) ⟨a.ext.drop ZU,a.turn⟩ rfl ?_;obtain⟨⟨ob,m₂,kb⟩,⟨vs,n,h1,h2,h3⟩⟩:=J;exact⟨⟨ob,m₂,dN.mpr ⟨kb.mem,gb Wj⟩,kb.off,kb.ns⟩,vs,n,dN.mpr ⟨h1,gb WT⟩,h2,h3.mono λM M i=>i.drop q.rep.ndZ hI ow.U ow.odd⟩
theorem uK {A':Around}{Q E:du}(ho:s.heap.get? aay=some o)(hk:om kd k o)(hq:Q (.ref aay) s):wpAny Mo A' (pyIter<|.ref aay) Q E s:=by
 cases kd with
 |list l=>exact wpAny_pyIter_listiter ⟨o,ho,hk.1,hk.2⟩ hq
 |U t=>exact wpAny_pyIter_tupleiter ⟨o,ho,hk.1,hk.2⟩ hq
 |rng a b=>exact wpAny_pyIter_rangeiter (by rw[IsRangeIter,ho];exact bH some hk) hq
noncomputable abbrev uL (f:Fz)(l:List Expr)(b:Bool):Sem Bool:=forIn l b λc r=>if r=true then do let ok<-isTrue c f.env (eval c f.env);pure (ForInStep.yield ok) else pure (ForInStep.yield r)
theorem FX {QB:Bool->Shared->Prop}(l:List Expr):∀(s':Shared),QB false s'->wpAny Mo f.A (uL f l false) QB E s':=by
 induction l with
 |nil=>exact λs' q=>aW q
 |cons y l ihl=>
  intro s' q;unfold uL;rw[List.forIn_cons];simp only[Bool.false_eq_true,if_false];exact av<|aW<|ihl s' q
variable {ifs:List Expr}
theorem IH {xs:List X}(hx:dy f.t ifs xs){fn:Bool->af->Res (aG)}{Q:Shared->Prop}{QB:Bool->Shared->Prop}:∀(q:St f),Kp [B,D] g q->Bl B D acc q->
  eE B D g f ((jl f.t.O xs f.N q.Y).bind fn) Q (iK f.toFx B D g E)->(∀ok (q':St f),Kp [B,D] g q'->Bl B D acc q'->eE B D g f (fn ok q'.Y) Q (iK f.toFx B D g E)->QB ok q'.s)->wpAny Mo f.A (uL f ifs true) QB E q.s:=by
 induction hx with
 |nil=>exact λq a J P hQ=>aW<|hQ true q a J P
 |@cons e x r xs he hx ht hr ih=>
  intro q a J P hQ;have P:eE B D g f (((da<|aV f.t.O x f.N q.Y).bind λt Y=>cond t (jl f.t.O xs f.N Y)<|.ok false Y).bind fn) Q (iK f.toFx B D g E):=P;rw[Res.bind_assoc] at P;unfold uL;rw[List.forIn_cons];simp only[if_true];refine av<|av<|ht f q _ E rfl<|eE.bindB a J P λ{v} am bJ qN aO=>aW ?_
  cases v with
  |true=>exact ih am bJ qN aO hQ
  |false=>exact FX r _<|hQ false am bJ qN aO
variable {e:Expr}
theorem lI (h:∀l k p,e≠.Set l k p)(env:Env)(x:Value):foldedSetIterable e env x=pure x:=by
 cases e with
 |Set=>exact absurd rfl<|h _ _ _
 |_=>rfl
def II (f:Fz)(elt:Expr)(acc:Value)(Q:Shared->Prop)(E:du)(s:Shared):Prop:=
 wpAny Mo f.A (eval elt f.env) (λx FY=>wpAny Mo f.A (call (.builtin "list.append") [acc,x]) (λM MK=>Q MK) E FY) E s
def IJ (f:Fz)(ifs:List Expr)(elt:Expr)(acc:Value)(Q:Shared->Prop)(E:du)(s:Shared):Prop:=
 wpAny Mo f.A (uL f ifs true) (λok te=>if ok=true then II f elt acc Q E te else Q te) E s
def IK (f:Fz)(qk:Expr)(e:Expr)(acc:Value)(Q:Shared->Prop)(E:du)(s:Shared):Prop:=
 wpAny Mo f.A (eval qk f.env) (λx eu=>wpAny Mo f.A (pyIter x) (λit kj=>
  codeAny Mo f.A (.compStart e 1 it acc f.env) (λr s'=>match r with
   | .ok _=>Q s'
   | .error x=>cameBackBy Mo f.A f.env E x s') kj) E eu) E s
variable {iter:Expr} {it:Value}
theorem UA {acc:Value}:mz f (.ListComp elt [⟨target,iter,ifs,0⟩] sc pos) 0 it acc target (IJ f ifs elt acc):=by
 intro Q E s h;rw[compTurn_list];refine av<|f8<|av<|cC h (λr eu bx=>?_) λM M h'=>h'
 cases r with
 |none=>exact aW bx
 |some v=>
  refine av<|cC bx (λM kj eo=>av<|cC eo (λM te mZ=>av<|cC mZ (λok FY nI=>?_) λM M h'=>h') λM M h'=>h') λM M h'=>h'
  cases ok with
  |false=>exact aW nI
  |true=>exact av<|av<|cC nI (λx MK uM=>av<|cC uM (λM Yv IL=>aW<|aW IL) λM M h'=>h') λM M h'=>h'
variable {i1:Expr}
theorem ML {t1:Expr}{acc:Value}:mz f (.ListComp elt [⟨t1,i1,[],0⟩,⟨target,iter,[],0⟩] sc pos) 1 it acc target (II f elt acc):=by
 intro Q E s h;have e:compTurn (.ListComp elt [⟨t1,i1,[],0⟩,⟨target,iter,[],0⟩] sc pos) 1 it acc f.env=(do
   standAt iter.pos
   match<-pyNext it with
   |none=>pure<|.done .next
   |some v=>
    letOwnedTupleGo target it v
    assign target f.env v
    (do let _<-call (.builtin "list.append") [acc,<-eval elt f.env])
    again (.compLoop (.ListComp elt [⟨t1,i1,[],0⟩,⟨target,iter,[],0⟩] sc pos) 1 it acc f.env)):=by rfl
 rw[e];refine av<|f8<|av<|cC h (λr eu bx=>?_) λM M h'=>h'
 cases r with
 |none=>exact aW bx
 |some v=>
  refine av<|cC bx (λM kj eo=>av<|cC eo (λM te mZ=>?_) λM M h'=>h') λM M h'=>h'
  exact av<|av<|cC mZ (λx MK uM=>av<|cC uM (λM Yv IL=>aW<|aW IL) λM M h'=>h') λM M h'=>h'
theorem UC {t2 ke:Expr}{acc:Value}(hs:∀env x,foldedSetIterable ke env x=pure x):
  mz f (.ListComp elt [⟨target,i1,[],0⟩,⟨t2,ke,[],0⟩] sc pos) 0 it acc target (IK f ke (.ListComp elt [⟨target,i1,[],0⟩,⟨t2,ke,[],0⟩] sc pos) acc):=by
 intro Q E s h;have e:compTurn (.ListComp elt [⟨target,i1,[],0⟩,⟨t2,ke,[],0⟩] sc pos) 0 it acc f.env=(do
   standAt i1.pos
   match<-pyNext it with
   |none=>pure<|.done .next
   |some v=>
    letOwnedTupleGo target it v
    assign target f.env v
    let x<-eval ke f.env
    standAt ke.pos
    let x<-foldedSetIterable ke f.env x;let _<-runOwn (.compStart (.ListComp elt [⟨target,i1,[],0⟩,⟨t2,ke,[],0⟩] sc pos) (0+1) (<-holding [x] (pyIter x)) acc f.env) f.env
    again (.compLoop (.ListComp elt [⟨target,i1,[],0⟩,⟨t2,ke,[],0⟩] sc pos) 0 it acc f.env)):=by rfl
 rw[e];refine av<|f8<|av<|cC h (λr eu bx=>?_) λM M h'=>h'
 cases r with
 |none=>exact aW bx
 |some v=>
  refine av<|cC bx (λM kj eo=>av<|cC eo (λM te mZ=>?_) λM M h'=>h') λM M h'=>h'
  refine av<|cC mZ (λx FY nI=>av<|f8<|av ?_) λM M h'=>h'
  rw[hs];refine aW<|av<|dF<|cC nI (λit₂ MK uM=>av<|wpAny_runOwn ?_) λM M h'=>h'
  have:f.A.mark none=f.A:=rfl;rw[this];exact codeAny_mono uM λr s' hr=>by
   cases r with
   |ok f=>exact aW hr
   |error x=>exact hr
theorem F0 {t1:Expr}{acc:Value}{R:Result->Shared->Prop}
  (h0:codeAny Mo f.A (.compLoop (.ListComp elt [⟨t1,i1,[],0⟩,⟨target,iter,[],0⟩] sc pos) 1 it acc f.env) R s)
  (h:wpAny Mo f.A (pyIter it) (λZW s'=>codeAny Mo f.A (.compLoop (.ListComp elt [⟨t1,i1,[],0⟩,⟨target,iter,[],0⟩] sc pos) 1 ZW acc f.env) R s')
   (notedBy Mo f.A f.env λx s'=>R (.error x) s') s):
  codeAny Mo f.A (.compStart (.ListComp elt [⟨t1,i1,[],0⟩,⟨target,iter,[],0⟩] sc pos) 1 it acc f.env) R s:=by
 refine codeAny_of_tree<|wpAny_notedAt ?_
 refine av<|wpAny_askSetting<|wpAny_ite ?_
 split
 ·first
   |exact av (aW (aW (And.intro rfl h0)))
   |exact aW (And.intro rfl h0)
 ·first
   |exact av (wpAny_rule (av (f8 (av (cC h (λZW s' h'=>aW<|And.intro rfl h') λM M x=>x)))))
   |(refine av (wpAny_rule ?_);show wpAny _ _ (standAt iter.pos >>= _) _ _ s;exact av (f8 (av (cC h (λZW s' h'=>aW<|And.intro rfl h') λM M x=>x))))
theorem Bl.put {v:V}{u:Value}{Q:Shared->Prop}{E':du}(dS:B≠D)(a:Kp [B,D] g q)(J:Bl B D acc q)(iu:q.iv u v)(P:eE B D g f (lG v acc q.Y) Q (iK f.toFx B D g E)):wpAny Mo f.A (call (.builtin "list.append") [.ref D,u]) (λM s=>Q s) E' q.s:=by
 unfold lG at P;by_cases hl:acc.length<10000
 ·rw[if_pos hl] at P;exact J.append dS iu hl λq' d e J'=>P q' (a.trans rfl d) e J'
 ·rw[if_neg hl] at P;exact P.elim
theorem IM {x:X}(dS:B≠D)(hx:cr t e x):FW t B D (λf=>II f e<|.ref D) (λN acc Y=>(aV t.O x N Y).bind λv Y=>lG v acc Y):=λf q acc Q E ht M J P=>
 hx f q _ E ht (eE.bind .refl J P λam M bJ qN bV aO=>qN.put dS bJ bV aO)
theorem IN {x:X}{xs:List X}(dS:B≠D)(hs:dy t ifs xs)(hx:cr t e x):FW t B D (λf=>IJ f ifs e<|.ref D) (λN acc Y=>(jl t.O xs N Y).bind λb Y=>cond b ((aV t.O x N Y).bind λv Y=>lG v acc Y)<|.ok acc Y):=λf q acc Q E ht M J P=>by
 subst ht;refine IH hs q .refl J P λok am bJ qN aO=>?_;cases ok with
 |false=>exact aO am bJ rfl qN
 |true=>exact hx f am _ E rfl<|eE.bind bJ qN aO λbw M bK IF iA dw=>IF.put dS bK iA dw
end
section
section
variable {A:Around} {env:Env} {s:Shared} {E:du}
def kC (A:Around)(E:du)(use:Option (Value->Sem Unit))(Q:du)(acc:Value)(py:Env)(r:Result)(s':Shared):Prop:=
 match r,use with
 | .ok _,none=>∃m,s'.heap.Ns py.locals m/\∀h',Heap.SameBut py.locals s'.heap h'->Q acc {s' with heap:=h'}
 | .ok _,some u=>wpAny Mo A (u acc) (λM ri=>∃m,ri.heap.Ns py.locals m/\∀h',Heap.SameBut py.locals ri.heap h'->Q .none {ri with heap:=h'}) E s'
 | .error x,_=>∃m,s'.heap.Ns py.locals m/\∀h',Heap.SameBut py.locals s'.heap h'->wpAny Mo A (PySem.passOn "comprehension.variables-let-go" x py:Sem Value) (λM M=>False) E {s' with heap:=h'}
theorem qO {e:Expr}{scope:Scope}{pos:Pos}{Li first:Sem Value}{g:Comprehension}{gs:List Comprehension}{cl:vQ}{use:Option (Value->Sem Unit)}
  {Q:du}
  (zp:clausesOf e=g::gs) (hs:∀x,foldedSetIterable g.iter env x=pure x) (BO:closureFor scope env=pure cl)
  (BP:scope.kind=.function) (Se:∀x∈scope.names,x.2=.local->scope.names.lookup x.1=some .local)
  (h:wpAny Mo A first (λx eu=>wpAny Mo A (pyIter x) (λit kj=>wpAny Mo A Li (λacc te=>
   wpAny Mo A (newFunctionEnv scope env.globals cl [] env.qual none .none (some env)) (λpy FY=>
    codeAny Mo A (.compStart e 0 it acc {py with scope:=relabel scope env}) (kC A E use Q acc {py with scope:=relabel scope env}) FY) E te) E kj) E eu) E s):
  wpAny Mo A (comprehension e scope env pos Li false first use) Q E s:=by
 unfold comprehension;rw[BO,zp];refine av (cC h (λx eu bx=>av (f8 (av (wpAny_of_eq (hs x) (av (dF (cC bx (λit kj eo=>
  wpAny_standIf (av (cC eo (λacc te mZ=>av (aW (av (cC mZ (λpy FY nI=>?_) λM M h'=>h')))) λM M h'=>h')))
   λM M h'=>h'))))))) λM M h'=>h')
 have hv:∀x∈(scope.names.filter λx=>(x.2==.local||x.2==.cell)&&x.1 != (".0":Str)).reverse,x.2=.local->
   Env.kindOf {py with scope:=relabel scope env} x.1=some .local:=λx hx hl=>lookup_relabel_local (Se x (List.mem_filter.mp (List.mem_reverse.mp hx)).1 hl)
 have hv':∀x∈(scope.names.filter λx=>(x.2==.local||x.2==.cell)&&x.1 != (".0":Str)).reverse.drop 1++(scope.names.filter λx=>(x.2==.local||x.2==.cell)&&x.1 != (".0":Str)).reverse.take 1,
   x.2=.local->Env.kindOf {py with scope:=relabel scope env} x.1=some .local:=λx hx hl=>by
  refine aY (fb.mp hx) (λh1=>?_) λh1=>?_
  ·exact hv x (List.mem_of_mem_drop h1) hl
  ·exact hv x (List.mem_of_mem_take h1) hl
 refine dF (av (wpAny_attempt (dF (wpAny_run (codeAny_mono nI λr s' hr=>?_)))));cases r with
 |ok f=>
  cases use with
  |none=>
   exact aI hr λm hn hr=>av (dF (wpAny_comp_letGo BP _ s' m hv hn λh' m' M BM=>aW (hr h' BM)))
  |some u=>
   refine av (wpAny_rule (av (dF (cC hr (λM ri Wk=>?_) λM M h'=>h'))));exact aI Wk λm hn Wk=>av (wpAny_comp_letGo BP _ ri m hv' hn λh' m' M BM=>aW (Wk h' BM))
 |error x=>
  have Wk:∃m,s'.heap.Ns py.locals m/\∀h',Heap.SameBut py.locals s'.heap h'->wpAny Mo A (PySem.passOn "comprehension.variables-let-go" x {py with scope:=relabel scope env}:Sem Value) (λM M=>False) E {s' with heap:=h'}:=by cases use<;>exact hr
  exact aI Wk λm hn hr=>av (dF (wpAny_comp_letGo BP _ s' m hv hn λh' m' M BM=>cC (hr h' BM) (λM M f=>f.elim) λM M y=>y))
end
variable {B D:Addr} {g:Bs} {f:Fz} {q:St f} {E:du} {acc:aG} {t:Lv} {sc:Scope} {pos:Pos} {ts:List Nat} {fn:Loc->List V->af->Res (aG)}
variable {elt:Expr} {xi xe:X}
theorem IO {t1 i1 t2 qk:Expr}{qj:List Nat}(dS:B≠D)(hn:(t.ns.map (·.1)).Nodup)(ht:slotsOf t.ns t2=some qj)(hi:cr t qk xi)(hx:cr t elt xe):
  FW t B D (λf=>IK f qk (.ListComp elt [⟨t1,i1,[],0⟩,⟨t2,qk,[],0⟩] sc pos) (.ref D)) (λN acc Y=>(aV t.O xi N Y).bind λvN Y=>fq (cG Y vN) λall2=>dk (jC qj (λN acc Y=>(aV t.O xe N Y).bind λv Y=>lG v acc Y) N) vN all2 all2 acc Y):=λf q acc Q E e0 hB J P=>by
 subst e0;refine hi f q _ E rfl (eE.bind .refl J P λ{v u} am M bJ qN bV aO=>?_);cases e:cG am.Y v with
 |none=>rw[e] at aO;exact aO.elim
 |some all=>
  rw[e] at aO;refine pZ bV e λkd o hk nv=>?_;let bw:=am.hide o hk.mx am.tk;have d:=am.hidden o hk.mx am.tk;have fz:=am.cS;have loop:=sC (R':=λr s'=>match r with
   | .ok _=>Q s'
   | .error x=>cameBackBy Mo f.A f.env E x s') (hT:=ML (f:=f) (t1:=t1) (i1:=i1) (iter:=qk) (sc:=sc) (pos:=pos)) (hF:=λM=>rfl) (ht:=ht) (hR:=IM dS hx) hB dS hn
   (Wj:=λe=>fz (by obtain⟨_,_,kb⟩:=qN.kW;rw[e];exact cB (f:=λp:Addr × Obj=>p.1) kb.mem)) (WT:=λe=>fz (by obtain⟨_,_,k1,_⟩:=qN.acc;rw[e];exact cB (f:=λp:Addr × Obj=>p.1) k1))
   (ZU:=λe=>fz (bJ.ext.adr _ e)) (hb:=q.below) (bJ.step rfl d) (qN.step d) (.head _) (am.rep.mv fz) hk (nv.mono λv x i=>d.wH i) e (aO.mono (λM x=>x) λC Y x=>(iK.held x).back q.ok.eframe)
  exact F0 loop (uK (bw.news _ (.head _)).1 hk loop)
theorem Ext.fresh {cs ρ bR:List Addr}{Z Z':Led}(e:Ext cs ρ Z bR Z')(h:∀a∈cs,a∉Z.map (·.1)):Ext [] ρ Z bR Z':=
 ⟨e.pre,λp hp hn M ht=>e.keep p hp hn (λhc=>h _ hc (cB hp)) ht,e.adr,e.new⟩
theorem wU {Z:Led}(hB:B∉Z.map (·.1))(hD:D∉Z.map (·.1)):∀a∈[B,D],a∉Z.map (·.1):=λq hq=>(aX.mp hq).elim (λe=>e▸hB) λe=>cK.mp e▸hD
structure IP (q:St f)(acc:aG)(Y:af)(B D:Addr)(q':St f):Prop where
 st:mV [] q q'
 sto:q'.Y=Y++[.list acc]
 val:q'.iv (.ref D) (.ref Y.length)
 kW:oA B q'.ρ q'.Z
 fresh:B∉q.Z.map (·.1)
theorem Bl.adopt {f':Fz}{q':St f'}(ef:f'.toFx=f.toFx)(em:f'.m=f.m)(J:Bl B D acc q')(a:Kp [B,D] q.bs q')(dS:B≠D)(hB:B∉q.Z.map (·.1))(hD:D∉q.Z.map (·.1))(hK:K.lookup D=none)(hb:(D==sysModules)=false):∃jw:St f,IP q acc q'.Y B D jw/\jw.s=q'.s:=by
 obtain⟨⟨ob,m₂,kb⟩,⟨vs,k,h1,h2,h3⟩⟩:=J;have gr:∀v x,q'.iv v x->bF (q'.ρ++[D]) q'.Z v x:=λv x i=>i.grow q'.rep.ndZ h1 hK iX.U iX.odd;have ex:=(a.ext.fresh (wU hB hD)).adopt hD;have T:KtsTurn f.fs q.b q'.b:=by have:=a.turn;rw[ef] at this;exact this
 refine bD (q.to q'.tk (by have:=q'.fr;rw[em,ef] at this;exact this) (by have:=q'.news;rw[ef] at this;exact this) (q'.rep.adopt h1 iX.odd h2 hK hb gr (ce:=.list acc) ⟨vs,k,rfl,h3.mono gr⟩) ex T) ⟨⟨ex,T⟩,rfl,ux q'.rep,⟨ob,m₂,kb.mem,λe=>(fb.mp e).elim kb.off λe=>dS (cK.mp e),kb.ns⟩,hB⟩ ?_;show({f.lY with heap:=q'.h,toks:=q'.tk}:Shared)={f'.lY with heap:=q'.h,toks:=q'.tk};rw[ef]
theorem IP.done {Y:af}{q':St f}{h':Heap}(e:IP q acc Y B D q')(hs:Heap.SameBut B q'.h h'):∃jw:St f,mV [] q jw/\jw.Y=Y++[.list acc]/\jw.iv (.ref D) (.ref Y.length)/\jw.s={q'.s with heap:=h'}:=by
 obtain⟨ob,m₂,kb⟩:=e.kW;have pl:=fC kb.ns;have ex:=e.st.ext.drop e.fresh;exact nV (q.to q'.tk (q'.fr.change hs (q'.news _ kb.mem).2.1 (q'.news _ kb.mem).2.2) (rI q'.news λz o' e' k=>(hs.2 z e').trans k) (q'.rep.drop kb.mem kb.off pl.1 pl.2) ex e.st.turn) ⟨ex,e.st.turn⟩ e.sto (e.val.drop q'.rep.ndZ kb.mem pl.1 pl.2) rfl
noncomputable def St.block (q:St f){h':Heap}{ob:Obj}(tk:Nat)(hs:Heap.SameBut q.h.objs.size (q.h.push {cls:=.type "dict",data:=.dict #[]}) h')(ho:h'.get? q.h.objs.size=some ob):St f:=
 have N':=q.news.push q.fr {cls:=.type "dict",data:=.dict #[]} rfl
 q.to tk ((q.fr.push _).change hs (N' _ (.head _)).2.1 (N' _ (.head _)).2.2) (λp hp=>(aX.mp hp).elim (λe=>by rw[e];exact⟨ho,(N' _ (.head _)).2⟩) λe=>⟨(hs.2 p.1 λe'=>q.cS (e'▸cB e)).trans (N' p (.tail _ e)).1,(N' p (.tail _ e)).2⟩) (q.rep.hide q.cS) (.hide q.cS q.rep) .refl
noncomputable def St.into (q:St f)(hi:okInner f.t.ns sc=true)(C:Addr):St (f.kW sc C):=
 {b:=q.b,h:=q.h,ρ:=q.ρ,Z:=q.Z,Y:=q.Y,tk:=q.tk,ok:=q.ok.kW hi,below:=q.below,dicts:=q.dicts,fr:=q.fr,news:=q.news,rep:=q.rep,lo:=q.lo.kW hi q.ok}
def UD (f:Fz)(E:du)(use:Option (Value->Sem Unit))(Q:du)(B D:Addr)(s:Shared):Prop:=match use with
 |none=>∀tz,Heap.SameBut B s.heap tz->Q (.ref D) {s with heap:=tz}
 |some u=>wpAny Mo f.A (u (.ref D)) (λM ri=>∃m,ri.heap.Ns B m/\∀tz,Heap.SameBut B ri.heap tz->Q .none {ri with heap:=tz}) E s
def IQ (r:Res (aG))(Qk:List V->af->Prop)(X:Nat->af->Prop):Prop:=match r with
 | .ok a Y=>Qk a Y
 | .exc C Y=>X C Y
 | .stuck=>False
theorem IQ.bind {r:Res V}{k:V->af->Res (aG)}{Qk:List V->af->Prop}{Q':du}(x:IQ (r.bind k) Qk (q.Fl [] E))(kk:∀{v u} (am:St f),mV [] q am->am.iv u v->IQ (k v am.Y) Qk (q.Fl [] E)->Q' u am.s):aE bF q r Q' E:=by
 cases r with
 |ok v Y'=>exact λu am a e i=>kk am a i (e▸x)
 |exc C Y'=>exact x
 |stuck=>exact x
abbrev AB (O:ar)(fn:Loc->List V->af->Res (aG))(fr:List (Option Nat))(ts:List Nat)(it:X)(N:Loc)(Y:af):Res (aG):=(aV O it N Y).bind λsrc Y=>fq (cG Y src) λall=>dk (jC ts fn (frees fr N)) src all all [] Y
variable {iter target:Expr} {ifs:List Expr}
theorem wV {rest:List Comprehension}{Rf:Addr->Rest}{use:Option (Value->Sem Unit)}{Q:du}
  (hi:okInner f.t.ns sc=true) (ht:slotsOf sc.names target=some ts) (hs:∀env x,foldedSetIterable iter env x=pure x) (hT:∀f aay D,mz f (.ListComp elt (⟨target,iter,ifs,0⟩::rest) sc pos) 0 (.ref aay) (.ref D) target (Rf D f)) (hF:∀D f N,Rf D (f.to f.m N)=Rf D f)
  (hR:∀B D,B≠D->FW (f.t.in sc) B D (Rf D) fn) (hx:cr f.t iter xi)
  (P:IQ (AB f.t.O fn (de f.t.ns sc.names) ts xi f.N q.Y) (λacc Y'=>∀(q':St f) B D,IP q acc Y' B D q'->UD f E use Q B D q'.s) (q.Fl [] E)):
  wpAny Mo f.A (comprehension (.ListComp elt (⟨target,iter,ifs,0⟩::rest) sc pos) sc f.env (firstIterPos (⟨target,iter,ifs,0⟩::rest) pos) (newList []) false (eval iter f.env) use) Q E q.s:=by
 refine xN (fH hi) λk1 k2 k3 k4=>?_;refine qO rfl (λx=>hs f.env x) (uI (iB hi q.ok)) k1 (λx hx hl=>bz k2 (by rw[<-hl];exact hx)) ?_;refine hx f q _ E rfl (P.bind λ{v u} am bJ bV aO=>?_);cases e:cG am.Y v with
 |none=>rw[e] at aO;exact aO.elim
 |some all=>
  rw[e] at aO;refine pZ bV e λkd o hk nv=>wpAny_newList ?_;let bw:=am.hide o hk.mx am.tk;let d5:=bw.hide (listOf ([]:List Value).toArray 0) rfl am.tk;refine wpAny_newFunctionEnv k3 (λM hy=>nomatch hy) (λnI BJ WU=>?_) k1;refine aI (LCg.ns_obj BJ) λob ho zr=>?_;let Au:=d5.block (am.tk+0) WU ho;have Yw:mV [] bw d5:=bw.hidden (listOf ([]:List Value).toArray 0) rfl am.tk;have Yx:mV [] d5 Au:=⟨.hide d5.cS d5.rep,.refl⟩;have d:=((am.hidden o hk.mx am.tk:mV [] am bw).trans rfl Yw).trans rfl Yx;have zI:=am.cS;have zD:=bw.cS;have zB:=d5.cS;have hbD:=bw.yh;have hBI:d5.h.objs.size≠am.h.objs.size:=λe=>zB (by rw[e];exact .tail _ (.head _));have ZX:d5.h.objs.size≠bw.h.objs.size:=λe=>zB (by rw[e];exact .head _);have hDZ:bw.h.objs.size∉q.Z.map (·.1):=λe=>zD (.tail _ (bJ.ext.adr _ e));have ZY:d5.h.objs.size∉q.Z.map (·.1):=λe=>zB (.tail _ (.tail _ (bJ.ext.adr _ e)));have Yy:Kp [d5.h.objs.size,bw.h.objs.size] q.bs (Au.into hi d5.h.objs.size):=⟨(bJ.ext.trans d.ext).weaken (λM q=>nomatch q),bJ.turn⟩;have dw:eE d5.h.objs.size bw.h.objs.size q.bs (f.kW sc d5.h.objs.size) (dk (jC ts fn (frees (de f.t.ns sc.names) f.N)) v all all [] am.Y) (λs'=>kC f.A E use Q (.ref bw.h.objs.size) (yx sc d5.h.objs.size f.env) (.ok .next) s') (my f.toFx d5.h.objs.size bw.h.objs.size q.bs λe s'=>kC f.A E use Q (.ref bw.h.objs.size) (yx sc d5.h.objs.size f.env) (.error e) s'):=by
   have aO:IQ (dk (jC ts fn (frees (de f.t.ns sc.names) f.N)) v all all [] am.Y) (λacc Y'=>∀(q':St f) B D,IP q acc Y' B D q'->UD f E use Q B D q'.s) (q.Fl [] E):=aO;revert aO;cases dk (jC ts fn (frees (de f.t.ns sc.names) f.N)) v all all [] am.Y with
   |stuck=>exact λP=>P
   |ok acc Y'=>
    intro aO q' a e J;rw[<-e] at aO;refine aI (Bl.adopt (f:=f) (f':=f.kW sc d5.h.objs.size) rfl rfl J a ZX ZY hDZ bw.rz hbD) λjw en es=>?_;have:=aO jw _ _ en;rw[es] at this;cases use with
    |none=>
     obtain⟨ob',m₂,kb⟩:=J.kW;exact bD m₂ (kb.ns.ns (q'.news _ kb.mem).1) this
    |some u=>exact this
   |exc C Y'=>
    intro aO m gg e bR Z' h' eS b F X U Rp Ex T J;obtain⟨ob',m₂,kb⟩:=J;refine LO X λB' a0 hB G8 hl SI M=>?_;have pl:=fC kb.ns;have er:kC f.A E use Q (.ref bw.h.objs.size) (yx sc d5.h.objs.size f.env) (.error (.ref e)) {f.lY with heap:=h',toks:=eS}=∃m,h'.Ns d5.h.objs.size m/\∀tz,Heap.SameBut d5.h.objs.size h' tz->wpAny Mo f.A (PySem.passOn "comprehension.variables-let-go" (.ref e) (yx sc d5.h.objs.size f.env):Sem Value) (λM M=>False) E {f.lY with heap:=tz,toks:=eS}:=by cases use<;>rfl
    show kC f.A E use Q (.ref bw.h.objs.size) (yx sc d5.h.objs.size f.env) (.error (.ref e)) {f.lY with heap:=h',toks:=eS};rw[er];refine bD m₂ (kb.ns.ns (SI _ _ (hl _ kb.mem).1:h'.get? d5.h.objs.size=some ob')) (λtz hs=>z9 q.ok.eframe (FV X kb.mem hs) (λz oz hz R0=>?_) λuM X' U'=>?_)
    ·refine aM (U z oz hz R0) λsl qz=>?_;exact⟨sl,(hs.2 z λe'=>by rw[e',((hl _ kb.mem).2.1:gg.get? d5.h.objs.size=none)] at hz;exact fB hz).trans qz⟩
    ·exact aO m gg e bR (ou Z' d5.h.objs.size) uM eS F (.inr (.inl X')) U' (Rp.drop kb.mem kb.off pl.1 pl.2) ((Ex.fresh (wU ZY hDZ)).drop ZY) T
  have loop:=sC (f:=f.kW sc d5.h.objs.size) (q:=Au.into hi d5.h.objs.size) (R':=kC f.A E use Q (.ref bw.h.objs.size) (yx sc d5.h.objs.size f.env)) (hT:=hT (f.kW sc d5.h.objs.size) am.h.objs.size bw.h.objs.size) (hF:=λN=>hF _ (f.kW sc d5.h.objs.size) N) (ht:=ht) (hR:=hR d5.h.objs.size bw.h.objs.size ZX) rfl ZX k2 (gb hBI) (gb (λe=>zD (by rw[e];exact .head _):bw.h.objs.size≠am.h.objs.size)) (λe=>zI (bJ.ext.adr _ e)) q.below Yy
   (⟨⟨ob,_,.head _,am.rep.mv λe=>zB (.tail _ (.tail _ e)),zr⟩,⟨_,_,.tail _ (.head _),am.rep.mv λe=>zD (.tail _ e),.nil⟩⟩:Bl d5.h.objs.size bw.h.objs.size [] (Au.into hi d5.h.objs.size)) (.tail _ (.tail _ (.head _))) (am.rep.mv zI) hk (nv.mono λv x i=>d.wH i) e dw
  exact codeAny_compStart_list loop (uK (Au.news _ (.tail _ (.tail _ (.head _)))).1 hk loop)
theorem IR {α β γ:Type}(o:Option α)(k:α->Res β)(g:β->af->Res γ):(fq o k).bind g=fq o λa=>(k a).bind g:=by cases o<;>rfl
theorem AC {O:ar}{fr:List (Option Nat)}{it:X}{N:Loc}{Y:af}:((aV O it N Y).bind λsrc Y=>fq (cG Y src) λall=>(dk (jC ts fn (frees fr N)) src all all [] Y).bind λvs Y=>alloc Y (.list vs))=(AB O fn fr ts it N Y).bind λvs Y=>alloc Y (.list vs):=
 (bH (Res.bind (aV O it N Y)) (funext λM=>funext λM=>(IR _ _ _).symm)).trans (Res.bind_assoc _ _ _).symm
abbrev Qu (O:ar)(cd:List X)(elt:X)(N:Loc)(acc:aG)(Y:af):Res (aG):=(jl O cd N Y).bind λb Y=>cond b ((aV O elt N Y).bind λv Y=>lG v acc Y) (.ok acc Y)
abbrev Qv (O:ar)(qj:List Nat)(qk elt:X)(N:Loc)(acc:aG)(Y:af):Res (aG):=(aV O qk N Y).bind λvN Y=>fq (cG Y vN) λall2=>dk (jC qj (λN acc Y=>(aV O elt N Y).bind λv Y=>lG v acc Y) N) vN all2 all2 acc Y
structure wW (t:Lv)(elt iter target:Expr)(ifs:List Expr)(rest:List Comprehension)(sc:Scope)(pos:Pos)(ts:List Nat)(xi xx:X)(Rf:Addr->Rest)(fn:Loc->List V->af->Res (aG)):Prop where
 hi:okInner t.ns sc=true
 ht:slotsOf sc.names target=some ts
 hs:∀env x,foldedSetIterable iter env x=pure x
 hT:∀f aay D,mz f (.ListComp elt (⟨target,iter,ifs,0⟩::rest) sc pos) 0 (.ref aay) (.ref D) target (Rf D f)
 hF:∀D f N,Rf D (f.to f.m N)=Rf D f
 hR:∀B D,B≠D->FW (t.in sc) B D (Rf D) fn
 hx:cr t iter xi
 he:∀N Y,aV t.O xx N Y=(AB t.O fn (de t.ns sc.names) ts xi N Y).bind λvs Y=>alloc Y (.list vs)
theorem wW.snd {rest:List Comprehension}{xx:X}{Rf:Addr->Rest}(H:wW t elt iter target ifs rest sc pos ts xi xx Rf fn):cr t (.ListComp elt (⟨target,iter,ifs,0⟩::rest) sc pos) xx:=λf q Q E e0 P=>by
 subst e0;rw[eval_ListComp];refine wV H.hi H.ht H.hs H.hT H.hF H.hR H.hx ?_;rw[H.he] at P;generalize AB f.t.O fn (de f.t.ns sc.names) ts xi f.N q.Y=r at P;cases r with
 |ok acc Y'=>
  intro q' B D en tz hs;refine uc (en.done hs) λjw a e i es=>?_;have:=P (.ref D) jw a e i;rw[es] at this;exact this
 |exc C Y'=>exact P
 |stuck=>exact P
theorem Qw {xc:List X}(hi:okInner t.ns sc=true)(ht:slotsOf sc.names target=some ts)(hs:∀l k p,iter≠.Set l k p)(hx:cr t iter xi)(hc:dy (t.in sc) ifs xc)(he:cr (t.in sc) elt xe):
  wW t elt iter target ifs [] sc pos ts xi (.comp (de t.ns sc.names) ts xi xc xe) (λD f=>IJ f ifs elt (.ref D)) (Qu t.O xc xe):=⟨hi,ht,lI hs,λM M M=>UA,λM M M=>rfl,λM M dS=>IN dS hc he,hx,λM M=>AC⟩
theorem Qx {ke zl:Expr}{qj:List Nat}{ZZ:X}(hi:okInner t.ns sc=true)(ht:slotsOf sc.names target=some ts)(SM:slotsOf sc.names zl=some qj)(hs:∀l k p,iter≠.Set l k p)(hs2:∀l k p,ke≠.Set l k p)(hx:cr t iter xi)(hx2:cr (t.in sc) ke ZZ)(he:cr (t.in sc) elt xe):
  wW t elt iter target [] [⟨zl,ke,[],0⟩] sc pos ts xi (.comp2 (de t.ns sc.names) ts xi qj ZZ xe) (λD f=>IK f ke (.ListComp elt [⟨target,iter,[],0⟩,⟨zl,ke,[],0⟩] sc pos) (.ref D)) (Qv t.O qj ZZ xe):=
 ⟨hi,ht,lI hs,λM M M=>UC (lI hs2),λM M M=>rfl,λM M dS=>IO dS (fH hi).2.1 SM hx2 he,hx,λM M=>AC⟩
end
noncomputable abbrev j3 (env:Env):List Addr:=env.cells.map (·.2)
def Cells (env:Env)(ρ:List Addr)(Z:Led):Prop:=∀a∈j3 env,∃o v,(a,o)∈Z/\a∉ρ/\o.data=.cell v
structure AD (f:Fz):Prop where
 locals:f.env.locals=f.L
 cellk:∀x,(x,NameKind.cell)∈f.t.ns->f.env.kindOf x=some .cell
 nodup:(f.t.ns.map (·.1)).Nodup
 cnd:(j3 f.env).Nodup
theorem AD.to {f:Fz}{m:ly}{l:Loc}(h:AD f):AD (f.to m l):=⟨h.locals,h.cellk,h.nodup,h.cnd⟩
structure Df {f:Fz}(q:St f):Prop where
 fn:AD f
 cells:Cells f.env q.ρ q.Z
abbrev Kc {f:Fz}(g:Bs)(q:St f):Prop:=Kp (j3 f.env) g q
noncomputable def CK (ρ:List Addr)(Z:Led):Option V->Flow->Prop
 |none,fl=>fl=.next
 |some v,fl=>∃u,fl=.ret u/\bF ρ Z u v
def gh (g:Bs)(f:Fz)(r:Res Loc)(Q:Shared->Prop)(E:du):Prop:=match r with
 | .ok loc' Y'=>∀m' (q':St (f.to m' loc')),Kc g q'->q'.Y=Y'->Df q'->Q q'.s
 | .exc C Y'=>Flew f.toFx (j3 f.env) g.ρ g.Z g.b E C Y'
 | .stuck=>False
def bC (g:Bs)(f:Fz)(r:Res fc)(Q:xP)(E:du):Prop:=match r with
 | .ok Sf Y'=>∀m' fl (q':St (f.to m' Sf.2)),Kc g q'->q'.Y=Y'->Df q'->CK q'.ρ q'.Z Sf.1 fl->Q fl q'.s
 | .exc C Y'=>Flew f.toFx (j3 f.env) g.ρ g.Z g.b E C Y'
 | .stuck=>False
def sD (t:Lv)(e:Expr)(x:T):Prop:=∀(f:Fz) (q:St f) (u:Value) (v:V) (Q:Shared->Prop) (E:du),f.t=t->Df q->q.iv u v->gh q.bs f (tG t.O x v f.N q.Y) Q E->wpAny Mo f.A (assign e f.env u) (λM s'=>Q s') E q.s
def gi (t:Lv)(W:Nat)(st:Stmt)(x:S):Prop:=∀(f:Fz) (q:St f) (Q:xP) (E:du),f.t=t->Df q->bC q.bs f (nO t.O W x f.N q.Y) Q E->wpAny Mo f.A (exec st f.env) Q E q.s
def nB (t:Lv)(W:Nat)(st:List Stmt)(x:List S):Prop:=∀(f:Fz) (q:St f) (Q:xP) (E:du),f.t=t->Df q->bC q.bs f (bZ t.O W x f.N q.Y) Q E->wpAny Mo f.A (execs st f.env) Q E q.s
section
variable {g:Bs} {f f':Fz} {q:St f} {am:St f'} {env:Env} {ρ bR:List Addr} {Z Z':Led} {E:du} {t:Lv} {u:Value} {v:V} {m':ly} {loc':Loc}
theorem Cells.ext (h:Cells env ρ Z)(e:Ext [] ρ Z bR Z'):Cells env bR Z':=λz hz=>by
 exact cZ (h z hz) λo v h1 h2 h3=>eT o v (e.keep _ h1 h2 dj (kZ h3).2.2.1) (e.old (cB h1) h2) h3
theorem Cells.plain (hn:(Z.map (·.1)).Nodup)(h:Cells env ρ Z):oh (j3 env) Z:=by
 rintro ⟨pa,po⟩ hp hc;refine cZ (h pa hc) λo v h1 M h3=>?_;have e:=gJ hn hp h1;exact e▸⟨(kZ h3).1,(kZ h3).2.1⟩
theorem Df.step {am:St f}(D:Df q)(a:mV [] q am):Df am:=⟨D.fn,D.cells.ext a.ext⟩
theorem Kp.weak {cs:List Addr}(d:Kp [] g am):Kp cs g am:=⟨d.ext.weaken (λM q=>nomatch q),d.turn⟩
theorem Df.oY {us:List Value}{vs:aG}(D:Df q)(a:mV (j3 f.env) q am)(i:q.oY us vs):am.oY us vs:=i.ext a.ext (D.cells.plain q.rep.ndZ) am.rep.apart
theorem gh.shift {r:Res Loc}{Q:Shared->Prop}(a:Kc g q)(x:gh g f r Q E):gh q.bs f r Q E:=by
 cases r with
 |ok loc' Y'=>exact λm' q' d e D=>x m' q' (Kp.trans (cs:=j3 f.env) (q':=q) rfl a d) e D
 |exc C Y'=>exact Flew.on x a.ext a.turn
 |stuck=>exact x
theorem bC.shift {r:Res fc}{Q:xP}(a:Kc g q)(x:bC g f r Q E):bC q.bs f r Q E:=by
 cases r with
 |ok fl Y'=>exact λm' fl q' d e D i=>x m' fl q' (Kp.trans (cs:=j3 f.env) (q':=q) rfl a d) e D i
 |exc C Y'=>exact Flew.on x a.ext a.turn
 |stuck=>exact x
theorem gh.bind {γ δ:Type}{R:Rl δ γ}{r:Res γ}{k:γ->af->Res Loc}{Q:Shared->Prop}{Q':δ->Shared->Prop}(D:Df q)(x:gh q.bs f (r.bind k) Q E)(kk:∀{v u} (am:St f),mV [] q am->Df am->R am.ρ am.Z u v->gh am.bs f (k v am.Y) Q E->Q' u am.s):aE R q r Q' E:=by
 cases r with
 |ok v Y'=>exact λu am d e i=>kk am d (D.step d) i<|e▸gh.shift d.weak x
 |exc C Y'=>exact Flew.less x
 |stuck=>exact x
theorem bC.bind {γ δ:Type}{R:Rl δ γ}{r:Res γ}{k:γ->af->Res fc}{Q:xP}{Q':δ->Shared->Prop}(D:Df q)(x:bC q.bs f (r.bind k) Q E)(kk:∀{v u} (am:St f),mV [] q am->Df am->R am.ρ am.Z u v->bC am.bs f (k v am.Y) Q E->Q' u am.s):aE R q r Q' E:=by
 cases r with
 |ok v Y'=>exact λu am d e i=>kk am d (D.step d) i<|e▸bC.shift d.weak x
 |exc C Y'=>exact Flew.less x
 |stuck=>exact x
theorem bC.wX {r:Res Loc}{k:Loc->af->Res fc}{Q:xP}{Q':Shared->Prop}(x:bC g f (r.bind k) Q E)(kk:∀{m' loc'} (am:St (f.to m' loc')),Kc g am->Df am->bC g f (k loc' am.Y) Q E->Q' am.s):gh g f r Q' E:=by
 cases r with
 |ok loc' Y'=>exact λm' am d e D=>kk am d D (e▸x)
 |exc C Y'=>exact x
 |stuck=>exact x
theorem gh.wX {r:Res Loc}{k:Loc->af->Res Loc}{Q Q':Shared->Prop}(x:gh g f (r.bind k) Q E)(kk:∀{m' loc'} (am:St (f.to m' loc')),Kc g am->Df am->gh g f (k loc' am.Y) Q E->Q' am.s):gh g f r Q' E:=by
 cases r with
 |ok loc' Y'=>exact λm' am d e D=>kk am d D (e▸x)
 |exc C Y'=>exact x
 |stuck=>exact x
theorem bC.OQ {r:Res fc}{k:fc->af->Res fc}{Q Q':xP}(x:bC g f (r.bind k) Q E)(kk:∀{m' rv loc' fl} (am:St (f.to m' loc')),Kc g am->Df am->CK am.ρ am.Z rv fl->bC g f (k (rv,loc') am.Y) Q E->Q' fl am.s):bC g f r Q' E:=by
 cases r with
 |ok Sf Y'=>exact λm' fl am d e D i=>kk am d D i (e▸x)
 |exc C Y'=>exact x
 |stuck=>exact x
theorem bC.re {r:Res fc}{k:fc->af->Res fc}{Q Q':xP}(a:Kc g q)(x:bC g f (r.bind k) Q E)(kk:∀{m' rv loc' fl} (am:St (f.to m' loc')),mV (j3 f.env) q am->Kc g am->Df am->CK am.ρ am.Z rv fl->bC g f (k (rv,loc') am.Y) Q E->Q' fl am.s):bC q.bs f r Q' E:=by
 cases r with
 |ok Sf Y'=>exact λm' fl am d e D i=>kk am d (Kp.trans (cs:=j3 f.env) (q':=q) rfl a d) D i (e▸x)
 |exc C Y'=>exact Flew.on x a.ext a.turn
 |stuck=>exact x
theorem bC.mono {r:Res fc}{Q Q':xP}{E E':du}(x:bC g f r Q E)(hq:∀f s,Q f s->Q' f s)(he:∀C Y,Flew f.toFx (j3 f.env) g.ρ g.Z g.b E C Y->Flew f.toFx (j3 f.env) g.ρ g.Z g.b E' C Y):bC g f r Q' E':=by
 cases r with
 |ok Sf Y'=>exact λm' fl q' a e D i=>hq _ _<|x m' fl q' a e D i
 |exc C Y'=>exact he _ _ x
 |stuck=>exact x
theorem bC.on {r:Res fc}{Q:xP}(x:bC g f r Q E):bC g (f.to m' loc') r Q E:=x
theorem lJ {l:vQ}{x:Str}{a:Addr}(h:l.lookup x=some a):(x,a)∈l:=by
 induction l with
 |nil=>exact fB h
 |cons p r ih=>
  obtain⟨y,z⟩:=p;rw[kL] at h;cases e:x==y with
  |true=>rw[e] at h;rw[eq_of_beq e,<-(aT h:z=a)];exact .head _
  |false=>rw[e] at h;exact .tail _<|ih h
theorem F3 {x y:Str}{a:Addr}(hn:(j3 env).Nodup)(h1:env.cells.lookup x=some a)(h2:env.cells.lookup y=some a):x=y:=by
 refine aM (jb<|lJ h1) λi hi=>aM (jb<|lJ h2) λj hj=>?_;have e1:(j3 env)[i]?=some a:=by rw[fP,hi];rfl
 have e2:(j3 env)[j]?=some a:=by rw[fP,hj];rfl
 have:=(ub (bM.mp e1).1 hn).mp<|e1.trans e2.symm
 rw[this,hj] at hi;exact bH Prod.fst (aT hi).symm
theorem p5 {i:Nat}{nm:Str}{k:NameKind}{Q:zA}(hi:f.t.ns[i]?=some (nm,k))(hk:k=.local∨k=.cell)(D:Df q)(iu:q.iv u v)(hQ:∀m' (q':St (f.to m'<|f.N.set i<|some v)),mV (j3 f.env) q q'->q'.Y=q.Y->Df q'->Q () q'.s):wpAny Mo f.A (bindName f.env nm u) Q E q.s:=by
 have tA:=fN hi;rcases hk with rfl | rfl
 ·have LH:=q.ok.local' nm tA;refine wpAny_bindName<|wpAny_storeName_local LH (D.fn.locals▸q.fr.ns) (λh' BJ hs=>?_) (by rw[q.ok.kind];rfl)
  rw[D.fn.locals] at BJ hs;have N':News q.b f.L h' q.Z:=λp hp=>⟨(hs.2 p.1 (q.news p hp).2.1).trans (q.news p hp).1,(q.news p hp).2⟩;have L':=gf.set (m':=λy=>if y=nm then some u else f.m y) D.fn.nodup hi q.lo iu (λM M i=>i) (.here LH D.fn.locals<|if_pos rfl) λx u' dS lk=>by
   cases lk with
   |here a b c=>exact .here a b<|(if_neg dS).trans c
   |kW o m₂ a b c d e=>exact .kW o m₂ a b c d e
   |cell z o a b c d e=>exact .cell z o a b c d e
  exact hQ _ (q.set _ (q.fr.set BJ hs) N' q.rep L') ⟨.refl,.refl⟩ rfl ⟨D.fn.to,D.cells⟩
 ·have LH:=D.fn.cellk nm tA;refine BY (q.ok.cell nm .cell tA<|.inl rfl) λ_ ca Lj=>?_;have BU:=cB (f:=λp:Str × Addr=>p.2)<|lJ Lj
  refine cZ (D.cells ca BU) λo aao c1 c2 c3=>wpAny_bindName<|wpAny_storeName_cell q.ok.kind LH Lj ⟨o,(q.news _ c1).1,c3⟩ λh' hv hs=>?_
  refine aI hv λo' DM zs=>?_;have pl:=kZ c3;have kk:∀v x,q.iv v x->bF q.ρ (gw q.Z ca o') v x:=λv x i=>i.ext Ext.swap (gy q.rep.ndZ c1 pl.1 pl.2) q.rep.apart;have L':=gf.set D.fn.nodup hi q.lo (kk _ _ iu) kk (.cell ca o' (.inl LH) Lj (gz c1) c2 zs) λx u' dS lk=>by
   cases lk with
   |here a b c=>exact .here a b c
   |kW _ _ _ g1 _ _ _=>exact absurd D.fn.locals (q.news _ g1).2.1
   |cell a kU mm g1 g2 g3 g4=>exact .cell a kU mm g1 (hY _ _ g2 λe=>dS<|F3 D.fn.cnd g1 (e▸Lj)) g3 g4
  have F':=q.fr.change hs (q.news _ c1).2.1 (q.news _ c1).2.2;have N':=jP q.news c1 DM hs;have R':=q.rep.swap (o':=o') c1 c2 pl.1 pl.2;refine hQ _ (q.set _ F' N' R' L') ⟨Ext.swap.weaken λM q=>cK.mp q▸BU,.refl⟩ rfl ⟨D.fn.to,λz hz=>?_⟩;refine cZ (D.cells z hz) λoz vz z1 z2 z3=>?_;by_cases e:z=ca
  ·rw[e];exact eT o' _ (gz c1) c2 zs
  ·exact eT oz vz (hY _ _ z1 e) z2 z3
end
section
inductive jp (t:Lv):List Expr->List T->Prop
 |nil:jp t [] []
 |cons {e:Expr} {r:List Expr} {x:T} {xs:List T}:(∀env,assignEach (e::r) env=(false,assign e env)::assignEach r env)->(∀id p,e=.Name id p->∃i,x=.l i/\pG t.ns id=some i)->sD t e x->jp t r xs->jp t (e::r) (x::xs)
variable {f:Fz} {q:St f} {E:du} {t:Lv} {u:Value} {v:V} {p:Pos} {e cz:Expr} {xe xi:X} {nm:Str} {l:List Expr} {ts:List T}
theorem uO {ns:Ns}{x:Str}{i:Nat}(h:pG ns x=some i):∃k,ns[i]?=some (x,k)/\(k=.local∨k=.cell):=by
 exact cN (Ck h) λh1 h2=>BY (mW h1) λ_ k hk=>bD k hk<|(Mc h2).imp (mw hk)<|mw hk
theorem uP {i:Nat}(hi:pG t.ns nm=some i):sD t (.Name nm p) (.l i):=λf q u v Q E e0 D iu P=>by
 subst e0;refine aI (uO hi) λk hk mm=>?_;rw[arm_assign_Name];exact av<|f8<|p5 hk mm D iu λm' q' a e D'=>P m' q' a e D'
theorem gh.done {Q:Shared->Prop}(D:Df q)(P:gh q.bs f (.ok f.N q.Y) Q E)(am:St f)(a:mV [] q am)(e:am.Y=q.Y):Q am.s:=P f.m am a.weak e<|D.step a
theorem gh.unit {r:Res Unit}{Q:Shared->Prop}{Q':zA}(D:Df q)(P:gh q.bs f (r.bind λM Y=>.ok f.N Y) Q E)(h:∀s,Q s->Q' () s):aE WH q r Q' E:=P.bind D λM M fu M aO=>h _<|aO.done fu _ .refl rfl
theorem CL (hT:tL)(he:cr t e xe):sD t (.Attribute e nm p) (.attr xe nm):=λf q u v Q E e0 D iu P=>by
 rw[arm_assign_Attribute];refine av<|dF<|he f q _ E e0<|P.bind D λ{nH ov} am bJ fu bV aO=>av<|f8<|av<|dF ?_
 by_cases hm:db am.Y nH nm=true
 ·rw[if_pos hm] at aO;refine jI (uF hT hm) λaay e1 hC hl=>?_;cases e2:iV am.Y nH nm v with
  |none=>rw[e2] at aO;exact aO.elim
  |some ax=>
   rw[e2] at aO;exact FA hC hl e1 bV (bJ.wH iu) e2<|gh.unit fu aO λM h=>wpAny_release h
 ·rw[if_neg hm] at aO;exact aO.elim
theorem F4 (he:cr t e xe)(hi:cr t cz xi):sD t (.Subscript e cz p) (.sub xe xi):=λf q u v Q E e0 D iu P=>by
 rw[arm_assign_Subscript];refine av<|dF<|he f q _ E e0<|P.bind D λ{nH ov} am bJ fu bV aO=>av<|dF<|hi f am _ E e0<|aO.bind fu λ{we iv} bw bK uQ iA dw=>av<|f8<|av<|dF ?_
 cases e2:iW bw.Y nH we v with
 |none=>rw[e2] at dw;exact dw.elim
 |some bB=>
  rw[e2] at dw;exact FB (bK.wH bV) iA (bK.wH<|bJ.wH iu) e2<|gh.unit uQ dw λM h=>wpAny_release h
theorem Qy (ht:jp t l ts):∀(f:Fz) (q:St f) (us:List Value) (vs:aG) (Q:Shared->Prop) (E:du),f.t=t->Df q->q.oY us vs->gh q.bs f (ru t.O ts vs f.N q.Y) Q E->wpAny Mo f.A (assignInOrder ((assignEach l f.env).map (·.2)) us) (λM s'=>Q s') E q.s:=by
 induction ht with
 |nil=>
  intro f q us vs Q E e0 D iu P;cases vs with
  |nil=>rw[iu.jO];exact aW<|gh.done D P q .refl rfl
  |cons _ _=>exact P.elim
 |@cons e r x xs he _ hx hr ih=>
  intro f q us vs Q E e0 D iu P;cases vs with
  |nil=>exact P.elim
  |cons v vs=>
   refine iu.ej λi is=>?_;rw[he];exact av<|dF<|hx f q _ _ _ E e0 D i<|P.wX λ{m' loc'} am bJ fu aO=>ih (f.to m' loc') am _ _ Q E e0 fu (D.oY bJ is)<|gh.shift bJ aO
theorem jp.len (ht:jp t l ts):ts.length=l.length:=by
 induction ht with
 |nil=>rfl
 |cons _ _ _ _ ih=>exact bH (· +1) ih
theorem jp.noStar {env:Env}(ht:jp t l ts):(assignEach l env).findIdx? (·.1)=none:=by
 induction ht with
 |nil=>rfl
 |cons he _ _ _ ih=>rw[he,List.findIdx?_cons,ih];rfl
theorem wY {k:Nat}(ht:jp t l ts):sD t (.Tuple l k p) (.U ts):=λf q u v Q E e0 D iu P=>by
 have P:gh q.bs f (fq (jY q.Y v) λkl=>if kl.2.length=ts.length then ru t.O ts kl.2 f.N q.Y else .stuck) Q E:=P;cases e:jY q.Y v with
 |none=>rw[e] at P;exact P.elim
 |some kl=>
  rw[e] at P;have P:gh q.bs f (if kl.2.length=ts.length then ru t.O ts kl.2 f.N q.Y else .stuck) Q E:=P;by_cases hl:kl.2.length=ts.length
  ·rw[if_pos hl] at P;rw[arm_assign_Tuple];refine av<|f8 ?_
   unfold unpack;rw[ht.noStar,ot,show l.length=kl.2.length by rw[hl,ht.len]];exact av<|dF<|uG iu e λus bx hk Wg M=>Qy ht f (q.grow hk q.tk) us kl.2 Q E e0 (D.step ⟨.refl,.refl⟩) Wg P
  ·rw[if_neg hl] at P;exact P.elim
end
section
variable {g:Bs} {f:Fz} {q:St f} {E:du} {t:Lv} {W:Nat} {u:Value} {v:V} {p pos:Pos} {e:Expr} {xe:X} {l:List Expr} {sl eu kj:List Stmt} {xl jo jQ:List S} {s:Shared} {A:Around} {env:Env}
theorem AE {e:Expr}(h1:∀a b c p,e≠.ListComp a b c p)(h2:∀a b c p,e≠.SetComp a b c p)(h3:∀a b c d p,e≠.DictComp a b c d p)(t:Option Expr)(l:Nat)(env:Env):swapsWith e t l env=pure false:=by
 cases e with
 |ListComp=>exact absurd rfl<|h1 _ _ _ _
 |SetComp=>exact absurd rfl<|h2 _ _ _ _
 |DictComp=>exact absurd rfl<|h3 _ _ _ _ _
 |_=>rfl
variable {Q:xP}
theorem m5 {t value:Expr}(h:wpAny Mo A (eval value env) (λv eu=>wpAny Mo A (assign t env v) (λM=>Q .next) E eu) E s)(ht:assignEach [t] env=[(false,assign t env)])
  (hs:swapsWith value (some t) pos.line env=pure false) (hw:swappedStores [t] value env=pure none):wpAny Mo A (exec (.Assign [t] value pos) env) Q E s:=by
 rw[exec_Assign];refine av<|f8 ?_
 rw[show swapsWithSole [t] value pos.line env=pure false from hs];refine av<|aW ?_
 rw[if_neg<|by decide];refine av<|cC h (λv eu bx=>?_) λM M x=>x
 rw[hw];refine av<|aW ?_
 rw[ht];exact av<|cC bx (λM M x=>aW x) λM M x=>x
theorem IS (hs:∀t l env,swapsWith e t l env=pure false)(he:cr t e xe):gi t W (.Expr e pos) (.ex xe):=λf q Q E e0 D P=>by
 rw[exec_Expr f.env e pos (by unfold interactive;rw[q.ok.kind];rfl)<|hs _ _ _];refine av<|f8<|av<|he f q _ E e0<|P.bind D λ{v u} am bJ fu bV aO=>?_
 cases v with
 |none=>
  rw[bV.wF,dropValue_plain λM e=>Value.noConfusion e];exact aW<|aO f.m .next am .refl rfl fu rfl
 |_=>exact aO.elim
theorem bC.next {m':ly}{loc':Loc}{am:St (f.to m' loc')}(P:bC g f (.ok (none,loc') am.Y) Q E)(a:Kc g am)(D:Df am):Q .next am.s:=P m' .next am a rfl D rfl
theorem bC.ret {m':ly}{loc':Loc}{am:St (f.to m' loc')}(P:bC g f (.ok (some v,loc') am.Y) Q E)(a:Kc g am)(D:Df am)(i:am.iv u v):Q (.ret u) am.s:=P m' (.ret u) am a rfl D ⟨u,rfl,i⟩
theorem p6 {d:Expr}{xt:T}(hst:∀env,assignEach [d] env=[(false,assign d env)])(hs:∀l env,swapsWith e (some d) l env=pure false)(hw:∀env,swappedStores [d] e env=pure none)(he:cr t e xe)(ht:sD t d xt):gi t W (.Assign [d] e pos) (.set xt xe):=λf q Q E e0 D P=>
 m5 (he f q _ E e0<|P.bind D λam bJ fu bV aO=>ht f am _ _ _ E e0 fu bV<|aO.wX λbw bK uQ dw=>dw.next bK uQ) (hst f.env) (hs _ _) (hw _)
theorem CM (he:cr t e xe):gi t W (.Return (some e) pos) (.ret xe):=λf q Q E e0 D P=>
 wpAny_Return_some (he f q _ E e0<|P.bind D λam bJ fu bV aO=>bC.ret aO .refl fu bV)
theorem Ec:nB t W [] []:=λf q Q E e0 D P=>wpAny_execs_nil<|bC.next P .refl D
theorem AF {st:Stmt}{x:S}(bx:gi t W st x)(eo:nB t W sl xl):nB t W (st::sl) (x::xl):=λf q Q E e0 D P=>by
 refine wpAny_execs_cons<|bx f q _ E e0 D<|bC.OQ P λ{m' rv loc' fl} am bJ fu bV aO=>?_
 cases rv with
 |none=>
  rw[show fl=.next from bV];exact eo (f.to m' loc') am Q E e0 fu<|bC.shift bJ aO
 |some v=>
  refine aI bV λu dZ iu=>?_;subst dZ;exact bC.ret aO bJ fu iu
theorem bC.bindB {r:Res Bool}{k:Bool->af->Res fc}{Q':Bool->Shared->Prop}(D:Df q)(x:bC q.bs f (r.bind k) Q E)(kk:∀{v} (am:St f),mV [] q am->Df am->bC am.bs f (k v am.Y) Q E->Q' v am.s):aE OI q r Q' E:=x.bind D λam a D i P=>i▸kk am a D P
theorem Qz (he:pq t e xe)(bx:nB t W eu jo)(eo:nB t W kj jQ):gi t W (.If e eu kj pos) (.ite xe jo jQ):=λf q Q E e0 D P=>by
 refine wpAny_If<|he f q _ E e0<|bC.bindB D P λ{v} am bJ fu aO=>?_
 cases v with
 |true=>exact bx f am Q E e0 fu aO
 |false=>exact eo f am Q E e0 fu aO
theorem Flew.IT {cs ρ:List Addr}{Z:Led}{HI:Heap}{C:Nat}{Y:af}(hB:∃A₀:Around,Below A₀ f.base f.outer HI)(ok:Ok f.toFx f.t f.env)(x:Flew f.toFx cs ρ Z HI E C Y):Flew f.toFx cs ρ Z HI (notedBy Mo f.A f.env λe s'=>cameBackBy Mo f.A f.env E e s') C Y:=by
 intro m g e bR Z' h' eS b F X U Rp Ex T;refine aM hB λA₀ Bl=>?_;exact mU (kX Bl T) F ok.frame ok.fkind ok.frames ok.eframe X U λg' tz F' R' U'=>
  pH ok.eframe R' U' λmZ X' F5=>x m g' e bR Z' mZ eS F' (.inr<|.inl X') F5 Rp Ex T
inductive WhileI (f:Fz)(F:Nat->Loc->af->Res fc)(Q:xP)(E:du)(k:Nat):Shared->Prop
 |mk {m:ly} {N:Loc} (q:St (f.to m N)) (D:Df q) (P:bC q.bs f (F k N q.Y) Q E):WhileI f F Q E k q.s
abbrev whF (O:ar)(W:Nat)(xe:X)(xl:List S):Nat->Loc->af->Res fc:=jm (λN Y=>da<|aV O xe N Y) λN Y=>bZ O W xl N Y
theorem F6 (he:pq t e xe)(hl:nB t W sl xl):gi t W (.While e sl [] pos) (.whl xe xl):=λf q Q E e0 D P=>by
 subst e0;have P:=P;have P:=bC.mono P (λM M x=>x) λC Y x=>Flew.IT q.below q.ok x;refine wpAny_While<|codeAny_whileLoop (WhileI f (whF f.t.O W xe xl) Q _) ?_ W ⟨q,D,P⟩
 intro k s' x
 induction x with | @mk m N q D P=>?_
 cases k with
 |zero=>exact P.elim
 |succ k=>
  refine he (f.to m N) q _ _ rfl<|bC.bindB D P λ{v} am bJ fu aO=>?_
  cases v with
  |false=>exact wpAny_execs_nil<|bC.next (f:=f.to m N) (m':=m) (am:=am) aO .refl fu
  |true=>
   refine hl (f.to m N) am _ _ rfl fu<|bC.OQ aO λ{m' rv loc' fl} bw bK uQ iA dw=>?_
   cases rv with
   |none=>
    rw[show fl=.next from iA];exact bD k (Nat.lt_succ_self _)<|WhileI.mk (f:=f) (m:=m') (N:=loc') bw uQ<|bC.shift (f:=f.to m' loc') bK dw
   |some v=>
    refine aI iA λu mu iu=>?_;subst mu;exact bC.ret dw bK uQ iu
inductive QA (g:Bs)(f:Fz)(aay:Addr)(kd:G4)(v:V)(all:aG)(F:V->Loc->af->Res fc)(Q:xP)(E:du):Nat->Shared->Prop
 |mk {k:Nat} {m:ly} {N:Loc} {o:Obj} (q:St (f.to m N)) (a:Kc g q) (D:Df q) (hI:(aay,o)∈q.Z) (hr:aay∉q.ρ) (hk:om kd k o) (hs:lH q.ρ q.Z kd v) (e:cG q.Y v=some all) (hle:k<=all.length)
  (P:bC g f (forL F v all (all.drop k) N q.Y) Q E):QA g f aay kd v all F Q E (all.length - k) q.s
theorem Cells.own {ρ:List Addr}{Z Z':Led}{aay:Addr}(h:Cells env ρ Z)(hI:aay∉j3 env)(k:∀z oz,(z,oz)∈Z->z≠aay->(z,oz)∈Z'):Cells env ρ Z':=λz hz=>
 let ⟨oz,vz,z1,z2,z3⟩:=h z hz;⟨oz,vz,k _ _ z1 λe=>hI (e▸hz),z2,z3⟩
abbrev Yz (O:ar)(W:Nat)(xt:T)(xl:List S):V->Loc->af->Res fc:=λv N Y=>(tG O xt v N Y).bind λN Y=>bZ O W xl N Y
theorem MM {d e:Expr}{xt:T}{xe:X}(hs:∀l k p,e≠.Set l k p)(ht:sD t d xt)(he:cr t e xe)(hl:nB t W sl xl):gi t W (.For d e sl [] pos) (.for xt xe xl):=λf q Q E e0 D P=>by
 subst e0;refine wpAny_For (he f q _ E rfl<|P.bind D λ{v u} am bJ fu bV aO=>?_)<|lI hs f.env
 cases e1:cG am.Y v with
 |none=>rw[e1] at aO;exact aO.elim
 |some all=>
  rw[e1] at aO;have aO:=aO;refine pZ bV e1 λkd o hk nv=>?_;let bw:=am.hide o hk.mx am.tk;have MN:=am.hidden o hk.mx am.tk;have fz:=am.cS;have Z0:am.h.objs.size∉j3 f.env:=λe=>fz (by obtain⟨o,v,k1,_⟩:=fu.cells _ e;exact cB k1);have dw:=bC.mono aO (λM M x=>x) λC Y x=>Flew.IT am.below am.ok x;refine codeAny_forLoop_any (QA am.bs f am.h.objs.size kd v all (Yz f.t.O W xt xl) Q _) (λn' s' x=>?_) (all.length - 0) ⟨bw,MN.weak,fu.step MN,.head _,am.rep.mv fz,hk,nv.mono λv x i=>MN.wH i,e1,pC _,dw⟩;clear dw MN nv;clear bw;clear hk aO e1 P bV
  induction x with | @mk k m N o q a D hI hr hk hs e hle P=>?_
  have ow:=Az hk;refine wT hs e (q.news _ hI).1 hk (λv' hv x bx kU ID AA iS oo ix=>?_) λhv bx he=>?_
  ·refine aM (bM.mp hv) λmM ev=>?_;rw[List.drop_eq_getElem_cons mM,ev] at P;have kk:=q.MJ (o':=kU) hI ow;have N':=jP q.news hI AA oo;let d5:=q.own ID hI hr ow (q.fr.change oo (q.news _ hI).2.1 (q.news _ hI).2.2) N';have mB:Kc am.bs d5:=⟨a.ext.yg fz,a.turn⟩;have UE:Df d5:=⟨D.fn,D.cells.own Z0 hY⟩;have P:=P;refine IB AA iS ?_;refine ht (f.to m N) d5 x v' _ _ rfl UE (kk _ _ ix)<|bC.wX (f:=f.to m N) (bC.re (f:=f.to m N) (q:=d5) mB P ?k) λ{m' loc'} Au jR YA YB=>hl (f.to m' loc') Au _ _ rfl YA<|bC.shift (f:=f.to m' loc') jR<|bC.on (f:=f.to m N) YB
   intro m' rv loc' fl QC QD AG UF UG MO;cases rv with
   |none=>
    rw[show fl=.next from UG];refine cN (Ea (P:=λr=>bC am.bs f r Q _) id MO) λZV MO=>?_;have hm:(am.h.objs.size,kU)∈d5.Z:=gz hI;exact bD _ (Nat.sub_succ_lt_self _ _ mM)<|QA.mk (f:=f) (m:=m') (N:=loc') QC AG UF (QD.ext.keep _ hm hr Z0 iS.plain.2.2.1) (QD.ext.old (cB hm) hr) iS (lH.ext QD.ext (UE.cells.plain d5.rep.ndZ) QC.rep.apart<|hs.mono kk) (uJ e ZV) mM MO
   |some aap=>
    refine aI UG λu uu iu=>?_;subst uu;exact MO m' (.ret u) QC AG rfl UF ⟨u,rfl,iu⟩
  ·rw[List.drop_eq_nil_of_le<|zw.mp hv] at P;exact wpAny_execs_nil<|bC.next (f:=f) (am:=q.gone hI hr ow he) P ⟨Ext.drop a.ext fz,a.turn⟩ ⟨D.fn,D.cells.own Z0 λM M h e=>dN.mpr ⟨h,e⟩⟩
end
def uR (C:Addr):Prop:=
 ∀{A A₀:Around} {E:du} {s:Shared} {base h₀:Heap} {outer:List Env} {L:Addr} {m:ly} {env:Env} {p:Program} {loose:cY} {j7:ExcName->Option Value} {mg mb:ly} {x:Str} {t1 t2:Tok} {k:Int} {Q:du},
  Below A₀ base outer h₀->Fr h₀ L s.heap m->K.In h₀->Top p loose j7 mg mb h₀->(A.under (.builtin "type.__call__" ⟨.ref C::[.str x t1,.int k t2],[]⟩)).frames=some (env::outer)->env.frame=some L->env.scope.kind=.function->
  (A.under (.builtin "type.__call__" ⟨.ref C::[.str x t1,.int k t2],[]⟩)).depth<recursionLimit->
  (∀h' eS e,xS s.heap h' e (.ref C)->Q (.ref e) {s with heap:=h',toks:=eS})->wpAny Mo A (call (.ref C) [.str x t1,.int k t2]) Q E s
theorem CN {A:Around}{E:du}{s:Shared}{env:Env}{C:Addr}{xs:Sem Value}{Q:xP}(O:nW K C)(hh:A.handled=none)
  (h:wpAny Mo A xs (λv eu=>∃e h,v=.ref e/\K.In eu.heap/\xS h eu.heap e (.ref C)/\E (.ref e) eu) E s):wpAny Mo A (raiseStmt env (some xs) none) Q E s:=by
 have hcB:∀D,(Value.ref C::.ref D::wC).contains (.type "BaseException")=true:=by intro D;simp
 refine av<|cC h (λv eu bx=>?_) λM M x=>x
 refine sU bx λe h dZ X hn hE=>?_;subst dZ;obtain⟨nm,q,NN,bs,D,sn,sub,ab,col,dd,k0,k1,k2,k3,k5,hC⟩:=O.cls;obtain⟨hp,g,d,tk,os⟩:=eu;refine cZ hn.there λob t he wt hd=>?_;have hC':=X _ _ hC;clear hC hn O h X
 repeat (first | (with_reducible refine lD he ?_;rw[wt]) | with_reducible refine lD he ?_ | with_reducible refine lD hC' ?_ | (with_reducible refine wpAny_isSubtype_exc hC' ?_;rw[hcB]) | rw[hd] | wp_step)
 exact wpAny_raiseNew_none hh hE
theorem QE {C:Prop}{g:Bs}{f:Fz}{D:Nat}{nH we:V}{Y:af}{Q:xP}{E:du}(P:bC g f (Cf D nH we Y) Q E)(k:∀s i,nH=.str s->we=.int i->Flew f.toFx (j3 f.env) g.ρ g.Z g.b E D Y->C):C:=by
 cases nH with
 |str s=>
  cases we with
  |int i=>exact k s i rfl rfl P
  |_=>exact P.elim
 |_=>exact P.elim
theorem F7 {t:Lv}{W:Nat}{x:Str}{np Z1 pos:Pos}{bA cz:Expr}{jo jQ:X}{C:Nat}(hn:iI t.ns x=true)(hx:nsIn K mainGlobals x=some (some<|.ref C))(hk:keepIn K (.ref C)=true)(OE:nW K C)(aaw:uR C)(hl:dy t [bA,cz] [jo,jQ]):
  gi t W (.Raise (some<|.Call (.Name x np) [bA,cz] [] Z1) none pos) (.raise C jo jQ):=λf q Q E e0 D P=>by
 rw[arm_exec_Raise];refine av<|f8<|CN OE q.ok.hh ?_
 refine av<|cC (wpAny_Call_ofName<|oi (e0▸hn) hx<|km hl hk ?_) (λv eu bx=>av<|f8<|aW bx) λM M y=>y
 cases hl with | cons eu bx _ r=>?_
 cases r with | cons kj eo _ r=>?_
 refine wpAny_items_cons (bx f q _ E e0<|P.bind D λ{nH HT} am bJ fu bV aO=>wpAny_items_cons (eo f am _ E e0<|aO.bind fu λ{we P6} bw bK uQ iA dw=>?_)<|kj f.env _)<|eu f.env _
 refine QE dw λy k e1 e2 dw=>?_;have bV:=bK.wH bV;rw[e1] at bV;rw[e2] at iA;cases r;refine bV.pW λt1=>iA.ta λt2=>wpAny_items_nil ⟨bw.sx,?_⟩;refine ue bw.top λp loose j7 mg mb T=>aM bw.below λA₀ Bl=>?_;have hd:(f.A.under (.builtin "type.__call__" ⟨.ref C::[.str y t1,.int k t2],[]⟩)).depth<recursionLimit:=by have:=q.ok.depth;show f.A.depth+1<_;omega
 exact aaw Bl bw.fr bw.SD T q.ok.frames q.ok.frame q.ok.fkind hd λh' eS e hn=>⟨e,_,rfl,bw.sx.keeps hn.keeps,hn,dw f.m bw.h e bw.ρ bw.Z h' eS bw.fr (.inr<|.inr ⟨hn,bw.news⟩) (Heap.UpToSlots.of_keeps hn.keeps) bw.rep .refl .refl⟩
section
variable {f:Fz} {q:St f} {t:Lv} {W:Nat} {B:Addr} {o:Obj} {m₂:ly} {h':Heap}
theorem yz (h:LCg.NsObj o m₂):¬wa o:=λt=>by obtain⟨ps,e⟩:=qC t;obtain⟨es,ep,e1,_⟩:=h;exact Data.noConfusion<|e1.symm.trans e
theorem gf.wZ (D:Df q)(hm:(B,o)∈q.Z)(hn:LCg.NsObj o m₂):gf f q.ρ (ou q.Z B):=λi x k' v' e1 e2=>by
 have pl:=fC hn;refine aI (q.lo i x k' v' e1 e2) λu' Wf lk=>bD u' (Wf.drop q.rep.ndZ hm pl.1 pl.2) ?_;cases lk with
 |here a b c=>exact .here a b c
 |kW _ _ _ g1 _ _ _=>exact absurd D.fn.locals (q.news _ g1).2.1
 |cell z kU mm g1 g2 g3 g4=>
  refine .cell z kU mm g1 (dN.mpr ⟨g2,λe=>?_⟩) g3 g4;rw[(gJ q.rep.ndZ g2 (by rw[show z=B from e];exact hm):kU=o)] at g4;exact gm hn λes ep e1 M=>Data.noConfusion<|g4.symm.trans e1
def St.wZ (q:St f)(D:Df q)(hm:(B,o)∈q.Z)(hr:B∉q.ρ)(hn:LCg.NsObj o m₂)(hs:Heap.SameBut B q.h h'):St f:=
 have F:=q.fr.change hs (q.news _ hm).2.1 (q.news _ hm).2.2;have aax:=rI q.news λz o' e k=>(hs.2 z e).trans k;have pl:=fC hn;have R:=q.rep.drop hm hr pl.1 pl.2;have L:=gf.wZ D hm hn
 {b:=q.b,h:=h',ρ:=q.ρ,Z:=ou q.Z B,Y:=q.Y,tk:=q.tk,ok:=q.ok,below:=q.below,dicts:=q.dicts,fr:=F,news:=aax,rep:=R,lo:=L}
theorem Df.wZ (D:Df q)(hm:(B,o)∈q.Z)(hr:B∉q.ρ)(hn:LCg.NsObj o m₂)(hs:Heap.SameBut B q.h h')(hB:B∉j3 f.env):Df (q.wZ D hm hr hn hs):=
 ⟨D.fn,D.cells.own hB λM M h e=>dN.mpr ⟨h,e⟩⟩
theorem uS {nm:Str}{p pos cp:Pos}{i:Nat}{elt iter target:Expr}{ifs:List Expr}{rest:List Comprehension}{sc:Scope}{ts:List Nat}{xi xx:X}{Rf:Addr->Rest}{fn:Loc->List V->af->Res (aG)}(hsl:pG t.ns nm=some i)
  (H:wW t elt iter target ifs rest sc cp ts xi xx Rf fn):gi t W (.Assign [.Name nm p] (.ListComp elt (⟨target,iter,ifs,0⟩::rest) sc cp) pos) (.set (.l i) xx):=λf q Q E e0 D P=>by
 have hb:∃b,swapsWith (.ListComp elt (⟨target,iter,ifs,0⟩::rest) sc cp) (some<|.Name nm p) pos.line f.env=pure b:=⟨_,rfl⟩;refine aM hb λb hb=>?_;cases b with
 |false=>exact m5 (H.snd f q _ E e0<|P.bind D λam bJ fu bV aO=>uP hsl f am _ _ _ E e0 fu bV<|aO.wX λbw bK uQ dw=>dw.next bK uQ) rfl hb rfl
 |true=>
  subst e0;rw[exec_Assign];refine av<|f8 ?_
  rw[show swapsWithSole [.Name nm p] (.ListComp elt (⟨target,iter,ifs,0⟩::rest) sc cp) pos.line f.env=pure true from hb];refine av<|aW ?_
  rw[if_pos rfl];refine aI (uO hsl) λk hk mm=>?_;have P:bC q.bs f ((aV f.t.O xx f.N q.Y).bind λv Y=>.ok (none,f.N.set i<|some v) Y) Q E:=P;rw[H.he,Res.bind_assoc] at P;refine av<|av<|cC (wV H.hi H.ht H.hs H.hT H.hF H.hR H.hx ?_) (λM s' q=>aW<|aW q) λM M x=>x
  generalize AB f.t.O fn (de f.t.ns sc.names) ts xi f.N q.Y=r at P;cases r with
  |stuck=>exact P
  |exc C Y'=>exact Flew.less P
  |ok acc Y'=>
   intro q' B C en;obtain⟨ob,m₂,kb⟩:=en.kW;have hBc:B∉j3 f.env:=λe=>en.fresh (by obtain⟨o,v,k1,_⟩:=D.cells _ e;exact cB k1);show wpAny Mo f.A (assign (.Name nm p) f.env<|.ref C) _ E _;rw[arm_assign_Name];refine av<|f8<|p5 hk mm (D.step en.st) en.val λm' jw WV es D''=>?_
   have Sg:=WV.ext.keep _ kb.mem kb.off hBc<|yz kb.ns
   have hr:=WV.ext.old (cB kb.mem) kb.off;refine bD m₂ (kb.ns.ns (jw.news _ Sg).1) λmZ Ed=>?_;exact P m' .next (jw.wZ D'' Sg hr kb.ns Ed) ⟨((en.st.weak).ext.trans WV.ext).drop en.fresh,KtsTurn.trans en.st.turn WV.turn⟩ (es.trans en.sto) (D''.wZ Sg hr kb.ns Ed hBc) rfl
end
section
variable {f:Fz} {q:St f} {t:Lv} {W:Nat} {env:Env} {E:du} {ns:Ns} {l:List Expr} {names:cY} {O:ar}
theorem yA {l:cY}:l.eraseDups.length<=l.length:=by
 have:∀(n:Nat) (l:cY),l.length<=n->l.eraseDups.length<=l.length:=by
  intro n
  induction n with
  |zero=>intro l h;rw[List.length_eq_zero_iff.mp<|Nat.le_zero.mp h];exact a9 _
  |succ n ih=>
   intro l h;cases l with
   |nil=>exact a9 _
   |cons a r=>
    rw[List.eraseDups_cons];have h1:=wB (λb=>!b==a) r;exact Nat.succ_le_succ<|d9 (ih (r.filter λb=>!b==a)<|d9 h1<|Nat.le_of_succ_le_succ h) h1
 exact this l.length l<|a9 _
theorem tg {l:cY}(h:l.eraseDups.length=l.length):l.Nodup:=by
 induction l with
 |nil=>exact jG
 |cons a r ih=>
  rw[List.eraseDups_cons] at h;have h:=jH h;have h3:(r.filter λb=>!b==a).length=r.length:=Nat.le_antisymm (wB (λb=>!b==a) r) (h▸yA);have h5:=List.length_filter_eq_length_iff.mp h3;rw[List.filter_eq_self.mpr h5] at h;refine gY.mpr ⟨λhm=>?_,ih h⟩;have:=h5 a hm;rw[kM] at this;exact Bool.noConfusion this
inductive SG (env:Env):List Expr->List Str->Prop
 |nil:SG env [] []
 |cons {id:Str} {p:Pos} {l:List Expr} {r:cY}:env.kindOf id=some .local->SG env l r->SG env (.Name id p::l) (id::r)
theorem QF {F:Expr->Option Str}(hF:∀e x,F e=some x->∃p,e=.Name x p/\env.kindOf x=some .local){l:List Expr}(h:(l.filterMap F).length=l.length):SG env l (l.filterMap F):=by
 induction l with
 |nil=>exact .nil
 |cons a l ih=>
  cases e:F a with
  |none=>
   rw[List.filterMap_cons_none e] at h;exact absurd (h▸List.length_filterMap_le F l)<|Nat.not_succ_le_self _
  |some b=>
   rw[List.filterMap_cons_some e] at h⊢;refine aI (hF a b e) λp dZ hk=>?_;subst dZ;exact .cons hk<|ih<|jH h
def LC (env:Env)(l:List Expr)(x:Sem (Option (cY))):Prop:=x=pure none∨∃names,x=pure (some names)/\names.Nodup/\SG env l names
theorem LC.ite {c:Prop}[Decidable c]{x y:Sem (Option (cY))}(hx:c->LC env l x)(h:¬c->LC env l y):LC env l (if c then x else y):=by
 by_cases hc:c
 ·rw[if_pos hc];exact hx hc
 ·rw[if_neg hc];exact h hc
variable {k:Nat} {p:Pos}
theorem CO {value:Expr}(ok:ut value=true):LC env l (swappedStores [.Tuple l k p] value env):=by
 cases value with
 |Tuple vs k' p'=>
  refine LC.ite (λM=>.inl rfl) λh1=>LC.ite (λM=>.inl rfl) λh2=>LC.ite (λM=>.inl rfl) λh3=>LC.ite (λM=>.inl rfl) λh4=>LC.ite (λh5=>?_) λh5=>?_
  ·exfalso;have ok:(vs.all (foldedForSure 8)||!(vs.all<|constantsAlone 8))=true:=ok;rw[h5] at ok;exact h4<|(Mc ok).elim id λq=>Bool.noConfusion q
  ·rw[Bool.not_eq_true,Bool.or_eq_false_iff] at h3;have h32:=eq_of_beq<|Eq.mp (Bool.not_eq_false' _) h3.2
   refine .inr<|lA _ rfl (tg h32)<|QF (λe x hx=>?_)<|eq_of_beq<|Eq.mp (Bool.not_eq_false' _) h3.1
   cases e with
   |Name id pos=>
    have hx:(if (env.kindOf id==some .local&&pos.line==(l.head?.map (·.pos.line)).getD 0)=true then some id else none)=some x:=hx;by_cases hc:(env.kindOf id==some .local&&pos.line==(l.head?.map (·.pos.line)).getD 0)=true
    ·rw[if_pos hc] at hx;rw[<-aT hx];exact bD pos rfl<|eq_of_beq<|b1 hc
    ·rw[if_neg hc] at hx;exact fB hx
   |_=>exact fB hx
 |_=>exact .inl rfl
noncomputable def j4:List Nat->List V->Loc->Loc
 | [],_,N=>N
 |i::r,vs,N=>j4 r vs.tail<|N.set i<|some<|vs.headD .none
variable {is:List Nat} {i:Nat}
theorem AH {v:V}:∀{vs:aG} {N:Loc},i∉is->j4 is vs (N.set i<|some v)=(j4 is vs N).set i (some v):=by
 induction is with
 |nil=>exact λM=>rfl
 |cons j is ih=>
  intro vs N h;show j4 is vs.tail ((N.set i<|some v).set j _)=(j4 is vs.tail<|N.set j _).set i (some v);rw[List.set_comm _ _ (λe=>h (by rw[e];exact .head _)),ih λq=>h<|.tail _ q]
theorem AI {v:V}:∀{vs:aG} {N:Loc},is.length=vs.length->j4 (is++[i]) (vs++[v]) N=(j4 is vs N).set i (some v):=by
 induction is with
 |nil=>
  intro vs N h;cases vs with
  |nil=>rfl
  |cons _ _=>exact Nat.noConfusion h
 |cons j is ih=>
  intro vs N h;cases vs with
  |nil=>exact Nat.noConfusion h
  |cons x vs=>exact ih<|jH h
theorem CP:∀{vs:aG} {N:Loc},is.Nodup->is.length=vs.length->j4 is.reverse vs.reverse N=j4 is vs N:=by
 induction is with
 |nil=>
  intro vs N _ h;cases vs with
  |nil=>rfl
  |cons _ _=>exact Nat.noConfusion h
 |cons i is ih=>
  intro vs N hn h;cases vs with
  |nil=>exact Nat.noConfusion h
  |cons v vs=>
   have lR:=gY.mp hn;have hl:=jH h;rw[List.reverse_cons,List.reverse_cons,AI (by rw[List.length_reverse,List.length_reverse,hl]),ih lR.2 hl];exact(AH lR.1).symm
theorem F8 {Y:af}:∀{vs:aG} {N:Loc},is.length=vs.length->ru O (is.map .l) vs N Y=.ok (j4 is vs N) Y:=by
 induction is with
 |nil=>
  intro vs N h;cases vs with
  |nil=>rfl
  |cons _ _=>exact Nat.noConfusion h
 |cons i is ih=>
  intro vs N h;cases vs with
  |nil=>exact Nat.noConfusion h
  |cons v vs=>exact ih<|jH h
inductive oB (ns:Ns):List Str->List Nat->Prop
 |nil:oB ns [] []
 |cons {x:Str} {i:Nat} {r:cY} {is:List Nat}:ns[i]?=some (x,.local)->oB ns r is->oB ns (x::r) (i::is)
theorem oB.len (h:oB ns names is):names.length=is.length:=by
 induction h with
 |nil=>rfl
 |cons _ _ ih=>exact bH (· +1) ih
theorem oB.snoc {x:Str}{i:Nat}{is:List Nat}(h:oB ns names is)(hx:ns[i]?=some (x,.local)):oB ns (names++[x]) (is++[i]):=by
 induction h with
 |nil=>exact .cons hx .nil
 |cons h _ ih=>exact .cons h ih
theorem oB.rev (h:oB ns names is):oB ns names.reverse is.reverse:=by
 induction h with
 |nil=>exact .nil
 |cons h _ ih=>rw[List.reverse_cons,List.reverse_cons];exact ih.snoc h
theorem oB.mem (h:oB ns names is)(hi:i∈is):∃x∈names,ns[i]?=some (x,.local):=by
 induction h with
 |nil=>exact nomatch hi
 |@cons x j r is h _ ih=>
  refine aY (aX.mp hi) (λe=>?_) λe=>?_
  ·exact bD x (.head _) (e▸h)
  ·exact aI (ih e) λy h1 h2=>bD y (.tail _ h1) h2
theorem oB.nodup (h:oB ns names is)(hn:names.Nodup):is.Nodup:=by
 induction h with
 |nil=>exact jG
 |@cons x i r is h hr ih=>
  have lR:=gY.mp hn;refine gY.mpr ⟨λhm=>?_,ih lR.2⟩;refine aI (hr.mem hm) λy h1 h2=>?_;have e:y=x:=bH Prod.fst<|aT<|h2.symm.trans h
  exact lR.1 (e▸h1)
theorem IU (h:oB t.ns names is):∀{f:Fz} (q:St f) {us:List Value} {vs:aG} {Q:zA},f.t=t->Df q->names.length=us.length->q.oY us vs->(∀m' (q':St (f.to m'<|j4 is vs f.N)),mV (j3 f.env) q q'->q'.Y=q.Y->Df q'->Q () q'.s)->wpAny Mo f.A (assignInOrder (names.map λn=>bindName f.env n) us) Q E q.s:=by
 induction h with
 |nil=>
  intro f q us vs Q e0 D hu iu hQ;cases us with
  |nil=>exact aW<|hQ f.m q .refl rfl D
  |cons _ _=>exact Nat.noConfusion hu
 |@cons x i r is h _ ih=>
  intro f q us vs Q e0 D hu iu hQ;cases vs with
  |nil=>rw[iu.jO] at hu;exact Nat.noConfusion hu
  |cons v vs=>
   subst e0;revert hu;exact iu.ej λiu is' hu=>av<|dF<|p5 h (.inl rfl) D iu λm' q' a e D'=>ih (f:=f.to m'<|f.N.set i<|some v) q' rfl D' (jH hu) (D.oY a is') λm'' jw a' e' D''=>hQ m'' jw (Kp.trans (cs:=j3 f.env) (f':=f.to m'<|f.N.set i<|some v) (ZO:=f.to m''<|j4 is vs<|f.N.set i<|some v) (q':=q') (jw:=jw) rfl a a') (e'.trans e) D''
theorem yB {ρ:List Addr}{Z:Led}{us:List Value}{vs:aG}(h:cf ρ Z us vs):cf ρ Z us.reverse vs.reverse:=by
 induction vs generalizing us with
 |nil=>rw[h.jO];exact .nil
 |cons v vs ih=>
  exact h.ej λi is=>by rw[List.reverse_cons,List.reverse_cons];exact gA (ih is)<|.cons i .nil
theorem MP {ts:List T}(h:jp t l ts)(X:∀x,(x,NameKind.cell)∈t.ns->env.kindOf x=some .cell)(sw:SG env l names):∃is:List Nat,ts=is.map .l/\oB t.ns names is:=by
 induction sw generalizing ts with
 |nil=>
  cases ts with
  |nil=>exact bD ([]) rfl .nil
  |cons _ _=>exact Nat.noConfusion h.len
 |@cons id p l r hk _ ih=>
  cases h with
  |@cons _ _ x xs _ hn hx hr=>
   refine aI (hn id p rfl) λi e1 e2=>aI (uO e2) λk e3 e4=>aI (ih hr) λis g1 g2=>?_;refine bD (i::is) (by rw[e1,g1];rfl)<|.cons ?_ g2
   rcases e4 with rfl | rfl
   ·exact e3
   ·exact absurd ((X id<|fN e3).symm.trans hk) λq=>NameKind.noConfusion<|aT q
theorem w0 {e:Expr}(n:Nat)(env:Env):swapsWith e (some<|.Tuple l k p) n env=pure false:=by
 cases e with
 |_=>rfl
theorem wf {ts:List T}{pos:Pos}{e:Expr}{xe:X}(ok:ut e=true)(ht:jp t l ts)(he:cr t e xe):gi t W (.Assign [.Tuple l k p] e pos) (.set (.U ts) xe):=λf q Q E e0 D P=>by
 refine aY (CO (env:=f.env) (l:=l) (k:=k) (p:=p) ok) (λhr=>?_) λQG=>?_
 ·exact m5 (he f q _ E e0<|P.bind D λam bJ fu bV aO=>wY ht f am _ _ _ E e0 fu bV<|aO.wX λbw bK uQ dw=>dw.next bK uQ) rfl (w0 _ _) hr
 ·refine jI QG λnames hr tr sw=>?_;refine aI (MP ht (e0▸D.fn.cellk) sw) λis mu nm=>?_;subst mu;subst e0;refine Assign_Tuple_swapped (names:=names) (hs:=w0 (l:=l) (k:=k) (p:=p) pos.line f.env) (hw:=hr)<|he f q _ E rfl<|P.bind D λ{nH HT} am bJ fu bV aO=>?_
  have aO:bC am.bs f ((fq (jY am.Y nH) λkl=>if kl.2.length=(is.map T.l).length then ru f.t.O (is.map .l) kl.2 f.N am.Y else .stuck).bind λN Y=>.ok (none,N) Y) Q E:=aO;cases e:jY am.Y nH with
  |none=>rw[e] at aO;exact aO.elim
  |some kl=>
   rw[e] at aO;have aO:bC am.bs f ((if kl.2.length=(is.map T.l).length then ru f.t.O (is.map .l) kl.2 f.N am.Y else .stuck).bind λN Y=>.ok (none,N) Y) Q E:=aO;by_cases hl:kl.2.length=(is.map T.l).length
   ·have lS:is.length=kl.2.length:=by rw[hl,cu]
    rw[if_pos hl,F8 lS] at aO;rw[show names.length=kl.2.length by rw[nm.len,lS]];refine uG bV e λus eo hk Wg hul=>IU nm.rev (am.grow hk am.tk) rfl (fu.step (am:=am.grow hk am.tk) ⟨.refl,.refl⟩) (by rw[List.length_reverse,List.length_reverse,hul,nm.len,lS]) (yB Wg) ?_;rw[CP (nm.nodup tr) lS];exact λm' q' a e D'=>aO m' .next q' a e D' rfl
   ·rw[if_neg hl] at aO;exact aO.elim
end
theorem eM:∀(l:Ns) (n:Nat) (acc:vQ),(∀p∈acc,p.2<n)->(acc.map (·.2)).Nodup->((cellsFrom n l acc).map (·.2)).Nodup
 | [],_,_,_,h=>h
 |(x,k)::r,n,acc,h1,h2=>by
  unfold cellsFrom;split
  ·refine eM r _ _ (λp hp=>?_) ?_
   ·refine aY (aX.mp hp) (λe=>?_) λe=>?_
    ·rw[e];exact Nat.lt_succ_self _
    ·exact Nat.lt_succ_of_lt<|h1 p e
   ·rw[d8,gY];refine⟨λhm=>?_,h2⟩;refine aI (bT.mp hm) λp hp e=>?_;have:=h1 p hp;rw[e] at this;exact sh _ this
  ·exact eM r _ _ h1 h2
theorem io {L:Nat}:∀(l:Ns) (n:Nat) (acc:vQ),L<n->(∀p∈acc,L<p.2)->∀p∈cellsFrom n l acc,L<p.2
 | [],_,_,_,h=>h
 |(x,k)::r,n,acc,h1,h2=>by
  unfold cellsFrom;split
  ·refine io r _ _ (Nat.lt_succ_of_lt h1) λp hp=>?_;refine aY (aX.mp hp) (λe=>?_) λe=>?_
   ·rw[e];exact h1
   ·exact h2 p e
  ·exact io r _ _ h1 h2
theorem lb {x:Str}:∀(l:Ns) (n:Nat) (acc:vQ),(∃a,acc.lookup x=some a)->∃a,(cellsFrom n l acc).lookup x=some a
 | [],_,_,h=>h
 |(y,k)::r,n,acc,h=>by
  unfold cellsFrom;split
  ·refine lb r _ _ ?_;rw[kL];cases q:x==y with
   |true=>exact⟨_,rfl⟩
   |false=>exact h
  ·exact lb r _ _ h
theorem d7 {x:Str}:∀(l:Ns) (n:Nat) (acc:vQ),(x,NameKind.cell)∈l->∃a,(cellsFrom n l acc).lookup x=some a
 |(y,k)::r,n,acc,h=>by
  unfold cellsFrom;refine aY (aX.mp h) (λe=>?_) λe=>?_
  ·cases e;rw[if_pos<|by rfl];exact lb r _ _ ⟨n,by rw[kL,kM]⟩
  ·split
   ·exact d7 r _ _ e
   ·exact d7 r _ _ e
theorem gL:∀(l:Ns) (n:Nat) (acc:vQ),(l.map (·.1)).Nodup->(∀p∈acc,p.1∉l.map (·.1))->(acc.map (·.1)).Nodup->((cellsFrom n l acc).map (·.1)).Nodup
 | [],_,_,_,_,h=>h
 |(x,k)::r,n,acc,h0,h1,h2=>by
  have Wl:=gY.mp h0;unfold cellsFrom;split
  ·refine gL r _ _ Wl.2 (λp hp=>?_) ?_
   ·refine aY (aX.mp hp) (λe=>?_) λe=>?_
    ·rw[e];exact Wl.1
    ·exact λq=>h1 p e<|.tail _ q
   ·rw[d8,gY];refine⟨λhm=>?_,h2⟩;refine aI (bT.mp hm) λp hp e=>?_;exact h1 p hp (by rw[e];exact .head _)
  ·exact gL r _ _ Wl.2 (λp hp q=>h1 p hp<|.tail _ q) h2
theorem jD {cm:ly}:∀{cs:vQ} {cells:Led},CellsAre cm cs cells->cells.map (·.1)=cs.map (·.2)
 |_,_,.nil=>rfl
 |_,_,.cons _ t=>by rw[d8,d8,jD t]
theorem ko {cm:ly}:∀{cs:vQ} {cells:Led},CellsAre cm cs cells->∀{n:Str} {c:Addr},(n,c)∈cs->∃o,(c,o)∈cells/\o.data=.cell (cm n)
 |_,_,.nil,_,_,h=>nomatch h
 |_,_,.cons h t,n,c,hm=>by
  refine aY (aX.mp hm) (λe=>?_) λe=>?_
  ·cases e;exact bD _ (.head _) h
  ·exact aI (ko t e) λo h1 h2=>bD o (.tail _ h1) h2
section
variable {kd:Str->Option NameKind}
theorem w5 {n:Str}:∀{l:List (Str × Value)} {m:ly},n∉l.map (·.1)->bindL kd l m n=m n
 | [],_,_=>rfl
 |(y,v)::r,m,h=>by
  have h':n≠y/\n∉r.map (·.1):=⟨λe=>h (by rw[e];exact .head _),λq=>h<|.tail _ q⟩;rw[bindL,w5 h'.2];split
  ·show(if n=y then some v else m n)=m n;rw[if_neg h'.1]
  ·rfl
theorem rJ {n:Str}{v:Value}(hk:kd n=some .local):∀{l:List (Str × Value)} {m:ly},(l.map (·.1)).Nodup->(n,v)∈l->bindL kd l m n=some v
 |(y,v')::r,m,hn,h=>by
  have lR:=gY.mp hn;refine aY (aX.mp h) (λe=>?_) λe=>?_
  ·cases e;rw[bindL,w5 lR.1,if_pos hk,if_pos rfl]
  ·rw[bindL];exact rJ hk lR.2 e
theorem w6 {n:Str}:∀{l:List (Str × Value)} {m:ly},n∉l.map (·.1)->bindC kd l m n=m n
 | [],_,_=>rfl
 |(y,v)::r,m,h=>by
  have h':n≠y/\n∉r.map (·.1):=⟨λe=>h (by rw[e];exact .head _),λq=>h<|.tail _ q⟩;rw[bindC,w6 h'.2];split
  ·rfl
  ·show(if n=y then some v else m n)=m n;rw[if_neg h'.1]
theorem w7 {n:Str}{v:Value}(hk:kd n≠some .local):∀{l:List (Str × Value)} {m:ly},(l.map (·.1)).Nodup->(n,v)∈l->bindC kd l m n=some v
 |(y,v')::r,m,hn,h=>by
  have lR:=gY.mp hn;refine aY (aX.mp h) (λe=>?_) λe=>?_
  ·cases e;rw[bindC,w6 lR.1,if_neg hk,if_pos rfl]
  ·rw[bindC];exact w7 hk lR.2 e
end
theorem qP:∀{ts:List Nat} {l:aG} {N loc':Loc},dL ts l N=some loc'->∀{i:Nat} {v:V},loc'[i]?=some (some v)->N[i]?=some (some v)∨∃j:Nat,ts[j]?=some i/\l[j]?=some v
 | [],[],_,_,h,_,_,e=>by cases h;exact .inl e
 | [],_::_,_,_,h,_,_,_=>by cases h
 |_::_,[],_,_,h,_,_,_=>by cases h
 |t::ts,x::l,N,loc',h,i,v,e=>by
  refine cN (jB h) λh1 h2=>aY (qP h2 e) (λq=>?_) λUf=>?_
  ·by_cases hi:t=i
   ·subst hi;have mM:=(bM.mp h1).1;rw[tZ mM] at q;cases q;exact .inr<|bD 0 rfl rfl
   ·rw[eA hi] at q;exact .inl q
  ·exact aI Uf λj q1 q2=>.inr<|bD (j+1) q1 q2
theorem w8 {ρ:List Addr}{Z:Led}{Y:af}{cells:Led}(h1:∀p∈cells,p.1∉Z.map (·.1))(h2:(cells.map (·.1)).Nodup)(R:Rep ρ Z Y):Rep ρ (cells++Z) Y/\(∀v x,bF ρ Z v x->bF ρ (cells++Z) v x):=by
 induction cells with
 |nil=>exact⟨R,λM M i=>i⟩
 |cons p r ih=>
  have SK:=gY.mp h2;refine cN (ih (λq hq=>h1 q<|.tail _ hq) SK.2) λR' f=>?_;have hf:p.1∉(r++Z).map (·.1):=λq=>by
   rw[jc] at q;exact(fb.mp q).elim SK.1 (h1 p<|.head _)
  exact⟨R'.hide hf,λv x i=>(f v x i).ext (Ext.hide hf R') bI R'.apart⟩
section
variable {s:Shared}
noncomputable def IV (fl:Flow):Value:=match fl with
 | .ret v=>v
 |_=>.none
theorem sE {A₀ A:Around}{base h₀:Heap}{outer:List Env}{L:Addr}{m:ly}{env:Env}{news:List (Addr × Obj)}{R:Result->Shared->Prop}{name qual:Str}{params:Arguments}{body:List Stmt}{scope:Scope}{dV kV doc pm cdv ct:Value}{an:Option Addr}{fo:Obj}{f:Addr}{args:Args}{binds:List (Str × Value)}
  (B:Below A₀ base outer h₀) (F:Fr h₀ L s.heap m) (aax:News h₀ L s.heap news) (Z2:h₀.NoLimit) (hA:A.frames=some (env::outer)) (hf:env.frame=some L) (SH:env.scope.kind=.function)
  (ho:s.heap.get? f=some fo) (hd:fo.data=.func (fnX name qual params body scope [] dV kV doc pm an cdv ct)) (Lb:s.heap.CodeRec cdv qual) (Lc:A.depth<recursionLimit)
  (pL:BindsTo s (fnX name qual params body scope [] dV kV doc pm an cdv ct) args binds)
  (BP:∀n,∀x∈binds,scope.names.lookup x.1=some .local∨(scope.names.lookup x.1=some .cell/\((cellsFrom n scope.names []).lookup x.1).isSome=true))
  (tr:((cellsFrom 0 scope.names []).map (·.1)).Nodup)
  (h:∀g L' bx tk cells,Fr h₀ L g m->Fr g L' bx (bindL (envOfC qual scope L' f cdv).kindOf binds λM=>none)->News g L' bx (cells++news)->
   CellsAre (bindC (envOfC qual scope L' f cdv).kindOf binds λM=>none) (cellsFrom (L'+1) scope.names []) cells->Below A base (env::outer) g->h₀.StaysIn g->(∀p∈news,p.1<L')->
   wpAny Mo (A.deeper<|envOfC qual scope L' f cdv) (execs body<|envOfC qual scope L' f cdv)
    (λfl s'=>R (.ok<|.ret<|IV fl) s')
    (λe s'=>wpAny Mo (A.deeper<|envOfC qual scope L' f cdv) (leaving (envOfC qual scope L' f cdv) e) (λM ri=>R (.error e) ri) (λe' ri=>R (.error e') ri) s')
    {s with heap:=bx,toks:=tk})
  (LG:scope.isCoroutine=false) (DL:scope.isGenerator=false) (hk:scope.kind=.function):codeAny Mo A (.call (.ref f) args) R s:=by
 refine xN (groundX (R:=R) B F aax hA hf SH) λFG BG st lv=>codeAny_call_function Lc ho hd LG DL rfl Lb<|pL _ _ _ _ ?_
 refine wpAny_newFunctionEnv_cells hk (BP _) λOi he s' x=>?_;subst he;refine⟨(Z2.keeps F.keep).keeps x.toInCall.keep,codeAny_func ?_⟩;refine gm x.done λbx tk dZ M=>?_;subst dZ;have iS:=x.toInCall.keep;refine aI (Cl.news (h₀:=s.heap) (a9 _) λn c hm=>⟨x.cell n c<|lookup_of_mem_nodup (cellsFrom_names scope.names 0 (s.heap.objs.size+1) [] [] rfl▸tr) hm,x.above n c hm⟩) λcells NC aav=>h _ s.heap.objs.size bx tk cells FG ⟨x.toInCall.ns,λb o e=>iS b o<|of_hideAll _ e,qq<|hideAll_size _ _⟩ (λp hp=>?_) aav BG st λp hp=>gq (aax p hp).1;refine aY (fb.mp hp) (λhp=>?_) λhp=>?_
 ·refine⟨(NC p hp).1,(NC p hp).2.1,?_⟩;cases q:(hideAll s.heap<|news.map (·.1)).get? p.1 with
  |none=>rfl
  |some o=>have:=of_hideAll _ q;rw[(NC p hp).2.2] at this;cases this
 ·exact⟨iS _ _ (aax p hp).1,ka<|gq (aax p hp).1,hideAll_none _<|cB hp⟩
end
section
@[reducible] noncomputable def Fz.enter (f:Fz)(A:Around)(t:Lv)(e:Env)(L:Addr)(m:ly)(N:Loc):Fz:={base:=f.base,L:=L,fe:=e,outer:=f.fe::f.outer,A:=A.deeper e,lY:=f.lY,t:=t,env:=e,m:=m,N:=N}
structure th (f:Fz)(A:Around)(t:Lv):Prop where
 frames:A.frames=f.A.frames
 handled:A.handled=f.A.handled
 depth:A.depth+1+t.n / 2+3<recursionLimit
 units:A.units+3+10 * (t.n / 2)+200<cLine
structure AJ (ns:Ns)(e:Env)(L:Addr):Prop where
 kind:e.scope.kind=.function
 globals:e.globals=mainGlobals
 builtins:e.builtins=builtinsNs
 frame:e.frame=some L
 top:∀x,ns.lookup x=some .globalImplicit->e.kindOf x=some .globalImplicit
 local':∀x,(x,NameKind.local)∈ns->e.kindOf x=some .local
 cell:∀x k,(x,k)∈ns->k=.cell∨k=.free->(e.kindOf x=some .cell∨e.kindOf x=some .free)/\∃a,e.cells.lookup x=some a
variable {f:Fz} {q:St f} {A:Around} {t:Lv} {e:Env} {L:Addr} {m m₂:ly} {N QH:Loc} {E:du} {Q:du} {C:Nat} {Y':af} {cs:List Addr}
theorem UH {a b x y r:Nat}(h1:a<=b+1)(h2:x+2<=y)(h:b+y+3<r):a+1+x+3<r:=by omega
theorem UI {a b x y r:Nat}(h1:a<=b+16)(h2:x+2<=y)(h:b+10 * y+200<r):a+3+10 * x+200<r:=by omega
theorem UJ {a x r:Nat}(h:a+1+x+3<r):a<r:=by omega
theorem th.of (ok:Ok f.toFx f.t f.env)(hf:A.frames=f.A.frames)(hh:A.handled=f.A.handled)(hd:A.depth<=f.A.depth+1)(hu:A.units<=f.A.units+16)(hn:t.n / 2+2<=f.t.n / 2):th f A t:=
 ⟨hf,hh,UH hd hn ok.depth,UI hu hn ok.units⟩
theorem th.now (r:th f A t):A.depth<recursionLimit:=UJ r.depth
theorem Ok.enter (ok:Ok f.toFx f.t f.env)(r:th f A t)(w:t.n % 2=1->uw (f.enter A t e L m N).toFx)(aax:AJ t.ns e L):Ok (f.enter A t e L m N).toFx t e where
 inB:=ok.inB
 topB:=ok.topB
 hh:=r.handled.trans ok.hh
 frames:=by show A.frames.map (e::·)= _;rw[r.frames,ok.frames];rfl
 frame:=aax.frame
 fkind:=aax.kind
 depth:=r.depth
 units:=r.units
 wordy:=w
 kind:=aax.kind
 globals:=aax.globals
 builtins:=aax.builtins
 eframe:=aax.frame
 code:=rfl
 qual:=rfl
 top:=aax.top
 local':=aax.local'
 cell:=aax.cell
theorem AK (q:St f){g:Heap}(FG:Fr q.b f.L g f.m)(st:q.b.StaysIn g):KtsDicts ((f.fe::f.outer).filterMap (·.frame)) g:=by
 rw[tH q.ok.frame];intro z hz;refine aY (aX.mp hz) (λe=>?_) λe=>?_
 ·rw[e];exact kg FG.ns λoL es ep h1 h2 M=>BX oL es ep h1 h2
 ·exact rm (q.dicts z e) λoz es nz h1 h2=>BX oz es nz (st _ _ h1) h2
noncomputable def St.enter (q:St f)(tk:Nat)(r:th f A t)(w:t.n % 2=1->uw (f.enter A t e L m N).toFx)(aax:AJ t.ns e L){g bx:Heap}{Z':Led}(FG:Fr q.b f.L g f.m)(BG:∃A₀:Around,Below A₀ f.base (f.fe::f.outer) g)(st:q.b.StaysIn g)(F':Fr g L bx m)(N':News g L bx Z')(R':Rep q.ρ Z' q.Y)(lo:gf (f.enter A t e L m N) q.ρ Z'):St (f.enter A t e L m N):=
 have ok':=q.ok.enter r w aax;have dc:=AK q FG st
 {b:=g,h:=bx,ρ:=q.ρ,Z:=Z',Y:=q.Y,tk:=tk,ok:=ok',below:=BG,dicts:=dc,fr:=F',news:=N',rep:=R',lo:=lo}
theorem St.down {q':St (f.enter A t e L m N)}(FG:Fr q.b f.L q'.b f.m)(BU:∀a∈cs,a∉q.Z.map (·.1))(ex:Ext [] q.ρ q.Z q'.ρ q'.Z)(jw:St (f.enter A t e L m₂ QH))(a:Kp cs q'.bs jw){C:Prop}(k:∀am:St f,mV [] q am->am.Y=jw.Y->(∀u v,jw.iv u v->am.iv u v)->am.s=jw.s->C):C:=by
 refine aM q.below λA₀ Bl=>aI (ry Bl FG (tH q.ok.frame▸a.turn:KtsTurn (f.L::f.fs) q'.b jw.b)) λb' wc Fd=>?_;have X:=((ex.weaken λM h=>nomatch h).trans a.ext).fresh BU;exact k (q.to jw.tk (Fd.keeps jw.fr.keep) (wG Fd jw.news) jw.rep X wc) ⟨X,wc⟩ rfl (λM M i=>i) rfl
theorem Flew.left {q':St (f.enter A t e L m N)}(FG:Fr q.b f.L q'.b f.m)(BU:∀a∈cs,a∉q.Z.map (·.1))(ex:Ext [] q.ρ q.Z q'.ρ q'.Z)(P:q.Fl [] E C Y'):
  Flew (f.enter A t e L m N).toFx cs q'.ρ q'.Z q'.b (λx s'=>wpAny Mo (A.deeper e) (leaving e x) (λM ri=>E x ri) (λx' ri=>E x' ri) s') C Y':=by
 intro m' g' x bR Z' h' eS b' F'' Xa U Rp'' Ex T';exact aM q.below λA₀ Bl=>aM q'.below λaaq uH=>aI (ry Bl FG (tH q.ok.frame▸T':KtsTurn (f.L::f.fs) q'.b b')) λuv wc Fd=>Aa (kX uH T') F'' q'.ok.frame q'.ok.fkind q'.ok.frames Xa U λtz RS Ub=>P f.m b' x bR Z' tz eS Fd (.inl RS) Ub Rp'' (((ex.weaken λM h=>nomatch h).trans Ex).fresh BU) wc
abbrev IW (A:Around)(e:Env)(E:du):du:=λx s'=>wpAny Mo (A.deeper e) (leaving e x) (λM ri=>E x ri) (λx' ri=>E x' ri) s'
theorem aE.left {q':St (f.enter A t e L m N)}{r:Res V}(FG:Fr q.b f.L q'.b f.m)(ex:Ext [] q.ρ q.Z q'.ρ q'.Z)(P:aE bF q r Q E):aE bF q' r Q (IW A e E):=by
 cases r with
 |stuck=>exact P
 |ok v Y'=>exact λu jw a es i=>St.down (cs:=[]) FG (λM h=>nomatch h) ex jw a λam d bA iv eh=>eh▸P u am d (bA.trans es) (iv _ _ i)
 |exc C Y'=>exact Flew.left FG (λM h=>nomatch h) ex P
theorem bC.left {q':St (f.enter A t e L m N)}{r:Res fc}(FG:Fr q.b f.L q'.b f.m)(BU:∀a∈j3 e,a∉q.Z.map (·.1))(ex:Ext [] q.ρ q.Z q'.ρ q'.Z)(P:aE bF q (r.bind λr Y=>.ok (r.1.getD .none) Y) Q E):
  bC q'.bs (f.enter A t e L m N) r (λ(fl:Flow) s'=>wO Q E (.ok<|.ret<|IV fl) s') (IW A e E):=by
 cases r with
 |stuck=>exact P
 |exc C Y'=>exact Flew.left FG BU ex P
 |ok fl Y'=>
  intro m' Sf jw a es D i;refine St.down FG BU ex jw a λam d bA iv eh=>?_;have i:=i;have g:∀u,jw.iv u (fl.1.getD .none)->Q u jw.s:=λu iu=>eh▸(P:∀u (q':St f),mV [] q q'->q'.Y=Y'->q'.iv u (fl.1.getD .none)->Q u q'.s) u am d (bA.trans es) (iv _ _ iu);generalize fl.1=rv at i g;cases rv with
  |none=>rw[show Sf=.next from i];exact g .none .none
  |some v=>
   refine aI i λu dZ iu=>?_;subst dZ;exact g u iu
structure CQ where
 name:Str
 qual:Str
 params:Arguments
 body:List Stmt
 scope:Scope
 dV:Value
 kV:Value
 doc:Value
 pm:Value
 cdv:Value
 ct:Value
 an:Option Addr
 oc:Value
 od:Option Addr
 osl:Array (Option Value)
 pn:cY
noncomputable abbrev CQ.fd (D:CQ):FuncData:=fnX D.name D.qual D.params D.body D.scope [] D.dV D.kV D.doc D.pm D.an D.cdv D.ct
structure nC (gx:Gx)(f:Addr)(i:gI)(D:CQ)(wd:Bool):Prop where
 look:K.lookup f=some ⟨D.oc,D.od,.func D.fd,D.osl⟩
 code:codeIn K D.cdv D.qual=true
 kind:D.scope.kind=.function
 co:D.scope.isCoroutine=false
 gen:D.scope.isGenerator=false
 nodup:(D.scope.names.map (·.1)).Nodup
 nofree:∀p∈D.scope.names,p.2≠.free
 slots:i.slots=D.scope.names.length
 pnd:D.pn.Nodup
 plen:D.pn.length=i.ps.length
 pslots:∀(j:Nat) (nm:Str) (k:Nat),D.pn[j]?=some nm->i.ps[j]?=some k->∃kd,D.scope.names[k]?=some (nm,kd)/\(kd=.local∨kd=.cell)
 body:rx gx i.body wd D.body D.scope.names=true
 bind:∀(s:Shared) (us:List Value),K.In s.heap->us.length<=i.ps.length->i.ps.length<=us.length+i.dflt.length->
  ∃vals,BindsTo s D.fd ⟨us,[]⟩ (D.pn.zip (us++vals))/\cf [] [] vals (i.dflt.drop<|us.length+i.dflt.length - i.ps.length)
def Ee (D:CQ):Prop:=∃cc P,D.cdv=.ref cc/\(∀h,K.In h->CodeHd h cc P)/\(P,D.qual++".<locals>."++"<lambda>")∈gT K
theorem IX {us:List Value}:∀{pn:cY},pn.length=us.length->(pn.zip us).map (·.1)=pn:=by
 induction us with
 |nil=>intro pn h;rw[List.length_eq_zero_iff.mp h];rfl
 |cons u us ih=>
  intro pn h;cases pn with
  |nil=>rfl
  |cons p pn=>rw[List.zip_cons_cons,d8,ih<|jH h]
theorem zip_get {nm:Str}{u:Value}{pn:cY}{us:List Value}{j:Nat}(h1:pn[j]?=some nm)(h2:us[j]?=some u):(nm,u)∈pn.zip us:=by
 induction pn generalizing us j with
 |nil=>exact fB h1
 |cons p pn ih=>
  cases us with
  |nil=>exact fB h2
  |cons v us=>
   cases j with
   |zero=>rw[<-(aT h1:p=nm),<-(aT h2:v=u)];exact .head _
   |succ j=>exact .tail _<|ih h1 h2
variable {gx:Gx} {i:gI} {D:CQ} {a:Addr} {wd:Bool} {us:List Value} {vs:aG}
theorem nC.env (X:nC gx a i D wd):AJ D.scope.names (envOfC D.qual D.scope L a D.cdv) L where
 kind:=X.kind
 globals:=rfl
 builtins:=rfl
 frame:=rfl
 top:=λx h=>h
 local':=λx h=>bz X.nodup h
 cell:=λx k h hk=>by
  rw[(hk.resolve_right λe=>X.nofree _ h (by rw[e]):k=.cell)] at h;exact⟨.inl<|bz X.nodup h,d7 _ _ _ h⟩
theorem nC.fn (X:nC gx a i D wd)(ht:t.ns=D.scope.names):AD (f.enter A t (envOfC D.qual D.scope L a D.cdv) L m N) where
 locals:=rfl
 cellk:=λx h=>bz X.nodup (ht▸h)
 nodup:=by rw[ht];exact X.nodup
 cnd:=eM _ _ _ (λM h=>nomatch h) jG
structure Bd (X:nC gx a i D wd)(ρ:List Addr)(Z:Led)(us:List Value)(vs:aG)(N:Loc):Prop where
 iv:cf ρ Z us vs
 set:dL i.ps vs (List.replicate i.slots none)=some N
theorem Bd.keys {X:nC gx a i D wd}{ρ:List Addr}{Z:Led}(B:Bd X ρ Z us vs N):(D.pn.zip us).map (·.1)=D.pn:=IX (by rw[X.plen,bc B.iv,<-qM B.set])
theorem nC.kn (X:nC gx a i D wd){nm:Str}(hnm:nm∈D.pn):D.scope.names.lookup nm=some .local∨(nm,NameKind.cell)∈D.scope.names:=by
 refine aM (jb hnm) λj hj=>aI (X.pslots j nm _ hj<|iG (X.plen▸(bM.mp hj).1:j<i.ps.length)) λkd e1 e2=>?_;rcases e2 with rfl | rfl
 ·exact .inl<|bz X.nodup<|fN e1
 ·exact .inr<|fN e1
theorem Bd.lo {X:nC gx a i D wd}{ρ:List Addr}{Z:Led}(B:Bd X ρ Z us vs N)(c:Fx){Z':Led}{cells:Led}(hz:∀z oz,(z,oz)∈cells->(z,oz)∈Z')(hr:∀z∈cells.map (·.1),z∉ρ)(g:∀v x,bF ρ Z v x->bF ρ Z' v x)(ht:t.ns=D.scope.names)
  (aav:CellsAre (bindC (envOfC D.qual D.scope c.L a D.cdv).kindOf (D.pn.zip us) λM=>none) (cellsFrom (c.L+1) D.scope.names []) cells):
  gf ⟨c,t,envOfC D.qual D.scope c.L a D.cdv,(bindL (envOfC D.qual D.scope c.L a D.cdv).kindOf (D.pn.zip us) λM=>none),N⟩ ρ Z':=λi' x' k' v' e1 e2=>by
 have e1:=ht▸e1;refine aY (qP B.set (e2:N[i']?=some (some v'))) (λe=>?_) λQI=>?_
 ·rw[List.getElem?_replicate] at e;by_cases hl:i'<i.slots
  ·rw[if_pos hl] at e;exact fB<|aT e
  ·rw[if_neg hl] at e;exact fB e
 ·refine aI QI λj q1 q2=>?_;have hjl:j<D.pn.length:=by rw[X.plen];exact(bM.mp q1).1
  refine aI (X.pslots j _ i' (iG hjl) q1) λkd p1 p2=>?_;have ep:=aT<|e1.symm.trans p1
  have ex:x'=D.pn[j]:=bH Prod.fst ep;have ek:k'=kd:=bH Prod.snd ep;rw[ek] at e1;refine aI (oj B.iv q2) λu hu iu=>?_;have WQ:(x',u)∈D.pn.zip us:=zip_get (by rw[ex];exact iG hjl) hu;have tr:((D.pn.zip us).map (·.1)).Nodup:=by rw[B.keys];exact X.pnd
  have WW:=bz X.nodup<|fN e1
  refine bD u (g _ _ iu) ?_;rcases p2 with rfl | rfl
  ·exact .here WW rfl<|rJ WW tr WQ
  ·refine aM (d7 _ (c.L+1) []<|fN e1) λca Lj=>aI (ko aav<|lJ Lj) λoz z1 z2=>?_;rw[w7 (λe=>NameKind.noConfusion<|aT<|WW.symm.trans e) tr WQ] at z2;exact .cell ca oz (.inl WW) Lj (hz _ _ z1) (hr _<|cB z1) z2
theorem Ext.above {ρ:List Addr}{Z cells:Led}:Ext [] ρ Z ρ (cells++Z):=⟨λM M h=>h,λp hp M M M=>kH _ hp,λz hz=>by rw[jc];exact kH _ hz,λM h=>.inl h⟩
theorem Bd.call {X:nC gx a i D wd}{W:Nat}(B:Bd X q.ρ q.Z us vs N){as:List Value}(r:th f A t)(pL:BindsTo q.s D.fd ⟨as,[]⟩ (D.pn.zip us))(ht:t.ns=D.scope.names)(Pm:t.n % 2=1->Ee D)(hb:nB t W D.body i.body)
  (P:aE bF q ((bZ t.O W i.body N q.Y).bind λr Y=>.ok (r.1.getD .none) Y) Q E):codeAny Mo A (.call (.ref a) ⟨as,[]⟩) (wO Q E) q.s:=by
 refine aM q.below λA₀ Bl=>ue q.top λp loose j7 mg mb T=>sE Bl q.fr q.news T.nolimit (r.frames.trans q.ok.frames) q.ok.frame q.ok.fkind (q.sx _ _ X.look) rfl (codeRec_of q.sx X.code) r.now pL (λk z hz=>?_)
  (gL _ _ _ X.nodup (λM h=>nomatch h) jG) (λg L' bx tk cells FG F' N' aav BG st mM=>?_) X.co X.gen X.kind
 ·refine aY (X.kn (by rw[<-B.keys];exact cB hz)) (λe=>?_) λe=>?_
  ·exact .inl e
  ·refine aM (d7 _ k [] e) λca Lj=>?_;exact .inr ⟨bz X.nodup e,by rw[Lj];rfl⟩
 ·have r5:=jD aav;have LF:∀z∈cells.map (·.1),z∉q.Z.map (·.1):=λz hz h=>by
   rw[r5] at hz;refine aI (bT.mp hz) λpc Oo e1=>aI (bT.mp h) λpz Wm e2=>?_;have h1:=io _ _ [] (Nat.lt_succ_self _) (λM h=>nomatch h) pc Oo;have h2:=mM pz Wm;rw[e1] at h1;rw[e2] at h2;exact Nat.lt_asymm h1 h2
  have cnd:(cells.map (·.1)).Nodup:=by rw[r5];exact eM _ _ _ (λM h=>nomatch h) jG
  refine cN (w8 (λp hp=>LF p.1<|cB hp) cnd q.rep) λRp' f'=>?_;have wy:t.n % 2=1->uw (f.enter A t (envOfC D.qual D.scope L' a D.cdv) L' (bindL (envOfC D.qual D.scope L' a D.cdv).kindOf (D.pn.zip us) λM=>none) N).toFx:=λho=>by
   exact cZ (Pm ho) λcc P w1 w2 w3=>eT cc P w1 (w2 _ q.ok.inB) w3
  let q':=q.enter tk r wy (ht▸X.env) FG ⟨_,BG⟩ st F' N' Rp'<|B.lo ⟨f.base,L',envOfC D.qual D.scope L' a D.cdv,f.fe::f.outer,A.deeper<|envOfC D.qual D.scope L' a D.cdv,f.lY⟩ (λz oz h=>jF q.Z h) (λz hz=>q.rep.mv<|LF z hz) f' ht aav
  have D':Df q':=⟨X.fn ht,λz hz=>by
   refine aI (bT.mp hz) λpc Oo e1=>aI (ko aav Oo) λoz z1 z2=>?_;rw[e1] at z1;exact⟨oz,_,jF _ z1,q.rep.mv<|LF z<|cB z1,z2⟩⟩
  exact hb _ q' _ _ rfl D'<|bC.left FG (λz hz=>LF z (r5▸hz)) (.above:Ext [] q.ρ q.Z q'.ρ q'.Z) P
theorem yC {tx:Text}{O:ar}{n:Nat}(hD:∀f i,tx.fn f=some i->∃D nb wd,nC gx f i D wd/\nb / 2<=n/\(nb % 2=1->Ee D)/\nB ⟨O,nb,D.scope.names⟩ tx.wh D.body i.body):hV (bk tx O) (2 * (n+2)):=by
 intro a f q A' Q E us vs hn Ha hhd WN hun is P;have P:aE bF q (fq (tx.fn a) λi=>if vs.length<=i.ps.length/\i.ps.length<=vs.length+i.dflt.length then fq (jZ i.slots i.ps<|vs++i.dflt.drop (vs.length+i.dflt.length - i.ps.length)) λN=>(bZ O tx.wh i.body N q.Y).bind λr Y=>.ok (r.1.getD .none) Y else .stuck) Q E:=P;cases hf:tx.fn a with
 |none=>rw[hf] at P;exact P.elim
 |some i=>
  rw[hf] at P;refine ud (hD a i hf) λD nb M X hnb Pm hb=>?_;have P:aE bF q (if vs.length<=i.ps.length/\i.ps.length<=vs.length+i.dflt.length then fq (jZ i.slots i.ps<|vs++i.dflt.drop (vs.length+i.dflt.length - i.ps.length)) λN=>(bZ O tx.wh i.body N q.Y).bind λr Y=>.ok (r.1.getD .none) Y else .stuck) Q E:=P;by_cases hl:vs.length<=i.ps.length/\i.ps.length<=vs.length+i.dflt.length
  ·rw[if_pos hl] at P;rw[<-bc is] at P hl;refine aI (X.bind q.s us q.sx hl.1 hl.2) λvals pL iv=>?_;cases hp:jZ i.slots i.ps (vs++i.dflt.drop (us.length+i.dflt.length - i.ps.length)) with
   |none=>rw[hp] at P;exact P.elim
   |some N=>
    rw[hp] at P;exact Bd.call (X:=X) (t:=⟨O,nb,D.scope.names⟩) ⟨gA is<|HL q.rep iv,hp⟩ (th.of q.ok Ha hhd WN hun (by show nb / 2+2<=f.t.n / 2;rw[hn,Nat.mul_div_cancel_left _ Nat.two_pos];exact t7 hnb 2)) pL rfl Pm hb P
  ·rw[if_neg hl] at P;exact P.elim
end
section
theorem CR {pos:Pos}{cv:Value}(l:List Value){a b:Nat}{c:Value}(ht:TriplesOk l)(h:codeAmong pos (l++[rawInt a,rawInt b,c])=some cv):codeAmong pos l=some cv∨cv=c:=by
 fun_induction TriplesOk l with
 |case1=>
  have h:(if ((a:Int)==(pos.line:Int)&&(b:Int)==(pos.col:Int))=true then some c else none)=some cv:=h;by_cases q:((a:Int)==(pos.line:Int)&&(b:Int)==(pos.col:Int))=true
  ·rw[if_pos q] at h;exact .inr<|aT h.symm
  ·rw[if_neg q] at h;exact nomatch h
 |case2 x t y u z r ih=>
  have h:(if (x==(pos.line:Int)&&y==(pos.col:Int))=true then some z else codeAmong pos (r++[rawInt a,rawInt b,c]))=some cv:=h;show(if (x==(pos.line:Int)&&y==(pos.col:Int))=true then some z else codeAmong pos r)=some cv∨_;by_cases q:(x==(pos.line:Int)&&y==(pos.col:Int))=true
  ·rw[if_pos q] at h⊢;exact .inl h
  ·rw[if_neg q] at h⊢;exact ih ht h
 |case3=>exact ht.elim
section
variable {ρ:List Addr} {Z:Led} {Y:af}
theorem Ext.tab {P:Addr}{ps:Array Value}{o':Obj}(hn:(Z.map (·.1)).Nodup)(hm:(P,tabObj ps)∈Z)(ht:TriplesOk ps.toList):Ext [] ρ Z ρ (gw Z P o'):=
 ⟨λM M h=>h,λp hp M M k=>bT.mpr ⟨p,hp,if_neg λe=>k (by
  have:p.2=tabObj ps:=gJ hn hp (show(p.1,tabObj ps)∈Z by rw[show p.1=P from e];exact hm);rw[this];exact⟨ps,rfl,ht⟩)⟩,λq hq=>by rw[iJ];exact hq,λM h=>.inl h⟩
theorem Rep.tab {P cA:Addr}{q:Str}{ps wv:Array Value}{oc:Obj}(tr:((gT K).map (·.1)).Nodup)(Ll:(P,q)∈gT K)(R:Rep ρ Z Y)(hm:(P,tabObj ps)∈Z)(hr:P∉ρ)(ht:TriplesOk ps.toList)(GW:TriplesOk wv.toList)
  (hc:(cA,oc)∈Z) (hcr:cA∉ρ) (LG:jA q oc) (dS:cA≠P) (On:∀pos cv,codeAmong pos wv.toList=some cv->codeAmong pos ps.toList=some cv∨cv=.ref cA):Rep ρ (gw Z P<|tabObj wv) Y:=by
 refine⟨R.len,R.nd,by rw[iJ];exact R.ndZ,R.apart,R.big,λi z hz=>?_,λt hT=>?_⟩
 ·refine cZ (R.cell i z hz) λce o h1 h2 h3=>?_;exact eT ce o h1 (bT.mpr ⟨_,h2,if_neg λe=>hr (by rw[<-show z=P from e];exact bn hz)⟩)<|h3.ext (Ext.tab R.ndZ hm ht:Ext [] ρ Z ρ (gw Z P<|tabObj wv)) bI R.apart
 ·refine uc (R.tabs t hT) λUK h1 h2 h3 h4=>?_;have Lm:∀z oz,(z,oz)∈Z->(∃q,jA q oz)->(z,oz)∈gw Z P (tabObj wv):=λz oz hz hcz=>bT.mpr ⟨_,hz,if_neg λe=>by
   have e:z=P:=e;subst e;have:=gJ R.ndZ hz hm;subst this;refine aM hcz λq hq=>?_;exact z7 hq ⟨ps,rfl,ht⟩⟩
  by_cases e:t.1=P
  ·have et:t=(P,q):=by
    refine aM (jb hT) λi hi=>aM (jb Ll) λj hj=>?_;have e1:((gT K).map (·.1))[i]?=some P:=by rw[fP,hi];exact bH some e
    have e2:((gT K).map (·.1))[j]?=some P:=by rw[fP,hj];rfl
    rw[(ub (bM.mp e1).1 tr).mp<|e1.trans e2.symm,hj] at hi;exact(aT hi).symm
   subst et;have e3:=gJ R.ndZ h1 hm;cases e3;refine nV wv (gz hm) hr GW λpos cv SN=>?_;refine aY (On pos cv SN) (λk=>?_) λk=>?_
   ·exact sU (h4 pos cv k) λc₁ AL g1 g2 g3 g4=>BW c₁ AL g1 (Lm _ _ g2 ⟨_,g4⟩) g3 g4
   ·exact BW cA oc k (Lm _ _ hc ⟨_,LG⟩) hcr LG
  ·refine nV UK (bT.mpr ⟨_,h1,if_neg e⟩) h2 h3 λpos cv SN=>?_;exact sU (h4 pos cv SN) λc₁ AL g1 g2 g3 g4=>BW c₁ AL g1 (Lm _ _ g2 ⟨_,g4⟩) g3 g4
end
structure YC {f:Fz}(q:St f)(fa:Addr)(e:Expr)(sc:Scope)(j8:vQ)(params:Arguments)(qn:Str)(pm DN:Value)(cA:Addr)(oc:Obj):Prop where
 fn:(fa,kla_obj "<lambda>" qn params e sc j8 pm cA DN)∈q.Z
 co:(cA,oc)∈q.Z
 is:jA qn oc
theorem Ext.YD {P c':Addr}{ps:Array Value}{o o':Obj}(zc:c'∉Z.map (·.1))(R:Rep ρ Z Y)(MQ:Rep ρ ((c',o)::Z) Y)(hP:(P,tabObj ps)∈Z)(ht:TriplesOk ps.toList):Ext [] ρ Z ρ (gw ((c',o)::Z) P o'):=(Ext.hide zc R).trans<|Ext.tab MQ.ndZ (.tail _ hP) ht
variable {f:Fz} {q:St f} {E Q:du}
theorem IY {params:Arguments}{e:Expr}{sc:Scope}{pos:Pos}{j8:vQ}(tr:((gT K).map (·.1)).Nodup)(Z3:defaultsOf params f.env=([],[]))(zp:closureFor sc f.env=pure j8)(hw:f.t.n % 2=1)
  (hQ:∀fa pm DN cA oc qn (q':St f),mV [] q q'->q'.Y=q.Y->YC q' fa e sc j8 params qn pm DN cA oc->Q (.ref fa) q'.s):wpAny Mo f.A (eval (.Lambda params e sc pos) f.env) Q E q.s:=by
 refine cZ (q.ok.wordy hw) λcc P hcc hCd Ll=>?_;rw[<-q.ok.qual] at Ll;refine uc (q.rep.tabs _ Ll) λps hP YE ht Sh=>aM q.below λA₀ Bl=>ue q.top λp loose j7 mg mb T=>?_;have CH:=(hCd.keeps Bl.stays).keeps q.fr.keep;have hm:=q.news _ hP;have Z4:=T.g.keeps q.fr.keep;refine LL T.bmain λbm ob zq=>DS zq λb1 b2 b3 b4 b5 b6=>?_;have hgP:mainGlobals≠P:=λe=>by
  refine kg Z4 λo es ep e1 hd M=>?_;rw[e,hm.1] at e1;rw[<-aT e1] at hd;exact Data.noConfusion hd
 have hbP:bm≠P:=λe=>by
  have e1:=q.fr.keep _ _ b3;rw[e,hm.1] at e1;rw[<-aT e1] at b4;exact absurd b4 λh=>nomatch h
 have hbG:bm≠mainGlobals:=λe=>by
  refine kg T.g λo es ep e1 hd M=>?_;rw[e,e1] at b3;rw[<-aT b3,hd] at b6;exact absurd b6 λh=>nomatch h
 have Pn:=q.ok.code.trans hcc;refine kla_eval Z3 ?_;cases hq:codeAmong pos ps.toList with
 |some cv=>
  refine sU (Sh pos cv hq) λc₁ AL dZ g2 g3 g4=>?_;subst dZ;refine kla_makeFunctionHit zp q.ok.globals Z4 Pn CH hm.1 ht hq ⟨bm,ob,b1,b2,hbG,hbP,q.fr.keep _ _ b3,b4,b5,b6⟩ λDN h' tk hk hsz=>?_;let am:=q.grow hk tk;exact hQ _ _ DN c₁ AL _ (am.hide (kla_obj "<lambda>" (f.env.qual++"<lambda>") params e sc j8 ((mg "__name__").getD .none) c₁ DN) rfl tk) (am.hidden _ rfl tk) rfl ⟨.head _,.tail _ g2,g4⟩
 |none=>
  refine kla_makeFunction zp q.ok.globals Z4 Pn CH hm.1 ht hq hgP ⟨bm,ob,b1,b2,hbG,hbP,q.fr.keep _ _ b3,b4,b5,b6⟩ λc' DN h' tk hx hge mM Z5 htb=>SU Z5 λc₂ oc vs t zq=>Lx zq λe2 hoc hd hv=>?_;rw[<-Value.ref.inj e2] at hoc;have Ln:jA (f.env.qual++"<lambda>") oc:=⟨vs,t,hd,hv⟩;have hLc:=eB q.fr.ns.lt hge;have zc:c'∉q.Z.map (·.1):=λe=>by
   refine aI (bT.mp e) λpz Wm e=>?_;have:=gq (q.news pz Wm).1;rw[e] at this;exact sh _<|eB this hge
  have hcP:c'≠P:=λe=>zc (by rw[e];exact cB hP);have MQ:=q.rep.hide (o:=oc) zc;have MH:Rep q.ρ (gw ((c',oc)::q.Z) P<|tabObj<|ps++#[rawInt pos.line,rawInt pos.col,.ref c']) q.Y:=by
   refine Rep.tab tr Ll MQ (.tail _ hP) YE ht ?_ (.head _) (q.rep.mv zc) Ln hcP λpos' cv SN=>?_
   ·rw[Array.toList_append];exact TriplesOk_snoc _ _ _ _ ht
   ·rw[Array.toList_append] at SN;exact CR _ ht SN
  have YF:News q.b f.L h' (gw ((c',oc)::q.Z) P<|tabObj<|ps++#[rawInt pos.line,rawInt pos.col,.ref c']):=λz hz=>by
   refine aI (bT.mp hz) λYG UL MR=>?_;by_cases e:YG.1=P
   ·rw[if_pos e] at MR;rw[<-MR];exact⟨htb,hm.2⟩
   ·rw[if_neg e] at MR;rw[<-MR];exact(aX.mp UL).elim (λe'=>by rw[e'];exact⟨hoc,nT hLc,(Heap.get?_none_of_le (d9 q.fr.above<|Nat.le_of_lt hLc):q.b.get? c'=none)⟩) λe'=>⟨hx _ _ e (q.news _ e').1,(q.news _ e').2⟩
  have ex:=Ext.YD (o':=tabObj<|ps++#[rawInt pos.line,rawInt pos.col,.ref c']) zc q.rep MQ hP ht;let am:=q.to tk (⟨q.fr.ns.extBut hx hm.2.1.symm,λb o e=>hx b o (λh=>by rw[h,hm.2.2] at e;exact fB e)<|q.fr.keep b o e,q.fr.above⟩:Fr q.b f.L h' f.m) YF MH ex .refl;exact hQ _ _ DN c' oc _ (am.hide (kla_obj "<lambda>" (f.env.qual++"<lambda>") params e sc j8 ((mg "__name__").getD .none) c' DN) rfl tk) ((⟨ex,.refl⟩:mV [] q am).trans rfl (am.hidden _ rfl tk)) rfl ⟨.head _,.tail _ (hY _ _ (.head _) hcP),Ln⟩
end
section
def rK (ρ:List Addr)(Z:Led)(j8:vQ)(names:Ns)(N:Loc):Prop:=
 ∀(i:Nat) (x:Str) (k:NameKind) (v:V),names[i]?=some (x,k)->N[i]?=some (some v)->k=.free/\∃u a o,bF ρ Z u v/\j8.lookup x=some a/\(a,o)∈Z/\a∉ρ/\o.data=.cell (some u)
noncomputable abbrev noArgs:Arguments:=⟨[],[],none,[],[],none,[]⟩
structure IZ (t:Lv)(sc:Scope)(j8:vQ)(e:Expr)(xe:X):Prop where
 ns:t.ns=sc.names
 ev:t.n % 2=0
 kind:sc.kind=.function
 co:sc.isCoroutine=false
 gen:sc.isGenerator=false
 nodup:(sc.names.map (·.1)).Nodup
 nocell:∀p∈sc.names,p.2≠.cell
 free:∀z,(z,NameKind.free)∈sc.names->∃ad,j8.lookup z=some ad
 snd:cr t e xe
variable {f:Fz} {q:St f} {t:Lv} {sc:Scope} {E Q:du} {j8:vQ} {N:Loc}
theorem rK.ext {names:Ns}{q':St f}(h:rK q.ρ q.Z j8 names N)(a:mV [] q q'):rK q'.ρ q'.Z j8 names N:=λi x k v h1 h2=>by
 exact S2 (h i x k v h1 h2) λe u ad o g1 g2 g3 g4 g5=>S7 e u ad o (a.wH g1) g2 (a.ext.keep _ g3 g4 dj (kZ g5).2.2.1) (a.ext.old (cB g3) g4) g5
theorem F9 (q:St f)(hi:okInner f.t.ns sc=true):rK q.ρ q.Z (oy f.env.cells sc.names []) sc.names (frees (de f.t.ns sc.names) f.N):=λi x k v hx hl=>by
 refine aI (q.lo.kW (C:=0) hi q.ok i x k v hx hl) λu iu lk=>?_;have hk:=(Ay hx hl).1;rw[hk] at hx⊢;have Wi:(f.kW sc 0).env.kindOf x=some .local->False:=λhk=>(((q.ok.kW (C:=0) hi).cell x .free (fN hx)<|.inr rfl).1).elim (λe=>NameKind.noConfusion<|aT<|e.symm.trans hk) λe=>NameKind.noConfusion<|aT<|e.symm.trans hk
 cases lk with
 |here hk _ _=>exact(Wi hk).elim
 |kW _ _ hk _ _ _ _=>exact(Wi hk).elim
 |cell ad o _ g1 g2 g3 g4=>exact S7 rfl u ad o iu g1 g2 g3 g4
theorem IZ.env {e:Expr}{xe:X}(T:IZ t sc j8 e xe){qn:Str}{L fa:Addr}{cv:Value}:AJ t.ns (envX qn sc L fa cv j8) L where
 kind:=T.kind
 globals:=rfl
 builtins:=rfl
 frame:=rfl
 top:=λz h=>by rw[T.ns] at h;exact h
 local':=λz h=>bz T.nodup (T.ns▸h)
 cell:=λz k h hk=>by
  rw[T.ns] at h;rw[(hk.resolve_left (T.nocell _ h):k=.free)] at h;exact⟨.inr<|bz T.nodup h,T.free z h⟩
theorem I0 {A:Around}{e:Expr}{xe:X}{qn:Str}{pm DN:Value}{fa cA:Addr}{oc:Obj}(T:IZ t sc j8 e xe)(r:th f A t)(H:YC q fa e sc j8 noArgs qn pm DN cA oc)(BO:rK q.ρ q.Z j8 sc.names N)(P:aE bF q (aV t.O xe N q.Y) Q E):
  codeAny Mo A (.call (.ref fa) ⟨[],[]⟩) (wO Q E) q.s:=by
 refine aM q.below λA₀ Bl=>ue q.top λp loose j7 mg mb TT=>xN (groundX (A:=A) (s:=q.s) (R:=λM M=>True) Bl q.fr q.news (r.frames.trans q.ok.frames) q.ok.frame q.ok.fkind) λFG BG st lv=>?_;have Lb:q.h.CodeRec (.ref cA) qn:=by
  exact gm H.is λvs t h1 h2=>Sw cA oc vs t<|LU rfl ((q.news _ H.co).1) h1 h2
 refine kla_callFunE r.now (q.news _ H.fn).1 rfl T.co T.gen rfl Lb ?_;rw[show bindArgs (kla_fn "<lambda>" qn noArgs e sc j8 pm (.ref cA) DN) ⟨[],[]⟩=pure [] from rfl];refine aW<|wpAny_newFunctionEnv T.nocell (λM h=>nomatch h) (λbx BJ WU=>⟨((TT.nolimit).keeps q.fr.keep).fresh _ WU,?_⟩) T.kind
 have iS:∀b o,q.h.get? b=some o->bx.get? b=some o:=λb o e=>WU.extBut b o (ka<|gq e)<|kG _ e
 have N':News (hideAll q.h<|q.Z.map (·.1)) q.h.objs.size bx q.Z:=λp hp=>⟨iS _ _ (q.news p hp).1,ka<|gq (q.news p hp).1,hideAll_none _<|cB hp⟩;have wy:t.n % 2=1->uw (f.enter A t (envX qn sc q.h.objs.size fa (.ref cA) j8) q.h.objs.size (λy=>([]:List (Str × Value)).reverse.lookup y) N).toFx:=λho=>absurd (ho.symm.trans T.ev) (by decide);have lo:gf (f.enter A t (envX qn sc q.h.objs.size fa (.ref cA) j8) q.h.objs.size (λy=>([]:List (Str × Value)).reverse.lookup y) N) q.ρ q.Z:=λi z k v h1 h2=>by
  have h1:=T.ns▸h1;refine S2 (BO i z k v h1 h2) λe u ad o g1 g2 g3 g4 g5=>?_;rw[e] at h1;exact bD u g1<|.cell ad o (.inr<|bz T.nodup<|fN h1) g2 g3 g4 g5
 let q':=q.enter q.tk r wy T.env FG ⟨_,BG⟩ st (⟨BJ,λb o e=>iS b o<|of_hideAll _ e,qq<|hideAll_size _ _⟩:Fr (hideAll q.h<|q.Z.map (·.1)) q.h.objs.size bx (λy=>([]:List (Str × Value)).reverse.lookup y)) N' q.rep lo;exact kla_codeExpr<|T.snd _ q' _ _ rfl<|aE.left FG .refl P
end
section
structure uT where
 y:Str
 q:Pos
 s:Str
 k:Nat
 r:Pos
 t:Pos
 u:Pos
noncomputable abbrev uT.h (x:uT):ExceptHandler:=.ExceptHandler (some<|.Name x.y x.q) none [.Return (some<|.Constant (.str x.s) x.k x.r) x.t] x.u
structure Ef where
 D:CQ
 cn:Str
 p1:Pos
 p2:Pos
 p3:Pos
 p4:Pos
 h1:uT
 h2:uT
 h3:uT
 look:K.lookup 418=some ⟨D.oc,D.od,.func D.fd,D.osl⟩
 code:codeIn K D.cdv D.qual=true
 kind:D.scope.kind=.function
 co:D.scope.isCoroutine=false
 gen:D.scope.isGenerator=false
 body:D.body=[.Try [.Return (some<|.Call (.Name cn p1) [] [] p2) p3] [h1.h,h2.h,h3.h] [] [] p4]
 nocells:∀k,cellsFrom k D.scope.names []=[]
 lk1:D.scope.names.lookup cn=some .local
 lk2:D.scope.names.lookup h1.y=some .globalImplicit
 lk3:D.scope.names.lookup h2.y=some .globalImplicit
 lk4:D.scope.names.lookup h3.y=some .globalImplicit
 bind:∀(s:Shared) (v:Value),BindsTo s D.fd ⟨[v],[]⟩ [(cn,v)]
 dbg:(cn==("__debug__":Str))=false/\(h1.y==("__debug__":Str))=false/\(h2.y==("__debug__":Str))=false/\(h3.y==("__debug__":Str))=false
 w1:h1.s=Str.ofString "hidden"
 w2:h2.s=Str.ofString "name"
 w3:h3.s=Str.ofString "type"
 n1:KtsName K h1.y (.ref 64)
 n2:KtsName K h2.y (.ref 52)
 n3:KtsName K h3.y (.ref 76)
 e11:exmOne K (.ref 64) (.ref 64)=some true
 e21:exmOne K (.ref 52) (.ref 64)=some false
 e22:exmOne K (.ref 52) (.ref 52)=some true
 e31:exmOne K (.ref 76) (.ref 64)=some false
 e32:exmOne K (.ref 76) (.ref 52)=some false
 e33:exmOne K (.ref 76) (.ref 76)=some true
theorem p7 {aaw:Model}{A:Around}{env:Env}{s:Shared}{x:uT}{Q:xP}{E:du}(h:Q (.ret<|.str x.s s.toks) {s with toks:=s.toks+1}):wpAny aaw A (execs [.Return (some<|.Constant (.str x.s) x.k x.r) x.t] env) Q E s:=
 wpAny_execs_cons (wpAny_Return_some<|wpAny_Constant_str h)
def UM (A:Around)(env:Env)(Q:xP)(E:du)(f:Flow)(s:Shared):Prop:=match f with
 | .next=>wpAny Mo A (execs [] env) Q E s
 |f=>Q f s
def YH (A:Around)(env:Env)(l:List ExceptHandler)(Q:xP)(E:du)(x:Value)(s:Shared):Prop:=
 wpAny Mo A (noteFrame x env) (λM kj=>wpAny Mo A (setFlight x none) (λM te=>wpAny Mo A (handleBy x env l) (UM A env Q E) E te) E kj) E s
theorem I1 {A:Around}{env:Env}{e:Expr}{p3 p4:Pos}{x:ExceptHandler}{l:List ExceptHandler}{Q:xP}{E:du}{s:Shared}(h:wpAny Mo A (eval e env) (λv s'=>Q (.ret v) s') (YH A env (x::l) Q E) s):wpAny Mo A (execs [.Try [.Return (some e) p3] (x::l) [] [] p4] env) Q E s:=
 wpAny_execs_cons (cC (Q:=UM A env Q E) (wpAny_Try_except<|wpAny_execs_cons<|wpAny_Return_some<|cC h (λM M x=>x) λM M x=>x) (λf M x=>by cases f<;>exact x) λM M x=>x)
variable {f:Fz} {q:St f} {t:Lv} {sc:Scope} {E Q:du} {j8:vQ} {N:Loc}
theorem MS {P:Res V->Prop}{C:Nat}{Y:af}(hs:¬P .stuck)(h:P (qy (.exc C Y))):(C=64/\P (.ok (.str (Str.ofString "hidden")) Y))∨(C=52/\P (.ok (.str (Str.ofString "name")) Y))∨(C=76/\P (.ok (.str (Str.ofString "type")) Y)):=by
 have h:P (if C=64 then .ok (.str (Str.ofString "hidden")) Y else if C=52 then .ok (.str (Str.ofString "name")) Y else if C=76 then .ok (.str (Str.ofString "type")) Y else .stuck):=h;by_cases c1:C=64
 ·rw[if_pos c1] at h;exact .inl ⟨c1,h⟩
 ·rw[if_neg c1] at h;by_cases c2:C=52
  ·rw[if_pos c2] at h;exact .inr<|.inl ⟨c2,h⟩
  ·rw[if_neg c2] at h;by_cases c3:C=76
   ·rw[if_pos c3] at h;exact .inr<|.inr ⟨c3,h⟩
   ·rw[if_neg c3] at h;exact absurd h hs
theorem Ga (WK:Ef){e:Expr}{xe:X}{qn:Str}{pm DN:Value}{fa cA:Addr}{oc:Obj}(T:IZ t sc j8 e xe)(hn:t.n / 2+4<=f.t.n / 2)(H:YC q fa e sc j8 noArgs qn pm DN cA oc)(BO:rK q.ρ q.Z j8 sc.names N)(P:aE bF q (qy<|aV t.O xe N q.Y) Q E):
  codeAny Mo f.A (.call (.ref 418) ⟨[.ref fa],[]⟩) (wO Q E) q.s:=by
 refine aM q.below λA₀ Bl=>ue q.top λp loose j7 mg mb TT=>ue q.ok.topB λpB Z6 aal mgB mbB TB=>?_;have mM:2 * (t.n / 2+2) / 2=t.n / 2+2:=Nat.mul_div_cancel_left _ Nat.two_pos;have r:th f f.A ⟨t.O,2 * (t.n / 2+2),[]⟩:=th.of q.ok rfl rfl (kN _) (dX _ _) (by show 2 * (t.n / 2+2) / 2+2<=_;rw[mM];exact hn);refine sE (env:=f.fe) Bl q.fr q.news TT.nolimit q.ok.frames q.ok.frame q.ok.fkind (q.sx _ _ WK.look) rfl (codeRec_of q.sx WK.code) r.now (WK.bind q.s<|.ref fa) (λk z hz=>?_)
  (by rw[WK.nocells];exact jG) (λg L' bx tk cells FG F' N' aav BG st M=>?_) WK.co WK.gen WK.kind
 ·rw[cK.mp hz];exact .inl WK.lk1
 ·have hc:cells=[]:=List.map_eq_nil_iff.mp<|(jD aav).trans (by rw[WK.nocells];rfl)
  rw[hc] at N';have hee:envOfC WK.D.qual WK.D.scope L' 418 WK.D.cdv=envOf WK.D.qual WK.D.scope L' 418 WK.D.cdv:=by unfold envOfC envOf;rw[WK.nocells]
  rw[hee] at F'⊢;have eI:AJ [] (envOf WK.D.qual WK.D.scope L' 418 WK.D.cdv) L':=⟨WK.kind,rfl,rfl,rfl,λM h=>fB h,λM h=>absurd h dj,λM M h=>absurd h dj⟩;have wy:2 * (t.n / 2+2) % 2=1->uw (f.enter f.A ⟨t.O,2 * (t.n / 2+2),[]⟩ (envOf WK.D.qual WK.D.scope L' 418 WK.D.cdv) L' (bindL (envOf WK.D.qual WK.D.scope L' 418 WK.D.cdv).kindOf [(WK.cn,Value.ref fa)] λM=>none) []).toFx:=λho=>absurd ((Nat.mul_mod_right 2 _).symm.trans ho) (by decide);let q':=q.enter (N:=[]) tk r wy eI FG ⟨_,BG⟩ st F' N' q.rep λi M M M h M=>fB h;have LH:(envOf WK.D.qual WK.D.scope L' 418 WK.D.cdv).kindOf WK.cn=some .local:=WK.lk1;have UN:bindL (envOf WK.D.qual WK.D.scope L' 418 WK.D.cdv).kindOf [(WK.cn,Value.ref fa)] (λM=>none) WK.cn=some (.ref fa):=rJ LH (gY.mpr ⟨dj,jG⟩)<|.head _
  rw[WK.body];refine I1<|wpAny_Call_ofName<|wpAny_Name (wpAny_loadName_local WK.kind LH F'.ns UN ?_) WK.dbg.1
  refine callWith_F0 ⟨_,_,_,_,(N' _ H.fn).1⟩<|wpAny_call ?_
  refine I0 (q:=q') T (th.of q'.ok rfl rfl (kN _) (dX _ _)<|qq mM.symm) ⟨H.fn,H.co,H.is⟩ BO ?_;have P:aE bF q (qy<|aV t.O xe N q'.Y) Q E:=P;generalize aV t.O xe N q'.Y=rr at P;cases rr with
  |stuck=>exact P
  |ok v Y'=>
   intro u jw a es i;refine St.down (cs:=[]) FG (λM h=>nomatch h) .refl jw a λam d bA iv eh=>?_;show Q u jw.s;rw[<-eh];exact P u am d (bA.trans es)<|iv _ _ i
  |exc C Y'=>
   intro m' g' ex bR Z' h' eS b' F'' Xa U Rp'' Ex T';have uH:=kX BG T';have fu:=q'.dicts.turn T';refine mU (s:={f.lY with heap:=h',toks:=eS}) uH F'' rfl WK.kind q'.ok.frames rfl Xa U λYI eo Gb RH QJ=>sU RH λBB a0 hB G8 hl hh=>wpAny_landsW hh λmZ RZ Ed=>?_;have RS:RaisedSN f.base YI (_::f.fe::f.outer) ex (.ref C) Z' mZ:=⟨BB,a0,hB,G8,hl,RZ⟩;have F5:=QJ.trans Ed;have fin:∀(x:uT) (nI uU:Heap),aE bF q (.ok (.str x.s) Y') Q E->KtsTurn ((f.fe::f.outer).filterMap (·.frame)) b' uU->Fr uU L' nI m'->News uU L' nI Z'->Q (.str x.s eS) {f.lY with heap:=nI,toks:=eS+1}:=λx nI uU P CS CT CU=>by
    have tu:KtsTurn (f.L::f.fs) g uU:=tH q.ok.frame▸(T'.trans CS);exact aI (ry Bl FG tu) λuv wc Fd=>P (.str x.s eS) (q.to (eS+1) (Fd.keeps CT.keep) (wG Fd CU) Rp'' Ex wc) ⟨Ex,wc⟩ rfl<|.str _ _
   refine o3 (MS (P:=λr=>aE bF q r Q E) id P) (λQK=>?_) (λQL=>?_) λQM=>?_
   ·refine cN QK λeC aO=>?_;rw[<-WK.w1] at aO;rw[eC] at RS;exact hit_SN0 (s':={f.lY with heap:=mZ,toks:=eS}) RS Gb uH F5 q.ok.inB TB fu .refl (test_name WK.n1 WK.e11 WK.kind WK.lk2 WK.dbg.2.1) λnI uU CS CT CU M M M M=>p7<|fin WK.h1 nI uU aO CS CT CU
   ·refine cN QL λeC aO=>?_;rw[<-WK.w2] at aO;rw[eC] at RS;exact pass_SN (s':={f.lY with heap:=mZ,toks:=eS}) RS Gb uH F5 q.ok.inB TB fu (test_name WK.n1 WK.e21 WK.kind WK.lk2 WK.dbg.2.1) λuM I2 QN=>hit_SN0 (s':={f.lY with heap:=uM,toks:=eS}) I2 Gb uH QN q.ok.inB TB fu .refl (test_name WK.n2 WK.e22 WK.kind WK.lk3 WK.dbg.2.2.1) λnI uU CS CT CU M M M M=>p7<|fin WK.h2 nI uU aO CS CT CU
   ·refine cN QM λeC aO=>?_;rw[<-WK.w3] at aO;rw[eC] at RS;exact pass_SN (s':={f.lY with heap:=mZ,toks:=eS}) RS Gb uH F5 q.ok.inB TB fu (test_name WK.n1 WK.e31 WK.kind WK.lk2 WK.dbg.2.1) λuM I2 QN=>pass_SN (s':={f.lY with heap:=uM,toks:=eS}) I2 Gb uH QN q.ok.inB TB fu (test_name WK.n2 WK.e32 WK.kind WK.lk3 WK.dbg.2.2.1) λIL UO YJ=>hit_SN0 (s':={f.lY with heap:=IL,toks:=eS}) UO Gb uH YJ q.ok.inB TB fu .refl (test_name WK.n3 WK.e33 WK.kind WK.lk4 WK.dbg.2.2.2) λnI uU CS CT CU M M M M=>p7<|fin WK.h3 nI uU aO CS CT CU
end
theorem I3 (WK:Ef)(hnt:((gT K).map (·.1)).Nodup){t:Lv}{x:Str}{fp lp pos:Pos}{sc:Scope}{e:Expr}{xe:X}{MT:Nat}(hn:iI t.ns x=true)(hu:nsIn K mainGlobals x=some (some<|.ref 418))(hk:keepIn K (.ref 418)=true)(hi:okInner t.ns sc=true)(LG:sc.isCoroutine=false)(DL:sc.isGenerator=false)
  (he:cr ⟨t.O,MT,sc.names⟩ e xe) (hev:MT % 2=0) (hle:MT / 2+4<=t.n / 2) (hw:t.n % 2=1):cr t (.Call (.Name x fp) [.Lambda noArgs e sc lp] [] pos) (.word (de t.ns sc.names) xe):=λf q Q E e0 P=>by
 subst e0;have P:aE bF q (qy<|aV f.t.O xe (frees (de f.t.ns sc.names) f.N) q.Y) Q E:=P;refine xN (fH hi) λk1 k2 k3 k4=>wpAny_Call_ofName<|oi hn hu<|callWith_of rfl (λh X=>keeps_K hk h X)<|Calls.evalArgs_plain ?_
 refine wpAny_items_cons (IY hnt rfl (uI<|iB hi q.ok) hw λfa pm DN cA oc qn q' a es L=>wpAny_items_nil ⟨q'.sx,wpAny_call ?_⟩) rfl;have T:IZ ⟨f.t.O,MT,sc.names⟩ sc (oy f.env.cells sc.names []) e xe:=⟨rfl,hev,k1,LG,DL,k2,k3,λz hz=>by
  refine aM (iB hi q.ok z hz) λad ha=>?_;exact⟨ad,by rw[m4 _ _ _ (iB hi q.ok)<|.inl hz,ha]⟩,he⟩
 exact Ga WK T hle L ((F9 q hi).ext a)<|es▸P.shift a
section
structure oZ (gx:Gx):Prop where
 attrs:tL
 meths:D7
 zW:D8
 val:∀x v,gx.val x=some v->HK x v
 fn:∀x f,gx.fn x=some f->nsIn K mainGlobals x=some (some<|.ref f)/\keepIn K (.ref f)=true
 cls:∀x C,gx.cls x=some C->nsIn K mainGlobals x=some (some<|.ref C)
 bi:∀x b,gx.bi x=some b->HM x b
 bm:∀nm m,gx.bm nm=some m->nm=rF m
 exc:∀C:Nat,(C==52||C==64||C==76)=true->keepIn K (.ref C)=true/\nW K C/\uR C
structure lc (gx:Gx)(O:ar)(n:Nat)(wd:Bool):Prop extends oZ gx where
 calls:hV O n
 word:wd=true->∀(ns:Ns) (sc:Scope) (f:Str) (fp lp pos:Pos) (e:Expr) (xe:X),f=gx.word->iI ns f=true->okInner ns sc=true->sc.isCoroutine=false->sc.isGenerator=false->bS gx xe false e sc.names=true->
  cr ⟨O,n,ns⟩ (.Call (.Name f fp) [.Lambda noArgs e sc lp] [] pos) (.word (de ns sc.names) xe)
structure Sn (t:Lv)(e:Expr)(x:X):Prop where
 v:cr t e x
 t:pq t e x
 s:∀env r,starEach (e::r) env=(false,eval e env)::starEach r env
inductive Cp (t:Lv):Expr->X->Prop
 |mk {elt iter target:Expr} {ifs:List Expr} {rest:List Comprehension} {sc:Scope} {pos:Pos} {ts:List Nat} {xi xx:X} {Rf:Addr->Rest} {fn:Loc->List V->af->Res (aG)} (H:wW t elt iter target ifs rest sc pos ts xi xx Rf fn):Cp t (.ListComp elt (⟨target,iter,ifs,0⟩::rest) sc pos) xx
variable {e:Expr}
theorem qQ {ns:Ns}(h:zY e ns=true):∃nm fp l p,e=.Call (.Name nm fp) l [] p/\iI ns nm=true:=
 @Expr.Call.elim (λe=>zY e ns=true->∃nm fp l p,e=.Call (.Name nm fp) l [] p/\iI ns nm=true) e (ix<|b1 h) (λf l kw p h=>
  have h:((16:Nat)==16&&(f.ctorIdx==23&&(kw.isEmpty&&iI ns (pt f).nm)))=true:=h
  @Expr.Name.elim (λf=>iI ns (pt f).nm=true->∃nm fp l' p',Expr.Call f l kw p=.Call (.Name nm fp) l' [] p'/\iI ns nm=true) f (ix<|b1<|b2 h) (λnm fp ht=>⟨nm,fp,l,p,by rw[isNil<|b1<|b2<|b2 h],ht⟩) (b2<|b2<|b2 h)) h
theorem Eg (h:Mb e=true):∃o nm ap l p,e=.Call (.Attribute o nm ap) l [] p/\j1 o=true/\l.length<30/\(ap.endLine==p.line)=true:=
 @Expr.Call.elim (λe=>Mb e=true->∃o nm ap l p,e=.Call (.Attribute o nm ap) l [] p/\j1 o=true/\l.length<30/\(ap.endLine==p.line)=true) e (ix<|b1 h) (λf l kw p h=>
  have h:((16:Nat)==16&&(f.ctorIdx==20&&(kw.isEmpty&&(j1 (hJ f 0)&&(decide (l.length+1<31)&&(pt f).line==p.line)))))=true:=h
  @Expr.Attribute.elim (λf=>(j1 (hJ f 0)&&(decide (l.length+1<31)&&(pt f).line==p.line))=true->∃o nm ap l' p',Expr.Call f l kw p=.Call (.Attribute o nm ap) l' [] p'/\j1 o=true/\l'.length<30/\(ap.endLine==p'.line)=true) f (ix<|b1<|b2 h)
   (λo nm ap h2=>⟨o,nm,ap,l,p,by rw[isNil<|b1<|b2<|b2 h],b1 h2,Nat.lt_of_succ_lt_succ<|od<|b1<|b2 h2,b2<|b2 h2⟩) (b2<|b2<|b2 h)) h
theorem qR (h:sr e=true):∀l k p,e≠.Set l k p:=λl k p q=>by subst q;cases h
theorem MU {fr:List (Option Nat)}{ns:Ns}(h:PM e fr ns=true):∃b sc lp,e=.Lambda noArgs b sc lp/\okInner ns sc=true/\sc.isCoroutine=false/\sc.isGenerator=false/\fr=de ns sc.names:=
 @Expr.Lambda.elim (λe=>PM e fr ns=true->∃b sc lp,e=.Lambda noArgs b sc lp/\okInner ns sc=true/\sc.isCoroutine=false/\sc.isGenerator=false/\fr=de ns sc.names) e (ix<|b1 h) (λa b sc lp h=>by
  obtain⟨a1,a2,a3,a4,a5,a6,a7⟩:=a;have h:((4:Nat)==4&&((a1.isEmpty&&a2.isEmpty&&a3.isNone&&a4.isEmpty&&a5.isEmpty&&a6.isNone&&a7.isEmpty)&&(okInner ns sc&&(!sc.isCoroutine&&(!sc.isGenerator&&decide (fr=de ns sc.names))))))=true:=h;have ha:=b1<|b2 h
  have hb:=b2<|b2 h
  have h6:=b1 ha;have h5:=b1 h6;have h4:=b1 h5;have h3:=b1 h4;have h2:=b1 h3;refine LQ b sc lp<|Ou ?_ (b1 hb) (nn<|b1<|b2 hb) (nn<|b1<|b2<|b2 hb)<|od<|b2<|b2<|b2 hb
  rw[isNil<|b1 h2,isNil<|b2 h2,Option.isNone_iff_eq_none.mp<|b2 h3,isNil<|b2 h4,isNil<|b2 h5,Option.isNone_iff_eq_none.mp<|b2 h6,isNil<|b2 ha]) h
theorem uV {α:Type}{l:List α}(h:l.length=1):∃a,l=[a]:=wx.mp h
theorem I4 {α:Type}{l:List α}(h:l.length=2):∃a b,l=[a,b]:=by
 cases l with
 |nil=>cases h
 |cons a r=>
  refine aM (uV<|jH h) λb dZ=>?_;subst dZ;exact E7 a b rfl
theorem I5 {lo hi st:Option Expr}{b:Bool}(h:decide (lo.isSome=b/\(Ch lo hi st).length=1)=true):∃e,Ch lo hi st=[e]/\((b=false/\lo=none/\hi=some e/\st=none)∨(b=true/\lo=some e/\hi=none/\st=none)):=by
 refine cN (od h) λmu hl=>?_;subst mu;clear h;cases st with
 |some _=>cases hl
 |none=>
  cases lo with
  |none=>
   cases hi with
   |none=>cases hl
   |some e=>exact bD e rfl<|.inl ⟨rfl,rfl,rfl,rfl⟩
  |some e=>
   cases hi with
   |none=>exact bD e rfl<|.inr ⟨rfl,rfl,rfl,rfl⟩
   |some _=>cases hl
section
variable {O:ar} {gx:Gx} {n:Nat} {wd:Bool} {ns:Ns}
variable {e:Expr}
theorem Sn.plain {t:Lv}{x:X}(h:cr t e x)(hs:∀env r,starEach (e::r) env=(false,eval e env)::starEach r env)(ht:∀env whole,isTrue e env whole=(do let v<-whole;standAt e.pos;holding [v] (truthy v))):Sn t e x:=⟨h,CB ht h,hs⟩
theorem Cp.sn {t:Lv}{x:X}(h:Cp t e x):Sn t e x:=by
 induction h with
 |mk H=>exact .plain H.snd (λM M=>rfl) λM M=>rfl
theorem MV (T:lc gx O n wd){v:V}(h:bS gx (.c v) wd e ns=true):Sn ⟨O,n,ns⟩ e (.c v):=by
 have h:(match Ma gx e ns with
  |some u=>V.beq u v
  |none=>false)=true:=h
 cases q:Ma gx e ns with
 |none=>rw[q] at h;cases h
 |some u=>
  rw[q] at h;obtain rfl:u=v:=V.beq_eq h;unfold Ma at q;by_cases h1:(e.ctorIdx==19)=true
  ·rw[if_pos h1] at q;exact @Expr.Constant.elim (λe=>(pt e).k.bind Cg=some u->Sn ⟨O,n,ns⟩ e (.c u)) e (ix h1) (λk j p q=>.plain (snd_const q) (λM M=>rfl) λM M=>rfl) q
  ·rw[if_neg h1] at q;by_cases h2:(e.ctorIdx==23)=true
   ·rw[if_pos h2] at q;refine kf (oV<|ix h2) λnm p uu=>?_;subst uu;have q:(if ((eW ns nm).isNone&&iI ns nm)=true then gx.val nm else none)=some u:=q;by_cases h3:((eW ns nm).isNone&&iI ns nm)=true
    ·rw[if_pos h3] at q;exact .plain (Mj (b2 h3)<|T.val _ _ q) (λM M=>rfl) λM M=>rfl
    ·rw[if_neg h3] at q;cases q
   ·rw[if_neg h2] at q;by_cases h3:(e.ctorIdx==3&&(pt e).uop==some .USub&&(hJ e 0).ctorIdx==19)=true
    ·rw[if_pos h3] at q;exact @Expr.UnaryOp.elim (λe=>(e.ctorIdx==3&&(pt e).uop==some .USub&&(hJ e 0).ctorIdx==19)=true->(match (pt<|hJ e 0).k with
      |some (.int i)=>some<|V.int (-i)
      |_=>none)=some u->Sn ⟨O,n,ns⟩ e (.c u)) e (ix<|b1<|b1 h3) (λop a p h3 q=>by
       have h4:(((3:Nat)==3&&some op==some .USub)&&a.ctorIdx==19)=true:=h3;obtain rfl:op=.USub:=aT<|eq_of_beq<|b2<|b1 h4
       exact @Expr.Constant.elim (λa=>(match (pt a).k with
        |some (.int i)=>some<|V.int (-i)
        |_=>none)=some u->Sn ⟨O,n,ns⟩ (.UnaryOp .USub a p) (.c u)) a (ix<|b2 h4) (λk j pk q=>by
         cases k with
         |int i=>cases q;exact .plain MC (λM M=>rfl) λM M=>rfl
         |_=>cases q) q) h3 q
    ·rw[if_neg h3] at q;cases q
theorem I6 {fr:List (Option Nat)}{ts:List Nat}{it elt:X}{cd:List X}(GX:∀(e:Expr) (ns:Ns),bS gx it wd e ns=true->Sn ⟨O,n,ns⟩ e it)(Wn:∀(es:List Expr) (ns:Ns),kT gx cd wd es ns=true->dy ⟨O,n,ns⟩ es cd)(Si:∀(e:Expr) (ns:Ns),bS gx elt wd e ns=true->Sn ⟨O,n,ns⟩ e elt)
  {e:Expr} (h:bS gx (.comp fr ts it cd elt) wd e ns=true):Cp ⟨O,n,ns⟩ e (.comp fr ts it cd elt):=
 @Expr.ListComp.elim (λe=>bS gx (.comp fr ts it cd elt) wd e ns=true->Cp ⟨O,n,ns⟩ e (.comp fr ts it cd elt)) e (ix<|b1 h) (λbA gs sc p h=>by
  refine aM (uV<|od<|b1<|b2 h) λp4q FU=>?_;obtain⟨t,i,ifs,k⟩:=p4q;subst FU;have h3:=b2<|b2 h
  have h1:(okInner ns sc&&(k==0&&(sr i&&decide (fr=de ns sc.names/\slotsOf sc.names t=some ts))))=true:=b1 h3;obtain rfl:k=0:=eq_of_beq<|b1<|b2 h1
  refine cN (od<|b2<|b2<|b2 h1) λQn Lp=>?_;subst Qn;have h4:=b2 h3;exact⟨Qw (b1 h1) Lp (qR<|b1<|b2<|b2 h1) (GX i ns<|b1 h4).v (Wn ifs sc.names<|b1<|b2 h4) (Si bA sc.names<|b2<|b2 h4).v⟩) h
theorem I7 {fr:List (Option Nat)}{ts qj:List Nat}{it qk elt:X}(GX:∀(e:Expr) (ns:Ns),bS gx it wd e ns=true->Sn ⟨O,n,ns⟩ e it)(Sj:∀(e:Expr) (ns:Ns),bS gx qk wd e ns=true->Sn ⟨O,n,ns⟩ e qk)(Si:∀(e:Expr) (ns:Ns),bS gx elt wd e ns=true->Sn ⟨O,n,ns⟩ e elt)
  {e:Expr} (h:bS gx (.comp2 fr ts it qj qk elt) wd e ns=true):Cp ⟨O,n,ns⟩ e (.comp2 fr ts it qj qk elt):=
 @Expr.ListComp.elim (λe=>bS gx (.comp2 fr ts it qj qk elt) wd e ns=true->Cp ⟨O,n,ns⟩ e (.comp2 fr ts it qj qk elt)) e (ix<|b1 h) (λbA gs sc p h=>by
  refine kf (I4<|od<|b1<|b2 h) λp7q p8q YK=>?_;obtain⟨t,i,ifs,k⟩:=p7q;obtain⟨t2,i2,Wo,k2⟩:=p8q;subst YK;have h3:=b2<|b2 h
  have h1:(okInner ns sc&&(k==0&&(sr i&&decide (fr=de ns sc.names/\slotsOf sc.names t=some ts))))=true:=b1 h3;obtain rfl:k=0:=eq_of_beq<|b1<|b2 h1
  refine cN (od<|b2<|b2<|b2 h1) λQO Lp=>?_;subst QO;have h2:(k2==0&&(sr i2&&(ifs.isEmpty&&(Wo.isEmpty&&decide (slotsOf sc.names t2=some qj)))))=true:=b1<|b2 h3
  obtain rfl:k2=0:=eq_of_beq<|b1 h2
  obtain rfl:ifs=[]:=isNil<|b1<|b2<|b2 h2
  obtain rfl:Wo=[]:=isNil<|b1<|b2<|b2<|b2 h2
  have h4:=b2<|b2 h3
  exact⟨Qx (b1 h1) Lp (od<|b2<|b2<|b2<|b2 h2) (qR<|b1<|b2<|b2 h1) (qR<|b1<|b2 h2) (GX i ns<|b1 h4).v (Sj i2 sc.names<|b1<|b2 h4).v (Si bA sc.names<|b2<|b2 h4).v⟩) h
theorem fZ (T:lc gx O n wd)(x:X):∀(e:Expr) (ns:Ns),bS gx x wd e ns=true->Sn ⟨O,n,ns⟩ e x:=by
 refine @X.rec (λx=>∀(e:Expr) (ns:Ns),bS gx x wd e ns=true->Sn ⟨O,n,ns⟩ e x) (λl=>∀(es:List Expr) (ns:Ns),kT gx l wd es ns=true->dy ⟨O,n,ns⟩ es l)
  ?l ?c ?U ?s ?dct ?m ?and ?or ?not ?ite ?bin ?i ?slcTo ?slcFrom ?attr ?call ?new ?bG ?bi ?bm ?comp ?comp2 ?word ?nil ?cons x
 case l=>
  intro i e ns h;refine kf (oV<|ix<|b1 h) λnm p YL=>?_;subst YL;exact .plain (Mi<|od<|b2 h) (λM M=>rfl) λM M=>rfl
 case c=>exact λv e ns h=>MV T h
 case U=>
  intro l ih e ns h;exact @Expr.Tuple.elim (λe=>bS gx (.U l) wd e ns=true->Sn ⟨O,n,ns⟩ e (.U l)) e (ix<|b1 h) (λes k p h=>
   have hs:=ih es ns<|b2<|b2 h
   .plain (Ml (od<|b1<|b2 h) hs.length hs.CA) (λM M=>rfl) λM M=>rfl) h
 case s=>
  intro l ih e ns h;exact @Expr.List.elim (λe=>bS gx (.s l) wd e ns=true->Sn ⟨O,n,ns⟩ e (.s l)) e (ix<|b1 h) (λes p h=>
   have hs:=ih es ns<|b2<|b2 h
   .plain (Mm (od<|b1<|b2 h) hs.length hs.CA) (λM M=>rfl) λM M=>rfl) h
 case dct=>
  intro ks l ih e ns h;exact @Expr.Dict.elim (λe=>bS gx (.dct ks l) wd e ns=true->Sn ⟨O,n,ns⟩ e (.dct ks l)) e (ix<|b1 h) (λkeys es p h=>
   have hd:=od<|b1<|b2<|b2 h
   .plain (MG (b1<|b2 h) hd.1 hd.2.1 hd.2.2<|ih es ns<|b2<|b2<|b2 h) (λM M=>rfl) λM M=>rfl) h
 case m=>
  intro op a b rj Sk e ns h;exact @Expr.Compare.elim (λe=>bS gx (.m op a b) wd e ns=true->Sn ⟨O,n,ns⟩ e (.m op a b)) e (ix<|b1 h) (λbA ops es p h=>by
   refine cN (od<|b1<|b2 h) λh1 h2=>?_;obtain rfl:ops=[op]:=h1;refine aM (uV<|jH h2) λcz YM=>?_;subst YM;have h3:=b2<|b2 h
   have hm:=nn<|b1 h3
   have ha:=(rj bA ns<|b1<|b2 h3).v;have hb:=(Sk cz ns<|b2<|b2 h3).v;exact⟨Mv hm ha hb,Ij hm ha hb,λM M=>rfl⟩) h
 case and=>
  intro l ih e ns h;exact @Expr.BoolOp.elim (λe=>bS gx (.and l) wd e ns=true->Sn ⟨O,n,ns⟩ e (.and l)) e (ix<|b1 h) (λop es p h=>by
   obtain rfl:op=.And:=aT<|od<|b1<|b2 h
   have hs:=ih es ns<|b2<|b2 h
   exact⟨snd_and hs,Ir hs,λM M=>rfl⟩) h
 case or=>
  intro l ih e ns h;exact @Expr.BoolOp.elim (λe=>bS gx (.or l) wd e ns=true->Sn ⟨O,n,ns⟩ e (.or l)) e (ix<|b1 h) (λop es p h=>by
   obtain rfl:op=.Or:=aT<|od<|b1<|b2 h
   have hs:=ih es ns<|b2<|b2 h
   exact⟨Qf hs,MA hs,λM M=>rfl⟩) h
 case not=>
  intro a ih e ns h;exact @Expr.UnaryOp.elim (λe=>bS gx (.not a) wd e ns=true->Sn ⟨O,n,ns⟩ e (.not a)) e (ix<|b1 h) (λop bA p h=>by
   obtain rfl:op=.Not:=aT<|od<|b1<|b2 h
   have h1:=ih bA ns<|b2<|b2 h
   exact⟨MB h1.v,It h1.t,λM M=>rfl⟩) h
 case ite=>
  intro c a b Wn rj Sk e ns h;exact @Expr.IfExp.elim (λe=>bS gx (.ite c a b) wd e ns=true->Sn ⟨O,n,ns⟩ e (.ite c a b)) e (ix<|b1 h) (λbA cz CD p h=>
   have h1:=Wn bA ns<|b1<|b2 h
   have h2:=rj cz ns<|b1<|b2<|b2 h
   have h3:=Sk CD ns<|b2<|b2<|b2 h
   ⟨Mw h1.t h2.v h3.v,Iu h1.t h2.t h3.t,λM M=>rfl⟩) h
 case bin=>
  intro op a b rj Sk e ns h;exact @Expr.BinOp.elim (λe=>bS gx (.bin op a b) wd e ns=true->Sn ⟨O,n,ns⟩ e (.bin op a b)) e (ix<|b1 h) (λbA op' cz p h=>by
   obtain rfl:op'=op:=aT<|od<|b1<|b2 h
   exact .plain (Mu (rj bA ns<|b1<|b2<|b2 h).v (Sk cz ns<|b2<|b2<|b2 h).v) (λM M=>rfl) λM M=>rfl) h
 case i=>
  intro a i rj GX e ns h;exact @Expr.Subscript.elim (λe=>bS gx (.i a i) wd e ns=true->Sn ⟨O,n,ns⟩ e (.i a i)) e (ix<|b1 h) (λbA cz p h=>
   have h1:(!(cz.ctorIdx==26))=true:=b1<|b2 h
   .plain (Mx (λa b c p q=>by subst q;cases h1) (rj bA ns<|b1<|b2<|b2 h).v (GX cz ns<|b2<|b2<|b2 h).v) (λM M=>rfl) λM M=>rfl) h
 case slcTo=>
  intro a i rj GX e ns h;exact @Expr.Subscript.elim (λe=>bS gx (.slcTo a i) wd e ns=true->Sn ⟨O,n,ns⟩ e (.slcTo a i)) e (ix<|b1 h) (λbA cz p h=>
   @Expr.Slice.elim (λcz=>bS gx (.slcTo a i) wd (.Subscript bA cz p) ns=true->Sn ⟨O,n,ns⟩ (.Subscript bA cz p) (.slcTo a i)) cz (ix<|b1<|b2 h) (λlo hi st q h=>by
    obtain⟨e',he,⟨_,rfl,rfl,rfl⟩ | ⟨hf,_⟩⟩:=I5<|b1<|b2<|b2 h
    ·have h2:=b2<|b2<|b2 h
     exact .plain (FL (rj bA ns<|b1 h2).v (GX e' ns<|b2 h2).v) (λM M=>rfl) λM M=>rfl
    ·cases hf) h) h
 case slcFrom=>
  intro a i rj GX e ns h;exact @Expr.Subscript.elim (λe=>bS gx (.slcFrom a i) wd e ns=true->Sn ⟨O,n,ns⟩ e (.slcFrom a i)) e (ix<|b1 h) (λbA cz p h=>
   @Expr.Slice.elim (λcz=>bS gx (.slcFrom a i) wd (.Subscript bA cz p) ns=true->Sn ⟨O,n,ns⟩ (.Subscript bA cz p) (.slcFrom a i)) cz (ix<|b1<|b2 h) (λlo hi st q h=>by
    obtain⟨e',he,⟨hf,_⟩ | ⟨_,rfl,rfl,rfl⟩⟩:=I5<|b1<|b2<|b2 h
    ·cases hf
    ·have h2:=b2<|b2<|b2 h
     exact .plain (Ap (rj bA ns<|b1 h2).v (GX e' ns<|b2 h2).v) (λM M=>rfl) λM M=>rfl) h) h
 case attr=>
  intro a nm ih e ns h;exact @Expr.Attribute.elim (λe=>bS gx (.attr a nm) wd e ns=true->Sn ⟨O,n,ns⟩ e (.attr a nm)) e (ix<|b1 h) (λbA LI p h=>by
   obtain rfl:LI=nm:=od<|b1<|b2 h
   exact .plain (Il T.attrs (b1<|b2<|b2 h) (ih bA ns<|b2<|b2<|b2 h).v) (λM M=>rfl) λM M=>rfl) h
 case call=>
  intro f l ih e ns h;refine mN (qQ<|b1 h) λnm fp es p YN ht=>?_;subst YN;exact cN (T.fn nm f<|od<|b1<|b2 h) λk1 k2=>.plain (Iv T.calls ht k1 k2<|ih es ns<|b2<|b2 h) (λM M=>rfl) λM M=>rfl
 case new=>
  intro C l ih e ns h;refine mN (qQ<|b1 h) λnm fp es p YO ht=>?_;subst YO;exact .plain (MD T.calls T.zW ht (T.cls nm C<|od<|b1<|b2 h)<|ih es ns<|b2<|b2 h) (λM M=>rfl) λM M=>rfl
 case bG=>
  intro a nm l rj ih e ns h;refine LM (Eg<|b1 h) λo LI ap es p zq=>Lx zq λYQ hb hl hp=>?_;subst YQ;obtain rfl:LI=nm:=od<|b1<|b2 h
  exact .plain (Ix T.calls T.meths hb hl hp (rj o ns<|b1<|b2<|b2 h).v<|ih es ns<|b2<|b2<|b2 h) (λM M=>rfl) λM M=>rfl
 case bi=>
  intro b l ih e ns h;refine mN (qQ<|b1 h) λnm fp es p YR ht=>?_;subst YR;exact .plain (Qg ht (T.bi nm b<|od<|b1<|b2 h)<|ih es ns<|b2<|b2 h) (λM M=>rfl) λM M=>rfl
 case bm=>
  intro a m l rj ih e ns h;refine LM (Eg<|b1 h) λo LI ap es p zq=>Lx zq λYS hb hl hp=>?_;subst YS;obtain rfl:LI=rF m:=T.bm LI m<|od<|b1<|b2 h
  exact .plain (Qh hb hl hp (rj o ns<|b1<|b2<|b2 h).v<|ih es ns<|b2<|b2<|b2 h) (λM M=>rfl) λM M=>rfl
 case comp=>exact λfr ts it cond elt GX Wn Si e ns h=>(I6 GX Wn Si h).sn
 case comp2=>exact λfr ts it qj qk elt GX Sj Si e ns h=>(I7 GX Sj Si h).sn
 case word=>
  intro fr a _ e ns h;refine mN (qQ<|b1<|b2 h) λnm fp es p YT ht=>?_;subst YT;have h3:=b2<|b2 h
  refine cN (od<|b1 h3) λhl hw=>?_;refine aM (uV<|jH hl) λbA YU=>?_;subst YU;refine LP (MU<|b1<|b2 h3) λb sc lp YV k1 k2 k3 YW=>?_;subst YV;subst YW;exact .plain (T.word (b1 h) ns sc nm fp lp p b a hw ht k1 k2 k3<|b2<|b2 h3) (λM M=>rfl) λM M=>rfl
 case nil=>
  intro es ns h;rw[isNil h];exact .nil
 case cons=>
  intro a r rj Ld es ns h;rw[cons_of (b1 h) LA];have h1:=rj _ ns<|b1<|b2 h
  exact .cons h1.s h1.v h1.t<|Ld _ ns<|b2<|b2 h
theorem MW (T:lc gx O n wd):∀(l:List X) (es:List Expr) (ns:Ns),kT gx l wd es ns=true->dy ⟨O,n,ns⟩ es l:=by
 intro l
 induction l with
 |nil=>
  intro es ns h;rw[isNil h];exact .nil
 |cons a r ih=>
  intro es ns h;rw[cons_of (b1 h) LA];have h1:=fZ T a _ ns<|b1<|b2 h
  exact .cons h1.s h1.v h1.t<|ih _ ns<|b2<|b2 h
end
end
section
variable {O:ar} {gx:Gx} {n W:Nat} {wd:Bool} {ns:Ns}
structure QP (tt:Lv)(e:Expr)(x:T):Prop where
 t:sD tt e x
 s:∀env r,assignEach (e::r) env=(false,assign e env)::assignEach r env
 n:∀id p,e=.Name id p->∃i,x=.l i/\pG tt.ns id=some i
theorem yD (TX:lc gx O n wd)(x:Internal.T):∀(e:Expr) (ns:Ns),s8 gx x wd e ns=true->QP ⟨O,n,ns⟩ e x:=by
 refine @T.rec (λx=>∀(e:Expr) (ns:Ns),s8 gx x wd e ns=true->QP ⟨O,n,ns⟩ e x) (λl=>∀(es:List Expr) (ns:Ns),zZ gx l wd es ns=true->jp ⟨O,n,ns⟩ es l) ?l ?U ?attr ?sub ?nil ?cons x
 case l=>
  intro i e ns h;have h:(e.ctorIdx==23&&decide (pG ns (pt e).nm=some i))=true:=h;refine kf (oV<|ix<|b1 h) λnm p dZ=>?_;subst dZ;exact⟨uP<|od<|b2 h,λM M=>rfl,λid p e=>⟨i,rfl,(Expr.Name.inj e).1▸od (b2 h)⟩⟩
 case U=>
  intro l ih e ns h;exact @Expr.Tuple.elim (λe=>s8 gx (.U l) wd e ns=true->QP ⟨O,n,ns⟩ e (.U l)) e (ix<|b1 h) (λes k p h=>
   have h:((25:Nat)==25&&zZ gx l wd es ns)=true:=h
   ⟨wY<|ih es ns<|b2 h,λM M=>rfl,λM M e=>Expr.noConfusion e⟩) h
 case attr=>
  intro a nm e ns h;exact @Expr.Attribute.elim (λe=>s8 gx (.attr a nm) wd e ns=true->QP ⟨O,n,ns⟩ e (.attr a nm)) e (ix<|b1 h) (λbA LI p h=>by
   have h:((20:Nat)==20&&(decide (LI=nm)&&bS gx a wd bA ns))=true:=h;obtain rfl:LI=nm:=od<|b1<|b2 h
   exact⟨CL TX.attrs (fZ TX a bA ns<|b2<|b2 h).v,λM M=>rfl,λM M e=>Expr.noConfusion e⟩) h
 case sub=>
  intro a i e ns h;exact @Expr.Subscript.elim (λe=>s8 gx (.sub a i) wd e ns=true->QP ⟨O,n,ns⟩ e (.sub a i)) e (ix<|b1 h) (λbA cz p h=>
   have h:((21:Nat)==21&&(bS gx a wd bA ns&&bS gx i wd cz ns))=true:=h
   ⟨F4 (fZ TX a bA ns<|b1<|b2 h).v (fZ TX i cz ns<|b2<|b2 h).v,λM M=>rfl,λM M e=>Expr.noConfusion e⟩) h
 case nil=>
  intro es ns h;rw[isNil h];exact .nil
 case cons=>
  intro a r rj Ld es ns h;rw[cons_of (b1 h) LA];have h1:=rj _ ns<|b1<|b2 h
  exact .cons (λenv=>h1.s env _) h1.n h1.t<|Ld _ ns<|b2<|b2 h
theorem I8 (TX:lc gx O n wd){l:List Internal.T}:∀{es:List Expr},zZ gx l wd es ns=true->jp ⟨O,n,ns⟩ es l:=by
 induction l with
 |nil=>
  intro es h;rw[isNil h];exact .nil
 |cons a r ih=>
  intro es h;rw[cons_of (b1 h) LA];have h1:=yD TX a _ ns<|b1<|b2 h
  exact .cons (λenv=>h1.s env _) h1.n h1.t<|ih<|b2<|b2 h
theorem qS {e:Expr}(h:oU e=true)(t:Option Expr)(l:Nat)(env:Env):swapsWith e t l env=pure false:=
 AE (λM M M M q=>(by rw[q] at h;exact Bool.noConfusion<|b1 h)) (λM M M M q=>(by rw[q] at h;exact Bool.noConfusion<|b1<|b2 h)) (λM M M M M q=>(by rw[q] at h;exact Bool.noConfusion<|b2<|b2 h)) t l env
theorem Cp.set {t:Lv}{e:Expr}{x:X}{nm:Str}{p pos:Pos}{i:Nat}(h:Cp t e x)(q:pG t.ns nm=some i):gi t W (.Assign [.Name nm p] e pos) (.set (.l i) x):=by
 induction h with
 |mk H=>exact uS q H
theorem QQ (TX:lc gx O n wd){a:X}{e:Expr}(hc:yf a=true)(h:bS gx a wd e ns=true):Cp ⟨O,n,ns⟩ e a:=by
 cases a with
 |comp fr ts it cd elt=>exact I6 (fZ TX it) (MW TX cd) (fZ TX elt) h
 |comp2 fr ts it qj qk elt=>exact I7 (fZ TX it) (fZ TX qk) (fZ TX elt) h
 |_=>exact Bool.noConfusion hc
theorem Gd (TX:lc gx O n wd){t:Internal.T}{a:X}{bA e:Expr}{p:Pos}(ok:ut e=true)(hc:(oU e||(yf a&&t.ctorIdx==0))=true)(q1:s8 gx t wd bA ns=true)(q2:bS gx a wd e ns=true):gi ⟨O,n,ns⟩ W (.Assign [bA] e p) (.set t a):=by
 have h1:=yD TX t bA ns q1;have h2:=fZ TX a e ns q2;refine aY (Mc hc) (λhn=>?_) λhc=>?_
 ·cases t with
  |U ts=>
   exact @Expr.Tuple.elim (λbA=>s8 gx (.U ts) wd bA ns=true->gi ⟨O,n,ns⟩ W (.Assign [bA] e p) (.set (.U ts) a)) bA (ix<|b1 q1) (λl k tp q1=>wf ok (I8 TX<|b2 (a:=(25:Nat)==25) q1) h2.v) q1
  |l i=>
   refine kf (oV<|ix<|b1 q1) λnm np mu=>?_;subst mu;exact p6 (λM=>rfl) (λl env=>qS hn _ _ _) (λM=>rfl) h2.v h1.t
  |attr b nm=>
   exact @Expr.Attribute.elim (λbA=>QP ⟨O,n,ns⟩ bA (.attr b nm)->gi ⟨O,n,ns⟩ W (.Assign [bA] e p) (.set (.attr b nm) a)) bA (ix<|b1 q1) (λo LI ap h1=>p6 (λM=>rfl) (λl env=>qS hn _ _ _) (λM=>rfl) h2.v h1.t) h1
  |sub b i=>
   exact @Expr.Subscript.elim (λbA=>QP ⟨O,n,ns⟩ bA (.sub b i)->gi ⟨O,n,ns⟩ W (.Assign [bA] e p) (.set (.sub b i) a)) bA (ix<|b1 q1) (λo i' ap h1=>p6 (λM=>rfl) (λl env=>qS hn _ _ _) (λM=>rfl) h2.v h1.t) h1
 ·cases t with
  |l i=>
   refine kf (oV<|ix<|b1 q1) λnm np uu=>?_;subst uu;exact(QQ TX (b1 hc) q2).set (od<|b2 (a:=(23:Nat)==23) q1)
  |_=>exact Bool.noConfusion<|b2 hc
end
section
variable {O:ar} {gx:Gx} {n W:Nat} {wd:Bool} {ns:Ns}
theorem MX (TX:lc gx O n wd)(x:S):∀st:Stmt,v9 gx x wd st ns=true->gi ⟨O,n,ns⟩ W st x:=by
 refine @S.rec (λx=>∀st:Stmt,v9 gx x wd st ns=true->gi ⟨O,n,ns⟩ W st x) (λl=>∀st:List Stmt,rx gx l wd st ns=true->nB ⟨O,n,ns⟩ W st l) ?ex ?set ?ret ?ite ?whl ?fr ?raise ?nil ?cons x
 case ex=>
  intro a st h;exact @Stmt.Expr.elim (λst=>v9 gx (.ex a) wd st ns=true->gi ⟨O,n,ns⟩ W st (.ex a)) st (ix<|b1<|show(_&&_)=true from h) (λe p h=>
   have h:((24:Nat)==24&&(oU e&&bS gx a wd e ns))=true:=h
   IS (qS<|b1<|b2 h) (fZ TX a e ns<|b2<|b2 h).v) h
 case set=>
  intro t a st h;exact @Stmt.Assign.elim (λst=>v9 gx (.set t a) wd st ns=true->gi ⟨O,n,ns⟩ W st (.set t a)) st (ix<|b1<|show(_&&_)=true from h) (λts e p h=>by
   have h:((5:Nat)==5&&(decide (ts.length+1=2)&&(ut e&&((oU e||(yf a&&t.ctorIdx==0))&&(s8 gx t wd (ex (.Assign ts e p) 1) ns&&bS gx a wd e ns)))))=true:=h;refine aM (uV<|jH<|od<|b1<|b2 h) λbA dZ=>?_;subst dZ;have h2:=b2<|b2 h
   exact Gd TX (b1 h2) (b1<|b2 h2) (b1<|b2<|b2 h2)<|b2<|b2<|b2 h2) h
 case ret=>
  intro a st h;exact @Stmt.Return.elim (λst=>v9 gx (.ret a) wd st ns=true->gi ⟨O,n,ns⟩ W st (.ret a)) st (ix<|b1<|show(_&&_)=true from h) (λv p h=>by
   have h:((3:Nat)==3&&(decide (v.toList.length=1)&&bS gx a wd (ex (.Return v p) 0) ns))=true:=h;cases v with
   |none=>exact Nat.noConfusion<|od<|b1<|b2 h
   |some e=>exact CM (fZ TX a e ns<|b2<|b2 h).v) h
 case ite=>
  intro c a b rj Sk st h;exact @Stmt.If.elim (λst=>v9 gx (.ite c a b) wd st ns=true->gi ⟨O,n,ns⟩ W st (.ite c a b)) st (ix<|b1<|show(_&&_)=true from h) (λe l₁ l₂ p h=>
   have h:((12:Nat)==12&&(bS gx c wd e ns&&(rx gx a wd l₁ ns&&rx gx b wd l₂ ns)))=true:=h
   Qz (fZ TX c e ns<|b1<|b2 h).t (rj l₁<|b1<|b2<|b2 h) (Sk l₂<|b2<|b2<|b2 h)) h
 case whl=>
  intro c a rj st h;exact @Stmt.While.elim (λst=>v9 gx (.whl c a) wd st ns=true->gi ⟨O,n,ns⟩ W st (.whl c a)) st (ix<|b1<|show(_&&_)=true from h) (λe l₁ l₂ p h=>by
   have h:((11:Nat)==11&&(l₂.isEmpty&&(bS gx c wd e ns&&rx gx a wd l₁ ns)))=true:=h;obtain rfl:l₂=[]:=isNil<|b1<|b2 h
   exact F6 (fZ TX c e ns<|b1<|b2<|b2 h).t<|rj l₁<|b2<|b2<|b2 h) h
 case fr=>
  intro t it a rj st h;exact @Stmt.For.elim (λst=>v9 gx (.for t it a) wd st ns=true->gi ⟨O,n,ns⟩ W st (.for t it a)) st (ix<|b1<|show(_&&_)=true from h) (λbA cz l₁ l₂ p h=>by
   have h:((9:Nat)==9&&(l₂.isEmpty&&(sr cz&&(s8 gx t wd bA ns&&(bS gx it wd cz ns&&rx gx a wd l₁ ns)))))=true:=h;obtain rfl:l₂=[]:=isNil<|b1<|b2 h
   have h3:=b2<|b2 h
   exact MM (qR<|b1 h3) (yD TX t bA ns<|b1<|b2 h3).t (fZ TX it cz ns<|b1<|b2<|b2 h3).v<|rj l₁<|b2<|b2<|b2 h3) h
 case raise=>
  intro C a b st h;exact @Stmt.Raise.elim (λst=>v9 gx (.raise C a b) wd st ns=true->gi ⟨O,n,ns⟩ W st (.raise C a b)) st (ix<|b1<|show(_&&_)=true from h) (λexc cause p h=>by
   have h:((16:Nat)==16&&(decide ((ps<|.Raise exc cause p).es.length=1/\(pt<|ex (.Raise exc cause p) 0).l.length=3)&&(zY (ex (.Raise exc cause p) 0) ns&&(decide (gx.cls (pt<|hJ (ex (.Raise exc cause p) 0) 0).nm=some C)&&((C==52||C==64||C==76)&&(bS gx a wd (hJ (ex (.Raise exc cause p) 0) 1) ns&&bS gx b wd (hJ (ex (.Raise exc cause p) 0) 2) ns))))))=true:=h;refine cN (od<|b1<|b2 h) λk1 k2=>?_;cases cause with
   |some _=>exact Nat.noConfusion k1
   |none=>
    cases exc with
    |none=>exact Nat.noConfusion k1
    |some e=>
     have h3:=b2<|b2 h
     refine mN (qQ<|b1 h3) λnm fp es q mu ht=>?_;subst mu;refine kf (I4<|jH k2) λbA cz uu=>?_;subst uu;have h4:=b2<|b2 h3
     have h1:=fZ TX a bA ns<|b1<|b2 h4
     have h2:=fZ TX b cz ns<|b2<|b2 h4
     refine qr (TX.exc C<|b1 h4) λx0 x1 x2=>?_;exact F7 ht (TX.cls nm C<|od<|b1<|b2 h3) x0 x1 x2<|.cons h1.s h1.v h1.t<|.cons h2.s h2.v h2.t .nil) h
 case nil=>
  intro st h;rw[isNil h];exact Ec
 case cons=>
  intro a r rj Ld st h;cases st with
  |nil=>exact Bool.noConfusion h
  |cons s t=>
   have h:=h;exact AF (rj s<|b1 h)<|Ld t<|b2 h
theorem m6 (TX:lc gx O n wd):∀(l:List S) (st:List Stmt),rx gx l wd st ns=true->nB ⟨O,n,ns⟩ W st l:=by
 intro l
 induction l with
 |nil=>
  intro st h;rw[isNil h];exact Ec
 |cons a r ih=>
  intro st h;cases st with
  |nil=>exact Bool.noConfusion h
  |cons s t=>
   have h:=h;exact AF (MX TX a s<|b1 h)<|ih t<|b2 h
end
section
variable {O:ar} {gx:Gx} {n n':Nat} {f:Fz} {q:St f}
@[reducible] noncomputable def Fz.at (f:Fz)(n:Nat):Fz:={f with t:={f.t with n:=n}}
theorem Ok.at (ok:Ok f.toFx f.t f.env)(h:n / 2<=f.t.n / 2)(hw:n % 2=1->f.t.n % 2=1):Ok f.toFx {f.t with n:=n} f.env:=
 {inB:=ok.inB,topB:=ok.topB,hh:=ok.hh,frames:=ok.frames,frame:=ok.frame,fkind:=ok.fkind,depth:=kI (t7 (Nat.add_le_add_left h _) 3) ok.depth,units:=kI (t7 (Nat.add_le_add_left (Nat.mul_le_mul_left 10 h) _) 200) ok.units,
  wordy:=λh=>ok.wordy<|hw h,kind:=ok.kind,globals:=ok.globals,builtins:=ok.builtins,eframe:=ok.eframe,code:=ok.code,qual:=ok.qual,top:=ok.top,local':=ok.local',cell:=ok.cell}
noncomputable def St.at (q:St f)(h:n / 2<=f.t.n / 2)(hw:n % 2=1->f.t.n % 2=1):St (f.at n):=
 {b:=q.b,h:=q.h,ρ:=q.ρ,Z:=q.Z,Y:=q.Y,tk:=q.tk,ok:=q.ok.at h hw,below:=q.below,dicts:=q.dicts,fr:=q.fr,news:=q.news,rep:=q.rep,lo:=q.lo}
noncomputable def St.back (q:St f)(q':St (f.at n)):St f:=
 {b:=q'.b,h:=q'.h,ρ:=q'.ρ,Z:=q'.Z,Y:=q'.Y,tk:=q'.tk,ok:=q.ok,below:=q'.below,dicts:=q'.dicts,fr:=q'.fr,news:=q'.news,rep:=q'.rep,lo:=q'.lo}
theorem aE.at {α β:Type}{R:Rl α β}{r:Res β}{Q:α->Shared->Prop}{E:du}(P:aE R q r Q E)(h:n / 2<=f.t.n / 2)(hw:n % 2=1->f.t.n % 2=1):aE R (q.at h hw) r Q E:=by
 cases r with
 |ok v Y=>exact λu q' a e i=>P u (q.back q') ⟨a.ext,a.turn⟩ e i
 |exc C Y=>exact P
 |stuck=>exact P
theorem hV.weaken (S:hV O n)(h:n / 2<=n' / 2)(hw:n % 2=1->n' % 2=1):hV O n':=
 λa f q A' Q E us vs hn h1 h2 h3 h4 i P=>by
  subst hn;exact S a (f.at n) (q.at h hw) A' Q E us vs rfl h1 h2 h3 h4 i<|P.at h hw
structure yE (gx:Gx):Prop where
 CV:Nonempty Ef
 nd:((gT K).map (·.1)).Nodup
 name:nsIn K mainGlobals gx.word=some (some<|.ref 418)
 keep:keepIn K (.ref 418)=true
def CW (gx:Gx)(tx:Text):Prop:=∀f i,tx.fn f=some i->∃D,nC gx f i D (hM.contains f)/\(hM.contains f=true->Ee D)
theorem fS (m:Nat):2 * m / 2=m:=Nat.mul_div_cancel_left _ Nat.two_pos
theorem m7 {m:Nat}{P:Prop}(h:2 * m % 2=1):P:=absurd ((Nat.mul_mod_right 2 m).symm.trans h) (by decide)
theorem qT (m:Nat):(2 * m+1) / 2=m:=Nat.mul_add_div Nat.two_pos m 1
theorem ld (aax:oZ gx)(S:hV O n):lc gx O n false:=⟨aax,S,λh=>Bool.noConfusion h⟩
theorem rL (aax:oZ gx)(WO:yE gx){m:Nat}(S:hV O (2 * m)):lc gx O (2 * (m+4)+1) true:=by
 refine⟨aax,S.weaken (by rw[fS,qT];exact dX _ _) m7,λM ns sc f fp lp pos e xe hf hn hi LG DL hq=>?_⟩;obtain⟨WK⟩:=WO.CV;subst hf;exact I3 WK WO.nd hn WO.name WO.keep hi LG DL (fZ (ld aax S) xe e sc.names hq).v (Nat.mul_mod_right 2 m) (by show 2 * m / 2+4<=(2 * (m+4)+1) / 2;rw[fS,qT];exact a9 _)<|Nat.mul_add_mod 2 (m+4) 1
theorem MY {tx:Text}(aax:oZ gx)(WO:yE gx)(D:CW gx tx)(k:Nat):hV (run tx k) (2 * (6 * k)):=by
 induction k with
 |zero=>exact λM M M M M M M M M M M M M M P=>P.elim
 |succ k S=>
  have:hV (run tx (k+1)) (2 * ((6 * k+4)+2)):=yC λf i hf=>by
   refine aI (D f i hf) λDD X hd=>?_;cases hw:hM.contains f with
   |true=>
    rw[hw] at X hd;exact sV DD (2 * (6 * k+4)+1) true X (by rw[qT];exact a9 _) (λM=>hd rfl)<|m6 (rL aax WO S) _ _ X.body
   |false=>
    rw[hw] at X;exact sV DD (2 * (6 * k+4)) false X (by rw[fS];exact a9 _) m7<|m6 (ld aax<|S.weaken (by rw[fS,fS];exact dX _ _) m7) _ _ X.body
  exact this
end
mutual
noncomputable def V.ml (p:Nat->Nat):V->V
 | .U l=>.U<|lB p l
 | .gl l=>.gl<|lB p l
 | .ref i=>.ref<|p i
 | .none=>.none
 | .bool b=>.bool b
 | .int i=>.int i
 | .str s=>.str s
 | .rng a b=>.rng a b
noncomputable def lB (p:Nat->Nat):List V->aG
 | []=>[]
 |v::r=>v.ml p::lB p r
end
mutual
noncomputable def V.rl (k:Nat):V->Bool
 | .U l=>kq k l
 | .gl l=>kq k l
 | .ref i=>Nat.blt i k
 |_=>true
noncomputable def kq (k:Nat):List V->Bool
 | []=>true
 |v::r=>v.rl k&&kq k r
end
noncomputable def uW {α:Type}(p:Nat->Nat):List (α × V)->List (α × V)
 | []=>[]
 |(k,v)::r=>(k,v.ml p)::uW p r
noncomputable def AM {α:Type}(k:Nat):List (α × V)->Bool
 | []=>true
 |(_,v)::r=>v.rl k&&AM k r
def Cell.ml (p:Nat->Nat):Cell->Cell
 | .list l=>.list<|lB p l
 | .dict l=>.dict<|uW p l
 | .dictT l=>.dictT<|uW p l
 | .inst C d=>.inst C<|p d
 | .dictX l k=>.dictX (uW p l) k
def Cell.rl (k:Nat):Cell->Bool
 | .list l=>kq k l
 | .dict l=>AM k l
 | .dictT l=>AM k l
 | .inst _ d=>Nat.blt d k
 | .dictX l _=>AM k l
theorem o0 (p:Nat->Nat):∀ks:cY,lB p (ks.map V.str)=ks.map V.str
 | []=>rfl
 |k::r=>by rw[d8,lB,o0 p r,V.ml]
theorem rM (k:Nat):∀ks:cY,kq k (ks.map V.str)=true
 | []=>rfl
 |s::r=>by rw[d8,kq,rM k r];rfl
section
variable {ρ bR:List Addr} {Z:Led} {p:Nat->Nat} {k:Nat}
structure Unr (p:Nat->Nat)(k:Nat)(ρ bR:List Addr):Prop where
 get:∀i a,i<k->ρ[p i]?=some a->bR[i]?=some a
 sub:∀a∈bR,a∈ρ
theorem bF.kc (H:Unr p k ρ bR)(v:V){u:Value}(h:bF ρ Z u (v.ml p))(c:v.rl k=true):bF bR Z u v:=
 V.rec (motive_1:=λv=>∀{u:Value},bF ρ Z u (v.ml p)->v.rl k=true->bF bR Z u v) (motive_2:=λl=>∀{us:List Value},cf ρ Z us (lB p l)->kq k l=true->cf bR Z us l)
  (λh M=>h.wF▸.none) (λb M h M=>h.z8▸.bool b) (λi M h M=>bF.ta h<|.int i) (λs M h M=>bF.pW h<|.str s)
  (λM ih M h c=>bF.Mh h λh1 h2 h3 h4 h5=>.U h1 (λq=>h2<|H.sub _ q) h3 h4<|ih h5 c) (λM ih M h c=>bF.Yg h λh1 h3 h4 h5=>.gl h1 h3 h4<|ih h5 c)
  (λM M M h M=>bF.Ug h λh1 h2=>.rng h1 λq=>h2<|H.sub _ q) (λM M h c=>bF.PZ h λh1=>.ref<|H.get _ _ (aN c) h1)
  (λh M=>h.jO▸.nil) (λM M i j M h c=>cf.ej h λh1 h2=>.cons (i h1<|b1 c)<|j h2<|b2 c) v h c
theorem cf.kc (H:Unr p k ρ bR)(l:aG):∀{us:List Value},cf ρ Z us (lB p l)->kq k l=true->cf bR Z us l:=by
 induction l with
 |nil=>exact λh M=>h.jO▸.nil
 |cons v r ih=>exact λh c=>cf.ej h λh1 h2=>.cons (bF.kc H v h1<|b1 c)<|ih h2<|b2 c
theorem jW.kc {α:Type}(H:Unr p k ρ bR)(l:List (α × V)):∀{kvs:List (α × Value)},jW ρ Z kvs (uW p l)->AM k l=true->jW bR Z kvs l:=by
 induction l with
 |nil=>exact λh M=>h.jO▸.nil
 |cons v r ih=>exact λh c=>jW.ej h λh1 h2=>.cons (bF.kc H v.2 h1<|b1 c)<|ih h2<|b2 c
theorem og.kc (H:Unr p k ρ bR){ks:cY}{a:Addr}(h:og ρ Z ks a):og bR Z ks a:=by
 refine bF.kc H (.U<|ks.map .str) ?_<|rM k ks
 rw[V.ml,o0];exact h
theorem cR.kc (H:Unr p k ρ bR){c:Cell}{o:Obj}(h:cR ρ Z (c.ml p) o)(hc:c.rl k=true):cR bR Z c o:=by
 cases c with
 |list l=>obtain⟨vs,n,h2,h3⟩:=h;exact⟨vs,n,h2,cf.kc H l h3 hc⟩
 |dict l=>obtain⟨kvs,h1,h2⟩:=h;exact⟨kvs,h1,jW.kc H l h2 hc⟩
 |dictT l=>obtain⟨xs,es,ep,h1,h2,h3,h4,h5,h6⟩:=h;exact⟨xs,es,ep,h1,h2,h3,h4,λx hx=>og.kc H<|h5 x hx,jW.kc H l h6 hc⟩
 |inst C d=>obtain⟨ad,h1,h2,h3⟩:=h;exact⟨ad,H.get _ _ (by simpa [Cell.rl] using hc) h1,h2,h3⟩
 |dictX l k=>obtain⟨u,kvs,h1,h2⟩:=h;exact⟨u,kvs,h1,jW.kc H l h2 hc⟩
structure UP (Z:Led)(p:Nat->Nat)(ρ bR:List Addr):Prop where
 get:∀i a,ρ[i]?=some a->bR[p i]?=some a
 U:∀a o vs n,SB Z a o->a∉ρ->o.cls=.type "tuple"->o.data=.seq vs n->a∉bR
 rng:∀a x y t u v,(a,mT x y t u v)∈Z->a∉ρ->a∉bR
theorem bF.nD (H:UP Z p ρ bR)(v:V){u:Value}(h:bF ρ Z u v):bF bR Z u (v.ml p):=
 bF.rec (motive_1:=λu v M=>bF bR Z u<|v.ml p) (motive_2:=λus l M=>cf bR Z us<|lB p l) .none .bool .int .str (λh1 h2 h3 h4 M ih=>.U h1 (H.U _ _ _ _ h1 h2 h3 h4) h3 h4 ih) (λh1 h3 h4 M ih=>.gl h1 h3 h4 ih) (λh1 h2=>.rng h1<|H.rng _ _ _ _ _ _ h1 h2) (λh=>.ref<|H.get _ _ h) .nil (λM M i j=>.cons i j) h
theorem cf.nD (H:UP Z p ρ bR)(l:aG){us:List Value}(h:cf ρ Z us l):cf bR Z us (lB p l):=by
 induction l generalizing us with
 |nil=>rw[h.jO];exact .nil
 |cons v r ih=>exact cf.ej h λh1 h2=>.cons (bF.nD H v h1)<|ih h2
theorem jW.nD {α:Type}(H:UP Z p ρ bR)(l:List (α × V)){kvs:List (α × Value)}(h:jW ρ Z kvs l):jW bR Z kvs (uW p l):=
 jW.rec (motive:=λkvs l M=>jW bR Z kvs<|uW p l) .nil (λi M j=>.cons (bF.nD H _ i) j) h
theorem cR.nD (H:UP Z p ρ bR){c:Cell}{o:Obj}(h:cR ρ Z c o):cR bR Z (c.ml p) o:=by
 cases c with
 |list l=>obtain⟨vs,n,h2,h3⟩:=h;exact⟨vs,n,h2,cf.nD H l h3⟩
 |dict l=>obtain⟨kvs,h1,h2⟩:=h;exact⟨kvs,h1,jW.nD H l h2⟩
 |dictT l=>
  obtain⟨xs,es,ep,h1,h2,h3,h4,h5,h6⟩:=h;refine⟨xs,es,ep,h1,h2,h3,h4,λx hx=>?_,jW.nD H l h6⟩;have:=bF.nD H _<|h5 x hx
  rw[V.ml,o0] at this;exact this
 |inst C d=>obtain⟨ad,h1,h2,h3⟩:=h;exact⟨ad,H.get _ _ h1,h2,h3⟩
 |dictX l k=>obtain⟨u,kvs,h1,h2⟩:=h;exact⟨u,kvs,h1,jW.nD H l h2⟩
end
noncomputable abbrev at' (π:List Nat):Nat->Nat:=λi=>π.getD i 0
structure Emb (π:List Nat)(l0 Y:af):Prop where
 len:π.length=l0.length
 nd:π.Nodup
 cell:∀(i:Nat) (c:Cell),l0[i]?=some c->∃j,π[i]?=some j/\Y[j]?=some (c.ml<|at' π)/\c.rl l0.length=true
structure Back (π Ge:List Nat)(l0 Y rN Y':af):Prop where
 le:l0.length<=rN.length
 more:Ge=π++(List.range<|rN.length - l0.length).map λk=>Y.length+k
 len:Y'.length=Y.length+(rN.length - l0.length)
 old:∀j,j<Y.length->j∉π->Y'[j]?=Y[j]?
 new:∀(i:Nat) (c:Cell),rN[i]?=some c->∃j,Ge[i]?=some j/\Y'[j]?=some (c.ml<|at' Ge)
noncomputable def viewOf (π:List Nat)(ρ:List Addr):List Addr:=π.map λj=>ρ.getD j 0
section
variable {ρ:List Addr} {Z Z':Led} {Y Y' l0 rN:af} {π Ge:List Nat}
theorem p8 {c:Cell}{o:Obj}(h:cR ρ Z c o):(o.cls=.type "tuple"->∀vs n,o.data≠.seq vs n)/\Co o:=by
 have dict:∀{es:Array DictEntry} {ep:Nat},o.data=.dict es ep->(o.cls=.type "tuple"->∀vs n,o.data≠.seq vs n)/\Co o:=λhd=>
  ⟨(λM vs n e=>by rw[hd] at e;cases e),n9 λvs e=>by rw[hd] at e;cases e⟩
 cases c with
 |list l=>
  obtain⟨vs,n,rfl,_⟩:=h;exact⟨iX.U,iX.odd⟩
 |dict l=>
  obtain⟨kvs,⟨es,ep,h1,h2,_⟩,_⟩:=h;exact dict h2
 |dictT l=>
  obtain⟨xs,es,ep,h1,h2,_⟩:=h;exact dict h2
 |dictX l k=>
  obtain⟨u,kvs,⟨es,ep,h1,h2,_⟩,_⟩:=h;exact dict h2
 |inst C d=>
  obtain⟨ad,_,rfl,_⟩:=h;exact⟨(λe=>by cases e),n9 λvs e=>by cases e⟩
variable {i j:Nat}
theorem Emb.lt (E:Emb π l0 Y)(h:π[i]?=some j):j<Y.length:=by
 have hi:=E.len▸(bM.mp h).1;refine jI (E.cell i _<|iG hi) λj' h1 h2 M=>?_;rw[h] at h1;cases h1;exact(bM.mp h2).1
theorem uX {a:Addr}(h:π[i]?=some j)(ha:ρ[j]?=some a):(viewOf π ρ)[i]?=some a:=by
 unfold viewOf;rw[fP,h,Option.map_some,zu,ha];rfl
theorem mC (R:Rep ρ Z Y)(E:Emb π l0 Y){a:Addr}(h:(viewOf π ρ)[i]?=some a):∃j,π[i]?=some j/\ρ[j]?=some a:=by
 unfold viewOf at h;rw[fP] at h;cases q:π[i]? with
 |none=>rw[q] at h;cases h
 |some j=>
  rw[q,Option.map_some,zu] at h;have hj:=R.len▸E.lt q;rw[iG hj] at h;cases h;exact bD j rfl<|iG hj
theorem mD (R:Rep ρ Z Y)(E:Emb π l0 Y){a:Addr}(h:a∈viewOf π ρ):a∈ρ:=by
 exact aM (jb h) λi hi=>aI (mC R E hi) λj M h2=>bn h2
theorem m8 (h:π[i]?=some j):at' π i=j:=by
 show π.getD i 0=j;rw[zu,h];rfl
theorem qU (R:Rep ρ Z Y)(E:Emb π l0 Y):Unr (at' π) l0.length ρ (viewOf π ρ) where
 get:=λi a hi h=>by
  have:π[i]?=some (at' π i):=by
   rw[iG (E.len▸hi)];exact bH some (m8<|iG (E.len▸hi)).symm
  exact uX this h
 sub:=λa h=>mD R E h
theorem kD {l:List Nat}(hn:l.Nodup){a:Nat}(h1:l[i]?=some a)(h2:l[j]?=some a):i=j:=
 (ub (bM.mp h1).1 hn).mp (h1.trans h2.symm)
theorem MZ (R:Rep ρ Z Y)(E:Emb π l0 Y):(viewOf π ρ).Nodup:=by
 refine List.pairwise_iff_getElem.mpr λi j hi hj E3 e=>aI (mC R E<|iG hi) λx h1 h2=>aI (mC R E<|iG hj) λy h3 h4=>?_;rw[e] at h2;have:=kD R.nd h2 h4;subst this;exact absurd (kD E.nd h1 h3)<|ka E3
theorem Rep.sub (R:Rep ρ Z Y)(E:Emb π l0 Y):Rep (viewOf π ρ) Z l0 where
 len:=by unfold viewOf;rw[cu];exact E.len
 nd:=MZ R E
 ndZ:=R.ndZ
 apart:=λa h=>R.apart a<|mD R E h
 big:=λa h=>R.big a<|mD R E h
 tabs:=R.tabs.mono λa o h hn M=>⟨h,λq=>hn<|mD R E q⟩
 cell:=λi a h=>by
  refine aI (mC R E h) λj h1 h2=>?_;have hi:=E.len▸(bM.mp h1).1;refine jI (E.cell i _<|iG hi) λj' g1 g2 g3=>?_;rw[h1] at g1;cases g1;refine cZ (R.cell j a h2) λc o k1 k2 k3=>?_;rw[g2] at k1;cases k1;exact eT _ o (iG hi) k2<|k3.kc (qU R E) g3
theorem Rep.w9 (R:Rep ρ Z Y){a:Addr}(h:a∈ρ):∃c o,(a,o)∈Z/\cR ρ Z c o:=by
 exact aM (jb h) λi hi=>cZ (R.cell i a hi) λc o M h2 h3=>jX c o h2 h3
theorem Rep.addr (R:Rep ρ Z Y){a:Addr}(h:a∈ρ):a∈Z.map (·.1):=by
 exact gm (R.w9 h) λc o h1 M=>cB h1
noncomputable def wide (ρ ρv oC:List Addr):List Addr:=ρ++oC.drop ρv.length
section
variable {oC:List Addr} (R:Rep ρ Z Y) (E:Emb π l0 Y) (R':Rep oC Z' rN) (X:Ext [] (viewOf π ρ) Z oC Z')
include R E R' X
variable {a:Addr}
theorem QR (h:a∈ρ)(hn:a∉oC):∃c o,(a,o)∈Z/\(a,o)∈Z'/\cR ρ Z c o:=by
 refine gm (R.w9 h) λc o h1 h2=>?_;have hv:a∉viewOf π ρ:=λq=>by
  exact aM (jb q) λi hi=>hn<|bn<|X.pre i a hi
 exact eT c o h1 (X.keep _ h1 hv (by simp) (p8 h2).2.2.1) h2
theorem oE (h:a∈oC.drop (viewOf π ρ).length):a∈oC/\a∉Z.map (·.1):=by
 have hm:=List.mem_of_mem_drop h;refine⟨hm,?_⟩;refine aY (X.new a hm) (λq=>?_) λq=>?_
 ·exfalso;refine aM (jb q) λi hi=>aM (jb h) λj hj=>?_;rw[List.getElem?_drop] at hj;have e:=kD R'.nd (X.pre i a hi) hj;exact absurd (bM.mp hi).1<|Nat.not_lt.mpr<|e▸dX _ _
 ·exact q
theorem uY {o:Obj}(hz:(a,o)∈Z')(hn:a∉oC)(k:wa o∨(∃q,jA q o)∨(o.cls=.type "tuple"/\∃vs n,o.data=.seq vs n)∨∃x y t u v,o=mT x y t u v):a∉wide ρ (viewOf π ρ) oC:=λh=>by
 refine aY (fb.mp h) (λh=>?_) λh=>?_
 ·refine cZ (QR R E R' X h hn) λc o' h1 h2 h3=>?_;have:=gJ R'.ndZ hz h2;subst this;refine xN (p8 h3) λg1 g2 g3 g4=>o4 k (λk=>?_) (λQS=>?_) (λQT=>?_) λYX=>?_
  ·exact g3 k
  ·exact aM QS λq k=>g4 q k
  ·exact LV QT λk1 vs n k2=>g1 k1 vs n k2
  ·exact ue YX λx y t u v k=>g2 _ _ _ _ _ k
 ·exact hn (oE R E R' X h).1
theorem uZ:Ext [] ρ Z (wide ρ (viewOf π ρ) oC) Z' where
 pre:=λi a h=>by unfold wide;rw[iE (bM.mp h).1];exact h
 keep:=λp hp hn hc ht=>X.keep p hp (λq=>hn<|mD R E q) hc ht
 adr:=X.adr
 new:=λa h=>by
  refine aY (fb.mp h) (λh=>?_) λh=>?_
  ·exact .inl h
  ·exact .inr (oE R E R' X h).2
theorem va:(viewOf π ρ).length=l0.length:=by unfold viewOf;rw[cu];exact E.len
theorem p9:∀a∈wide ρ (viewOf π ρ) oC,K.lookup a=none:=λa h=>by
 refine aY (fb.mp h) (λh=>?_) λh=>?_
 ·exact R.apart a h
 ·exact R'.apart a (oE R E R' X h).1
variable (B:Back π Ge l0 Y rN Y')
include B
omit R R' X in
theorem Eh {j:Nat}(h:l0.length+j<rN.length):Ge[l0.length+j]?=some (Y.length+j):=by
 rw[B.more,j9<|E.len▸dX _ _,fP,E.len,r6,t9<|Nat.lt_sub_iff_add_lt'.mpr h];rfl
theorem AN:UP Z' (at' Ge) oC (wide ρ (viewOf π ρ) oC) where
 get:=λi a h=>by
  have hl:=va R E R' X;by_cases hi:i<(viewOf π ρ).length
  ·refine aI (mC R E<|iG hi) λj h1 h2=>?_;have h3:=X.pre i _<|iG hi
   rw[h] at h3;have h4:Ge[i]?=some j:=by rw[B.more,iE (by rw[E.len,<-hl];exact hi)];exact h1
   rw[m8 h4];unfold wide;rw[iE (bM.mp h2).1,h2,h3]
  ·refine aM (Nat.exists_eq_add_of_le<|Nat.not_lt.mp hi) λj e=>?_;subst e;have WR:=(bM.mp h).1;rw[R'.len,hl] at WR;rw[hl,m8<|Eh E B WR];unfold wide;rw[j9<|R.len▸dX _ _,List.getElem?_drop,R.len,r6];exact h
 U:=λa o vs n h hn hc hd=>by
  refine aY h (λh=>?_) λh=>?_
  ·exact uY R E R' X h hn<|.inr<|.inr<|.inl ⟨hc,vs,n,hd⟩
  ·exact λq=>by rw[p9 R E R' X a q] at h;cases h
 rng:=λa x y t u v h hn=>uY R E R' X h hn<|.inr<|.inr<|.inr ⟨_,_,_,_,_,rfl⟩
theorem AO:Rep (wide ρ (viewOf π ρ) oC) Z' Y' where
 len:=by
  unfold wide;rw[b0,List.length_drop,R'.len,R.len,B.len,va R E R' X]
 nd:=by
  refine r9.mpr ⟨R.nd,R'.nd.sublist<|List.drop_sublist _ _,λa ha b hb e=>?_⟩;subst e;exact(oE R E R' X hb).2 (R.addr ha)
 ndZ:=R'.ndZ
 apart:=p9 R E R' X
 big:=λa h=>by
  refine aY (fb.mp h) (λh=>?_) λh=>?_
  ·exact R.big a h
  ·exact R'.big a (oE R E R' X h).1
 tabs:=R'.tabs.mono λa o h hn k=>⟨h,uY R E R' X h hn<|k.imp id .inl⟩
 cell:=λi a h=>by
  have hl:=va R E R' X;have seen:∀k:Nat,oC[k]?=some a->Ge[k]?=some i->∃c o,Y'[i]?=some c/\(a,o)∈Z'/\cR (wide ρ (viewOf π ρ) oC) Z' c o:=λk hk hp=>by
   refine cZ (R'.cell k a hk) λc o g1 g2 g3=>aI (B.new k c g1) λj e1 e2=>?_;rw[hp] at e1;cases e1;exact eT _ o e2 g2<|g3.nD<|AN R E R' X B
  by_cases hi:i<ρ.length
  ·unfold wide at h;rw[iE hi] at h;by_cases hm:i∈π
   ·refine aM (jb hm) λk hk=>seen k (X.pre k a<|uX hk h) ?_;rw[B.more,iE (bM.mp hk).1];exact hk
   ·have hn:a∉oC:=λq=>by
     refine aY (X.new a q) (λq=>?_) λq=>?_
     ·refine aM (jb q) λk hk=>aI (mC R E hk) λj h1 h2=>?_;have:=kD R.nd h h2;subst this;exact hm<|bn h1
     ·exact q<|R.addr<|bn h
    refine cZ (R.cell i a h) λc o g1 g2 g3=>?_;have hv:a∉viewOf π ρ:=λq=>by
     exact aM (jb q) λi hi=>hn<|bn<|X.pre i a hi
    exact eT c o (by rw[B.old i (R.len▸hi) hm];exact g1) (X.keep _ g2 hv (by simp) (p8 g3).2.2.1)<|g3.ext (uZ R E R' X) bI<|p9 R E R' X
  ·unfold wide at h;refine aM (Nat.exists_eq_add_of_le<|Nat.not_lt.mp hi) λj e=>?_;subst e;rw[j9<|dX _ _,r6,List.getElem?_drop] at h;have h':=(bM.mp h).1;rw[R'.len,hl] at h';exact seen _ h (by rw[hl,R.len];exact Eh E B h')
end
end
def cT (n f:Nat)(vs:aG)(Y:af)(r:Res V):Prop:=∀(fz:Fz) (q:St fz) (A':Around) (Q E:du) (us:List Value),
 fz.t.n=n->A'.frames=fz.A.frames->A'.handled=fz.A.handled->A'.depth<=fz.A.depth+1->A'.units<=fz.A.units+16->q.Y=Y->q.oY us vs->aE bF q r Q E->codeAny Mo A' (.call (.ref f) ⟨us,[]⟩) (wO Q E) q.s
section
variable {n f:Nat} {vs E4:aG} {Y Y' l0 rN al ax:af} {r:Res V} {π Ge:List Nat} {v v':V} {O:ar} {C:Nat}
theorem hV.pr (S:hV O n):cT n f vs Y (O f vs Y):=λfz q A' Q E us hn e1 e2 e3 e4 e is P=>S f fz q A' Q E us vs hn e1 e2 e3 e4 is (e▸P)
theorem hV.tM (h:∀f vs Y,cT n f vs Y<|O f vs Y):hV O n:=λf fz q A' Q E us vs hn e1 e2 e3 e4 is P=>h f vs q.Y fz q A' Q E us hn e1 e2 e3 e4 rfl is P
theorem cT.stuck:cT n f vs Y .stuck:=λM M M M M M M M M M M M M P=>P.elim
theorem cT.by {aw:af}{OR:aG}{UQ:Res V}(h:cT n f OR aw UQ)(k:∀(fz:Fz) (q:St fz) (Q E:du) (us:List Value),q.Y=Y->q.oY us vs->aE bF q r Q E->∃(Wp:Fz) (q':St Wp),Wp.t.n=fz.t.n/\Wp.A=fz.A/\q'.s=q.s/\q'.Y=aw/\q'.oY us OR/\aE bF q' UQ Q E):cT n f vs Y r:=λfz q A' Q E us hn e1 e2 e3 e4 e is P=>by
 obtain⟨Wp,q',k1,k2,k3,k4,k5,k6⟩:=k fz q Q E us e is P;rw[<-k2] at e1 e2 e3 e4;rw[<-k3];exact h Wp q' A' Q E us (k1.trans hn) e1 e2 e3 e4 k4 k5 k6
structure Gc (π:List Nat)(Y ax al:af):Prop extends Emb π ax al where
 id:∀i,i<Y.length->π[i]?=some i
theorem Gc.ext {ρ bR:List Addr}{Z Z':Led}(G:Gc π Y ax al)(R:Rep ρ Z Y)(R':Rep bR Z' al)(X:Ext [] ρ Z bR Z'):Ext [] ρ Z (viewOf π bR) Z' where
 pre:=λi a h=>uX (G.id i<|R.len▸(bM.mp h).1)<|X.pre i a h
 keep:=X.keep
 adr:=X.adr
 new:=λa h=>X.new a<|mD R' G.toEmb h
theorem cT.gc (h:cT n f vs Y (.ok (v.ml<|at' π) al))(G:Gc π Y ax al)(hv:v.rl ax.length=true):cT n f vs Y (.ok v ax):=h.by λfz q Q E us e is P=>⟨fz,q,rfl,rfl,rfl,e,is,λu am a bA i=>by
 subst e bA;have X:=G.ext q.rep am.rep a.ext;exact P u (q.to am.tk am.fr am.news (am.rep.sub G.toEmb) X a.turn) ⟨X,a.turn⟩ rfl<|i.kc (qU am.rep G.toEmb) _ hv⟩
theorem cT.gcx (h:cT n f vs Y (.exc C al))(G:Gc π Y ax al):cT n f vs Y (.exc C ax):=h.by λfz q Q E us e is P=>⟨fz,q,rfl,rfl,rfl,e,is,λm' g x bR Z' h' eS b F' L U R' X T=>by
 subst e;exact P m' g x (viewOf π bR) Z' h' eS F' L U (R'.sub G.toEmb) (G.ext q.rep R' X) T⟩
def St.view {fz:Fz}(q:St fz)(E:Emb π l0 q.Y):St (fz.to fz.m []):=
 have R:=q.rep.sub E
 {b:=q.b,h:=q.h,ρ:=viewOf π q.ρ,Z:=q.Z,Y:=l0,tk:=q.tk,ok:=q.ok,below:=q.below,dicts:=q.dicts,fr:=q.fr,news:=q.news,rep:=R,lo:=λi M M M M h=>fB h}
theorem cT.frame (h:cT n f E4 l0 (.ok v rN))(E:Emb π l0 Y)(LJ:kq l0.length E4=true)(B:Back π Ge l0 Y rN Y'):cT n f (lB (at' π) E4) Y (.ok (v.ml<|at' Ge) Y'):=h.by λfz q Q E' us e is P=>by
 subst e;refine⟨fz.to fz.m [],q.view E,rfl,rfl,rfl,rfl,is.kc (qU q.rep E) _ LJ,λu am a bA i=>?_⟩;subst bA;have X:=uZ q.rep E am.rep a.ext;exact P u (q.to am.tk am.fr am.news (AO q.rep E am.rep a.ext B) X a.turn) ⟨X,a.turn⟩ rfl<|i.nD<|AN q.rep E am.rep a.ext B
theorem cT.QU (h:cT n f E4 l0 (.exc C rN))(E:Emb π l0 Y)(LJ:kq l0.length E4=true)(B:Back π Ge l0 Y rN Y'):cT n f (lB (at' π) E4) Y (.exc C Y'):=h.by λfz q Q E' us e is P=>by
 subst e;refine⟨fz.to fz.m [],q.view E,rfl,rfl,rfl,rfl,is.kc (qU q.rep E) _ LJ,λm' g x bR Z' h' eS b F' L U R' X T=>?_⟩;exact P m' g x (wide q.ρ (viewOf π q.ρ) bR) Z' h' eS F' L U (AO q.rep E R' X B) (uZ q.rep E R' X) T
end
section
variable {n n' f:Nat} {vs:aG} {Y al ax:af} {r:Res V} {v:V} {O:ar} {ρ:List Addr} {Z:Led} {gx:Gx} {tx:Text}
variable {l:ii}
theorem Gf {k:Str}{v:V}:∀{kvs:List (Str × Value)},jW ρ Z kvs (l++[(k,v)])->∃r3 u,kvs=r3++[(k,u)]/\jW ρ Z r3 l:=by
 induction l with
 |nil=>exact λh=>h.ej λ{u _} M t=>by rw[t.jO];exact⟨[],u,rfl,.nil⟩
 |cons p l ih=>
  exact λh=>h.ej λ{u _} i t=>gm (ih t) λr3 u' e h=>jX ((p.1,u)::r3) u' (bH _ e)<|.cons i h
theorem Rep.CX {d:Nat}{k:Str}{v:V}(R:Rep ρ Z Y)(h:Y[d]?=some (.dict (l++[(k,v)]))):Rep ρ Z (Y.set d<|.dictX l k):=
 R.P0 h λo ⟨kvs,g1,g2⟩=>by
  refine gm (Gf g2) λr3 u dZ h=>?_;subst dZ;exact⟨u,r3,g1,h⟩
def I9 (al ax:af):Prop:=∀(ρ:List Addr) (Z:Led),Rep ρ Z al->Rep ρ Z ax
theorem I9.CX {d:Nat}{k:Str}{v:V}(h:Y[d]?=some (.dict (l++[(k,v)]))):I9 Y (Y.set d<|.dictX l k):=λM M R=>R.CX h
theorem cT.post (h:cT n f vs Y (.ok v al))(L:I9 al ax):cT n f vs Y (.ok v ax):=h.by λfz q Q E us e is P=>⟨fz,q,rfl,rfl,rfl,e,is,λu am a bA i=>by
 subst bA;exact P u (q.to am.tk am.fr am.news (L _ _ am.rep) a.ext a.turn) ⟨a.ext,a.turn⟩ rfl i⟩
theorem cT.weaken (h:cT n f vs Y r)(e1:n / 2<=n' / 2)(e2:n % 2=0):cT n' f vs Y r:=λfz q A' Q E us hn g1 g2 g3 g4 e is P=>
 h (fz.at n) (q.at (hn▸e1) λh=>absurd (h.symm.trans e2)<|by decide) A' Q E us rfl g1 g2 g3 g4 e is (P.at _ _)
structure nP (gx:Gx)(tx:Text):Prop where
 names:oZ gx
 word:yE gx
 defs:CW gx tx
theorem nP.step (H:nP gx tx){k:Nat}(S:hV O (2 * k)):hV (bk tx O) (2 * (k+6)):=by
 have:hV (bk tx O) (2 * ((k+4)+2)):=yC λf i hf=>by
  refine aI (H.defs f i hf) λDD X hd=>?_;cases hw:hM.contains f with
  |true=>
   rw[hw] at X hd;exact sV DD (2 * (k+4)+1) true X (by rw[qT];exact a9 _) (λM=>hd rfl)<|m6 (rL H.names H.word S) _ _ X.body
  |false=>
   rw[hw] at X;exact sV DD (2 * (k+4)) false X (by rw[fS];exact a9 _) m7<|m6 (ld H.names<|S.weaken (by rw[fS,fS];exact dX _ _) m7) _ _ X.body
 exact this
theorem nP.run (H:nP gx tx)(k:Nat):hV (run tx k) (2 * (6 * k)):=MY H.names H.word H.defs k
def plainT (tx:Text):Text:={tx with fn:=λf=>if hM.contains f=true then none else tx.fn f}
theorem nP.YY (H:nP gx tx):∀k,hV (Internal.run (plainT tx) k) (2 * (2 * k)):=by
 intro k
 induction k with
 |zero=>exact λM M M M M M M M M M M M M M P=>P.elim
 |succ k ih=>
  have:hV (bk (plainT tx)<|Internal.run (plainT tx) k) (2 * (2 * k+2)):=yC λf i hf=>by
   have hf:(if hM.contains f=true then none else tx.fn f)=some i:=hf;by_cases hw:hM.contains f=true
   ·rw[if_pos hw] at hf;exact fB hf
   ·rw[if_neg hw] at hf;refine aI (H.defs f i hf) λDD X M=>?_;rw[Bool.eq_false_iff.mpr hw] at X;exact sV DD (2 * (2 * k)) false X (by rw[fS];exact a9 _) m7<|m6 (ld H.names ih) _ _ X.body
  exact this
def Kn (n:Nat)(T:Nat->List V->af->Res V->Prop):Prop:=
 ∀f vs Y,(∃r,T f vs Y r)->∃r,cT n f vs Y r/\T f vs Y r
end
section
mutual
theorem V.rO {p:Nat->Nat}{k:Nat}(h:∀i,i<k->p i=i):∀(v:V),v.rl k=true->v.ml p=v
 | .none,_=>rfl
 | .bool _,_=>rfl
 | .int _,_=>rfl
 | .str _,_=>rfl
 | .rng _ _,_=>rfl
 | .ref i,c=>by rw[V.ml,h i<|by simpa [V.rl] using c]
 | .U l,c=>by rw[V.ml,tN h l c]
 | .gl l,c=>by rw[V.ml,tN h l c]
theorem tN {p:Nat->Nat}{k:Nat}(h:∀i,i<k->p i=i):∀(l:aG),kq k l=true->lB p l=l
 | [],_=>rfl
 |v::r,c=>by
  have c':v.rl k=true/\kq k r=true:=by simpa [kq] using c
  rw[lB,V.rO h v c'.1,tN h r c'.2]
end
variable {k:Nat}
theorem o6 {α:Type}{p:Nat->Nat}(h:∀i,i<k->p i=i):∀(l:List (α × V)),AM k l=true->uW p l=l
 | [],_=>rfl
 |(_,v)::r,c=>by
  have c':v.rl k=true/\AM k r=true:=by simpa [AM] using c
  rw[uW,V.rO h v c'.1,o6 h r c'.2]
theorem Cell.rO {p:Nat->Nat}(h:∀i,i<k->p i=i)(c:Cell)(hc:c.rl k=true):c.ml p=c:=by
 cases c with
 |list l=>rw[Cell.ml,tN h l hc]
 |dict l=>rw[Cell.ml,o6 h l hc]
 |dictT l=>rw[Cell.ml,o6 h l hc]
 |inst C d=>rw[Cell.ml,h d<|by simpa [Cell.rl] using hc]
 |dictX l k=>rw[Cell.ml,o6 h l hc]
noncomputable def Ja (Y:af):Bool:=Y.all λc=>c.rl Y.length
theorem AP {i:Nat}(h:i<k):at' (List.range k) i=i:=m8<|t9 h
variable {n f:Nat} {vs E4:aG} {Y al J W:af} {r:Res V} {v:V} {O:ar} {C:Nat} {π:List Nat} {gx:Gx} {tx:Text}
theorem Ei (h:Ja al=true):Emb (List.range al.length) al (al++J) where
 len:=List.length_range
 nd:=List.nodup_range
 cell:=λi c hc=>by
  have hi:=(bM.mp hc).1;have zp:=gn.mp h c<|fN hc
  exact lA i (t9 hi) (by rw[Cell.rO (λM=>AP) c zp,iE hi];exact hc) zp
theorem cT.drop (h:cT n f vs Y (.ok v (al++J)))(hc:Ja al=true)(hl:Y.length<=al.length)(hv:v.rl al.length=true):cT n f vs Y (.ok v al):=by
 refine cT.gc (π:=List.range al.length) (al:=al++J) ?_ ⟨Ei hc,λi hi=>t9<|d9 ‹_› ‹_›⟩ hv
 rwa [V.rO (λM=>AP) v hv]
theorem cT.OS (h:cT n f vs Y (.exc C (al++J)))(hc:Ja al=true)(hl:Y.length<=al.length):cT n f vs Y (.exc C al):=
 cT.gcx h ⟨Ei hc,λi hi=>t9<|d9 ‹_› ‹_›⟩
theorem xd (E:Emb π W Y):Back π π W Y W Y where
 le:=a9 _
 more:=by rw[nU];simp
 len:=by rw[nU];rfl
 old:=λM M M=>rfl
 new:=λi c h=>by
  exact jI (E.cell i c h) λj h1 h2 M=>bD j h1 h2
theorem cT.keep (h:cT n f E4 W (.ok v W))(E:Emb π W Y)(LJ:kq W.length E4=true):cT n f (lB (at' π) E4) Y (.ok (v.ml<|at' π) Y):=h.frame E LJ<|xd E
theorem cT.OT (h:cT n f E4 W (.exc C W))(E:Emb π W Y)(LJ:kq W.length E4=true):cT n f (lB (at' π) E4) Y (.exc C Y):=h.QU E LJ<|xd E
def over (tx:Text)(n:Nat)(T:Nat->List V->af->Res V->Prop)(O:ar):ar:=λf vs Y=>
 open Classical in if h:∃r,cT n f vs Y r/\T f vs Y r then h.choose else bk tx O f vs Y
variable {T:Nat->List V->af->Res V->Prop}
theorem vb (m:Nat):2 * m / 2=m:=Nat.mul_div_cancel_left m Nat.two_pos
theorem AQ (H:nP gx tx)(S:hV O (2 * k))(e1:n / 2<=k+6)(e2:n % 2=0):hV (over tx n T O) (2 * (k+6)):=.tM λf vs Y=>by
 unfold over;split
 ·next h=>exact h.choose_spec.1.weaken (by rw[vb];exact e1) e2
 ·exact(H.step S).pr
theorem AR (h:Kn n T)(t:∃r,T f vs Y r):T f vs Y (over tx n T O f vs Y):=by
 unfold over;have hh:=h f vs Y t;rw[dif_pos hh];exact hh.choose_spec.2
theorem AS (t:¬∃r,T f vs Y r):over tx n T O f vs Y=bk tx O f vs Y:=by
 unfold over;rw[dif_neg λ⟨r,_,h⟩=>t ⟨r,h⟩]
def overs (tx:Text)(n:Nat)(T:Nat->List V->af->Res V->Prop):Nat->ar
 | 0=>λM M M=>.stuck
 |k+1=>over tx n T<|overs tx n T k
theorem xf (H:nP gx tx)(m:Nat)(k:Nat):hV (overs tx (2 * m) T (k+1)) (2 * (m+6 * (k+1))):=by
 induction k with
 |zero=>exact AQ H (.tM λM M M=>.stuck) (by rw[vb];exact dX _ _)<|Nat.mul_mod_right 2 m
 |succ k h=>exact AQ H h (by rw[vb];exact dX m<|6 * (k+1)+6)<|Nat.mul_mod_right 2 m
end
@[reducible] noncomputable def df {α:Type}(b:Bool)(x y:α):α:=match b with
 |true=>x
 |false=>y
@[reducible] def UR (O:ar)(W:Nat)(ss:List S)(f:fc)(Y:af):Res fc:=match f with
 |(some v,N)=>.ok (some v,N) Y
 |(none,N)=>bZ O W ss N Y
section
variable {O:ar} {N loc':Loc} {Y al ax bB:af} {x y c:X} {l r:List X} {v u:V} {vs all:aG} {R:Res V} {b:Bool} {C:Nat}
theorem aJ {α β:Type}{r:Res α}{k:α->af->Res β}{v:α}{R:Res β}(h:r=.ok v al)(e:k v al=R):r.bind k=R:=by rw[h];exact e
theorem dz {α β:Type}{r:Res α}{k:α->af->Res β}(h:r=.exc C al):r.bind k=.exc C al:=by rw[h];rfl
theorem cq {α β:Type}{o:Option α}{k:α->Res β}{v:α}{R:Res β}(h:o=some v)(e:k v=R):fq o k=R:=by rw[h];exact e
theorem qV {α:Type}{p:Prop}[Decidable p]{x y R:α}(h:p)(e:x=R):(if p then x else y)=R:=(if_pos h).trans e
theorem fT {r:Res V}(h:r=.ok u al)(q:bp al u=some b):da r=.ok b al:=aJ h<|cq q rfl
theorem xg {α:Type}{x y R:α}(k:df b x y=R):cond b x y=R:=by cases b<;>exact k
theorem Ej {α β:Type}{f:α->β}{x y:α}{R:β}(k:f (df b x y)=R):cond b (f x) (f y)=R:=by cases b<;>exact k
theorem I {i:Nat}(h:N[i]?=some (some v)):aV O (.l i) N Y=.ok v Y:=by
 show(match N[i]? with
  |some (some v)=>Res.ok v Y
  |_=>Res.stuck)= _
 rw[h]
theorem ag:aV O (.c v) N Y=.ok v Y:=rfl
theorem aS (h:nN O l N Y=.ok vs al):aV O (.U l) N Y=.ok (.U vs) al:=aJ h rfl
theorem bh (h:nN O l N Y=.ok vs al):aV O (.s l) N Y=.ok (.ref al.length) (al++[.list vs]):=aJ h rfl
theorem l7 {ks:cY}(h:nN O l N Y=.ok vs al):aV O (.dct ks l) N Y=.ok (.ref al.length) (al++[.dict<|ks.zip vs]):=aJ h rfl
theorem aq {op:CmpOp}(h:aV O x N Y=.ok u al)(k:aV O y N al=.ok v ax)(q:cy ax op u v=some b):aV O (.m op x y) N Y=.ok (.bool b) ax:=aJ h<|aJ k<|cq q rfl
theorem lg (h:aV O x N Y=.ok u al)(q:bp al u=some b):aV O (.not x) N Y=.ok (.bool !b) al:=aJ (fT h q) rfl
theorem fk (h:aV O c N Y=.ok u al)(q:bp al u=some true)(k:aV O x N al=R):aV O (.ite c x y) N Y=R:=aJ (fT h q) k
theorem fU (h:aV O c N Y=.ok u al)(q:bp al u=some false)(k:aV O y N al=R):aV O (.ite c x y) N Y=R:=aJ (fT h q) k
theorem rP (h:aV O c N Y=.ok u al)(q:bp al u=some b)(k:aV O (df b x y) N al=R):aV O (.ite c x y) N Y=R:=aJ (fT h q)<|Ej (f:=λx=>aV O x N al) k
theorem eX {op:Operator}(h:aV O x N Y=.ok u al)(k:aV O y N al=.ok v ax)(q:jk ax op u v=R):aV O (.bin op x y) N Y=R:=aJ h<|aJ k q
theorem aF {w:V}(h:aV O x N Y=.ok u al)(k:aV O y N al=.ok v ax)(q:cb ax u v=some w):aV O (.i x y) N Y=.ok w ax:=aJ h<|aJ k<|cq q rfl
theorem vc (h:aV O x N Y=.ok u al)(k:aV O y N al=.ok v ax)(q:rt ax u v=R):aV O (.slcTo x y) N Y=R:=aJ h<|aJ k q
theorem CY (h:aV O x N Y=.ok u al)(k:aV O y N al=.ok v ax)(q:n0 ax u v=R):aV O (.slcFrom x y) N Y=R:=aJ h<|aJ k q
theorem tO {n:Str}(h:aV O x N Y=.ok u al)(k:db al u n=true)(q:jN al u n=some v):aV O (.attr x n) N Y=.ok v al:=aJ h<|qV k<|cq q rfl
theorem aK {f:Nat}(h:nN O l N Y=.ok vs al)(k:O f vs al=R):aV O (.call f l) N Y=R:=aJ h k
theorem vd {K f:Nat}(e:uo.init K=some f)(h:nN O l N Y=.ok vs al)(k:O f (.ref (al.length+1)::vs) (al++[.dict [],.inst K al.length])=.ok .none ax):aV O (.new K l) N Y=.ok (.ref (al.length+1)) ax:=cq e<|aJ h<|aJ k rfl
theorem bO {f:Nat}{n:Str}(h:aV O x N Y=.ok u al)(e:eV al u n=some f)(k:nN O l N al=.ok vs ax)(q:O f (u::vs) ax=R):aV O (.bG x n l) N Y=R:=aJ h<|cq e<|aJ k q
theorem cL {d:Bi}(h:nN O l N Y=.ok vs al)(k:vS al d vs=R):aV O (.bi d l) N Y=R:=aJ h k
theorem jS {d:Bm}(h:aV O x N Y=.ok u al)(e:Fh al u d=true)(k:nN O l N al=.ok vs ax)(q:OD ax u d vs=R):aV O (.bm x d l) N Y=R:=aJ h<|qV e<|aJ k q
theorem eJ {l:List X}(h:ny O l N Y=R):aV O (.and l) N Y=R:=h
theorem ic {l:List X}(h:ur O l N Y=R):aV O (.or l) N Y=R:=h
theorem ip (h:aV O x N Y=.ok v al):ny O [x] N Y=.ok v al:=aJ h rfl
theorem Ek (h:aV O x N Y=.ok v al)(q:bp al v=some b)(k:df b (ny O (y::l) N al) (.ok v al)=R):ny O (x::y::l) N Y=R:=aJ h<|cq q<|xg k
theorem gM (h:aV O x N Y=.ok v al)(q:bp al v=some true)(k:ny O (y::l) N al=R):ny O (x::y::l) N Y=R:=Ek h q k
theorem kt (h:aV O x N Y=.ok v al)(q:bp al v=some false):ny O (x::y::l) N Y=.ok v al:=Ek h q rfl
theorem ve (h:aV O x N Y=.ok v al)(q:bp al v=some b)(k:df b (.ok v al) (ur O (y::l) N al)=R):ur O (x::y::l) N Y=R:=aJ h<|cq q<|xg k
theorem lK:bp Y (.bool b)=some b:=rfl
theorem f0 (h:aV O x N Y=.ok v al):ur O [x] N Y=.ok v al:=aJ h rfl
theorem f6 (h:aV O x N Y=.ok v al)(q:bp al v=some false)(k:ur O (y::l) N al=R):ur O (x::y::l) N Y=R:=ve h q k
theorem l8 (h:aV O x N Y=.ok v al)(q:bp al v=some true):ur O (x::y::l) N Y=.ok v al:=ve h q rfl
theorem ae:nN O [] N Y=.ok [] Y:=rfl
theorem aa (h:aV O x N Y=.ok v al)(k:nN O r N al=.ok vs ax):nN O (x::r) N Y=.ok (v::vs) ax:=aJ h<|aJ k rfl
theorem cH:jl O [] N Y=.ok true Y:=rfl
theorem oF (h:aV O x N Y=.ok v al)(q:bp al v=some true)(k:jl O r N al=.ok b ax):jl O (x::r) N Y=.ok b ax:=aJ (fT h q) k
theorem mE (h:aV O x N Y=.ok v al)(q:bp al v=some false):jl O (x::r) N Y=.ok false al:=aJ (fT h q) rfl
def iL (O:ar)(fr:Loc)(ts:List Nat)(cd:List X)(elt:X)(v:V)(acc:aG)(Y:af):Res (aG):=fq (dv Y ts v fr) λloc'=>(jl O cd loc' Y).bind λb Y=>cond b ((aV O elt loc' Y).bind λv Y=>lG v acc Y)<|.ok acc Y
variable {elt:X}
theorem dU {fr:List (Option Nat)}{ts:List Nat}{cd:List X}(h:aV O x N Y=.ok u al)(q:cG al u=some all)(k:dk (iL O (frees fr N) ts cd elt) u all all [] al=.ok vs ax):
  aV O (.comp fr ts x cd elt) N Y=.ok (.ref ax.length) (ax++[.list vs]):=aJ h<|cq q<|aJ k rfl
variable {acc:aG}
theorem b8 {f:V->List V->af->Res (aG)}:dk f u all [] acc Y=.ok acc Y:=rfl
theorem bo {f:V->List V->af->Res (aG)}{wu:aG}{rest:aG}{RL:Res (aG)}(h:f v acc Y=.ok wu al)(q:same al u all=true)(k:dk f u all rest wu al=RL):dk f u all (v::rest) acc Y=RL:=aJ h<|qV q k
theorem dC {fr:Loc}{ts:List Nat}{cond:List X}{w:V}(h:dv Y ts v fr=some loc')(k:jl O cond loc' Y=.ok true al)(q:aV O elt loc' al=.ok w ax)(hl:acc.length<10000):iL O fr ts cond elt v acc Y=.ok (acc++[w]) ax:=cq h<|aJ k<|aJ q<|qV hl rfl
theorem jq {fr:Loc}{ts:List Nat}{cond:List X}(h:dv Y ts v fr=some loc')(k:jl O cond loc' Y=.ok false al):iL O fr ts cond elt v acc Y=.ok acc al:=cq h<|aJ k rfl
theorem yF {fr:List (Option Nat)}(h:aV O x (frees fr N) Y=.ok v al):aV O (.word fr x) N Y=.ok v al:=by
 show qy (aV O x (frees fr N) Y)= _;rw[h];rfl
variable {W:Nat} {s:S} {ss tt:List S} {f:fc} {t:T} {ts:List T} {RF:Res fc} {RL:Res Loc}
theorem gR (h:aV O x N Y=.ok .none al):nO O W (.ex x) N Y=.ok (none,N) al:=aJ h rfl
theorem az (h:aV O x N Y=.ok v al)(k:tG O t v N al=.ok loc' ax):nO O W (.set t x) N Y=.ok (none,loc') ax:=aJ h<|aJ k rfl
theorem bL (h:aV O x N Y=.ok v al):nO O W (.ret x) N Y=.ok (some v,N) al:=aJ h rfl
theorem bj (h:aV O x N Y=.ok v al)(q:bp al v=some true)(k:bZ O W ss N al=RF):nO O W (.ite x ss tt) N Y=RF:=aJ (fT h q) k
theorem aA (h:aV O x N Y=.ok v al)(q:bp al v=some false)(k:bZ O W tt N al=RF):nO O W (.ite x ss tt) N Y=RF:=aJ (fT h q) k
theorem QV (h:aV O x N Y=.ok v al)(q:bp al v=some b)(k:bZ O W (df b ss tt) N al=RF):nO O W (.ite x ss tt) N Y=RF:=aJ (fT h q)<|Ej (f:=λx=>bZ O W x N al) k
theorem oG {y:X}{m:Str}{n:Int}(h:aV O x N Y=.ok (.str m) al)(k:aV O y N al=.ok (.int n) ax):nO O W (.raise C x y) N Y=.exc C ax:=aJ h<|aJ k rfl
theorem ay:bZ O W [] N Y=.ok (none,N) Y:=rfl
theorem bP (h:nO O W s N Y=.ok (some v,loc') al):bZ O W (s::ss) N Y=.ok (some v,loc') al:=aJ h rfl
theorem ah (h:nO O W s N Y=.ok f al)(k:UR O W ss f al=RF):bZ O W (s::ss) N Y=RF:=aJ h (by
 rcases f with ⟨_ | _,_⟩
 ·exact k
 ·exact k)
theorem cP (h:nO O W s N Y=.exc C al):bZ O W (s::ss) N Y=.exc C al:=dz h
theorem aD {i:Nat}:tG O (.l i) v N Y=.ok (N.set i<|some v) Y:=rfl
theorem ez {k:Bool}{l:aG}(h:jY Y v=some (k,l))(q:l.length=ts.length)(e:ru O ts l N Y=RL):tG O (.U ts) v N Y=RL:=cq h<|qV q e
theorem iY {n:Str}(h:aV O x N Y=.ok u al)(k:db al u n=true)(q:iV al u n v=some ax):tG O (.attr x n) v N Y=.ok N ax:=aJ h<|qV k<|cq q rfl
theorem fJ {i:V}(h:aV O x N Y=.ok u al)(k:aV O y N al=.ok i ax)(q:iW ax u i v=some bB):tG O (.sub x y) v N Y=.ok N bB:=aJ h<|aJ k<|cq q rfl
theorem dg:ru O [] [] N Y=.ok N Y:=rfl
theorem aR (h:tG O t v N Y=.ok loc' al)(k:ru O ts vs loc' al=RL):ru O (t::ts) (v::vs) N Y=RL:=aJ h k
theorem gB {src:V}(h:aV O x N Y=.ok src al)(q:cG al src=some all)(k:forL (λv N Y=>(tG O t v N Y).bind λN Y=>bZ O W ss N Y) src all all N al=RF):nO O W (.for t x ss) N Y=RF:=aJ h<|cq q k
end
theorem le2 {a b c d:Nat}(h:(a.ble b&&c.ble d)=true):a<=b/\c<=d:=
 have h:=fO.mp h
 ⟨aN h.1,aN h.2⟩
theorem bf {O:ar}{f:Nat}{i:gI}{vs:aG}{N:Loc}{Y Y':af}{R:fc}(hf:tx.fn f=some i)(hl:(vs.length.ble i.ps.length&&i.ps.length.ble (vs.length+i.dflt.length))=true)(hb:jZ i.slots i.ps (vs++i.dflt.drop (vs.length+i.dflt.length - i.ps.length))=some N)(h:bZ O 400 i.body N Y=.ok R Y'):bk tx O f vs Y=.ok (R.1.getD .none) Y':=cq hf<|qV (le2 hl)<|cq hb<|aJ h rfl
theorem gj {C:Nat}{O:ar}{f:Nat}{i:gI}{vs:aG}{N:Loc}{Y Y':af}(hf:tx.fn f=some i)(hl:(vs.length.ble i.ps.length&&i.ps.length.ble (vs.length+i.dflt.length))=true)(hb:jZ i.slots i.ps (vs++i.dflt.drop (vs.length+i.dflt.length - i.ps.length))=some N)(h:bZ O 400 i.body N Y=.exc C Y'):bk tx O f vs Y=.exc C Y':=cq hf<|qV (le2 hl)<|cq hb<|dz h
section
variable {Y:af} {i j d C f:Nat} {a k v:V} {n:Str} {l:ii} {vs:aG} {c:Cell}
theorem js (h:Y[i]?=some (.list vs)):vR Y i=some vs:=by unfold vR;rw[h]
theorem CZ (h:Y[i]?=some (.dict l)):OB Y i=some l:=by unfold OB;rw[h]
theorem m9 {α:Type}{f:Cell->Option α}(h:Y[i]?=some c):ye Y i f=f c:=by unfold ye;rw[h]
theorem C0 (h:Y[i]?=some (.inst C d))(k:Y[d]?=some (.dict l)):n6 Y (.ref i)=some ⟨C,d,l,none⟩:=(m9 h).trans<|m9 k
theorem AT (h:Y[i]?=some (.inst C d))(k:Y[d]?=some (.dict l)):uq Y (.ref i) n=some ⟨C,d,l,none⟩:=by unfold uq;rw[C0 h k];rfl
theorem yG (h:Y[i]?=some (.inst C d))(k:Y[d]?=some (.dict l))(e:aL l n=some v):jN Y (.ref i) n=some v:=by unfold jN;rw[AT h k];exact e
theorem yH (h:Y[i]?=some (.inst C d))(k:Y[d]?=some (.dict l))(e:uo.attrs C n=true)(hl:l.length<499):db Y (.ref i) n=true:=by
 unfold db;rw[C0 h k];show(uo.attrs C n&&decide (l.length<499))=true;rw[e,dP hl];rfl
theorem El (h:Y[i]?=some (.inst C d))(k:Y[d]?=some (.dict l))(e':(aL l n).isSome=false)(e:uo.bG C n=some f):eV Y (.ref i) n=some f:=by
 unfold eV;rw[AT h k];show(if (aL l n).isSome=true then none else uo.bG C n)=some f;rw[e',if_neg Bool.false_ne_true,e]
theorem vf (h:Y[i]?=some (.inst C d))(k:Y[d]?=some (.dict l)):iV Y (.ref i) n v=some (Y.set d<|.dict<|rq l n v):=by unfold iV;rw[C0 h k];rfl
theorem yI (h:Y[j]?=some c):cb Y (.ref j) k=TJ k c:=m9 h
theorem QW {i:Int}:cb Y (.gl vs) (.int i)=Ce vs i:=rfl
theorem Em {i:Int}:cb Y (.U vs) (.int i)=WE vs i:=rfl
theorem AU {i:Int}(h:Y[j]?=some (.list vs)):cb Y (.ref j) (.int i)=Ce vs i:=yI h
theorem oH {n:Str}(h:Y[j]?=some (.dict l)):cb Y (.ref j) (.str n)=aL l n:=yI h
theorem C1 (h:Y[j]?=some c):iW Y (.ref j) k v=setC Y j k v c:=m9 h
theorem in_of (h:Y[j]?=some c):isIn Y a (.ref j)=inC Y a (.ref j) c:=m9 h
theorem l9 (h:Y[i]?=some (.list vs)):jY Y (.ref i)=some (false,vs):=bH (Option.map λl=>(false,l))<|js h
theorem jt {m:Nat}(h:Y[i]?=some (.list vs)):dH Y (m+1) (.ref i)=(pQ (dH Y m) vs).map .list:=by
 show(vR Y i).bind _= _;rw[js h];rfl
theorem QX {t t':aG}(h:Y[i]?=some (.list t))(h':Y[j]?=some (.list t'))(e:(t.isEmpty==t'.isEmpty)=false):OC Y (.ref i) (.ref j)=some false:=by
 have:v7 Y (.ref i) (.ref j)=some false:=by
  unfold v7;rw[l9 h,l9 h'];show(if (false==false&&!(t.isEmpty==t'.isEmpty))=true then some false else none)=some false;rw[e];rfl
 show Lz (v7 Y (.ref i)<|.ref j) _= _;rw[this];rfl
theorem vg {t t':aG}(h:Y[i]?=some (.list t))(h':Y[j]?=some (.list t'))(e:(t.isEmpty==t'.isEmpty)=true):OC Y (.ref i) (.ref j)=yd Y (.ref i) (.ref j):=by
 have:v7 Y (.ref i) (.ref j)=none:=by
  unfold v7;rw[l9 h,l9 h'];show(if (false==false&&!(t.isEmpty==t'.isEmpty))=true then some false else none)=none;rw[e];rfl
 show Lz (v7 Y (.ref i)<|.ref j) _= _;rw[this];rfl
theorem tP {x y:PyData}(h1:dH Y 12 a=some x)(h2:dH Y 12 k=some y)(h:(SeqAt.shaped x&&SeqAt.shaped y)=true):yd Y a k=some (PyData.eqv x y):=by
 unfold yd;rw[h1,h2];exact if_pos h
theorem yJ {d:PyData}{xs:List PyData}(h1:dH Y 12 k=some (.list xs))(h2:dH Y 12 a=some d)(h:(PyData.canLayAll0 xs&&d.canLay0&&decide (d.depth<=64))=true):zX Y a k=some (xs.any λy=>PyData.eqv y d):=by
 unfold zX;rw[h1,h2];exact if_pos h
theorem M0 {s:Str}{ts:cY}(h:Y[i]?=some (.list vs))(e:strsOf vs=some ts):Fg Y (.str s) (.ref i)=some (anyS s ts):=by
 show(jY Y<|.ref i).bind _= _;rw[l9 h];show(strsOf vs).map _= _;rw[e];rfl
variable {kk:Str}
theorem En (h:Y[i]?=some (.inst C d))(k:Y[d]?=some (.dictX l kk))(e:(aL l kk).isSome=false):n6 Y (.ref i)=some ⟨C,d,l,some kk⟩:=(m9 h).trans ((m9 k).trans (by
 show(if (aL l kk).isSome=true then none else some _)= _;rw[e];rfl))
theorem Eo (h:Y[i]?=some (.inst C d))(k:Y[d]?=some (.dictX l kk))(e:(aL l kk).isSome=false)(e':(uo.attrs C n&&decide (l.length<499))=true):db Y (.ref i) n=true:=by
 unfold db;rw[En h k e];exact e'
theorem Jb (h:Y[i]?=some (.inst C d))(k:Y[d]?=some (.dictX l kk))(e:(aL l kk).isSome=false)(e':kk≠n):uq Y (.ref i) n=some ⟨C,d,l,some kk⟩:=by
 unfold uq;rw[En h k e];exact if_neg λq=>e'<|aT q
theorem AV (h:Y[i]?=some (.inst C d))(k:Y[d]?=some (.dictX l kk))(e:(aL l kk).isSome=false)(e':kk≠n)(hv:aL l n=some v):jN Y (.ref i) n=some v:=by
 unfold jN;rw[Jb h k e e'];exact hv
theorem Jc (h:Y[i]?=some (.inst C d))(k:Y[d]?=some (.dictX l kk))(e:(aL l kk).isSome=false)(e':kk≠n)(e1:(aL l n).isSome=false)(e2:uo.bG C n=some f):eV Y (.ref i) n=some f:=by
 unfold eV;rw[Jb h k e e'];show(if (aL l n).isSome=true then none else uo.bG C n)=some f;rw[e1,if_neg Bool.false_ne_true,e2]
end
section
set_option tactic.hygienic true
abbrev KX:=Nat->af->Prop
def bW {α:Type}(r:Res α)(kx:KX)(k:α->af->Prop):Prop:=@Res.casesOn α (λ_=>Prop) r k kx True
def loW (o:Option (jJ))(k:V->Prop):Prop:=@Option.casesOn _ (λ_=>Prop) o True λo=>@Option.casesOn _ (λ_=>Prop) o True k
def US (v:V)(P:Prop):Prop:=@V.casesOn (λ_=>Prop) v P (λ_=>True) (λ_=>True) (λ_=>True) (λ_=>True) (λ_=>True) (λ_ _=>True) λ_=>True
def OU (b:Bool)(P Q:Prop):Prop:=@Bool.casesOn (λ_=>Prop) b Q P
mutual
noncomputable def pI (O:ar):X->Loc->af->KX->(V->af->Prop)->Prop
 | .l i,N,Y,_,k=>loW N[i]? λv=>k v Y
 | .c v,_,Y,_,k=>k v Y
 | .U l,N,Y,kx,k=>wg O l N Y kx λvs Y=>k (.U vs) Y
 | .s l,N,Y,kx,k=>wg O l N Y kx λvs Y=>k (.ref Y.length)<|Y++[.list vs]
 | .dct ks l,N,Y,kx,k=>wg O l N Y kx λvs Y=>k (.ref Y.length)<|Y++[.dict<|ks.zip vs]
 | .m op a b,N,Y,kx,k=>pI O a N Y kx λx Y=>pI O b N Y kx λy Y=>∀⦃b⦄,cy Y op x y=some b->k (.bool b) Y
 | .and l,N,Y,kx,k=>QY O l N Y kx k
 | .or l,N,Y,kx,k=>QZ O l N Y kx k
 | .not a,N,Y,kx,k=>pI O a N Y kx λx Y=>∀⦃b⦄,bp Y x=some b->k (.bool !b) Y
 | .ite c a b,N,Y,kx,k=>pI O c N Y kx λx Y=>∀⦃t⦄,bp Y x=some t->OU t (pI O a N Y kx k) (pI O b N Y kx k)
 | .bin op a b,N,Y,kx,k=>pI O a N Y kx λx Y=>pI O b N Y kx λy Y=>∀⦃r⦄,jk Y op x y=r->bW r kx k
 | .i a i,N,Y,kx,k=>pI O a N Y kx λx Y=>pI O i N Y kx λy Y=>∀⦃v⦄,cb Y x y=some v->k v Y
 | .slcTo a h,N,Y,kx,k=>pI O a N Y kx λx Y=>pI O h N Y kx λy Y=>∀⦃r⦄,rt Y x y=r->bW r kx k
 | .slcFrom a h,N,Y,kx,k=>pI O a N Y kx λx Y=>pI O h N Y kx λy Y=>∀⦃r⦄,n0 Y x y=r->bW r kx k
 | .attr a n,N,Y,kx,k=>pI O a N Y kx λx Y=>db Y x n=true->∀⦃v⦄,jN Y x n=some v->k v Y
 | .call f l,N,Y,kx,k=>wg O l N Y kx λvs Y=>∀⦃r⦄,O f vs Y=r->bW r kx k
 | .new C l,N,Y,kx,k=>∀⦃f⦄,uo.init C=some f->wg O l N Y kx λvs Y=>∀⦃r⦄,O f (.ref (Y.length+1)::vs) (Y++[.dict [],.inst C Y.length])=r->bW r kx λv Y'=>US v<|k (.ref (Y.length+1)) Y'
 | .bG a n l,N,Y,kx,k=>pI O a N Y kx λx Y=>∀⦃f⦄,eV Y x n=some f->wg O l N Y kx λvs Y=>∀⦃r⦄,O f (x::vs) Y=r->bW r kx k
 | .bi b l,N,Y,kx,k=>wg O l N Y kx λvs Y=>∀⦃r⦄,vS Y b vs=r->bW r kx k
 | .bm a m l,N,Y,kx,k=>pI O a N Y kx λx Y=>Fh Y x m=true->wg O l N Y kx λvs Y=>∀⦃r⦄,OD Y x m vs=r->bW r kx k
 | .comp fr ts it cd elt,N,Y,kx,k=>∀⦃r⦄,aV O (.comp fr ts it cd elt) N Y=r->bW r kx k
 | .comp2 fr ts it qj qk elt,N,Y,kx,k=>∀⦃r⦄,aV O (.comp2 fr ts it qj qk elt) N Y=r->bW r kx k
 | .word fr a,N,Y,kx,k=>∀⦃r⦄,aV O (.word fr a) N Y=r->bW r kx k
noncomputable def wg (O:ar):List X->Loc->af->KX->(List V->af->Prop)->Prop
 | [],_,Y,_,k=>k [] Y
 |a::r,N,Y,kx,k=>pI O a N Y kx λv Y=>wg O r N Y kx λvs Y=>k (v::vs) Y
noncomputable def QY (O:ar):List X->Loc->af->KX->(V->af->Prop)->Prop
 | [],_,_,_,_=>True
 |a::r,N,Y,kx,k=>pI O a N Y kx λv Y=>OU r.isEmpty (k v Y)<|∀⦃t⦄,bp Y v=some t->OU t (QY O r N Y kx k) (k v Y)
noncomputable def QZ (O:ar):List X->Loc->af->KX->(V->af->Prop)->Prop
 | [],_,_,_,_=>True
 |a::r,N,Y,kx,k=>pI O a N Y kx λv Y=>OU r.isEmpty (k v Y)<|∀⦃t⦄,bp Y v=some t->OU t (k v Y) (QZ O r N Y kx k)
end
section
variable {α β:Type} {kx:KX} {k k':α->af->Prop} {r:Res α}
theorem dR (h:bW r kx k)(f:∀v Y,k v Y->k' v Y):bW r kx k':=by
 cases r with
 |ok v Y=>exact f v Y h
 |exc C Y=>exact h
 |stuck=>trivial
theorem C2 {kx':KX}(h:bW r kx k)(g:∀C Y,kx C Y->kx' C Y)(f:∀v Y,k v Y->k' v Y):bW r kx' k':=by
 cases r with
 |ok v Y=>exact f v Y h
 |exc C Y=>exact g C Y h
 |stuck=>trivial
theorem br {f:α->af->Res β}{k:β->af->Prop}(h:bW (r.bind f) kx k):bW r kx λv Y=>bW (f v Y) kx k:=by
 cases r with
 |ok v Y=>exact h
 |exc C Y=>exact h
 |stuck=>trivial
theorem vh {o:Option α}{f:α->Res β}{k:β->af->Prop}(h:bW (fq o f) kx k){v:α}(e:o=some v):bW (f v) kx k:=by
 rw[e] at h;exact h
theorem Ep {p:Prop}[Decidable p]{k:α->af->Prop}(h:bW (if p then r else .stuck) kx k)(e:p):bW r kx k:=by
 rw[if_pos e] at h;exact h
theorem M1 {b:Bool}{x y:Res α}(h:bW (cond b x y) kx k){P Q:Prop}(f:bW x kx k->P)(g:bW y kx k->Q):OU b P Q:=by
 cases b
 ·exact g h
 ·exact f h
theorem Q0 {r:Res V}{f:Bool->af->Res β}{k:β->af->Prop}(h:bW ((da r).bind f) kx k):bW r kx λv Y=>∀⦃b⦄,bp Y v=some b->bW (f b Y) kx k:=
 dR (br<|br h) λ_ _ h _ e=>vh h e
theorem tm {r':Res α}(h:bW r kx k)(e:r=r'):bW r' kx k:=e▸h
end
section
variable {O:ar}
def SoX (O:ar)(x:X):Prop:=∀{N:Loc} {Y:af} {kx:KX} {k:V->af->Prop},bW (aV O x N Y) kx k->pI O x N Y kx k
structure SoL (O:ar)(l:List X):Prop where
 s:∀{N:Loc} {Y:af} {kx:KX} {k:List V->af->Prop},bW (nN O l N Y) kx k->wg O l N Y kx k
 a:∀{N:Loc} {Y:af} {kx:KX} {k:V->af->Prop},bW (ny O l N Y) kx k->QY O l N Y kx k
 o:∀{N:Loc} {Y:af} {kx:KX} {k:V->af->Prop},bW (ur O l N Y) kx k->QZ O l N Y kx k
theorem LD (x:X):SoX O x:=by
 refine X.rec (motive_1:=SoX O) (motive_2:=SoL O) ?l ?c ?U ?s ?dct ?m ?and ?or ?not ?ite ?bin ?i ?slcTo ?slcFrom ?attr ?call ?new ?bG ?bi ?bm ?comp ?comp2 ?word ?nil ?cons x
 case l=>
  intro i N Y kx k h;show loW N[i]? _;have h:bW (match N[i]? with
   |some (some v)=>.ok v Y
   |_=>.stuck) kx k:=h
  cases e:N[i]? with
  |none=>trivial
  |some o=>
   rw[e] at h;cases o with
   |none=>trivial
   |some v=>exact h
 case c=>intro v N Y kx k h;exact h
 case U=>intro l i N Y kx k h;exact i.s<|br h
 case s=>intro l i N Y kx k h;exact i.s<|br h
 case dct=>intro ks l i N Y kx k h;exact i.s<|br h
 case m=>intro op a b i j N Y kx k h;exact i<|dR (br h) λv Y h=>j<|dR (br h) λv Y h _ e=>vh h e
 case and=>intro l i N Y kx k h;exact i.a h
 case or=>intro l i N Y kx k h;exact i.o h
 case not=>intro a i N Y kx k h;exact i<|Q0 h
 case ite=>intro c a b i j l N Y kx k h;exact i<|dR (Q0 h) λv Y h _ e=>M1 (h e) j l
 case bin=>intro op a b i j N Y kx k h;exact i<|dR (br h) λv Y h=>j<|dR (br h) λv Y h _ e=>tm h e
 case i=>intro a b i j N Y kx k h;exact i<|dR (br h) λv Y h=>j<|dR (br h) λv Y h _ e=>vh h e
 case slcTo=>intro a b i j N Y kx k h;exact i<|dR (br h) λv Y h=>j<|dR (br h) λv Y h _ e=>tm h e
 case slcFrom=>intro a b i j N Y kx k h;exact i<|dR (br h) λv Y h=>j<|dR (br h) λv Y h _ e=>tm h e
 case attr=>intro a n i N Y kx k h;exact i<|dR (br h) λv Y h e _ e'=>vh (Ep h e) e'
 case call=>intro f l i N Y kx k h;exact i.s<|dR (br h) λv Y h _ e=>tm h e
 case new=>intro C l i N Y kx k h f e;exact i.s (dR (br<|vh h e) λv Y h r e=>dR (br (e▸h)) λv Y h=>by
   cases v<;>first | exact h | trivial)
 case bG=>intro a n l i j N Y kx k h;exact i<|dR (br h) λv Y h _ e=>j.s<|dR (br<|vh h e) λv Y h _ e=>tm h e
 case bi=>intro f l i N Y kx k h;exact i.s<|dR (br h) λv Y h _ e=>tm h e
 case bm=>intro a n l i j N Y kx k h;exact i<|dR (br h) λv Y h e=>j.s<|dR (br<|Ep h e) λv Y h _ e=>tm h e
 case comp=>intro fr ts it cd elt _ _ _ N Y kx k h _ e;exact tm h e
 case comp2=>intro fr ts it qj qk elt _ _ _ N Y kx k h _ e;exact tm h e
 case word=>intro fr a _ N Y kx k h _ e;exact tm h e
 case nil=>exact⟨λh=>h,λ_=>trivial,λ_=>trivial⟩
 case cons=>
  intro a r i j;refine⟨λh=>i (dR (br h) λv Y h=>j.s<|br h),λh=>i (dR (br h) λv Y h=>?_),λh=>i<|dR (br h) λv Y h=>?_⟩
  ·cases r with
   |nil=>exact h
   |cons b r=>exact λ_ e=>M1 (vh h e) j.a λh=>h
  ·cases r with
   |nil=>exact h
   |cons b r=>exact λ_ e=>M1 (vh h e) (λh=>h) j.o
end
mutual
noncomputable def Q1 (O:ar):T->V->Loc->af->KX->(Loc->af->Prop)->Prop
 | .l i,v,N,Y,_,k=>k (N.set i<|some v) Y
 | .U ts,v,N,Y,kx,k=>∀⦃l⦄,jY Y v=some l->l.2.length=ts.length->Jd O ts l.2 N Y kx k
 | .attr a n,v,N,Y,kx,k=>pI O a N Y kx λx Y=>db Y x n=true->∀⦃Y'⦄,iV Y x n v=some Y'->k N Y'
 | .sub a i,v,N,Y,kx,k=>pI O a N Y kx λx Y=>pI O i N Y kx λy Y=>∀⦃Y'⦄,iW Y x y v=some Y'->k N Y'
noncomputable def Jd (O:ar):List T->List V->Loc->af->KX->(Loc->af->Prop)->Prop
 | [],vs,N,Y,_,k=>OU vs.isEmpty (k N Y) True
 |t::ts,vs,N,Y,kx,k=>@List.casesOn V (λ_=>Prop) vs True λv vs=>Q1 O t v N Y kx λN Y=>Jd O ts vs N Y kx k
end
def goW (f:fc)(P Q:Prop):Prop:=@Option.casesOn _ (λ_=>Prop) f.1 P λ_=>Q
mutual
noncomputable def UT (O:ar)(W:Nat):S->Loc->af->KX->(fc->af->Prop)->Prop
 | .ex a,N,Y,kx,k=>pI O a N Y kx λv Y=>US v<|k (none,N) Y
 | .set t a,N,Y,kx,k=>pI O a N Y kx λv Y=>Q1 O t v N Y kx λN Y=>k (none,N) Y
 | .ret a,N,Y,kx,k=>pI O a N Y kx λv Y=>k (some v,N) Y
 | .ite c a b,N,Y,kx,k=>pI O c N Y kx λx Y=>∀⦃t⦄,bp Y x=some t->OU t (wi O W a N Y kx k) (wi O W b N Y kx k)
 | .whl c a,N,Y,kx,k=>∀⦃r⦄,nO O W (.whl c a) N Y=r->bW r kx k
 | .for t it a,N,Y,kx,k=>∀⦃r⦄,nO O W (.for t it a) N Y=r->bW r kx k
 | .raise C a b,N,Y,kx,k=>pI O a N Y kx λx Y=>pI O b N Y kx λy Y=>bW (Cf C x y Y) kx k
noncomputable def wi (O:ar)(W:Nat):List S->Loc->af->KX->(fc->af->Prop)->Prop
 | [],N,Y,_,k=>k (none,N) Y
 |s::r,N,Y,kx,k=>UT O W s N Y kx λf Y=>goW f (wi O W r f.2 Y kx k)<|k f Y
end
def SoT (O:ar)(t:T):Prop:=∀{v:V} {N:Loc} {Y:af} {kx:KX} {k:Loc->af->Prop},bW (tG O t v N Y) kx k->Q1 O t v N Y kx k
def YZ (O:ar)(ts:List T):Prop:=∀{vs:aG} {N:Loc} {Y:af} {kx:KX} {k:Loc->af->Prop},bW (ru O ts vs N Y) kx k->Jd O ts vs N Y kx k
theorem soT {O:ar}(t:T):SoT O t:=by
 refine T.rec (motive_1:=SoT O) (motive_2:=YZ O) ?l ?U ?attr ?sub ?nil ?cons t
 case l=>intro i v N Y kx k h;exact h
 case U=>intro ts i v N Y kx k h l e e';exact i<|Ep (vh h e) e'
 case attr=>intro a n v N Y kx k h;exact LD a<|dR (br h) λx Y h e _ e'=>vh (Ep h e) e'
 case sub=>intro a b v N Y kx k h;exact LD a<|dR (br h) λv Y h=>LD b<|dR (br h) λv Y h _ e=>vh h e
 case nil=>
  intro vs N Y kx k h;cases vs with
  |nil=>exact h
  |cons=>trivial
 case cons=>
  intro t ts i j vs N Y kx k h;cases vs with
  |nil=>trivial
  |cons v vs=>exact i<|dR (br h) λv Y h=>j h
def SoS (O:ar)(W:Nat)(s:S):Prop:=∀{N:Loc} {Y:af} {kx:KX} {k:fc->af->Prop},bW (nO O W s N Y) kx k->UT O W s N Y kx k
def SoB (O:ar)(W:Nat)(ss:List S):Prop:=∀{N:Loc} {Y:af} {kx:KX} {k:fc->af->Prop},bW (bZ O W ss N Y) kx k->wi O W ss N Y kx k
variable {W:Nat}
theorem WI {O:ar}(ss:List S):SoB O W ss:=by
 refine S.rec_1 (motive_1:=SoS O W) (motive_2:=SoB O W) ?ex ?set ?ret ?ite ?whl ?fr ?raise ?nil ?cons ss
 case ex=>intro a N Y kx k h;exact LD a (dR (br h) λv Y h=>by cases v<;>first | exact h | trivial)
 case set=>intro t a N Y kx k h;exact LD a<|dR (br h) λv Y h=>soT t<|br h
 case ret=>intro a N Y kx k h;exact LD a<|br h
 case ite=>intro c a b i j N Y kx k h;exact LD c<|dR (Q0 h) λv Y h _ e=>M1 (h e) i j
 case whl=>intro c a _ N Y kx k h _ e;exact tm h e
 case fr=>intro t it a _ N Y kx k h _ e;exact tm h e
 case raise=>intro C a b N Y kx k h;exact LD a<|dR (br h) λv Y h=>LD b<|br h
 case nil=>intro N Y kx k h;exact h
 case cons=>
  intro s r i j N Y kx k h;refine i<|dR (br h) λf Y h=>?_
  rcases f with ⟨_ | v,l⟩
  ·exact j h
  ·exact h
theorem qW {α:Type}{r:Res α}:bW r (λC Y=>r=.exc C Y) λv Y=>r=.ok v Y:=by
 cases r with
 |ok=>exact rfl
 |exc=>exact rfl
 |stuck=>trivial
variable {f:Nat} {vs:aG} {N:Loc} {Y:af}
theorem UU {O:ar}{i:gI}(hf:tx.fn f=some i)(hl:(vs.length.ble i.ps.length&&i.ps.length.ble (vs.length+i.dflt.length))=true)(hb:jZ i.slots i.ps (vs++i.dflt.drop (vs.length+i.dflt.length - i.ps.length))=some N):
  wi O 400 i.body N Y (λC Y'=>bk tx O f vs Y=.exc C Y') λR Y'=>bk tx O f vs Y=.ok (R.1.getD .none) Y':=
 WI i.body (C2 qW (λ_ _ h=>gj hf hl hb h) λ_ _ h=>bf hf hl hb h)
variable {ss:List S}
theorem UV {O:ar}:wi O W ss N Y (λC Y'=>bZ O W ss N Y=.exc C Y') λR Y'=>bZ O W ss N Y=.ok R Y':=WI ss qW
variable {x:X}
theorem UX {O:ar}:pI O x N Y (λC Y'=>aV O x N Y=.exc C Y') λR Y'=>aV O x N Y=.ok R Y':=LD x qW
theorem dW {O:ar}{i:gI}{r:Res V}(hf:tx.fn f=some i)(hl:(vs.length.ble i.ps.length&&i.ps.length.ble (vs.length+i.dflt.length))=true)(hb:jZ i.slots i.ps (vs++i.dflt.drop (vs.length+i.dflt.length - i.ps.length))=some N)
  (h:wi O 400 i.body N Y (λC Y'=>bk tx O f vs Y=.exc C Y') (λR Y'=>bk tx O f vs Y=.ok (R.1.getD .none) Y')->bk tx O f vs Y=r):bk tx O f vs Y=r:=h<|UU hf hl hb
theorem bE {O:ar}{r:Res fc}(h:wi O W ss N Y (λC Y'=>bZ O W ss N Y=.exc C Y') (λR Y'=>bZ O W ss N Y=.ok R Y')->bZ O W ss N Y=r):bZ O W ss N Y=r:=h UV
theorem dq {O:ar}{r:Res V}(h:pI O x N Y (λC Y'=>aV O x N Y=.exc C Y') (λR Y'=>aV O x N Y=.ok R Y')->aV O x N Y=r):aV O x N Y=r:=h UX
theorem Je {O:ar}{i:Nat}{v:V}{al:af}{r:Res fc}(h:aV O x N Y=.ok v al)(k:bZ O W ss (N.set i<|some v) al=r):bZ O W (.set (.l i) x::ss) N Y=r:=aJ (az h aD) k
theorem run_set {O:ar}{i:gI}{al:af}{r:Res V}{n:Nat}{v:V}(h0:aV O x N Y=.ok v al)(hf:tx.fn f=some i)(e:i.body=.set (.l n) x::ss)(hl:(vs.length.ble i.ps.length&&i.ps.length.ble (vs.length+i.dflt.length))=true)(hb:jZ i.slots i.ps (vs++i.dflt.drop (vs.length+i.dflt.length - i.ps.length))=some N)
  (h:wi O 400 ss (N.set n<|some v) al (λC Y'=>bk tx O f vs Y=.exc C Y') (λR Y'=>bk tx O f vs Y=.ok (R.1.getD .none) Y')->bk tx O f vs Y=r):bk tx O f vs Y=r:=
 h (WI ss<|C2 qW (λ_ _ k=>gj hf hl hb (by rw[e];exact Je h0 k)) λ_ _ k=>bf hf hl hb (by rw[e];exact Je h0 k))
theorem Er {O:ar}{s:S}:bZ O W [s] N Y=nO O W s N Y:=by
 show(nO O W s N Y).bind _= _;cases nO O W s N Y with
 |ok f Y'=>rcases f with ⟨_ | v,l⟩<;>rfl
 |exc=>rfl
 |stuck=>rfl
theorem dr {O:ar}{s:S}{r:Res fc}(h:wi O W [s] N Y (λC Y'=>nO O W s N Y=.exc C Y') (λR Y'=>nO O W s N Y=.ok R Y')->nO O W s N Y=r):nO O W s N Y=r:=
 h (WI [s]<|C2 qW (λC Y' e=>Er▸e) λR Y' e=>Er▸e)
end
noncomputable def Gg {α:Type}:List (List α)->List α
 | []=>[]
 |l::r=>match r with
  | []=>l
  |_::_=>l++Gg r
theorem Es {α:Type}(l:List (List α)):Gg l=l.flatten:=by
 induction l with
 |nil=>rfl
 |cons a r ih=>
  cases r with
  |nil=>exact(gp a).symm
  |cons b r=>exact bH (a++·) ih
theorem M2 {α:Type}{l:List (List α)}(is:List Nat)(h:is.isPerm (List.range l.length)=true):(Gg<|is.map λi=>l.getD i []).Perm (Gg l):=by
 rw[Es,Es];refine List.Perm.flatten<|((List.isPerm_iff.mp h).map _).trans<|List.Perm.of_eq ?_
 refine List.ext_getElem (by rw[cu,List.length_range]) λi h1 h2=>?_;rw[List.getElem_map,List.getElem_range,zu,iG h2];rfl
theorem tQ {α:Type}(l:List (List α))(is:List Nat){a b:List α}(h:is.isPerm (List.range l.length)=true)(e:Gg l=a)(e':(Gg<|is.map λi=>l.getD i [])=b):b.Perm a:=e▸e'▸M2 is h
theorem Jf {α:Type}(d m k p t1 t2 t3 t4 t5 t g i e ti tl:α):[m,d,k,p,t,g,i,t1,t2,t3,t4,t5,ti,tl,e].Perm [d,m,k,p,t1,t2,t3,t4,t5,t,g,i,e,ti,tl]:=
 tQ [[d],[m],[k],[p],[t1],[t2],[t3],[t4],[t5],[t],[g],[i],[e],[ti],[tl]] [1,0,2,3,9,10,11,4,5,6,7,8,13,14,12] (by k_all) (by k_all) (by k_all)
theorem xh {α:Type}(C T1 R U T2:List α)(i1 tl i2:α):(C++(T2++(i2::tl::(T1++(i1::(R++U)))))).Perm (C++(T1++(i1::tl::((R++i2::T2)++U)))):=by
 rw[bQ,sd];exact tQ [C,T1,[i1],[tl],R,[i2],T2,U] [0,6,5,3,1,2,4,7] (by k_all) (by k_all) (by k_all)
theorem Jg {α:Type}(C T0 T1 T2 U0 U1 U2:List α)(i0 i1 i2 tl e:α):(C++(T2++(T1++(T0++(U0++(U1++(U2++[i0,i1,i2,tl,e]))))))).Perm (C++(T2++(i2::((tl::(T1++(i1::((T0++(i0::([e]++U0)))++U1))))++U2)))):=by
 rw[sd,bQ,sd,bQ,bQ,sd,bQ];exact tQ [C,T2,[i2],[tl],T1,[i1],T0,[i0],[e],U0,U1,U2] [0,1,4,6,9,10,11,7,5,2,3,8] (by k_all) (by k_all) (by k_all)
theorem Jh {α:Type}(C T0 T1 T2 U R:List α)(x:α):(C++(T2++(T1++(T0++((U++[x])++R))))).Perm ((C++(T2++(T1++(T0++(U++R)))))++[x]):=by
 rw[bQ U,bQ C,bQ T2,bQ T1,bQ T0,bQ U];exact tQ [C,T2,T1,T0,U,R,[x]] [0,1,2,3,4,6,5] (by k_all) (by k_all) (by k_all)
theorem UY:∀n:Nat,n<7->((n:Int)=0∨(n:Int)=1)∨(n:Int)=2∨(n:Int)=3∨(n:Int)=4∨(n:Int)=5∨(n:Int)=6:=by decide
theorem Y0 {d:Int}(h:0<=d)(h':d<7):(d=0∨d=1)∨d=2∨d=3∨d=4∨d=5∨d=6:=by
 obtain⟨n,rfl⟩:=Int.eq_ofNat_of_zero_le h;exact UY n<|Int.ofNat_lt.mp h'
theorem UZ:∀n:Nat,n<8->¬(n:Int)<2->(n:Int)=2∨(n:Int)=3∨(n:Int)=4∨(n:Int)=5∨(n:Int)=6∨(n:Int)=7:=by decide
theorem Y1 {d:Int}(h:0<=d)(h':d<8)(h2:¬d<2):d=2∨d=3∨d=4∨d=5∨d=6∨d=7:=by
 obtain⟨n,rfl⟩:=Int.eq_ofNat_of_zero_le h;exact UZ n (Int.ofNat_lt.mp h') h2
noncomputable abbrev aC (a b:Int):Cell:=.list [.int a,.int b]
section
variable {O:ar} {Y:af} {s:Nat} {a b top:Int}
theorem Ji (h:Y[s]?=some (aC a b)):cb Y (.ref s) (.int 0)=some (.int a):=(yI h).trans rfl
theorem AW (h:Y[s]?=some (aC a b)):cb Y (.ref s) (.int 1)=some (.int b):=(yI h).trans rfl
theorem AX (h:Y[s]?=some (aC a b))(v:Int):iW Y (.ref s) (.int 0) (.int v)=some (Y.set s<|aC v b):=(C1 h).trans rfl
theorem AY (h:Y[s]?=some (aC a b))(v:Int):iW Y (.ref s) (.int 1) (.int v)=some (Y.set s<|aC a v):=(C1 h).trans rfl
theorem cW (h:Y[s]?=some (aC a b))(a' b':Int):(Y.set s<|aC a' b')[s]?=some (aC a' b'):=tZ (bM.mp h).1
variable {j:Int}
theorem mod_int (i:Int)(h:0<j):jk Y .Mod (.int i) (.int j)=.ok (.int<|i.fmod j) Y:=if_pos h
theorem tR (i:Int)(h:0<j)(h':j<1000000):jk Y .FloorDiv (.int i) (.int j)=.ok (.int<|i.fdiv j) Y:=if_pos ⟨h,h'⟩
theorem mul_int (i:Int)(h:smallInt j=true):jk Y .Mult (.int i) (.int j)=.ok (.int<|i * j) Y:=if_pos (by rw[h,Bool.or_true])
theorem gt_int {i:Int}{r:Bool}(h:decide (j<i)=r):cy Y .Gt (.int i) (.int j)=some r:=by rw[<-h];rfl
theorem xj (h:Y[s]?=some (aC a b))(h0:0<top)(h1:top<1000):
  ∃d a' b',0<=d/\d<top/\bk tx O 385 [.ref s,.int top] Y=.ok (.int d) (Y.set s<|aC a' b'):=by
 have i0:=Ji h;have i1:=AW h;by_cases ha:0<a
 ·refine zz (a.fmod top) (a.fdiv top) b (Int.fmod_nonneg_of_pos _ h0) (Int.fmod_lt_of_pos _ h0) ?_;apply dW rfl rfl rfl
  repeat (intro w;first | exact w | refine(?_:_->_) (w<|by first | (with_reducible first | exact i0 | exact gt_int (dP ha) | exact mod_int _ h0 | exact tR _ h0 (by omega) | exact AX h _ | assumption) | first | exact i0 | exact gt_int (dP ha) | exact mod_int _ h0 | exact tR _ h0 (by omega) | exact AX h _ | assumption | exact rfl))
 ·have e1:(0:Int)<2147483647:=by decide
  have e2:(0:Int)<2147483629:=by decide
  have e3:(0:Int)<32:=by decide
  have hb0:=Int.fmod_nonneg_of_pos (b * 39373+7) e1;have hb1:=Int.fmod_lt_of_pos (b * 39373+7) e1;refine zz _ a ((b * 39373+7).fmod 2147483647) (Int.fmod_nonneg_of_pos ((((b * 39373+7).fmod 2147483647 * (b * 39373+7).fmod 2147483647).fmod 2147483629).fdiv 32) h0) (Int.fmod_lt_of_pos _ h0) ?_;have hs:smallInt ((b * 39373+7).fmod 2147483647)=true:=by
   unfold smallInt;simp only[kJ,mn];omega
  have i2:=AW<|cW h a<|(b * 39373+7).fmod 2147483647
  apply dW rfl rfl rfl
  repeat (intro w;first | exact w | refine(?_:_->_) (w<|by first | (with_reducible first | exact i0 | exact i1 | exact i2 | exact gt_int (eN ha) | exact mod_int _ h0 | exact mod_int _ e1 | exact mod_int _ e2 | exact tR _ e3 (by decide) | exact mul_int _ hs | exact mul_int _ rfl | exact AY h _ | assumption) | first | exact i0 | exact i1 | exact i2 | exact gt_int (eN ha) | exact mod_int _ h0 | exact mod_int _ e1 | exact mod_int _ e2 | exact tR _ e3 (by decide) | exact mul_int _ hs | exact mul_int _ rfl | exact AY h _ | assumption | exact rfl))
theorem nf (h:Y[s]?=some (aC a b)):s<Y.length:=(bM.mp h).1
variable {l:aG}
theorem o7 {Y:af}{v:V}{k:Bool}{f:Bool->List V->Res V}(h:jY Y v=some (k,l))(hl:l.length<10000):onSeq Y v f=f k l:=by unfold onSeq;rw[h];exact if_pos hl
theorem C3 {t:V}{k:Bool}(h:jY Y t=some (k,l))(hl:l.length<1000):vS Y .len [t]=.ok (.int l.length) Y:=o7 (f:=λM l=>.ok (.int l.length) Y) h<|eB hl<|by decide
structure eL (Y:af)(s:Nat)(t:V)(l:aG):Prop where
 seq:∀c,∃k,jY (Y.set s c) t=some (k,l)
 here:∃k,jY Y t=some (k,l)
 at':∀(c:Cell) (i:Nat) (v:V),l[i]?=some v->cb (Y.set s c) t (.int i)=some v
theorem tS {i:Nat}{v:V}(h:l[i]?=some v)(hl:l.length<1000):Ce l (.ofNat i)=some v:=by
 have hi:=(bM.mp h).1;unfold Ce;rw[if_pos]
 ·exact h
 ·have e:(Int.ofNat i)=(i:Int):=rfl;unfold smallInt;simp only[kJ,mn,e];omega
theorem eL.gl (hl:l.length<1000):eL Y s (.gl l) l:=⟨λM=>⟨_,rfl⟩,⟨_,rfl⟩,λc i v h=>QW.trans<|tS h hl⟩
theorem eL.list {t:Nat}(h:Y[t]?=some (.list l))(dS:s≠t)(hl:l.length<1000):eL Y s (.ref t) l:=
 have e:∀c:Cell,(Y.set s c)[t]?=some (.list l):=λc=>by rw[eA dS];exact h
 ⟨λc=>⟨false,l9<|e c⟩,⟨false,l9 h⟩,λc i v hv=>(AU<|e c).trans<|tS hv hl⟩
theorem AZ {t:V}(hT:∀top:Int,0<top->top<1000->∃d a' b',0<=d/\d<top/\O 385 [.ref s,.int top] Y=.ok (.int d) (Y.set s<|aC a' b'))(ht:eL Y s t l)(h0:0<l.length)(h1:l.length<1000):
  ∃(i:Nat) (v:V) (a' b':Int),l[i]?=some v/\bk tx O 392 [.ref s,t] Y=.ok v (Y.set s<|aC a' b'):=by
 refine kg (hT l.length (by omega)<|by omega) λd a' b' d0 d1 hd=>?_;refine aM (Int.eq_ofNat_of_zero_le d0) λi dZ=>?_;subst dZ;have hi:i<l.length:=by omega
 refine aM ht.here λk hk=>?_;have e1:=C3 hk h1;have e2:=ht.at' (aC a' b') i _<|iG hi
 refine S0 i (l[i]) a' b' (iG hi) ?_;apply dW rfl rfl rfl
 repeat (intro w;first | exact w | refine(?_:_->_) (w<|by first | (with_reducible first | exact e1 | exact hd | exact e2 | assumption) | first | exact e1 | exact hd | exact e2 | assumption | exact rfl))
end
abbrev tT:aG:=[.none,.str fF,.str oS,.str pP,.str rp,.str pP,.str fF,.str jL,.str jM]
inductive wj:V->V->Prop
 |none:wj .none .none
 |any:wj (.str pP) .none
 |named (s:Str):s∈[fF,oS,rp]->wj (.str s) (.str s)
 |bad (s:Str):s∈[jL,jM]->wj (.str s) (.str aH)
section
variable {a b:Int} {v:V}
end
section
structure bg (s:Nat)(Y Y':af):Prop where
 le:Y.length<=Y'.length
 old:∀i c,i≠s->Y[i]?=some c->Y'[i]?=some c
variable {s:Nat} {Y:af}
theorem bg.refl:bg s Y Y:=⟨a9 _,λM M M h=>h⟩
theorem bg.trans {Y' Cr:af}(h:bg s Y Y')(k:bg s Y' Cr):bg s Y Cr:=⟨d9 h.le k.le,λi c hi hc=>k.old i c hi<|h.old i c hi hc⟩
theorem bg.push {l:List Cell}:bg s Y (Y++l):=⟨by rw[b0];exact dX _ _,λi c M h=>by rw[iE (bM.mp h).1];exact h⟩
variable {c:Cell}
theorem bg.set:bg s Y (Y.set s c):=⟨by rw[qp];exact a9 _,λi c hi h=>by rw[eA<|gb hi];exact h⟩
theorem ao:(Y++[c])[Y.length]?=some c:=by rw[j9<|a9 _,nU];rfl
theorem ak {c':Cell}{i:Nat}(h:Y[i]?=some c):(Y++[c'])[i]?=some c:=by rw[iE (bM.mp h).1];exact h
variable {t:Nat}
theorem gN {l:aG}{i:Nat}{v:V}(h:Y[t]?=some (.list l))(hl:l.length<1000)(hv:l[i]?=some v):cb Y (.ref t) (.int<|.ofNat i)=some v:=by
 exact(AU h).trans (tS hv hl)
theorem cE {l:aG}(h:Y[t]?=some (.list l)):jY Y (.ref t)=some (false,l):=l9 h
theorem cI {l:aG}(h:Y[t]?=some (.list l)):cG Y (.ref t)=some l:=js h
theorem Gh (v:V):V.beq v v=true:=
 V.rec (motive_1:=λv=>V.beq v v=true) (motive_2:=λl=>V.qw l l=true) rfl (λb=>kM b) (λb=>kM b) (λb=>kM b) (λM ih=>ih) (λM ih=>ih)
  (λa b=>fO.mpr ⟨kM a,kM b⟩) (λb=>kM b) rfl (λM M i j=>fO.mpr ⟨rfl,fO.mpr ⟨i,j⟩⟩) v
theorem vi (l:aG):V.qw l l=true:=by
 induction l with
 |nil=>rfl
 |cons v r ih=>exact fO.mpr ⟨rfl,fO.mpr ⟨Gh v,ih⟩⟩
theorem ba {l:aG}(h:Y[t]?=some (.list l)):same Y (.ref t) l=true:=by
 show(match vR Y t with
  |some l'=>V.qw l' l
  |none=>false)=true
 rw[js h];exact vi l
inductive Plain:Nat->V->Prop
 |none (n:Nat):Plain n .none
 |bool (n:Nat) (b:Bool):Plain n (.bool b)
 |int (n:Nat) (i:Int):Plain n (.int i)
 |str (n:Nat) (s:Str):PyData.canLay0 (.str s)=true->Plain n (.str s)
 |U (n:Nat) (l:aG):(∀x∈l,Plain n x)->Plain (n+1) (.U l)
theorem Plain.data {n:Nat}{v:V}(h:Plain n v):∃p:PyData,p.canLay0=true/\p.depth<=n/\(∀l,v=.U l->∃ps,p=.tuple ps)/\∀Y m,n<m->dH Y m v=some p:=by
 induction h with
 |none n=>exact nV .none rfl (pC _) (λM e=>by cases e) (λY m hm=>by cases m with | zero=>omega | succ m=>rfl)
 |bool n b=>exact nV (.bool b) rfl (pC _) (λM e=>by cases e) (λY m hm=>by cases m with | zero=>omega | succ m=>rfl)
 |int n i=>exact nV (.int i) rfl (pC _) (λM e=>by cases e) (λY m hm=>by cases m with | zero=>omega | succ m=>rfl)
 |str n s hs=>exact nV (.str s) hs (pC _) (λM e=>by cases e) (λY m hm=>by cases m with | zero=>omega | succ m=>rfl)
 |U n l hl ih=>
  have key:∃ps:List PyData,PyData.canLayAll0 ps=true/\PyData.depthAll ps<=n/\∀Y m,n<m->pQ (dH Y m) l=some ps:=by
   clear hl
   induction l with
   |nil=>exact lA ([]) rfl (pC _) λY m hm=>rfl
   |cons x r Ld=>
    refine uc (ih x<|.head _) λp p1 p2 M p3=>jI (Ld λy hy=>ih y<|.tail _ hy) λps q1 q2 q3=>lA (p::ps) ?_ ?_ λY m hm=>?_
    ·simp only[PyData.canLayAll0,p1,q1,Bool.and_self]
    ·simp only[PyData.depthAll];omega
    ·show(dH Y m x).bind _= _;rw[p3 Y m hm];show(pQ (dH Y m) r).map _= _;rw[q3 Y m hm];rfl
  refine jI key λps q1 q2 q3=>nV (.tuple ps) ?_ ?_ (λM M=>⟨ps,rfl⟩) λY m hm=>?_
  ·simp only[PyData.canLay0,q1]
  ·simp only[PyData.depth];exact Nat.succ_le_succ ‹_›
  ·cases m with
   |zero=>omega
   |succ m=>
    show(pQ (dH Y m) l).map PyData.tuple= _;rw[q3 Y m<|Nat.le_of_succ_le_succ ‹_›];rfl
end
abbrev eF (n:Str)(rs ts:V):V:=.U [.str lU,.int 0,.U [.U [.str n,rs,ts]]]
noncomputable def lh:V->Bool
 | .str _=>true
 |_=>false
def isName:V->Bool
 | .str s=>decide (s=aH)
 |_=>false
def qa (rd:V)(m:Bool)(d:V):V:=df (isName rd) (.str aH)<|df (lh d) d<|.U [.str qv,rd,.bool m,d]
def vj (n:Int)(d:V):V:=df (decide (10000<n)) (.str aB)<|df (lh d) d<|.U [.str ki,d,.int n]
def wholeOf (ds:aG):V:=match ds.find? lh with
 |some f=>f
 |none=>.U ds
def vk (ds:aG):V:=df (lh<|wholeOf ds) (wholeOf ds)<|.U [.str fj,wholeOf ds]
def fK (rs ds:aG):V:=df (!rs.isEmpty||!(ds.length==1)) (.str aB)<|df (lh<|wholeOf ds) (wholeOf ds)<|.U [.str pF,ds.headD .none]
noncomputable def lL (rs jy:aG):aG:=if rs.isEmpty then [.none] else jy
def mF (rs jy ds:aG):V:=df (decide (1<rs.length)||!(ds.length==1)) (.str aB)<|df (isName<|(lL rs jy).headD .none) (.str aH)<|df (lh<|wholeOf ds) (wholeOf ds)<|.U [.str kQ,.str ms,.U [(lL rs jy).headD .none],wholeOf ds]
noncomputable def C4:aG:=[.int 0,.int 3,.int 9999,.int 10000,.int 10001,.int 18446744073709551616]
inductive nJ:List V->List V->Prop
 |nil:nJ [] []
 |cons {s:Str} {d:V} {rs ds:aG}:wj (.str s) d->nJ rs ds->nJ (.str s::rs) (d::ds)
mutual
inductive ku:Nat->V->V->Prop
 |u8:ku 2 (eF ft (.U []) (.U [])) (.U [.str pD,.str ft])
 |S:ku 2 (eF cx (.U []) (.U [])) (.U [.str kQ,.str cx,.U [],.U []])
 |ref {k:Nat} {r rd w d:V} (m:Bool):wj r rd->ku k w d->ku (k+2) (.U [.str qv,.int 0,r,.bool m,w]) (qa rd m d)
 |arr {k:Nat} {w d:V} (n:Int):V.int n∈C4->ku k w d->ku (k+2) (.U [.str ki,.int 0,w,.int n]) (vj n d)
 |U {k:Nat} {ws ds:aG}:ff k ws ds->ws.length<=2->ku (k+2) (.U [.str fj,.int 0,.U ws]) (vk ds)
 |box {k:Nat} {rs jy ws ds:aG}:nJ rs jy->ff k ws ds->ws.length<=2->ku (k+2) (eF cU (.U rs) (.U ws)) (fK rs ds)
 |G {k:Nat} {rs jy ws ds:aG}:nJ rs jy->ff k ws ds->ws.length<=2->rs.length<=2->ku (k+2) (eF ms (.U rs) (.U ws)) (mF rs jy ds)
inductive ff:Nat->List V->List V->Prop
 |nil (k:Nat):ff k [] []
 |cons {k k':Nat} {w d:V} {ws ds:aG}:ku k' w d->k'<=k->ff k ws ds->ff k (w::ws) (d::ds)
end
def fV (k:Nat)(d:V):Prop:=d=.str aH∨d=.str aB∨∃l,d=.U l/\Plain k d
theorem Plain.mono {n m:Nat}{v:V}(h:Plain n v)(hm:n<=m):Plain m v:=by
 induction h generalizing m with
 |none=>exact .none _
 |bool _ b=>exact .bool _ b
 |int _ i=>exact .int _ i
 |str _ s hs=>exact .str _ s hs
 |U n l _ ih=>
  cases m with
  |zero=>omega
  |succ m=>exact .U m l λx hx=>ih x hx<|Nat.le_of_succ_le_succ ‹_›
variable {d:V}
theorem fV.mono {n m:Nat}(h:fV n d)(hm:n<=m):fV m d:=by
 refine o3 h (λh=>?_) (λh=>?_) λUf=>?_
 ·exact .inl h
 ·exact .inr<|.inl h
 ·exact aI Uf λl h p=>.inr<|.inr ⟨l,h,p.mono hm⟩
theorem ie (s:Str)(h:PyData.canLay0 (.str s)=true)(n:Nat):Plain n (.str s):=.str n s h
theorem wj.plain {r:V}(h:wj r d)(n:Nat):Plain n r/\Plain n d:=by
 cases h with
 |none=>exact⟨.none n,.none n⟩
 |any=>exact⟨ie pP (by k_all) n,.none n⟩
 |named s hs=>
  have:Plain n (.str s):=by
   rcases aX.mp hs with rfl | hs
   ·exact ie fF (by k_all) n
   rcases aX.mp hs with rfl | hs
   ·exact ie oS (by k_all) n
   ·rw[cK.mp hs];exact ie rp (by k_all) n
  exact⟨this,this⟩
 |bad s hs=>
  refine⟨?_,ie aH (by k_all) n⟩;rcases aX.mp hs with rfl | hs
  ·exact ie jL (by k_all) n
  ·rw[cK.mp hs];exact ie jM (by k_all) n
variable {k:Nat}
theorem fV.plain (h:fV k d):Plain k d:=by
 rcases h with rfl | rfl | Uh
 ·exact ie aH (by k_all) k
 ·exact ie aB (by k_all) k
 ·exact aI Uh λM M h=>h
theorem fV.pick {b:Bool}{x y:V}(h:b=true->fV k x)(h':b=false->fV k y):fV k (df b x y):=by
 cases b
 ·exact h' rfl
 ·exact h rfl
theorem lM {l:aG}(h:∀x∈l,Plain k x):fV (k+1) (.U l):=.inr<|.inr ⟨l,rfl,.U k l h⟩
variable {ds:aG}
set_option tactic.hygienic true in
theorem gC (h:∀d∈ds,fV k d):fV (k+1) (wholeOf ds):=by
 unfold wholeOf;split
 ·next f hf=>exact(h f<|zx hf).mono<|kN _
 ·exact lM λx hx=>(h x hx).plain
variable {rs:aG}
theorem wk {jy:aG}(h:nJ rs jy)(n:Nat):Plain n ((lL rs jy).headD .none):=by
 unfold lL;cases h with
 |nil=>exact .none n
 |cons h _=>exact(h.plain n).2
theorem C5 {P:V->Prop}{a b:V}(h1:P a)(h2:P b):∀x∈[a,b],P x:=λx hx=>by
 rcases aX.mp hx with rfl | hx
 ·exact h1
 ·rw[cK.mp hx];exact h2
theorem fL {P:V->Prop}{a:V}{l:aG}(h1:P a)(h2:∀x∈l,P x):∀x∈a::l,P x:=λx hx=>by
 rcases aX.mp hx with rfl | hx
 ·exact h1
 ·exact h2 x hx
theorem M3 (ih:∀d∈ds,fV k d):fV (k+2) (fK rs ds):=by
 have h:=gC ih;refine .pick (λM=>.inr<|.inl rfl) λM=>.pick (λM=>h.mono<|kN _) λM=>lM<|C5 (ie pF (by k_all) _) ?_
 cases ds with
 |nil=>exact .none _
 |cons d r=>exact((ih d<|.head _).plain).mono<|kN _
theorem U3 {jy:aG}(hr:nJ rs jy)(ih:∀d∈ds,fV k d):fV (k+2) (mF rs jy ds):=by
 have h:=gC ih;exact .pick (λM=>.inr<|.inl rfl) λM=>.pick (λM=>.inl rfl) λM=>.pick (λM=>h.mono<|kN _) λM=>lM
  (fL (ie kQ (by k_all) _)<|fL (ie ms (by k_all) _)<|C5 (.U _ _ λy hy=>by rw[cK.mp hy];exact wk hr _) h.plain)
theorem ku.Gi {w:V}(h:ku k w d):fV k d:=by
 refine ku.rec (motive_1:=λk M d M=>fV k d) (motive_2:=λk M ds M=>∀d∈ds,fV k d) ?u8 ?S ?ref ?arr ?U ?box ?G ?nil ?cons h
 case u8=>exact lM<|C5 (ie pD (by k_all) 1)<|ie ft (by k_all) 1
 case S=>exact lM<|fL (ie kQ (by k_all) 1)<|fL (ie cx (by k_all) 1)<|C5 (.U 0 [] λM h=>False.elim<|dj h)<|.U 0 [] λM h=>False.elim<|dj h
 case ref=>exact λm hr M ih=>.pick (λM=>.inl rfl) λM=>.pick (λM=>ih.mono<|dX _ 2) λM=>lM<|fL (ie qv (by k_all) _)<|fL (hr.plain _).2<|C5 (.bool _ _)<|ih.plain.mono<|kN _
 case arr=>exact λn M M ih=>.pick (λM=>.inr<|.inl rfl) λM=>.pick (λM=>ih.mono<|dX _ 2) λM=>lM<|fL (ie ki (by k_all) _)<|C5 (ih.plain.mono<|kN _)<|.int _ _
 case U=>exact λM M ih=>.pick (λM=>(gC ih).mono<|kN _) λM=>lM<|C5 (ie fj (by k_all) _) (gC ih).plain
 case box=>exact λM M M ih=>M3 ih
 case G=>exact λhr M M M ih=>U3 hr ih
 case nil=>exact λk d h=>False.elim<|dj h
 case cons=>exact λM hk M i j d hd=>(aX.mp hd).elim (λe=>e▸i.mono hk)<|j d
theorem ff.Gi {ws:aG}(h:ff k ws ds):∀d∈ds,fV k d:=by
 refine ff.rec (motive_1:=λM M M M=>True) (motive_2:=λk ws ds M=>∀d∈ds,fV k d) ?u8 ?S ?ref ?arr ?U ?box ?G ?nil ?cons h
 case nil=>exact λk d h=>False.elim<|dj h
 case cons=>exact λh hk M M j d hd=>(aX.mp hd).elim (λe=>e▸h.Gi.mono hk)<|j d
 all_goals intros;trivial
abbrev a8:Cell:=.list [.str aH,.str aB]
theorem ju {Y:af}{t:Nat}(h:fV k d)(hk:k<12)(ht:Y[t]?=some a8):cy Y .In d (.ref t)=some (lh d):=by
 refine(in_of ht).trans ?_;show Sz Y d (.ref t)= _;unfold Sz;rcases h with rfl | rfl | Yk
 ·unfold Fg;dsimp only;rw[l9 ht];rfl
 ·unfold Fg;dsimp only;rw[l9 ht];rfl
 ·refine aI Yk λl dZ p=>?_;subst dZ;refine uc p.data λq q1 q2 q3 q4=>?_;refine aM (q3 l rfl) λps dZ=>?_;subst dZ;show zX Y (.U l) (.ref t)=some false;have e1:dH Y 12 (.ref t)=some (.list [.str aH,.str aB]):=jt ht;refine(yJ e1 (q4 Y 12 hk) ?_).trans ?_
  ·rw[q1];have:PyData.canLayAll0 [PyData.str aH,PyData.str aB]=true:=by k_all
   rw[this];simp only[Bool.and_self,Bool.true_and,mn];omega
  ·simp[PyData.eqv]
theorem eq_int {Y:af}{i j:Int}:cy Y .Eq (.int i) (.int j)=some (decide (i=j)):=by
 show yd Y (.int i) (.int j)= _;show(if (SeqAt.shaped (.int i)&&SeqAt.shaped (.int j))=true then some (PyData.eqv (.int i)<|.int j) else none)= _;rw[if_pos<|by rfl];simp only[PyData.eqv];rfl
theorem zwS {α : Type _} {a : Option α} : a = a := rfl
theorem zwT {a : Bool} : a = a := rfl
theorem zwO {α : Type _} {a : Res α} : a = a := rfl
theorem zwN {a : Nat} : a = a := rfl
local macro_rules | `(tactic| wp_step) => `(tactic| (intro w; first | exact w | refine (?_ : _ -> _) (w (by first | (with_reducible assumption) | assumption | exact eq_int | exact zwS | exact zwT | exact zwO | exact zwN))))

def eO (k s:Nat)(Y:af)(r:Res V):Prop:=∃j Y' w d a' b',r=.ok (.ref j) Y'/\bg s Y Y'/\Y'[s]?=some (aC a' b')/\Y'[j]?=some (.list [w,d])/\j≠s/\ku k w d
structure lj (O:ar)(s:Nat):Prop where
 take:∀{Y:af} {a b top:Int},Y[s]?=some (aC a b)->0<top->top<1000->∃d a' b',0<=d/\d<top/\O 385 [.ref s,.int top] Y=.ok (.int d) (Y.set s<|aC a' b')
 one:∀{Y:af} {a b:Int} {t:V} {l:aG},Y[s]?=some (aC a b)->eL Y s t l->0<l.length->l.length<1000->∃(i:Nat) (v:V) (a' b':Int),l[i]?=some v/\O 392 [.ref s,t] Y=.ok v (Y.set s<|aC a' b')
 reg:∀{Y:af} {a b:Int},Y[s]?=some (aC a b)->∃j Y' r d a' b',O 493 [.ref s] Y=.ok (.ref j) Y'/\bg s Y Y'/\Y'[s]?=some (aC a' b')/\Y'[j]?=some (.list [r,d])/\j≠s/\wj r d
 path:∀{Y:af} {n r t:V},O 486 [n,r,t] Y=.ok (.U [.str lU,.int 0,.U [.U [n,r,t]]]) Y
section
variable {O:ar} {s:Nat} {Y:af} {a b:Int} {deep:Int}
theorem dl {j:Nat}(hs:Y[s]?=some (aC a b))(h:Y.length<=j):j≠s:=λe=>by have:=nf hs;omega
theorem Et (H:lj O s)(hs:Y[s]?=some (aC a b))(way:Int)(hw:way=0∨way=1){a' b':Int}{x:X}
  (h0:aV O (.ite (.m .Gt (.l 1)<|.xi 0) (.call 385 [.l 0,.xi 7])<|.call 385 [.l 0,.xi 2]) [some<|.ref s,some<|.int deep,ai,ai,ai,ai,ai,ai,ai,ai,ai,ai,ai,ai,ai,ai,ai,ai,ai,ai,ai,ai,ai] Y=.ok (.int way) (Y.set s<|aC a' b')):
  eO 2 s Y (bk tx O 503 [.ref s,.int deep] Y):=by
 have hl:(Y.set s<|aC a' b').length=Y.length:=qp;have BM:=cW hs a' b';rcases hw with rfl | rfl
 ·refine rn Y.length (Y.set s (aC a' b')++[.list [eF ft (.U [])<|.U [],.U [.str pD,.str ft]]]) _ _ a' b' ?_ (bg.set.trans .push) (ak BM) ?_ (dl hs<|a9 _) .u8
  ·rw[<-hl];apply run_set h0 rfl rfl rfl rfl
   repeat (intro w;first | exact w | refine(?_:_->_) (w<|by first | (with_reducible first | exact H.path | exact eq_int) | first | exact H.path | exact eq_int | exact(rfl:_=some _) | exact(rfl:_=true) | exact(rfl:_=Res.ok _ _) | exact(rfl:(_:Nat)= _)))
  ·rw[<-hl];exact ao
 ·refine rn Y.length (Y.set s (aC a' b')++[.list [eF cx (.U [])<|.U [],.U [.str kQ,.str cx,.U [],.U []]]]) _ _ a' b' ?_ (bg.set.trans .push) (ak BM) ?_ (dl hs<|a9 _) .S
  ·rw[<-hl];apply run_set h0 rfl rfl rfl rfl
   repeat (intro w;first | exact w | refine(?_:_->_) (w<|by first | (with_reducible first | exact H.path | exact eq_int) | first | exact H.path | exact eq_int | exact(rfl:_=some _) | exact(rfl:_=true) | exact(rfl:_=Res.ok _ _) | exact(rfl:(_:Nat)= _)))
  ·rw[<-hl];exact ao
end
section
variable {O:ar} {s:Nat} {Y:af} {a b:Int} {deep:Int} {k:Nat}
theorem M4 {r rd:V}(h:wj r rd):cy Y .Eq rd (.str aH)=some (isName rd):=by
 cases h with
 |none=>k_all
 |any=>k_all
 |named s _=>rfl
 |bad s _=>rfl
noncomputable abbrev sF (s:Nat)(deep:Int):Loc:=[some<|.ref s,some<|.int deep,ai,ai,ai,ai,ai,ai,ai,ai,ai,ai,ai,ai,ai,ai,ai,ai,ai,ai,ai,ai,ai]
noncomputable abbrev yK:X:=.ite (.m .Gt (.l 1)<|.xi 0) (.call 385 [.l 0,.xi 7])<|.call 385 [.l 0,.xi 2]
theorem Q2 (H:lj O s)(hs:Y[s]?=some (aC a b)){bJ dT:Int}(hk:k<12)
  (h0:aV O yK (sF s deep) Y=.ok (.int 2) (Y.set s<|aC bJ dT))
  (hi:eO k s (Y.set s<|aC bJ dT) (O 503 [.ref s,.int<|deep - 1]<|Y.set s<|aC bJ dT)):
  eO (k+2) s Y (bk tx O 503 [.ref s,.int deep] Y):=by
 refine G0 hi λj ax w d bK fW zq=>DS zq λe2 K2 s2 c2 n2 T2=>G0 (H.reg s2) λjr bB r rd mB pu zq=>DS zq λe3 K3 s3 c3 n3 T3=>kg (H.take (top:=2) s3 (by decide)<|by decide) λdm jR lC M M e4=>?_;have K34:bg s bB (bB.set s<|aC jR lC):=.set;have s4:=cW s3 jR lC;have Op:=K34.old _ _ n2<|K3.old _ _ n2 c2
 have WX:=K34.old _ _ n3 c3;generalize Y2:bB.set s (aC jR lC)=aU at K34 s4 Op WX e4;have Wq:=ak (c':=a8) Op;have c3p:=ak (c':=a8) WX;have iF:=ju (Y:=aU++[a8]) T2.Gi hk ao;have iN:=M4 (Y:=aU++[a8]) T3;refine rn ((aU++[a8]).length) ((aU++[a8])++[.list [.U [.str qv,.int 0,r,.bool<|decide (dm=0),w],qa rd (decide (dm=0)) d]]) _ _ jR lC ?_ ((((bg.set.trans K2).trans K3).trans<|K34.trans .push).trans .push) (ak<|ak s4) ao (dl (ak s4) (a9 _):(aU++[a8]).length≠s)<|.ref _ T3 T2
 have i1:cb aU (.ref j) (.int 1)=some d:=gN Op (eB (by decide:2<3) (by decide:3<=1000)) rfl;have i2:cb (aU++[a8]) (.ref j) (.int 0)=some w:=gN Wq (eB (by decide:2<3) (by decide:3<=1000)) rfl;have i3:cb (aU++[a8]) (.ref j) (.int 1)=some d:=gN Wq (eB (by decide:2<3) (by decide:3<=1000)) rfl;have i4:cb (aU++[a8]) (.ref jr) (.int 0)=some r:=gN c3p (eB (by decide:2<3) (by decide:3<=1000)) rfl;have i5:cb (aU++[a8]) (.ref jr) (.int 1)=some rd:=gN c3p (eB (by decide:2<3) (by decide:3<=1000)) rfl;unfold qa;cases hF:lh d<;>cases hN:isName rd<;>rw[hF] at iF<;>rw[hN] at iN
 all_goals
  apply run_set h0 (i:=Fn) rfl rfl rfl rfl
  repeat (intro w;first | exact w | refine(?_:_->_) (w<|by first | (with_reducible first | exact eq_int | exact e2 | exact e3 | exact e4 | exact iF | exact iN | exact i1 | exact i2 | exact i3 | exact i4 | exact i5) | first | exact eq_int | exact e2 | exact e3 | exact e4 | exact iF | exact iN | exact i1 | exact i2 | exact i3 | exact i4 | exact i5 | exact(rfl:_=some _) | exact(rfl:_=true) | exact(rfl:_=Res.ok _ _) | exact(rfl:(_:Nat)= _)))
end
section
variable {O:ar} {s:Nat} {Y:af} {a b:Int} {deep:Int} {k:Nat}
noncomputable abbrev rQ:aG:=[.int 0,.int 3,.int 9999,.int 10000,.int 10001,.int<|(2:Int) ^ Int.toNat 64]
theorem Gj {i:Nat}{v:V}(h:rQ[i]?=some v):∃n:Int,v=.int n/\V.int n∈C4:=by
 rw[(by k_all:rQ=C4)] at h;have hm:=bn h
 match i,h with
 | 0,h=>cases h;exact bD _ rfl hm
 | 1,h=>cases h;exact bD _ rfl hm
 | 2,h=>cases h;exact bD _ rfl hm
 | 3,h=>cases h;exact bD _ rfl hm
 | 4,h=>cases h;exact bD _ rfl hm
 | 5,h=>cases h;exact bD _ rfl hm
 |_+6,h=>cases h
theorem Q3 (H:lj O s)(hs:Y[s]?=some (aC a b)){bJ dT:Int}(hk:k<12)
  (h0:aV O yK (sF s deep) Y=.ok (.int 3) (Y.set s<|aC bJ dT))
  (hi:eO k s (Y.set s<|aC bJ dT) (O 503 [.ref s,.int<|deep - 1]<|Y.set s<|aC bJ dT)):
  eO (k+2) s Y (bk tx O 503 [.ref s,.int deep] Y):=by
 refine G0 hi λj ax w d bK fW zq=>DS zq λe2 K2 s2 c2 n2 T2=>?_;have s2p:=ak (c':=Cell.list rQ) s2;refine mN (H.one s2p (eL.list (t:=ax.length) (l:=rQ) ao ((dl s2<|a9 _).symm:s≠ax.length)<|by decide) (by decide)<|by decide) λi v jR lC hv e4=>?_;refine aI (Gj hv) λn dZ hn=>?_;subst dZ;have K24:bg s ax ((ax++[Cell.list rQ]).set s<|aC jR lC):=bg.push.trans .set;have s4:=cW s2p jR lC;have Op:=K24.old _ _ n2 c2;generalize Y2:(ax++[Cell.list rQ]).set s (aC jR lC)=aU at K24 s4 Op e4;have Wq:=ak (c':=a8) Op;have iF:=ju (Y:=aU++[a8]) T2.Gi hk ao;refine rn ((aU++[a8]).length) ((aU++[a8])++[.list [.U [.str ki,.int 0,w,.int n],vj n d]]) _ _ jR lC ?_ (((bg.set.trans K2).trans<|K24.trans .push).trans .push) (ak<|ak s4) ao (dl (ak s4) (a9 _):(aU++[a8]).length≠s)<|.arr _ hn T2
 have i1:cb aU (.ref j) (.int 1)=some d:=gN Op (eB (by decide:2<3) (by decide:3<=1000)) rfl;have i2:cb (aU++[a8]) (.ref j) (.int 0)=some w:=gN Wq (eB (by decide:2<3) (by decide:3<=1000)) rfl;have i3:cb (aU++[a8]) (.ref j) (.int 1)=some d:=gN Wq (eB (by decide:2<3) (by decide:3<=1000)) rfl;unfold vj;cases hF:lh d<;>cases hN:decide (10000<n)<;>rw[hF] at iF
 all_goals
  have iN:=gt_int (Y:=aU++[a8]) hN;apply run_set h0 (i:=Fn) rfl rfl rfl rfl
  repeat (intro w;first | exact w | refine(?_:_->_) (w<|by first | (with_reducible first | exact eq_int | exact e2 | exact e4 | exact iF | exact iN | exact i1 | exact i2 | exact i3) | first | exact eq_int | exact e2 | exact e4 | exact iF | exact iN | exact i1 | exact i2 | exact i3 | exact(rfl:_=some _) | exact(rfl:_=true) | exact(rfl:_=Res.ok _ _) | exact(rfl:(_:Nat)= _)))
end
inductive bd (s:Nat)(Y:af):List V->List V->List V->Prop
 |nil:bd s Y [] [] []
 |cons {j:Nat} {w d:V} {ps ws ds:aG}:j≠s->Y[j]?=some (.list [w,d])->bd s Y ps ws ds->bd s Y (.ref j::ps) (w::ws) (d::ds)
theorem bd.keep {s:Nat}{Y Y':af}{ps ws ds:aG}(K:bg s Y Y')(h:bd s Y ps ws ds):bd s Y' ps ws ds:=by
 induction h with
 |nil=>exact .nil
 |cons h1 h2 _ ih=>exact .cons h1 (K.old _ _ h1 h2) ih
theorem add_lists {Y:af}{i j:Nat}{l r:aG}(h:Y[i]?=some (.list l))(k:Y[j]?=some (.list r))(hl:l.length+r.length<100000):jk Y .Add (.ref i) (.ref j)=.ok (.ref Y.length) (Y++[.list (l++r)]):=by
 have e2:jk.listOf Y (.ref j)=some r:=js k;show Hy Y _ _= _;exact cq (js h:jk.listOf Y (.ref i)=some l)<|cq e2<|if_pos hl
theorem Jj {Y:af}{i:Nat}{l:aG}{m:Nat}(h:Y[i]?=some (.list l))(hm:m<=l.length)(hl:l.length<10000):n0 Y (.ref i) (.int m)=.ok (.ref Y.length) (Y++[.list<|l.drop m]):=by
 show fq (vR Y i) _= _;exact cq (js h)<|(if_pos ⟨by exact Int.ofNat_nonneg _,by omega,hl⟩).trans rfl
noncomputable abbrev nE:aG:=[.int 0,.int 0,.int 0,.int 1]
theorem Gk {i:Nat}{v:V}(h:nE[i]?=some v):v=.int 0∨v=.int 1:=by
 match i,h with
 | 0,h=>cases h;exact .inl rfl
 | 1,h=>cases h;exact .inl rfl
 | 2,h=>cases h;exact .inl rfl
 | 3,h=>cases h;exact .inr rfl
 |_+4,h=>cases h
section
variable {O:ar} {s:Nat} {Y:af} {a b:Int} {k:Nat}
structure qb (O:ar)(s:Nat):Prop where
 all:∀{Y:af} {t k:Nat} {ps ws ds:aG} {a b:Int},Y[s]?=some (aC a b)->t≠s->Y[t]?=some (.list ps)->bd s Y ps ws ds->ff k ws ds->k<12->ps.length<=2->∃Y',O 498 [.ref t] Y=.ok (wholeOf ds) Y'/\bg s Y Y'/\Y'[s]?=Y[s]?
theorem Jk (H:lj O s)(hs:Y[s]?=some (aC a b)):∃(n:Nat) (a' b':Int),n<=1/\O 392 [.ref s,.ref Y.length] (Y++[Cell.list nE])=.ok (.int n) ((Y++[Cell.list nE]).set s<|aC a' b'):=by
 refine mN (H.one (ak (c':=Cell.list nE) hs) (eL.list (t:=Y.length) (l:=nE) ao ((dl hs<|a9 _).symm:s≠Y.length)<|by decide) (by decide)<|by decide) λi v a' b' hv e=>?_;rcases Gk hv with rfl | rfl
 ·exact BX 0 a' b' (by decide) e
 ·exact BX 1 a' b' (by decide) e
noncomputable abbrev C6:X:=.bin .Add (.s [.l 3])<|.comp [none,none,none,some 0] [1] (.bi .range [.call 392 [.l 0,.s [.xi 0,.xi 0,.xi 0,.xi 1]]]) []<|.call 503 [.l 3,.xi 0]
noncomputable abbrev C7:X:=.slcFrom (.l 8)<|.call 392 [.l 0,.s [.xi 0,.xi 0,.xi 0,.xi 1]]
theorem U4 (H:lj O s)(hz:∀{Y:af} {a b:Int},Y[s]?=some (aC a b)->eO 2 s Y (O 503 [.ref s,.int 0] Y)){N:Loc}(Lq:N[0]?=some (some<|.ref s))(hs:Y[s]?=some (aC a b)){j:Nat}{w d:V}(WY:N[3]?=some (some<|.ref j))(hj:Y[j]?=some (.list [w,d]))(SO:j≠s)(hk:2<=k)(hT:ku k w d):
  ∃t Y' ps ws ds a' b',aV O C6 N Y=.ok (.ref t) Y'/\bg s Y Y'/\Y'[s]?=some (aC a' b')/\t≠s/\Y'[t]?=some (.list ps)/\bd s Y' ps ws ds/\ff k ws ds/\ps.length<=2/\1<=ps.length:=by
 have s1:=ak (c':=Cell.list [V.ref j]) hs;refine rm (Jk H s1) λn bK fW hn e2=>?_;have n1:Y.length≠s:=dl hs<|a9 _
 have K2:bg s (Y++[Cell.list [V.ref j]]) (((Y++[Cell.list [V.ref j]])++[Cell.list nE]).set s<|aC bK fW):=bg.push.trans .set;have s2:=cW (ak (c':=Cell.list nE) s1) bK fW;have Z7:=K2.old _ _ SO<|ak (c':=Cell.list [V.ref j]) hj
 have h2:=K2.old _ _ n1 (ao:(Y++[Cell.list [V.ref j]])[Y.length]?=some (.list [.ref j]));generalize C8:((Y++[Cell.list [V.ref j]])++[Cell.list nE]).set s (aC bK fW)=ax at K2 s2 Z7 h2 e2;have hf:frees [none,none,none,some 0] N=[none,none,none,some<|.ref s]:=by
  unfold frees;simp[Lq]
 have draw:∀{N:Loc} {Y Y':af} {v:V},N[0]?=some (some<|.ref s)->O 392 [.ref s,.ref Y.length] (Y++[Cell.list nE])=.ok v Y'->aV O (.call 392 [.l 0,.s [.xi 0,.xi 0,.xi 0,.xi 1]]) N Y=.ok v Y':=λh e=>aK (aa (I h)<|aa (bh<|aa ag<|aa ag<|aa ag<|aa ag ae) ae) e;rcases (by omega:n=0∨n=1) with rfl | rfl
 ·-- no more
  have e3:=add_lists (Y:=ax++[Cell.list []]) (ak h2:(ax++[Cell.list []])[Y.length]?=some (.list [.ref j])) ao (by simp);refine Ly ((ax++[Cell.list []]).length) ((ax++[Cell.list []])++[.list<|[.ref j]++[]]) _ ([w]) ([d]) bK fW<|WB ?_ (((bg.push.trans K2).trans .push).trans .push) (ak<|ak s2) (dl (ak s2)<|a9 _) ao (.cons SO (ak<|ak Z7) .nil) (.cons hT (a9 _)<|.nil _) (by simp)<|by simp
  exact eX (bh<|aa (I WY) ae) (dU (cL (aa (draw Lq e2) ae) rfl) rfl b8) e3
 ·refine G0 (hz s2) λj' bB w' d' mB pu zq=>DS zq λe4 K3 s3 c3 n3 T3=>?_;have e3:=add_lists (Y:=bB++[Cell.list<|[]++[V.ref j']]) (ak (K3.old _ _ n1 h2):(bB++[Cell.list<|[]++[V.ref j']])[Y.length]?=some (.list [.ref j])) ao (by simp);refine Ly ((bB++[Cell.list<|[]++[V.ref j']]).length) ((bB++[Cell.list<|[]++[V.ref j']])++[.list<|[.ref j]++([]++[V.ref j'])]) _ ([w,w']) ([d,d']) mB pu<|WB ?_ ((((bg.push.trans K2).trans K3).trans .push).trans .push) (ak<|ak s3) (dl (ak s3)<|a9 _) ao (.cons SO (ak<|ak<|K3.old _ _ SO Z7)<|.cons n3 (ak<|ak c3) .nil) (.cons hT (a9 _)<|.cons T3 hk<|.nil _) (by simp)<|by simp
  exact eX (bh<|aa (I WY) ae) (dU (cL (aa (draw Lq e2) ae) rfl) (rfl:cG ax (.rng 0 ((1:Nat):Int))=some [.int 0])<|bo (hf▸dC rfl cH (aK (aa (I rfl)<|aa ag ae) e4) (aN rfl)) rfl b8) e3
end
theorem bd.tail {s:Nat}{Y:af}{ps ws ds:aG}(n:Nat)(h:bd s Y ps ws ds):bd s Y (ps.drop n) (ws.drop n) (ds.drop n):=by
 induction h generalizing n with
 |nil=>cases n<;>exact .nil
 |cons a b c ih=>cases n with
  |zero=>exact .cons a b c
  |succ n=>exact ih n
theorem ff.tail {k:Nat}{ws:aG}:∀{ds:aG} (n:Nat),ff k ws ds->ff k (ws.drop n) (ds.drop n):=by
 induction ws with
 |nil=>exact λ{ds} n h=>by cases h;cases n<;>exact .nil _
 |cons w ws ih=>
  intro ds n h;cases n with
  |zero=>exact h
  |succ n=>cases h with | cons _ _ h=>exact ih n h
section
variable {O:ar} {s:Nat} {Y:af} {a b:Int} {deep:Int} {k:Nat}
theorem U5 (H:lj O s){N:Loc}(Lq:N[0]?=some (some<|.ref s))(hs:Y[s]?=some (aC a b)){t:Nat}{ps ws ds:aG}(hl8:N[8]?=some (some<|.ref t))(ht:Y[t]?=some (.list ps))(Lp:t≠s)(hR:bd s Y ps ws ds)(hT:ff k ws ds)(hp:ps.length<=2)(hp1:1<=ps.length):
  ∃t' Y' ps ws ds a' b',aV O C7 N Y=.ok (.ref t') Y'/\bg s Y Y'/\Y'[s]?=some (aC a' b')/\t'≠s/\Y'[t']?=some (.list ps)/\bd s Y' ps ws ds/\ff k ws ds/\ps.length<=2:=by
 refine rm (Jk H hs) λn bK fW hn e2=>?_;have K2:bg s Y ((Y++[Cell.list nE]).set s<|aC bK fW):=bg.push.trans .set;have s2:=cW (ak (c':=Cell.list nE) hs) bK fW;have h2:=K2.old _ _ Lp ht;generalize C8:(Y++[Cell.list nE]).set s (aC bK fW)=ax at K2 s2 h2 e2;have h1:(ps.drop n).length<=2:=by rw[List.length_drop];omega
 refine Ly ax.length (ax++[.list<|ps.drop n]) _ _ _ bK fW<|Sy ?_ (K2.trans .push) (ak s2) (dl s2<|a9 _) ao ((hR.keep<|K2.trans .push).tail n) (hT.tail n) h1
 exact CY (I hl8) (aK (aa (I Lq)<|aa (bh<|aa ag<|aa ag<|aa ag<|aa ag ae) ae) e2)<|Jj (m:=n) h2 (d9 ‹_› ‹_›)<|fA ‹_› rfl
theorem Jl (H:lj O s)(hA:qb O s)(hz:∀{Y:af} {a b:Int},Y[s]?=some (aC a b)->eO 2 s Y (O 503 [.ref s,.int 0] Y))(hs:Y[s]?=some (aC a b)){j:Nat}{w d:V}(hj:Y[j]?=some (.list [w,d]))(SO:j≠s)(hk:2<=k)(mm:k<12)(hT:ku k w d){way:Int}{rest:List S}:
  ∃t Y' ps ws ds a' b',bg s Y Y'/\Y'[s]?=some (aC a' b')/\t≠s/\Y'[t]?=some (.list ps)/\bd s Y' ps ws ds/\ff k ws ds/\ps.length<=2/\
   ∀RF,bZ O 400 rest [some<|.ref s,some<|.int deep,some<|.int way,some<|.ref j,none,none,none,none,some<|.ref t,some<|wholeOf ds,ai,ai,ai,ai,ai,ai,ai,ai,ai,ai,ai,ai,ai] Y'=RF->
    bZ O 400 (.set (.l 8) C6::.set (.l 8) C7::.set (.l 9) (.call 498 [.l 8])::rest) [some<|.ref s,some<|.int deep,some<|.int way,some<|.ref j,ai,ai,ai,ai,ai,ai,ai,ai,ai,ai,ai,ai,ai,ai,ai,ai,ai,ai,ai] Y=RF:=by
 refine LN (U4 (N:=[some<|.ref s,some<|.int deep,some<|.int way,some<|.ref j,ai,ai,ai,ai,ai,ai,ai,ai,ai,ai,ai,ai,ai,ai,ai,ai,ai,ai,ai]) H hz rfl hs rfl hj SO hk hT) λY3 al aaf aag aah bJ dT zq=>xa9 zq λe1 K1 s1 n1 c1 R1 T1 l1 l1'=>LN (U5 (N:=[some<|.ref s,some<|.int deep,some<|.int way,some<|.ref j,none,none,none,none,some<|.ref Y3,ai,ai,ai,ai,ai,ai,ai,ai,ai,ai,ai,ai,ai,ai]) H rfl s1 rfl c1 n1 R1 T1 l1 l1') λY4 ax U6 U7 U8 bK fW zq=>Px zq λe2 K2 s2 n2 c2 R2 T2 l2=>jI (hA.all s2 n2 c2 R2 T2 mm l2) λbB e3 K3 s3=>Ly Y4 bB U6 U7 U8 bK fW<|Sy ((K1.trans K2).trans K3) (s3.trans s2) n2 (K3.old _ _ n2 c2) (R2.keep K3) T2 l2 λRF h=>?_
 exact ah (az e1 aD)<|ah (az e2 aD)<|ah (az (aK (aa (I rfl) ae) e3) aD) h
theorem xk {fr:List (Option Nat)}{src:X}{N:Loc}{t:Nat}{ps ws ds:aG}(he:aV O src N Y=.ok (.ref t) Y)(ht:Y[t]?=some (.list ps))(hR:bd s Y ps ws ds)(hf:frees fr N=[none,none])(hp:ps.length<1000)(i:Nat)(hi:i<2):
  aV O (.comp fr [1] src []<|.i (.l 1)<|.c<|.int i) N Y=.ok (.ref Y.length) (Y++[.list<|if i=0 then ws else ds]):=by
 refine dU he (cI ht) ?_;rw[hf];have key:∀{wv Hb tY:aG} (acc:aG),acc.length+wv.length<1000->bd s Y wv Hb tY->dk (iL O [none,none] [1] []<|.i (.l 1)<|.c<|.int i) (.ref t) ps wv acc Y=.ok (acc++(if i=0 then Hb else tY)) Y:=by
  intro wv Hb tY acc hl h
  induction h generalizing acc with
  |nil=>rw[b8];split<;>rw[gp]
  |@cons j w d wv Hb tY h1 h2 _ ih=>
   rw[dE] at hl;have hv:cb Y (.ref j) (.int i)=some (if i=0 then w else d):=by
    refine gN h2 (eB (by decide:2<3) (by decide:3<=1000)) ?_;rcases (by omega:i=0∨i=1) with rfl | rfl<;>rfl
   refine bo (dC rfl cH (aF (I rfl) ag hv)<|iR ‹_› rfl) (ba ht) ?_;rw[ih _<|iQ ‹_›];split<;>simp
 rw[key [] (by simpa using hp) hR];rfl
end
inductive wl:List V->List V->Prop
 |nil:wl [] []
 |cons {r d:V} {rs ds:aG}:wj r d->wl rs ds->wl (r::rs) (d::ds)
noncomputable abbrev A0:aG:=[.int 0,.int 1,.int 1,.int 2]
theorem Gl {i:Nat}{v:V}(h:A0[i]?=some v):∃n:Nat,n<=2/\v=.int n:=by
 match i,h with
 | 0,h=>cases h;exact bD 0 (by decide) rfl
 | 1,h=>cases h;exact bD 1 (by decide) rfl
 | 2,h=>cases h;exact bD 1 (by decide) rfl
 | 3,h=>cases h;exact bD 2 (by decide) rfl
 |_+4,h=>cases h
section
variable {O:ar} {s:Nat} {Y:af} {a b:Int} {k:Nat}
noncomputable abbrev OV:X:=.comp [none,none,none,some 0] [1] (.bi .range [.call 392 [.l 0,.s [.xi 0,.xi 1,.xi 1,.xi 2]]]) []<|.call 493 [.l 3]
noncomputable abbrev OW:X:=.comp [none,none] [1] (.l 10) [.m .IsNot (.i (.l 1)<|.xi 0)<|.c .none]<|.l 1
theorem Gm (H:lj O s){all:aG}{lo hi:Int}:∀(l:aG) {Y:af} {a b:Int} (acc rs ds:aG),Y[s]?=some (aC a b)->bd s Y acc rs ds->wl rs ds->acc.length+l.length<=2->
  ∃ps vP tY Y' a' b',dk (iL O [none,none,none,some<|.ref s] [1] []<|.call 493 [.l 3]) (.rng lo hi) all l acc Y=.ok ps Y'/\bg s Y Y'/\Y'[s]?=some (aC a' b')/\bd s Y' ps vP tY/\wl vP tY/\ps.length<=2:=by
 intro l
 induction l with
 |nil=>
  intro Y a b acc rs ds hs hR hG hl;exact rn acc rs ds Y a b b8 .refl hs hR hG (by simpa using hl)
 |cons v r ih=>
  intro Y a b acc rs ds hs hR hG hl;refine G0 (H.reg hs) λj al x d bJ dT zq=>DS zq λe1 K1 s1 c1 n1 T1=>?_;have app:∀{ps rs ds:aG},bd s al ps rs ds->wl rs ds->bd s al (ps++[.ref j]) (rs++[x]) (ds++[d])/\wl (rs++[x]) (ds++[d]):=by
   intro ps rs ds h
   induction h with
   |nil=>intro _;exact⟨.cons n1 c1 .nil,.cons T1 .nil⟩
   |cons g1 g2 _ ih=>intro g;cases g with | cons g3 g4=>exact⟨.cons g1 g2 (ih g4).1,.cons g3 (ih g4).2⟩
  refine cN (app (hR.keep K1) hG) λZ8 Z9=>?_;rw[dE] at hl;exact G0 (ih (acc++[.ref j]) _ _ s1 Z8 Z9<|tC ‹_›) λps vP tY Y' a' b' zq=>DS zq λe2 K2 s2 R2 G2 l2=>rn ps vP tY Y' a' b' (bo (dC rfl cH (aK (aa (I rfl) ae) e1)<|iR ‹_› rfl) rfl e2) (K1.trans K2) s2 R2 G2 l2
theorem U9 (H:lj O s){N:Loc}(Lq:N[0]?=some (some<|.ref s))(hs:Y[s]?=some (aC a b)):
  ∃t Y' ps rs ds a' b',aV O OV N Y=.ok (.ref t) Y'/\bg s Y Y'/\Y'[s]?=some (aC a' b')/\t≠s/\Y'[t]?=some (.list ps)/\bd s Y' ps rs ds/\wl rs ds/\ps.length<=2:=by
 have s1:=ak (c':=Cell.list A0) hs;refine mN (H.one s1 (eL.list (t:=Y.length) (l:=A0) ao ((dl hs<|a9 _).symm:s≠Y.length)<|by decide) (by decide)<|by decide) λi v bK fW hv e2=>?_;refine aI (Gl hv) λn hn dZ=>?_;subst dZ;have K2:bg s Y ((Y++[Cell.list A0]).set s<|aC bK fW):=bg.push.trans .set;have s2:=cW s1 bK fW;generalize C8:(Y++[Cell.list A0]).set s (aC bK fW)=ax at K2 s2 e2;have iv:∃l:aG,l.length=n/\cG ax (.rng 0 (n:Int))=some l:=by
  refine bD ((List.range<|((n:Int) - 0).toNat).map λ(k:Nat)=>.int (0+(k:Int))) ?_ ?_
  ·rw[cu,List.length_range];exact rfl
  ·unfold cG;dsimp only;rw[if_pos<|by omega]
 refine aI iv λl hl iv=>?_;refine G0 (Gm H (all:=l) (lo:=0) (hi:=n) l [] [] [] s2 .nil .nil (by simp;omega)) λps rs ds bB mB pu zq=>DS zq λe3 K3 s3 R3 G3 l3=>?_;refine Ly bB.length (bB++[.list ps]) ps rs ds mB pu<|Sy ?_ ((K2.trans K3).trans .push) (ak s3) (dl s3<|a9 _) ao (R3.keep .push) G3 l3
 have hf:frees [none,none,none,some 0] N=[none,none,none,some<|.ref s]:=by
  unfold frees;simp[Lq]
 refine dU (cL (aa (aK (aa (I Lq)<|aa (bh<|aa ag<|aa ag<|aa ag<|aa ag ae) ae) e2) ae) rfl) iv ?_;rw[hf];exact e3
theorem Va {N:Loc}{t:Nat}{ps rs ds:aG}(hl:N[10]?=some (some<|.ref t))(ht:Y[t]?=some (.list ps))(hR:bd s Y ps rs ds)(hG:wl rs ds)(hp:ps.length<=2):
  ∃wv vP tY,aV O OW N Y=.ok (.ref Y.length) (Y++[.list wv])/\bd s Y wv vP tY/\nJ vP tY/\wv.length<=2:=by
 have key:∀{l rs ds:aG} (acc:aG),acc.length+l.length<=2->bd s Y l rs ds->wl rs ds->∃wv vP tY,dk (iL O [none,none] [1] [.m .IsNot (.i (.l 1)<|.xi 0)<|.c .none]<|.l 1) (.ref t) ps l acc Y=.ok (acc++wv) Y/\bd s Y wv vP tY/\nJ vP tY/\acc.length+wv.length<=2:=by
  intro l rs ds acc hl h
  induction h generalizing acc with
  |nil=>intro _;exact sV ([]) ([]) ([]) (by rw[b8,gp]) .nil .nil hl
  |@cons j w d wv Hb tY h1 h2 _ ih=>
   intro hG;rw[dE] at hl;cases hG with
   |cons g1 g2=>
    have hv:cb Y (.ref j) (.int 0)=some w:=gN h2 (eB (by decide:2<3) (by decide:3<=1000)) rfl;by_cases hw:w=.none
    ·subst hw;exact ud (ih acc (Nat.le_of_lt ‹_›) g2) λp r d' e k1 k2 k3=>sV p r d' (bo (jq rfl<|mE (aq (aF (I rfl) ag hv) ag rfl) rfl) (ba ht) e) k1 k2 k3
    ·obtain⟨x,rfl⟩:∃x,w=.str x:=by
      cases g1 with
      |none=>exact absurd rfl hw
      |any=>exact⟨_,rfl⟩
      |named x _=>exact⟨x,rfl⟩
      |bad x _=>exact⟨x,rfl⟩
     refine ud (ih (acc++[.ref j]) (tC ‹_›) g2) λp r d' e k1 k2 k3=>?_;rw[b0,gQ] at k3;refine sV (.ref j::p) (.str x::r) (_::d') ?_ (.cons h1 h2 k1) (.cons g1 k2) (by rw[dE];omega);rw[show acc++V.ref j::p=acc++[V.ref j]++p by simp];exact bo (dC rfl (oF (aq (aF (I rfl) ag hv) ag rfl) rfl cH) (I rfl)<|iR ‹_› rfl) (ba ht) e
 refine ud (key [] (by simpa using hp) hR hG) λp r d e k1 k2 k3=>sV p r d ?_ k1 k2 (by simpa using k3);exact dU (I hl) (cI ht) e
end
theorem nh {Y:af}{v:V}{k:Bool}{l:aG}(h:jY Y v=some (k,l))(hl:l.length<10000):vS Y .len [v]=.ok (.int l.length) Y:=o7 (f:=λM l=>.ok (.int l.length) Y) h hl
theorem b9 {Y:af}{v:V}{k:Bool}{l:aG}(h:jY Y v=some (k,l))(hl:l.length<10000):vS Y .tuple [v]=.ok (.U l) Y:=o7 (f:=λM l=>.ok (.U l) Y) h hl
theorem bd.len {s:Nat}{Y:af}{ps ws ds:aG}(h:bd s Y ps ws ds):ws.length=ps.length/\ds.length=ps.length:=by
 induction h with
 |nil=>exact⟨rfl,rfl⟩
 |cons _ _ _ ih=>simp[ih.1,ih.2]
noncomputable def yL:List S:=Fn.body.drop 9
section
variable {O:ar} {s:Nat} {Y:af} {a b:Int} {deep:Int} {k:Nat}
noncomputable abbrev Q4 (s:Nat)(deep way:Int)(j t:Nat)(wh:V):Loc:=[some<|.ref s,some<|.int deep,some<|.int way,some<|.ref j,none,none,none,none,some<|.ref t,some wh,ai,ai,ai,ai,ai,ai,ai,ai,ai,ai,ai,ai,ai]
theorem Eu (H:lj O s)(hA:qb O s)(hz:∀{Y:af} {a b:Int},Y[s]?=some (aC a b)->eO 2 s Y (O 503 [.ref s,.int 0] Y)){bJ dT:Int}(hk:2<=k)(mm:k<12){way:Int}(hw:4<=way)
  (h0:aV O yK (sF s deep) Y=.ok (.int way) (Y.set s<|aC bJ dT))
  (hi:eO k s (Y.set s<|aC bJ dT) (O 503 [.ref s,.int<|deep - 1]<|Y.set s<|aC bJ dT)):
  ∃j t Y' ps ws ds a' b',bg s Y Y'/\Y'[s]?=some (aC a' b')/\t≠s/\Y'[t]?=some (.list ps)/\bd s Y' ps ws ds/\ff k ws ds/\ps.length<=2/\
   ∀{v:V} {loc':Loc} {ax:af},bZ O 400 yL (Q4 s deep way j t<|wholeOf ds) Y'=.ok (some v,loc') ax->bk tx O 503 [.ref s,.int deep] Y=.ok v ax:=by
 refine G0 hi λj ax w d bK fW zq=>DS zq λe2 K2 s2 c2 n2 T2=>LN (Jl (way:=way) (deep:=deep) (rest:=yL) H hA hz s2 c2 n2 hk mm T2) λt bB ps ws ds mB pu zq=>Px zq λK3 s3 n3 c3 R3 T3 l3 fin=>WA j t bB ps ws ds mB pu<|Sy ((bg.set.trans K2).trans K3) s3 n3 c3 R3 T3 l3 λ{v loc' Y5} h=>?_
 have e1:decide (way=1)=false:=eN (by omega);have e2':decide (way=2)=false:=eN (by omega);have e3:decide (way=3)=false:=eN (by omega);have q:∀(i:Int) (b:Bool) (x:List S) (N:Loc) (Y:af),N[2]?=some (some<|.int way)->decide (way=i)=b->b=false->nO O 400 (.ite (.m .Eq (.l 2)<|.c<|.int i) x []) N Y=.ok (none,N) Y:=λi b x N Y hl hb hf=>by
  subst hf;exact aA (aq (I hl) ag eq_int) (by rw[hb];rfl) ay
 apply bf (i:=Fn) (R:=(some v,loc')) rfl rfl rfl;show bZ O 400 (.set (.l 2) yK::.ite (.m .Eq (.l 2)<|.xi 0) _ []::.ite (.m .Eq (.l 2)<|.xi 1) _ []::.set (.l 3) (.call 503 [.l 0,.bin .Sub (.l 1)<|.xi 1])::.ite (.m .Eq (.l 2)<|.xi 2) _ []::.ite (.m .Eq (.l 2)<|.xi 3) _ []::.set (.l 8) C6::.set (.l 8) C7::.set (.l 9) (.call 498 [.l 8])::yL) _ _= _;refine ah (az h0 aD)<|ah (q 0 _ _ _ _ rfl (eN (by omega):decide (way=0)=false) rfl)<|ah (q 1 _ _ _ _ rfl e1 rfl)<|ah (az (aK (aa (I rfl)<|aa (eX (I rfl) ag rfl) ae) e2) aD)<|ah (q 2 _ _ _ _ rfl e2' rfl)<|ah (q 3 _ _ _ _ rfl e3 rfl) ?_
 exact fin _ h
end
section
variable {O:ar} {s:Nat} {Y:af} {a b:Int} {deep:Int} {k:Nat}
theorem ni {src:X}{N:Loc}{t:Nat}{ps ws ds:aG}(he:aV O src N Y=.ok (.ref t) Y)(ht:Y[t]?=some (.list ps))(hR:bd s Y ps ws ds)(hp:ps.length<=2):
  aV O (.comp [none,none] [1] src []<|.i (.l 1)<|.xi 0) N Y=.ok (.ref Y.length) (Y++[.list ws]):=xk he ht hR rfl (fA ‹_› rfl) 0 (by decide)
theorem C9 {src:X}{N:Loc}{t:Nat}{ps ws ds:aG}(he:aV O src N Y=.ok (.ref t) Y)(ht:Y[t]?=some (.list ps))(hR:bd s Y ps ws ds)(hp:ps.length<=2):
  aV O (.comp [none,none] [1] src []<|.i (.l 1)<|.xi 1) N Y=.ok (.ref Y.length) (Y++[.list ds]):=xk he ht hR rfl (fA ‹_› rfl) 1 (by decide)
set_option tactic.hygienic true in
theorem Gn {ds:aG}(h:lh (wholeOf ds)=false):wholeOf ds=.U ds:=by
 unfold wholeOf at h⊢;split at h
 ·next f hf=>have:=List.find?_some hf;rw[h] at this;cases this
 ·rfl
theorem Q5 (H:lj O s)(hA:qb O s)(hz:∀{Y:af} {a b:Int},Y[s]?=some (aC a b)->eO 2 s Y (O 503 [.ref s,.int 0] Y)){bJ dT:Int}(hk:2<=k)(mm:k<11)
  (h0:aV O yK (sF s deep) Y=.ok (.int 4) (Y.set s<|aC bJ dT))
  (hi:eO k s (Y.set s<|aC bJ dT) (O 503 [.ref s,.int<|deep - 1]<|Y.set s<|aC bJ dT)):
  eO (k+2) s Y (bk tx O 503 [.ref s,.int deep] Y):=by
 refine SV (Eu H hA hz hk (lt_num ‹_› rfl) (by decide) h0 hi) λj t aU ps ws ds jR lC zq=>Px zq λK4 s4 n4 c4 R4 T4 l4 fin=>?_;have c5:=ak (c':=a8) c4;have R5:bd s (aU++[a8]) ps ws ds:=R4.keep .push;have iF:=ju (Y:=aU++[a8]) (gC T4.Gi) (fA ‹_› rfl) ao;have s6:=ak (c':=Cell.list ws)<|ak (c':=a8) s4
 have it:vS (aU++[a8]++[Cell.list ws]) .tuple [.ref (aU++[a8]).length]=.ok (.U ws) (aU++[a8]++[Cell.list ws]):=b9 (cE ao) (by have:=R4.len;omega);refine rn ((aU++[a8]++[Cell.list ws]).length) ((aU++[a8]++[Cell.list ws])++[.list [.U [.str fj,.int 0,.U ws],vk ds]]) _ _ jR lC ?_ (((K4.trans .push).trans .push).trans .push) (ak s6) ao (dl s6<|a9 _)<|.U T4 (by have:=R4.len;omega)
 unfold vk;cases hF:lh (wholeOf ds)<;>rw[hF] at iF
 all_goals
  apply fin;apply bE
  repeat (first | (intro w;refine(?_:_->_) (w<|ni (I rfl) c5 R5 l4)) | wp_step)
end
noncomputable def tU:List S:=Fn.body.drop 13
section
variable {O:ar} {s:Nat} {Y:af} {a b:Int} {deep:Int} {k:Nat}
noncomputable abbrev Q6 (s:Nat)(deep way:Int)(j t:Nat)(wh:V)(t':Nat)(rs ws:aG):Loc:=[some<|.ref s,some<|.int deep,some<|.int way,some<|.ref j,none,none,none,none,some<|.ref t,some wh,some<|.ref t',some<|.U rs,some<|.U ws,ai,ai,ai,ai,ai,ai,ai,ai,ai,ai]
theorem Ev (H:lj O s)(hA:qb O s)(hz:∀{Y:af} {a b:Int},Y[s]?=some (aC a b)->eO 2 s Y (O 503 [.ref s,.int 0] Y)){bJ dT:Int}(hk:2<=k)(mm:k<12){way:Int}(hw:5<=way)
  (h0:aV O yK (sF s deep) Y=.ok (.int way) (Y.set s<|aC bJ dT))
  (hi:eO k s (Y.set s<|aC bJ dT) (O 503 [.ref s,.int<|deep - 1]<|Y.set s<|aC bJ dT)):
  ∃j t t' Y' ps qs rs jy ws ds a' b',bg s Y Y'/\Y'[s]?=some (aC a' b')/\Y'[t]?=some (.list ps)/\bd s Y' ps ws ds/\ff k ws ds/\ps.length<=2/\Y'[t']?=some (.list qs)/\bd s Y' qs rs jy/\nJ rs jy/\qs.length<=2/\
   ∀{v:V} {loc':Loc} {ax:af},bZ O 400 tU (Q6 s deep way j t (wholeOf ds) t' rs ws) Y'=.ok (some v,loc') ax->bk tx O 503 [.ref s,.int deep] Y=.ok v ax:=by
 refine SV (Eu H hA hz hk mm (Int.le_of_lt ‹_›) h0 hi) λj t aU ps ws ds jR lC zq=>Px zq λK4 s4 n4 c4 R4 T4 l4 fin=>LN (U9 (N:=Q4 s deep way j t<|wholeOf ds) H rfl s4) λY6 eG qs rs jy AG Jm zq=>Px zq λe5 K5 s5 n5 c5 R5 G5 l5=>ud (Va (N:=(Q4 s deep way j t<|wholeOf ds).set 10<|some<|.ref Y6) (O:=O) rfl c5 R5 G5 l5) λGY vP aa0 e6 R6 G6 l6=>?_;have K6:bg s eG (eG++[Cell.list GY]):=.push;have R6':=R6.keep K6;have R6a:=R6'.keep (Y':=(eG++[Cell.list GY])++[Cell.list vP]) .push;have c6a:(eG++[Cell.list GY]++[Cell.list vP])[t]?=some (.list ps):=ak<|ak<|K5.old _ _ n4 c4
 have R4a:bd s (eG++[Cell.list GY]++[Cell.list vP]) ps ws ds:=(R4.keep K5).keep<|bg.push.trans .push
 have e8:∀N:Loc,N[8]?=some (some<|.ref t)->aV O (.comp [none,none] [1] (.l 8) []<|.i (.l 1)<|.xi 0) N (eG++[Cell.list GY]++[Cell.list vP])=.ok (.ref (eG++[Cell.list GY]++[Cell.list vP]).length) ((eG++[Cell.list GY]++[Cell.list vP])++[.list ws]):=λN hl=>ni (I hl) c6a R4a l4;refine Xm j t eG.length ((eG++[Cell.list GY]++[Cell.list vP])++[.list ws]) ps GY vP aa0 ws ds AG Jm<|Xo ((((K4.trans K5).trans K6).trans .push).trans .push) (ak<|ak<|ak (c':=Cell.list GY) s5) (ak c6a) (R4a.keep .push) T4 l4 (ak<|ak ao) (R6a.keep .push) G6 l6 λ{v loc' ax} h=>fin (loc':=loc') ?_
 have lr:=R6'.len;have lw:=R4a.len;show bZ O 400 (.ite (.m .Eq (.l 2)<|.xi 4) _ []::.set (.l 10) OV::.set (.l 10) OW::.set (.U [.l 11,.l 12]) (.U [.bi .tuple [.comp [none,none] [1] (.l 10) []<|.i (.l 1)<|.xi 0],.bi .tuple [.comp [none,none] [1] (.l 8) []<|.i (.l 1)<|.xi 0]])::tU) _ _= _;refine ah (aA (aq (I rfl) ag eq_int) (by rw[eN<|show¬way=4 by omega];rfl) ay)<|ah (az e5 aD)<|ah (az e6 aD)<|ah (az (aS<|aa (cL (aa ((λN hl=>ni (I hl) ao R6' l6:∀N:Loc,N[10]?=some (some<|.ref eG.length)->aV O (.comp [none,none] [1] (.l 10) []<|.i (.l 1)<|.xi 0) N (eG++[Cell.list GY])=.ok (.ref (eG++[Cell.list GY]).length) ((eG++[Cell.list GY])++[.list vP])) _ rfl) ae)<|b9 (cE ao)<|by omega)<|aa (cL (aa (e8 _ rfl) ae)<|b9 (cE ao)<|by omega) ae)<|ez rfl rfl<|aR aD<|aR aD dg) ?_
 exact h
end
theorem ne_int {Y:af}{i j:Int}:cy Y .NotEq (.int i) (.int j)=some (!decide (i=j)):=by
 have:=eq_int (Y:=Y) (i:=i) (j:=j);show(OC Y (.int i)<|.int j).map _= _;rw[show OC Y (.int i) (.int j)=some (decide (i=j)) from this];rfl
theorem lN {Y:af}{l:aG}:cy Y .NotEq (.U l) (.U [])=some (!l.isEmpty):=by
 cases l with
 |nil=>k_all
 |cons _ _=>rfl
theorem Jn {Y:af}{t u:Nat}{x:V}(hx:x=.none∨∃r,wj r x)(ht:Y[t]?=some (.list [x]))(hu:Y[u]?=some (.list [.str aH])):cy Y .Eq (.ref t) (.ref u)=some (isName x):=by
 have e:∀{i:Nat} {y:V} {p:PyData},Y[i]?=some (.list [y])->(∀m,dH Y (m+1) y=some p)->dH Y 12 (.ref i)=some (.list [p]):=λ{i y p} h hp=>by
  rw[jt h];show((dH Y 11 y).bind λd=>some [d]).map _= _;rw[hp 10];rfl
 refine(vg ht hu rfl).trans ?_;have key:∀p:PyData,(∀m,dH Y (m+1) x=some p)->SeqAt.shaped (.list [p])=true->PyData.eqv (.list [p]) (.list [.str aH])=isName x->yd Y (.ref t) (.ref u)=some (isName x):=λp hp h1 h2=>by
  rw[tP (e ht hp) (e hu λM=>rfl) (by rw[h1];decide+kernel),h2]
 rcases hx with rfl | Yl
 ·exact key .none (λM=>rfl) (by decide+kernel) (by simp[PyData.eqv,PyData.eqvAll,isName])
 ·refine aM Yl λr h=>?_;cases h with
  |none=>exact key .none (λM=>rfl) (by decide+kernel) (by simp[PyData.eqv,PyData.eqvAll,isName])
  |any=>exact key .none (λM=>rfl) (by decide+kernel) (by simp[PyData.eqv,PyData.eqvAll,isName])
  |named s hs=>
   refine key (.str s) (λM=>rfl) ?_ ?_
   ·rcases aX.mp hs with rfl | hs
    ·decide+kernel
    rcases aX.mp hs with rfl | hs
    ·decide+kernel
    ·rw[cK.mp hs];decide+kernel
   ·simp only[PyData.eqv,PyData.eqvAll,isName,Bool.and_true];rfl
  |bad s hs=>exact key (.str aH) (λM=>rfl) (by decide+kernel) (by decide+kernel)
section
variable {O:ar} {s:Nat} {Y:af} {a b:Int} {deep:Int} {k:Nat}
theorem Da {ds:aG}(hF:lh (wholeOf ds)=false)(h:ds.length=1):cb Y (wholeOf ds) (.int 0)=some (ds.headD .none):=by
 refine aM (wx.mp h) λd e=>?_;subst e;rw[Gn hF];rfl
theorem Q7 (H:lj O s)(hA:qb O s)(hz:∀{Y:af} {a b:Int},Y[s]?=some (aC a b)->eO 2 s Y (O 503 [.ref s,.int 0] Y)){bJ dT:Int}(hk:2<=k)(mm:k<11)
  (h0:aV O yK (sF s deep) Y=.ok (.int 5) (Y.set s<|aC bJ dT))
  (hi:eO k s (Y.set s<|aC bJ dT) (O 503 [.ref s,.int<|deep - 1]<|Y.set s<|aC bJ dT)):
  eO (k+2) s Y (bk tx O 503 [.ref s,.int deep] Y):=by
 refine SW (Ev H hA hz hk (lt_num ‹_› rfl) (by decide) h0 hi) λj t t' aU ps qs rs jy ws ds jR lC zq=>SX zq λK4 s4 c4 R4 T4 l4 c5 R5 G5 l5 fin=>?_;have c4p:=ak (c':=a8) c4;have iF:=ju (Y:=aU++[a8]) (gC T4.Gi) (fA ‹_› rfl) ao;have il:=nh (cE c4)<|fA ‹_› rfl
 have lr:=R4.len;have e0:=lN (Y:=aU) (l:=rs);have e1:=ne_int (Y:=aU) (i:=ps.length) (j:=1);have BQ:fK rs ds=.str aB->bk tx O 503 [.ref s,.int deep] Y=.ok (.ref aU.length) (aU++[.list [eF cU (.U rs)<|.U ws,.str aB]])->eO (k+2) s Y (bk tx O 503 [.ref s,.int deep] Y):=λhd h=>
  ⟨aU.length,_,_,_,jR,lC,h,K4.trans .push,ak s4,ao,dl s4<|a9 _,hd▸.box G5 T4 (by omega)⟩
 cases hr:rs with
 |cons r vP=>
  subst hr;refine BQ rfl ?_;apply fin;apply bE
  repeat (first | (intro w;refine(?_:_->_) (w (H.path))) | wp_step)
 |nil=>
  subst hr;by_cases h1:ps.length=1
  ·have Sl:cy aU .NotEq (.int ps.length) (.int 1)=some false:=by rw[e1,dP<|by omega];rfl
   have WZ:ds.length=1:=by omega
   have DO:fK [] ds=df (lh<|wholeOf ds) (wholeOf ds) (.U [.str pF,ds.headD .none]):=by unfold fK;rw[WZ];rfl
   have hx:=ku.box (k:=k) G5 T4 (by omega);rw[DO] at hx;refine rn ((aU++[a8]).length) ((aU++[a8])++[.list [eF cU (.U [])<|.U ws,df (lh<|wholeOf ds) (wholeOf ds)<|.U [.str pF,ds.headD .none]]]) _ _ jR lC ?_ ((K4.trans .push).trans .push) (ak<|ak s4) ao (dl (ak (c':=a8) s4)<|a9 _) hx;cases hF:lh (wholeOf ds)<;>rw[hF] at iF
   ·have iw:=Da (Y:=aU++[a8]) hF WZ;apply fin;apply bE
    repeat (first | (intro w;refine(?_:_->_) (w (H.path))) | wp_step)
   ·apply fin;apply bE
    repeat (first | (intro w;refine(?_:_->_) (w (H.path))) | wp_step)
  ·have Sl:cy aU .NotEq (.int ps.length) (.int 1)=some true:=by rw[e1,eN<|by omega];rfl
   refine BQ ?_ ?_
   ·unfold fK;have:(ds.length==1)=false:=by simpa using (by omega:¬ds.length=1)
    rw[this];rfl
   apply fin;apply bE
   repeat (first | (intro w;refine(?_:_->_) (w (H.path))) | wp_step)
end
section
variable {O:ar} {s:Nat} {Y:af} {a b:Int} {deep:Int} {k:Nat}
theorem M5 {rs jy:aG}(G:nJ rs jy)(hr:¬1<rs.length):∃x,(x=.none∨∃r,wj r x)/\lL rs jy=[x]:=by
 cases G with
 |nil=>exact bD .none (.inl rfl) rfl
 |cons g g'=>
  cases g' with
  |nil=>exact bD _ (.inr ⟨_,g⟩) rfl
  |cons _ _=>exact absurd (Nat.succ_lt_succ<|Nat.zero_lt_succ _) hr
theorem Go {N:Loc}{t':Nat}{qs rs jy:aG}{x:V}(hl:N[10]?=some (some<|.ref t'))(lS:N[11]?=some (some<|.U rs))(c5:Y[t']?=some (.list qs))(R5:bd s Y qs rs jy)(l5:qs.length<=2)(hK:lL rs jy=[x]):
  aV O (.ite (.m .NotEq (.l 11)<|.U []) (.comp [none,none] [1] (.l 10) []<|.i (.l 1)<|.xi 1)<|.s [.c .none]) N Y=.ok (.ref Y.length) (Y++[.list [x]]):=by
 refine rP (aq (I lS) (aS ae) (lN)) rfl ?_;cases rs with
 |nil=>
  rw[<-(List.cons.inj hK |>.1:V.none=x)];exact bh<|aa ag ae
 |cons r vP=>
  rw[<-(hK:jy=[x])];exact C9 (I hl) c5 R5 l5
theorem Y7 (H:lj O s)(hA:qb O s)(hz:∀{Y:af} {a b:Int},Y[s]?=some (aC a b)->eO 2 s Y (O 503 [.ref s,.int 0] Y)){bJ dT:Int}(hk:2<=k)(mm:k<11)
  (h0:aV O yK (sF s deep) Y=.ok (.int 6) (Y.set s<|aC bJ dT))
  (hi:eO k s (Y.set s<|aC bJ dT) (O 503 [.ref s,.int<|deep - 1]<|Y.set s<|aC bJ dT)):
  eO (k+2) s Y (bk tx O 503 [.ref s,.int deep] Y):=by
 refine SW (Ev H hA hz hk (lt_num ‹_› rfl) (by decide) h0 hi) λj t t' aU ps qs rs jy ws ds jR lC zq=>SX zq λK4 s4 c4 R4 T4 l4 c5 R5 G5 l5 fin=>?_;have il:vS aU .len [.ref t]=.ok (.int ps.length) aU:=nh (cE c4)<|fA ‹_› rfl
 have lr:=R4.len;have lq:=R5.len;have ir:vS aU .len [.U rs]=.ok (.int rs.length) aU:=nh rfl (by omega);have e0:=lN (Y:=aU) (l:=rs);have e1:=ne_int (Y:=aU) (i:=ps.length) (j:=1);have n4:=dl s4<|a9 _
 have BQ:mF rs jy ds=.str aB->bk tx O 503 [.ref s,.int deep] Y=.ok (.ref aU.length) (aU++[.list [eF ms (.U rs)<|.U ws,.str aB]])->eO (k+2) s Y (bk tx O 503 [.ref s,.int deep] Y):=λhd h=>
  ⟨aU.length,_,_,_,jR,lC,h,K4.trans .push,ak s4,ao,n4,hd▸.G G5 T4 (by omega) (by omega)⟩
 by_cases hr:1<rs.length
 ·have g1:=gt_int (Y:=aU) (i:=rs.length) (j:=1)<|dP<|by omega
  refine BQ ?_ ?_
  ·unfold mF;rw[dP hr];rfl
  apply fin;apply bE
  repeat (first | (intro w;refine(?_:_->_) (w (H.path))) | wp_step)
 have g1:=gt_int (Y:=aU) (i:=rs.length) (j:=1)<|eN<|by omega
 by_cases h1:ps.length=1
 ·have Sl:cy aU .NotEq (.int ps.length) (.int 1)=some false:=by rw[e1,dP<|by omega];rfl
  refine aI (M5 G5 hr) λx hx hK=>?_;have WZ:ds.length=1:=by omega
  have DO:mF rs jy ds=df (isName x) (.str aH) (df (lh<|wholeOf ds) (wholeOf ds)<|.U [.str kQ,.str ms,.U [x],wholeOf ds]):=by
   unfold mF;rw[WZ,eN hr,hK];rfl
  have hT:=ku.G (k:=k) G5 T4 (by omega) (by omega);rw[DO] at hT;have s5:=ak (c':=Cell.list [x]) s4;have s6:=ak (c':=Cell.list [V.str aH]) s5;have s7:=ak (c':=a8) s6;have eK:=Jn (Y:=aU++[Cell.list [x]]++[Cell.list [V.str aH]]) hx (ak ao) ao;have iF:=ju (Y:=aU++[Cell.list [x]]++[Cell.list [V.str aH]]++[a8]) (gC T4.Gi) (fA ‹_› rfl) ao;have ik:cb (aU++[Cell.list [x]]++[Cell.list [V.str aH]]++[a8]) (.ref aU.length) (.int 0)=some x:=gN (l:=[x]) (ak<|ak ao) (eB (by decide:1<3) (by decide:3<=1000)) rfl;have pre:∀{RF:Res fc},bZ O 400 (tU.drop 3) ((Q6 s deep 6 j t (wholeOf ds) t' rs ws).set 13<|some<|.ref aU.length) (aU++[Cell.list [x]])=RF->bZ O 400 tU (Q6 s deep 6 j t (wholeOf ds) t' rs ws) aU=RF:=λ{RF} h=>
   ah (aA (aq (I rfl) ag eq_int) rfl ay) (ah (aA (f6 (aq (cL (aa (I rfl) ae) ir) ag g1) rfl<|f0<|aq (cL (aa (I rfl) ae) il) ag Sl) rfl ay)<|ah (az (Go rfl rfl c5 R5 l5 hK) aD) h)
  cases hN:isName x<;>rw[hN] at eK
  ·cases hF:lh (wholeOf ds)<;>rw[hF] at iF
   ·rw[hN,hF] at hT;refine rn ((aU++[Cell.list [x]]++[Cell.list [V.str aH]]++[a8]).length) (_++[.list [eF ms (.U rs)<|.U ws,_]]) _ _ jR lC ?_ ((((K4.trans .push).trans .push).trans .push).trans .push) (ak s7) ao (dl s7<|a9 _) hT;apply fin;apply pre;apply bE
    repeat (first | (intro w;refine(?_:_->_) (w (H.path))) | wp_step)
   ·rw[hN,hF] at hT;refine rn ((aU++[Cell.list [x]]++[Cell.list [V.str aH]]++[a8]).length) (_++[.list [eF ms (.U rs)<|.U ws,_]]) _ _ jR lC ?_ ((((K4.trans .push).trans .push).trans .push).trans .push) (ak s7) ao (dl s7<|a9 _) hT;apply fin;apply pre;apply bE
    repeat (first | (intro w;refine(?_:_->_) (w (H.path))) | wp_step)
  ·rw[hN] at hT;refine rn ((aU++[Cell.list [x]]++[Cell.list [V.str aH]]).length) (_++[.list [eF ms (.U rs)<|.U ws,_]]) _ _ jR lC ?_ (((K4.trans .push).trans .push).trans .push) (ak s6) ao (dl s6<|a9 _) hT;apply fin;apply pre;apply bE
   repeat (first | (intro w;refine(?_:_->_) (w (H.path))) | wp_step)
 ·have Sl:cy aU .NotEq (.int ps.length) (.int 1)=some true:=by rw[e1,eN<|by omega];rfl
  refine BQ ?_ ?_
  ·unfold mF;have:(ds.length==1)=false:=by simpa using (by omega:¬ds.length=1)
   rw[this,eN hr];rfl
  apply fin;apply bE
  repeat (first | (intro w;refine(?_:_->_) (w (H.path))) | wp_step)
end
theorem in_str {Y:af}{t:Nat}{s:Str}{l:aG}{ts:cY}(ht:Y[t]?=some (.list l))(hl:strsOf l=some ts):cy Y .In (.str s) (.ref t)=some (anyS s ts):=by
 refine(in_of ht).trans ?_;show Lz (Fg Y (.str s)<|.ref t) _= _;rw[M0 ht hl];rfl
theorem M6 {Y:af}{t:Nat}(ht:Y[t]?=some (.list [.str jL,.str jM])):cy Y .In .none (.ref t)=some false:=by
 refine(in_of ht).trans ((yJ (jt ht:dH Y 12 (.ref t)=some (.list [.str jL,.str jM])) rfl<|by k_all).trans ?_);simp[PyData.eqv]
section
variable {O:ar} {s:Nat} {Y:af} {a b:Int}
def vl (O:ar)(s:Nat):Prop:=∀{Y:af} {a b:Int} {t:V} {l:aG},Y[s]?=some (aC a b)->eL Y s t l->0<l.length->l.length<1000->∃(i:Nat) (v:V) (a' b':Int),l[i]?=some v/\O 392 [.ref s,t] Y=.ok v (Y.set s<|aC a' b')
theorem M7 (H1:vl O s)(hs:Y[s]?=some (aC a b)):∃j Y' r d a' b',bk tx O 493 [.ref s] Y=.ok (.ref j) Y'/\bg s Y Y'/\Y'[s]?=some (aC a' b')/\Y'[j]?=some (.list [r,d])/\j≠s/\wj r d:=by
 have s1:=ak (c':=Cell.list tT) hs;refine mN (H1 s1 (eL.list (t:=Y.length) (l:=tT) ao ((dl hs<|a9 _).symm:s≠Y.length)<|by decide) (by decide)<|by decide) λi v bK fW hv e2=>?_;have K2:bg s Y ((Y++[Cell.list tT]).set s<|aC bK fW):=bg.push.trans .set;have s2:=cW s1 bK fW;generalize C8:(Y++[Cell.list tT]).set s (aC bK fW)=ax at K2 s2 e2;have s3:=ak (c':=Cell.list [V.str jL,V.str jM]) s2;have key:∀(b1 b2:Bool),cy (ax++[Cell.list [V.str jL,V.str jM]]) .In v (.ref ax.length)=some b1->cy (ax++[Cell.list [V.str jL,V.str jM]]) .Eq v (.str pP)=some b2->wj v (df b1 (.str aH)<|df b2 .none v)->∃j Y' r d a' b',bk tx O 493 [.ref s] Y=.ok (.ref j) Y'/\bg s Y Y'/\Y'[s]?=some (aC a' b')/\Y'[j]?=some (.list [r,d])/\j≠s/\wj r d:=λb1 b2 f1 f2 hr=>by
  refine rn ((ax++[Cell.list [V.str jL,V.str jM]]).length) ((ax++[Cell.list [V.str jL,V.str jM]])++[.list [v,df b1 (.str aH)<|df b2 .none v]]) v _ bK fW ?_ ((K2.trans .push).trans .push) (ak s3) ao (dl s3<|a9 _) hr;cases b1<;>cases b2
  all_goals
   apply dW (i:=Ud) rfl rfl rfl
   repeat (intro w;first | exact w | refine(?_:_->_) (w<|by first | (with_reducible first | exact e2 | exact f1 | exact f2 | assumption) | first | exact e2 | exact f1 | exact f2 | assumption | exact eq_int | exact rfl))
 have zk:∀x:Str,cy (ax++[Cell.list [V.str jL,V.str jM]]) .In (.str x) (.ref ax.length)=some (anyS x [jL,jM]):=λx=>in_str ao rfl
 match i,hv with
 | 0,hv=>cases hv;exact key false false (M6 ao) (by k_all) .none
 | 1,hv=>cases hv;exact key false false (zk _) rfl<|.named _<|by decide
 | 2,hv=>cases hv;exact key false false (zk _) rfl<|.named _<|by decide
 | 3,hv=>cases hv;exact key false true (zk _) rfl .any
 | 4,hv=>cases hv;exact key false false (zk _) rfl<|.named _<|by decide
 | 5,hv=>cases hv;exact key false true (zk _) rfl .any
 | 6,hv=>cases hv;exact key false false (zk _) rfl<|.named _<|by decide
 | 7,hv=>cases hv;exact key true false (zk _) rfl<|.bad _<|by decide
 | 8,hv=>cases hv;exact key true false (zk _) rfl<|.bad _<|by decide
 |_+9,hv=>cases hv
theorem A1 {n r t:V}:bk tx O 486 [n,r,t] Y=.ok (.U [.str lU,.int 0,.U [.U [n,r,t]]]) Y:=rfl
end
theorem ig {Y:af}{t u:Nat}{l:aG}(ht:Y[t]?=some (.list l))(hu:Y[u]?=some (.list [])):cy Y .NotEq (.ref t) (.ref u)=some (!l.isEmpty):=by
 refine(?_:(OC Y (.ref t)<|.ref u).map _= _);cases l with
 |cons x r=>refine(Eq.symm<|QX ht hu rfl)▸?_;rfl
 |nil=>
  have e:∀{i:Nat},Y[i]?=some (.list [])->dH Y 12 (.ref i)=some (.list []):=λ{i} h=>jt h;refine(Eq.symm<|vg ht hu rfl)▸?_;refine(Eq.symm<|tP (e ht) (e hu)<|by k_all)▸?_;simp[PyData.eqv,PyData.eqvAll]
section
variable {O:ar} {s:Nat} {Y:af} {a b:Int} {k:Nat}
@[elab_as_elim] theorem bd.ej {C:V->List V->List V->Prop}{p:V}{ps ws ds:aG}(h:bd s Y (p::ps) ws ds)(k:∀{j:Nat} {w d:V} {ws ds:aG},j≠s->Y[j]?=some (.list [w,d])->bd s Y ps ws ds->C (.ref j) (w::ws) (d::ds)):C p ws ds:=by
 cases h with | cons h1 h2 h3=>exact k h1 h2 h3
theorem bd.Vb {ws ds:aG}(h:bd s Y [] ws ds):ds=[]:=by cases h;rfl
theorem yM {j:Nat}{w d:V}(h:Y[j]?=some (.list [w,d])):dv Y [1,2] (.ref j) [none,none,none]=some [none,some w,some d]:=by
 refine(?_:(jY Y<|.ref j).bind (λl=>dL [1,2] l.2 [none,none,none])= _);refine(Eq.symm<|cE h)▸?_;rfl
theorem Jo {t:Nat}{qs:aG}{φ:V->Bool}(ps:aG):∀{ws ds:aG} {Y:af} (acc:aG),Y[t]?=some (.list qs)->bd s Y ps ws ds->(∀d∈ds,∀(Y:af) (t:Nat),Y[t]?=some a8->cy Y .In d (.ref t)=some (φ d))->acc.length+ps.length<1000->
  ∃J,dk (iL O [none,none,none] [1,2] [.m .In (.l 2)<|.s [.xs aH,.xs aB]]<|.l 2) (.ref t) qs ps acc Y=.ok (acc++ds.filter φ) (Y++J):=by
 induction ps with
 |nil=>exact λacc M h M M=>⟨[],by rw[b8,h.Vb];simp⟩
 |cons p ps ih=>
  intro ws ds Y acc ht h;refine h.ej λ{j w d Hb tY} h1 h2 h3 g hl=>?_;replace hl:=dE▸hl;have iF:=g d (.head _) (Y++[a8]) Y.length ao;have GW:=ak (c':=a8) ht;cases hF:φ d with
  |false=>
   replace iF:=hF▸iF;refine aM (ih acc GW (h3.keep .push) (λd hd=>g d<|.tail _ hd)<|BZ ‹_›) λJ e=>⟨[a8]++J,?_⟩;rw[List.filter_cons_of_neg (by rw[hF];decide),<-bQ];exact bo (jq (yM h2)<|mE (aq (I rfl) (bh<|aa ag<|aa ag ae) iF) rfl) (ba GW) e
  |true=>
   replace iF:=hF▸iF;refine aM (ih (acc++[d]) GW (h3.keep .push) (λd hd=>g d<|.tail _ hd)<|iQ ‹_›) λJ e=>⟨[a8]++J,?_⟩;rw[List.filter_cons_of_pos (by rw[hF]),<-bQ,List.append_cons];exact bo (dC (yM h2) (oF (aq (I rfl) (bh<|aa ag<|aa ag ae) iF) rfl cH) (I rfl)<|iR ‹_› rfl) (ba GW) e
theorem M8 {t:Nat}{qs:aG}(ps:aG):∀{ws ds:aG} (acc:aG),Y[t]?=some (.list qs)->bd s Y ps ws ds->acc.length+ps.length<1000->
  dk (iL O [none,none,none] [1,2] []<|.l 2) (.ref t) qs ps acc Y=.ok (acc++ds) Y:=by
 induction ps with
 |nil=>exact λacc M h M=>by rw[b8,h.Vb,gp]
 |cons p ps ih=>
  intro ws ds acc ht h;refine h.ej λ{j w d Hb tY} h1 h2 h3 hl=>?_;replace hl:=dE▸hl;rw[List.append_cons];exact bo (dC (yM h2) cH (I rfl)<|iR ‹_› rfl) (ba ht)<|ih (acc++[d]) ht h3<|iQ ‹_›
noncomputable def dt (φ:V->Bool)(ds:aG):V:=match ds.find? φ with
 |some f=>f
 |none=>.U ds
theorem Jp {φ:V->Bool}:∀{t:Nat} {ps ws ds:aG},t≠s->Y[t]?=some (.list ps)->bd s Y ps ws ds->(∀d∈ds,∀(Y:af) (t:Nat),Y[t]?=some a8->cy Y .In d (.ref t)=some (φ d))->ps.length<900->∃J,bk tx O 498 [.ref t] Y=.ok (dt φ ds) (Y++J):=by
 intro t ps ws ds Lp ht hR hT hp;refine aM (Jo (O:=O) ps [] ht hR hT<|by simpa using (lt_num ‹_› rfl:ps.length<1000)) λJ e1=>?_;rw[sf] at e1;have lr:=hR.len;have SM:=ak (c':=Cell.list<|ds.filter φ) ((bg.push (s:=s)).old _ _ Lp ht:(Y++J)[t]?=some (.list ps));have ht3:=ak (c':=Cell.list []) SM;have en:=ig (Y:=Y++J++[Cell.list<|ds.filter φ]++[Cell.list []]) (ak ao) ao;have er:aV O (.comp [none,none,none] [1,2] (.l 0) [.m .In (.l 2)<|.s [.xs aH,.xs aB]]<|.l 2) [some<|.ref t,none,none] Y=.ok (.ref (Y++J).length) (Y++J++[.list<|ds.filter φ]):=dU (I rfl) (cI ht) e1;have hh:(ds.filter φ).head?=ds.find? φ:=List.head?_filter;cases hf:ds.filter φ with
 |nil=>
  rw[hf] at hh en er SM ht3;have hw:dt φ ds=.U ds:=by unfold dt;rw[<-hh];rfl
  have e2:=M8 (O:=O) ps [] ht3 (hR.keep<|(bg.push.trans .push).trans .push) (by simpa using (lt_num ‹_› rfl:ps.length<1000));rw[sf] at e2;refine⟨J++[Cell.list []]++[Cell.list []]++[Cell.list ds],?_⟩;rw[hw,<-bQ,<-bQ,<-bQ];apply bf (i:=HC) (R:=(some<|.U ds,_)) rfl rfl rfl;dsimp only[HC];refine ah (az er aD)<|ah (bL<|rP (aq (I rfl) (bh ae) en) rfl<|cL (aa (dU (I rfl) (cI ht3) e2) ae)<|b9 (cE ao)<|by omega) rfl
 |cons f r=>
  rw[hf] at hh en er;have hw:dt φ ds=f:=by unfold dt;rw[<-hh];rfl
  have hl:(f::r).length<1000:=by
   have:=wB φ ds;replace this:=hf▸this;omega
  refine⟨J++[Cell.list (f::r)]++[Cell.list []],?_⟩;rw[hw,<-bQ,<-bQ];apply bf (i:=HC) (R:=(some f,_)) rfl rfl rfl;dsimp only[HC];refine ah (az er aD)<|ah (bL<|rP (aq (I rfl) (bh ae) en) rfl<|aF (I rfl) ag<|gN (i:=0) (ak ao) hl rfl) rfl
theorem M9:∀{t:Nat} {ps ws ds:aG},t≠s->Y[t]?=some (.list ps)->bd s Y ps ws ds->ff k ws ds->k<12->ps.length<900->∃J,bk tx O 498 [.ref t] Y=.ok (wholeOf ds) (Y++J):=
 λLp ht hR hT hk hp=>Jp Lp ht hR (λd hd M M h=>ju (ff.Gi hT d hd) hk h) hp
end
section
variable {s:Nat} {Y:af} {a b:Int}
theorem iZ (n:Nat)(hn:1<=n){top:Int}(hs:Y[s]?=some (aC a b))(h0:0<top)(h1:top<1000):∃d a' b',0<=d/\d<top/\run tx n 385 [.ref s,.int top] Y=.ok (.int d) (Y.set s<|aC a' b'):=by
 refine aM (nR hn) λn dZ=>?_;subst dZ;exact xj hs h0 h1
theorem lO (n:Nat)(hn:2<=n):vl (run tx n) s:=by
 refine aM (nR hn) λn mu=>?_;subst mu;exact λhs ht h0 h1=>AZ (λtop g0 g1=>iZ (n+1) (aN rfl) hs g0 g1) ht h0 h1
theorem Na (n:Nat)(hn:3<=n)(hs:Y[s]?=some (aC a b)):∃j Y' r d a' b',run tx n 493 [.ref s] Y=.ok (.ref j) Y'/\bg s Y Y'/\Y'[s]?=some (aC a' b')/\Y'[j]?=some (.list [r,d])/\j≠s/\wj r d:=by
 refine aM (nR hn) λn uu=>?_;subst uu;exact M7 (lO (n+2)<|aN rfl) hs
theorem Jq (n:Nat)(hn:3<=n):lj (run tx n) s where
 take:=λhs h0 h1=>iZ n (uf ‹_› rfl) hs h0 h1
 one:=lO n<|uf ‹_› rfl
 reg:=λhs=>Na n hn hs
 path:=by
  refine aM (nR hn) λn An=>?_;subst An;exact A1
theorem Nb (n:Nat)(hn:1<=n):qb (run tx n) s:=by
 refine aM (nR hn) λn FU=>?_;subst FU;refine⟨λ{Y t k ps ws ds a b} hs Lp ht hR hT hk hp=>?_⟩;exact aM (M9 Lp ht hR hT hk<|fA ‹_› rfl) λJ e=>lA _ e .push (by rw[iE<|nf hs])
theorem Ew {m n:Nat}(h:5+m<=n):∃i,n=i+1/\4+m<=i:=oQ<|d9 (qq<|Nat.add_right_comm 4 m 1) h
theorem Q8 {d:Int}(h:0<=d)(h':d<2):d=0∨d=1:=(Int.lt_or_eq_of_le<|Int.le_of_lt_add_one (h':d<1+1)).imp (λl=>Int.le_antisymm (Int.le_of_lt_add_one (l:d<0+1)) h) id
theorem Ey {n:Nat}(hn:5+0<=n){Y:af}{a b:Int}(hs:Y[s]?=some (aC a b)):eO 2 s Y (run tx n 503 [.ref s,.int 0] Y):=by
 refine aI (Ew hn) λn Qn lR=>?_;subst Qn;exact kg (iZ n (d9 (aN rfl) lR) (top:=2) hs (by decide)<|by decide) λd a' b' d0 d1 e=>Et (O:=run tx n) (deep:=(0:Nat)) (x:=.c .none) (Jq n<|Nat.le_of_succ_le lR) hs d (Q8 d0 d1)<|fU (aq (I rfl) ag rfl) rfl<|aK (aa (I rfl)<|aa ag ae) e
structure Mid (m n k:Nat):Prop where
 a:k<12
 b:k+2<=2 * (m+1)+2
 c:2<=k+2
 d:k<11
 e:2<=2 * (m+1)+2
theorem Q9 {m n:Nat}(hm:m+1<=3){k:Nat}(h:k<=2 * m+2):Mid m n k:=have h':=d9 h<|t7 (Nat.mul_le_mul_left 2<|Nat.le_of_succ_le_succ hm) 2;⟨fA h' rfl,by exact t7 ‹_› _,by exact aN rfl,fA h' rfl,by exact aN rfl⟩
theorem sub_one (m:Nat):(m:Int)=((m+1:Nat):Int) - 1:=(Int.add_sub_cancel (m:Int) 1).symm
theorem Nc (m:Nat):(0:Int)<((m+1:Nat):Int):=Int.natCast_pos.mpr<|Nat.succ_pos m
structure Vc (m n:Nat):Prop where
 a:1<=n
 b:3<=n
 c:5+0<=n
 d:5+m<=n
theorem Nd {m n:Nat}(h:4+(m+1)<=n):Vc m n:=⟨by exact uf ‹_› rfl,Nat.le_of_lt<|d9 (dX 4 _) h,by exact kI (dX _ _) ‹_›,d9 (qq<|Nat.add_right_comm 4 1 m) h⟩
theorem Nf {m n k:Nat}{a b a' b' d:Int}(Q:Mid m n k)(k1:2<=k)(F:Vc m n)(hs:Y[s]?=some (aC a b))(hd:(d=0∨d=1)∨d=2∨d=3∨d=4∨d=5∨d=6)
  (h0:aV (run tx n) yK (sF s ((m+1:Nat):Int)) Y=.ok (.int d) (Y.set s<|aC a' b')) (hi:eO k s (Y.set s<|aC a' b') (run tx n 503 [.ref s,.int<|((m+1:Nat):Int) - 1]<|Y.set s<|aC a' b')):
  ∃k,k<=2 * (m+1)+2/\2<=k/\eO k s Y (bk tx (run tx n) 503 [.ref s,.int ((m+1:Nat):Int)] Y):=by
 have H:=Jq (s:=s) n F.b;have hA:=Nb (s:=s) n F.a;have hz:∀{Y:af} {a b:Int},Y[s]?=some (aC a b)->eO 2 s Y (run tx n 503 [.ref s,.int 0] Y):=λhs=>Ey F.c hs;rcases hd with h | rfl | rfl | rfl | rfl | rfl
 ·exact lA 2 Q.e (a9 2)<|Et (x:=.c .none) H hs d h h0
 ·exact lA (k+2) Q.b Q.c<|Q2 H hs Q.a h0 hi
 ·exact lA (k+2) Q.b Q.c<|Q3 H hs Q.a h0 hi
 ·exact lA (k+2) Q.b Q.c<|Q5 H hA hz k1 Q.d h0 hi
 ·exact lA (k+2) Q.b Q.c<|Q7 H hA hz k1 Q.d h0 hi
 ·exact lA (k+2) Q.b Q.c<|Y7 H hA hz k1 Q.d h0 hi
theorem Ra (m:Nat):m<=3->∀(n:Nat),5+m<=n->∀{Y:af} {a b:Int},Y[s]?=some (aC a b)->∃k,k<=2 * m+2/\2<=k/\eO k s Y (run tx n 503 [.ref s,.int m] Y):=by
 induction m with
 |zero=>exact λM n hn Y a b hs=>lA 2 (a9 2) (a9 2)<|Ey hn hs
 |succ m ih=>
  intro hm n hn Y a b hs;refine aI (Ew hn) λn Uw lR=>?_;subst Uw;have F:=Nd lR;exact kg (iZ n F.a hs (by decide)<|by decide) λd a' b' d0 d1 e=>jI (ih (Nat.le_of_succ_le hm) n F.d<|cW hs a' b') λk k1 k2 hi=>Nf (Q9 hm k1) k2 F hs (Y0 d0 d1) (fk (aq (I rfl) ag<|gt_int<|dP<|Nc m) rfl<|aK (aa (I rfl)<|aa ag ae) e)<|sub_one m▸hi
end
def Gp:List (Str × V)->List (Str × V)->Bool
 | [],b=>b.isEmpty
 |p::r,b=>!b.isEmpty&&(decide (p.1=(b.headD (default,.none)).1)&&(V.beq p.2 (b.headD (default,.none)).2&&Gp r b.tail))
theorem Ez {a:ii}:∀{b:ii},Gp a b=true->a=b:=by
 induction a with
 |nil=>exact λh=>(isNil h).symm
 |cons p r ih=>
  intro b h;have h:=h;cases b with
  |nil=>exact Bool.noConfusion<|b1 h
  |cons q t=>
   have h2:=V.beq_eq<|b1<|b2<|b2 h
   rw[ih<|b2<|b2<|b2 h,show p=q from Prod.ext (od<|b1<|b2 h) h2];rfl
noncomputable def Cell.s:Cell->aG
 | .list l=>l
 |_=>[]
noncomputable def Cell.rows:Cell->ii
 | .dict l=>l
 | .dictX l _=>l
 |_=>[]
noncomputable def Cell.key:Cell->Str
 | .dictX _ k=>k
 |_=>default
noncomputable def Cell.nums:Cell->Nat × Nat
 | .inst C d=>(C,d)
 |_=>(0,0)
def Cell.beq (a b:Cell):Bool:=match a with
 | .list l=>b.ctorIdx==0&&V.qw l b.s
 | .dict l=>b.ctorIdx==1&&Gp l b.rows
 | .dictT _=>false
 | .inst C d=>b.ctorIdx==3&&(C.beq b.nums.1&&d.beq b.nums.2)
 | .dictX l k=>b.ctorIdx==4&&(Gp l b.rows&&decide (k=b.key))
theorem Cell.beq_eq {a b:Cell}(h:a.beq b=true):a=b:=by
 cases a with
 |list l=>exact @Cell.list.elim (λb=>V.qw l b.s=true->Cell.list l=b) b (ix<|b1 h) (λl' h=>bH _<|V.D9 h)<|b2 h
 |dict l=>exact @Cell.dict.elim (λb=>Gp l b.rows=true->Cell.dict l=b) b (ix<|b1 h) (λl' h=>bH _<|Ez h)<|b2 h
 |dictT l=>exact Bool.noConfusion h
 |inst C d=>exact @Cell.inst.elim (λb=>(C.beq b.nums.1&&d.beq b.nums.2)=true->Cell.inst C d=b) b (ix<|b1 h) (λC' d' h=>by rw[show C=C' from Nat.eq_of_beq_eq_true (b1 h),show d=d' from Nat.eq_of_beq_eq_true (b2 h)])<|b2 h
 |dictX l k=>exact @Cell.dictX.elim (λb=>(Gp l b.rows&&decide (k=b.key))=true->Cell.dictX l k=b) b (ix<|b1 h) (λl' k' h=>by rw[show l=l' from Ez (b1 h),show k=k' from od (b2 h)])<|b2 h
noncomputable def Db:af->af->Bool
 | [],_=>true
 |a::r,b=>!b.isEmpty&&(a.beq (b.headD<|.list [])&&Db r b.tail)
theorem qX {a:af}:∀{b:af},Db a b=true->∃J,b=a++J:=by
 induction a with
 |nil=>exact λ{b} M=>⟨b,rfl⟩
 |cons a r ih=>
  intro b h;have h:=h;cases b with
  |nil=>exact Bool.noConfusion<|b1 h
  |cons c t=>
   obtain⟨J,e⟩:=ih<|b2<|b2 h
   exact⟨J,by rw[show t=r++J from e,show a=c from Cell.beq_eq (b1<|b2 h)];rfl⟩
def Rb (π:List Nat)(l0 Y:af):Bool:=decide π.Nodup&&(π.length==l0.length)&&Ja l0&&(π.zip l0).all λp=>match Y[p.1]? with
 |some c=>c.beq<|p.2.ml<|at' π
 |none=>false
set_option tactic.hygienic true in
theorem Ng {π:List Nat}{l0 Y:af}(h:Rb π l0 Y=true):Emb π l0 Y:=by
 unfold Rb at h;simp only[kJ,mn,beq_iff_eq] at h;obtain⟨⟨⟨h1,h2⟩,h3⟩,h4⟩:=h;refine⟨h2,h1,λi c hc=>?_⟩;have hi:=(bM.mp hc).1;have hp:π[i]?=some (π[i]'(by omega)):=iG (by omega);have hz:(π.zip l0)[i]?=some (π[i]'(by omega),c):=by rw[List.getElem?_zip_eq_some];exact⟨hp,hc⟩
 have:=gn.mp h4 _<|fN hz
 dsimp only at this;split at this
 ·next c' e=>exact⟨_,hp,by rw[e,Cell.beq_eq this],gn.mp h3 c<|fN hc⟩
 ·cases this
def Jr (d:Nat)(k:Str)(Y:af):Option af:=(OB Y d).bind λl=>l.getLast?.bind λp=>if p.1=k then some (Y.set d<|.dictX l.dropLast k) else none
theorem Js {d:Nat}{k:Str}{Y Y':af}(h:Jr d k Y=some Y'):I9 Y Y':=
 jd h λl e h=>jd h λp e' h=>Cx h λhk h=>by
  rw[<-aT h];refine I9.CX (v:=p.2) ?_;have dS:l≠[]:=λq=>by rw[q] at e';exact fB e'
  rw[List.getLast?_eq_some_getLast dS] at e';rw[Cw e,<-((aT e').trans (by rw[<-hk]):l.getLast dS=(k,p.2)),List.dropLast_concat_getLast dS]
def W:af:=[.dictX [(dM,.ref 2),(dB,.ref 3),(dK,.ref 9),(bq,.ref 10),(kh,.ref 11)] ji,
 .inst 367 0,
 .dict [(z_,.str bU),(cx,.str bl),(ms,.str bl),(cD,.str im),(iU,.str im),(un,.str bU),(fR,.str im)],
 .dict [(z_,.bool true),(cx,.bool true),(ms,.bool true),(cD,.bool true),(iU,.bool true),(un,.bool true),(fR,.bool true)],
 .dict [(gd,.ref 6),(gu,.ref 7),(gv,.ref 8)],
 .inst 236 4,
 .dict [(cx,.str cx),(ms,.str ms),(cD,.str cD),(iU,.str iU),(un,.str un)],
 .dict [(cx,.str cx),(ms,.str ms)],
 .dict [],
 .dict [(z_,.ref 5),(un,.ref 13)],
 .dict [(cx,.U [.U [],.U []]),(ms,.U [.U [.str fF],.U [.str lW]]),(cD,.U [.U [],.U []]),(iU,.U [.U [],.U [.str Hw]]),(fR,.U [.U [],.U []])],
 .dict [(cx,.U [.str bl,.int 0,.str cx,.U [.U [],.U []],.str mR,.U [],.bool true]),(ms,.U [.str bl,.int 0,.str ms,.U [.U [.str fF],.U [.U [.str lW,.U []]]],.str mR,.U [],.bool true]),(cD,.U [.str im,.int 0,.str cD,.U [.U [],.U []],.U [],.bool true]),(iU,.U [.str im,.int 0,.str iU,.U [.U [],.U [.U [.str Hw,.U []]]],.U [],.bool true]),(fR,.U [.str im,.int 0,.str cD,.U [.U [],.U []],.U [],.bool true])],
 .dict [(gd,.ref 14),(gu,.ref 15),(gv,.ref 16)],
 .inst 236 12,
 .dict [(cD,.str fR)],
 .dict [],
 .dict []]
noncomputable def OX:List Nat:=[5,6,7,8,9,10,11,12,13,14,15,16,36,37,38,39,40]
noncomputable def Vd (r:Res V)(f:V->af->Bool):Bool:=@Res.casesOn V (λM=>Bool) r f (λM M=>false) false
noncomputable def Rc (r:Res V)(f:Nat->af->Bool):Bool:=@Res.casesOn V (λM=>Bool) r (λM M=>false) f false
theorem yN {r:Res V}{f:V->af->Bool}(h:Vd r f=true):∃v Y,r=.ok v Y/\f v Y=true:=by
 cases r with
 |ok v Y=>exact jX v Y rfl h
 |exc C Y=>exact Bool.noConfusion h
 |stuck=>exact Bool.noConfusion h
theorem EA {r:Res V}{f:Nat->af->Bool}(h:Rc r f=true):∃C Y,r=.exc C Y/\f C Y=true:=by
 cases r with
 |ok v Y=>exact Bool.noConfusion h
 |exc C Y=>exact jX C Y rfl h
 |stuck=>exact Bool.noConfusion h
def Rd:Bool:=Vd (run tx 20 479 [] []) λv Y=>V.beq v (.ref 6)&&(Jr 5 ji Y).elim false λY'=>Rb OX W Y'
theorem A2:Rd=true:=by k_all
def findB (names:cY)(path:Str):Bool:=Vd (run tx 12 302 [.ref 1,.str z_,.U<|names.map .str,.str aB,.int 0] W) λv Y=>V.beq v (.str path)&&Db W Y
def Ve (names:cY):Bool:=Rc (run tx 12 302 [.ref 1,.str z_,.U<|names.map .str,.str aB,.int 0] W) λC Y=>Nat.beq C 52&&Db W Y
def Re:Bool:=Vd (run tx 30 522 [.ref 1] W) λv Y=>V.beq v (.bool true)&&Db W Y
def ma:List (cY × Str):=[([cx],cx),([ms],ms),([cD],cD),([un,cD],fR),([aQ,cD],cD),([iU],iU)]
theorem A3:ma.all (λp=>findB p.1 p.2)=true:=by k_all
theorem Dc:Ve [sZ]=true:=by k_all
theorem A4:Re=true:=by k_all
theorem xm:Ja W=true:=by k_all
theorem sG:W.length=17:=by k_all
section
variable {gx:Gx}
theorem Dd (H:nP gx tx):cT (2 * (6 * 20)) 479 [] [] (.ok (.ref 1) W):=by
 have d:=(H.run 20).pr (f:=479) (vs:=[]) (Y:=[]);refine gm (yN A2) λv Y e h=>?_;have h:=fO.mp h;rw[e,V.beq_eq h.1] at d;cases e':Jr 5 ji Y with
 |none=>rw[e'] at h;exact Bool.noConfusion h.2
 |some Y'=>
  rw[e'] at h;exact cT.gc (π:=OX) (v:=.ref 1) (al:=Y') (d.post<|Js e') ⟨Ng h.2,λi hi=>absurd hi<|Nat.not_lt_zero i⟩ (by rw[sG];rfl)
theorem Gq (H:nP gx tx){names:cY}{path:Str}(h:(names,path)∈ma):cT (2 * (6 * 12)) 302 [.ref 1,.str z_,.U<|names.map .str,.str aB,.int 0] W (.ok (.str path) W):=by
 have d:=(H.run 12).pr (f:=302) (vs:=[.ref 1,.str z_,.U<|names.map .str,.str aB,.int 0]) (Y:=W);refine gm (yN<|gn.mp A3 _ h) λv Y e h=>?_;have h:=fO.mp h;refine aM (qX h.2) λJ e'=>?_;rw[e,V.beq_eq h.1,e'] at d;exact d.drop xm (a9 _) rfl
theorem Gr (H:nP gx tx):cT (2 * (6 * 12)) 302 [.ref 1,.str z_,.U<|[sZ].map .str,.str aB,.int 0] W (.exc 52 W):=by
 have d:=(H.run 12).pr (f:=302) (vs:=[.ref 1,.str z_,.U<|[sZ].map .str,.str aB,.int 0]) (Y:=W);refine gm (EA Dc) λC Y e h=>?_;have h:=fO.mp h;refine aM (qX h.2) λJ e'=>?_;rw[e,Nat.eq_of_beq_eq_true h.1,e'] at d;exact d.OS xm<|a9 _
theorem De (H:nP gx tx):cT (2 * (6 * 30)) 522 [.ref 1] W (.ok (.bool true) W):=by
 have d:=(H.run 30).pr (f:=522) (vs:=[.ref 1]) (Y:=W);refine gm (yN A4) λv Y e h=>?_;have h:=fO.mp h;refine aM (qX h.2) λJ e'=>?_;rw[e,V.beq_eq h.1,e'] at d;exact d.drop xm (a9 _) rfl
end
section
variable {O:ar} {N loc':Loc} {Y al ax:af} {x y c:X} {l r:List X} {v u:V} {all acc:aG} {C W:Nat} {s:S}
theorem vm (h:aV O x N Y=.exc C al):nN O (x::r) N Y=.exc C al:=dz h
theorem vn (h:aV O x N Y=.ok v al)(k:nN O r N al=.exc C ax):nN O (x::r) N Y=.exc C ax:=aJ h<|dz k
theorem vo (h:nN O l N Y=.exc C al):aV O (.U l) N Y=.exc C al:=dz h
theorem EB {d:Bi}(h:nN O l N Y=.exc C al):aV O (.bi d l) N Y=.exc C al:=dz h
theorem xn {fr:List (Option Nat)}{ts:List Nat}{cond:List X}{elt:X}(h:aV O x N Y=.ok u al)(q:cG al u=some all)(k:dk (iL O (frees fr N) ts cond elt) u all all [] al=.exc C ax):aV O (.comp fr ts x cond elt) N Y=.exc C ax:=aJ h<|cq q<|dz k
theorem EC {f:V->List V->af->Res (aG)}{rest:aG}(h:f v acc Y=.exc C al):dk f u all (v::rest) acc Y=.exc C al:=dz h
theorem ED {fr:Loc}{ts:List Nat}{elt:X}(h:dv Y ts v fr=some loc')(q:aV O elt loc' Y=.exc C ax):iL O fr ts [] elt v acc Y=.exc C ax:=cq h<|aJ cH<|dz q
theorem oJ (h:aV O x N Y=.exc C al):nO O W (.ret x) N Y=.exc C al:=dz h
theorem qY {t:T}(h:aV O x N Y=.exc C al):nO O W (.set t x) N Y=.exc C al:=dz h
end
def excOf (s:Str):Nat:=df (decide (s=aH)) 52 76
def told (d:V)(Y:af):Res V:=match d with
 | .str s=>.exc (excOf s) Y
 |v=>.ok v Y
section
variable {Y J:af} {m r g:Nat}
theorem Emb.push {π:List Nat}{l0:af}(E:Emb π l0 Y):Emb π l0 (Y++J) where
 len:=E.len
 nd:=E.nd
 cell:=λi c hc=>by
  refine jI (E.cell i c hc) λj h1 h2 h3=>?_;exact lA j h1 (by rw[iE (bM.mp h2).1];exact h2) h3
def ch (m:Nat)(Y:af):Prop:=∃π,Emb π W Y/\π[1]?=some m
theorem ch.push (h:ch m Y):ch m (Y++J):=by obtain⟨π,E,e⟩:=h;exact⟨π,E.push,e⟩
abbrev qc (m g:Nat):ii:=[(gG,.ref m),(kP,.str z_),(bq,.ref g),(iH,.none),(tF,.none)]
structure gD (r m:Nat)(Y:af):Prop where
 mG:ch m Y
 obj:∃d g,Y[r]?=some (.inst 139 d)/\Y[d]?=some (.dict<|qc m g)/\Y[g]?=some (.list [.str lW])
theorem cF {i:Nat}{c:Cell}(h:Y[i]?=some c):(Y++J)[i]?=some c:=by rw[iE (bM.mp h).1];exact h
theorem gD.push (h:gD r m Y):gD r m (Y++J):=⟨h.mG.push,by obtain⟨d,g,h1,h2,h3⟩:=h.obj;exact⟨d,g,cF h1,cF h2,cF h3⟩⟩
theorem gD.may (h:gD r m Y){n:Str}(hn:uo.attrs 139 n=true):db Y (.ref r) n=true:=by
 exact cZ h.obj λd g h1 h2 M=>yH h1 h2 hn<|aN rfl
theorem gD.attr (h:gD r m Y):∃g,Y[g]?=some (.list [.str lW])/\∀n v,aL (qc m g) n=some v->jN Y (.ref r) n=some v:=by
 exact cZ h.obj λd g h1 h2 h3=>bD g h3 λn v hv=>yG h1 h2 hv
theorem gD.bG (h:gD r m Y){n:Str}{f:Nat}(hn:uo.bG 139 n=some f)(hd:∀g,aL (qc m g) n=none):eV Y (.ref r) n=some f:=by
 refine cZ h.obj λd g h1 h2 M=>?_;exact El h1 h2 (by rw[hd g];rfl) hn
theorem ch.facts (h:ch m Y):∃k2 W0,db Y (.ref m) dM=true/\jN Y (.ref m) dM=some (.ref k2)/\db Y (.ref m) bq=true/\jN Y (.ref m) bq=some (.ref W0)/\eV Y (.ref m) kO=some 302/\
  (∀p v,cb W (.ref 2) (.str p)=some v->cb Y (.ref k2) (.str p)=some v)/\(∀p v,cb W (.ref 10) (.str p)=some v->cb Y (.ref W0) (.str p)=some v):=by
 refine aI h fun π E e1=>?_;have hl:=sG;have get:∀i:Nat,i<17->∃j,π[i]?=some j/\at' π i=j:=λi hi=>by
  have:i<π.length:=by rw[E.len];assumption
  exact bD (π[i]) (iG this)<|m8<|iG this
 refine aI (get 0<|aN rfl) λj0 p0 q0=>aI (get 2<|aN rfl) λj2 p2 q2=>aI (get 10<|aN rfl) λj10 p10 q10=>?_;have cell:∀(i j:Nat) (c:Cell),π[i]?=some j->W[i]?=some c->Y[j]?=some (c.ml<|at' π):=λi j c hp hc=>by
  refine jI (E.cell i c hc) λj' h1 h2 M=>?_;rw[hp] at h1;cases h1;exact h2
 have c1:=cell 1 m _ e1<|show W[1]?=some (.inst 367 0) by rfl
 have c0:=cell 0 j0 _ p0<|show W[0]?=some (.dictX [(dM,.ref 2),(dB,.ref 3),(dK,.ref 9),(bq,.ref 10),(kh,.ref 11)] ji) by rfl
 obtain⟨kr,hk⟩:∃kr,W[2]?=some (.dict kr):=⟨_,rfl⟩;obtain⟨gr,hg⟩:∃gr,W[10]?=some (.dict gr):=⟨_,rfl⟩;have hkr:uW (at' π) kr=kr:=o6 (k:=0) (λi hi=>by omega) kr (by cases hk;rfl);have hgr:uW (at' π) gr=gr:=o6 (k:=0) (λi hi=>by omega) gr (by cases hg;rfl);have c2:=cell 2 j2 _ p2 hk;have c10:=cell 10 j10 _ p10 hg;rw[Cell.ml,hkr] at c2;rw[Cell.ml,hgr] at c10;rw[Cell.ml,q0] at c1;have c0:Y[j0]?=some (.dictX [(dM,.ref j2),(dB,.ref<|at' π 3),(dK,.ref<|at' π 9),(bq,.ref j10),(kh,.ref<|at' π 11)] ji):=by
  rw[c0,<-q2,<-q10];rfl
 refine Sv j2 j10<|ya7 (Eo c1 c0 rfl rfl) (AV c1 c0 rfl (by decide) rfl) (Eo c1 c0 rfl rfl) (AV c1 c0 rfl (by decide) rfl) (Jc c1 c0 rfl (by decide) rfl rfl) (λp v hv=>?_) λp v hv=>?_
 ·rw[oH hk] at hv;exact(oH c2).trans hv
 ·rw[oH hg] at hv;exact(oH c10).trans hv
end
section
variable {O:ar} {Y:af} {m r k:Nat}
theorem Vf {rg rd:V}(h:wj rg rd):bk tx O 86 [rg,.int 0] Y=df (isName rd) (.exc 52 Y) (.ok rd Y):=by
 cases h with
 |none=>k_all
 |any=>k_all
 |named s hs=>
  rcases aX.mp hs with rfl | hs
  ·k_all
  rcases aX.mp hs with rfl | hs
  ·k_all
  ·rw[cK.mp hs];k_all
 |bad s hs=>
  rcases aX.mp hs with rfl | hs
  ·k_all
  ·rw[cK.mp hs];k_all
theorem ll {s:Str}:told (.str s) Y=.exc (excOf s) Y:=rfl
theorem lP {d:V}(h:lh d=false):told d Y=.ok d Y:=by
 cases d<;>first | rfl | cases h
theorem jE {d:V}(h:lh d=true):∃s,d=.str s:=by
 cases d with
 |str s=>exact⟨s,rfl⟩
 |_=>cases h
structure Vg (O:ar)(r m:Nat):Prop where
 reg:∀{Y:af} {rg rd:V},wj rg rd->O 86 [rg,.int 0] Y=df (isName rd) (.exc 52 Y) (.ok rd Y)
def iM (r m:Nat)(O:ar)(w d:V):Prop:=∀{Y:af},gD r m Y->∃J,O 105 [.ref r,w] Y=told d (Y++J)
theorem o8 (h:gD r m Y):eV Y (.ref r) jh=some 105:=h.bG rfl λM=>rfl
theorem Nh (h:gD r m Y):eV Y (.ref r) lU=some 117:=h.bG rfl λM=>rfl
theorem iq:Y++[]=Y:=gp Y
theorem Jt (H:Vg O r m){rg rd w d:V}(hr:wj rg rd)(hd:fV k d)(h:iM r m O w d)(b:Bool):iM r m (bk tx O) (.U [.str qv,.int 0,rg,.bool b,w]) (qa rd b d):=by
 intro Y fy;have Lr:=H.reg (Y:=Y) hr;have em:=o8 fy;refine aM (h fy) λJ e=>?_;cases hN:isName rd<;>rw[hN] at Lr
 ·cases hF:lh d
  ·rw[lP hF] at e;refine⟨J,?_⟩;unfold qa;rw[hN,hF];show _=Res.ok _ _;apply dW (i:=Cm) rfl rfl rfl
   repeat (intro w;first | exact w | refine(?_:_->_) (w<|by first | (with_reducible first | exact em | exact Lr | exact e | assumption) | first | exact em | exact Lr | exact e | assumption | exact eq_int | exact rfl))
  ·refine aM (jE hF) λs dZ=>?_;subst dZ;rw[ll] at e;refine⟨J,?_⟩;unfold qa;rw[hN,hF];show _=Res.exc _ _;apply dW (i:=Cm) rfl rfl rfl
   repeat (intro w;first | exact w | refine(?_:_->_) (w<|by first | (with_reducible first | exact Lr | exact em | exact e | assumption) | first | exact Lr | exact em | exact e | assumption | exact eq_int | exact rfl))
 ·refine⟨[],?_⟩;unfold qa;rw[hN,iq];show _=Res.exc 52 _;apply dW (i:=Cm) rfl rfl rfl
  repeat (intro w;first | exact w | refine(?_:_->_) (w<|by first | (with_reducible first | exact Lr | assumption) | first | exact Lr | assumption | exact eq_int | exact rfl))
theorem Ju {w d:V}{n:Int}(hd:fV k d)(h:iM r m O w d):iM r m (bk tx O) (.U [.str ki,.int 0,w,.int n]) (vj n d):=by
 intro Y fy;have em:=o8 fy;refine aM (h fy) λJ e=>?_;unfold vj;cases hN:decide (10000<n)
 ·have eg:=gt_int (Y:=Y) hN;cases hF:lh d
  ·rw[lP hF] at e;refine⟨J,?_⟩;show _=Res.ok _ _;apply dW rfl rfl rfl
   repeat (intro w;first | exact w | refine(?_:_->_) (w<|by first | (with_reducible first | exact em | exact eg | exact e | assumption) | first | exact em | exact eg | exact e | assumption | exact eq_int | exact rfl))
  ·refine aM (jE hF) λs mu=>?_;subst mu;rw[ll] at e;refine⟨J,?_⟩;show _=Res.exc _ _;apply dW rfl rfl rfl
   repeat (intro w;first | exact w | refine(?_:_->_) (w<|by first | (with_reducible first | exact eg | exact em | exact e | assumption) | first | exact eg | exact em | exact e | assumption | exact eq_int | exact rfl))
 ·have eg:=gt_int (Y:=Y) hN;refine⟨[],?_⟩;rw[iq];show _=Res.exc 76 _;apply dW rfl rfl rfl
  repeat (intro w;first | exact w | refine(?_:_->_) (w<|by first | (with_reducible first | exact eg | assumption) | first | exact eg | assumption | exact eq_int | exact rfl))
theorem Gs {src:V}{all:aG}(hs:∀Y,same Y src all=true){ws:aG}:∀{ds:aG} {Y:af} (acc:aG),gD r m Y->(∀p∈ws.zip ds,iM r m O p.1 p.2)->ws.length=ds.length->acc.length+ws.length<1000->
  ∃J,dk (iL O [none,none,some<|.ref r] [1] []<|.bG (.l 2) jh [.l 1]) src all ws acc Y=(match ds.find? lh with
   |some (.str s)=>.exc (excOf s) (Y++J)
   |_=>.ok (acc++ds) (Y++J)):=by
 induction ws with
 |nil=>
  intro ds Y acc _ _ hl _;cases ds with
  |nil=>exact⟨[],by rw[b8,iq,gp];rfl⟩
  |cons=>exact Nat.noConfusion hl
 |cons w ws ih=>
  intro ds Y acc fy h hl ha;cases ds with
  |nil=>exact Nat.noConfusion hl
  |cons d ds=>
   rw[dE] at ha;refine aM (h (w,d) (.head _) fy) λJ e=>?_;have ev:∀R,O 105 [.ref r,w] Y=R->aV O (.bG (.l 2) jh [.l 1]) [none,some w,some<|.ref r] Y=R:=λR h=>bO (I rfl) (o8 fy) (aa (I rfl) ae) h;cases hF:lh d
   ·dsimp only at e;rw[lP hF] at e;refine aM (ih (ds:=ds) (acc++[d]) (fy.push (J:=J)) (λp hp=>h p<|.tail _ hp) (jH hl)<|iQ ‹_›) λJ' e'=>⟨J++J',?_⟩;rw[wz (by rw[hF];decide),<-bQ,show acc++d::ds=acc++[d]++ds by simp];exact bo (dC rfl cH (ev _ e)<|iR ‹_› rfl) (hs _) e'
   ·refine aM (jE hF) λs uu=>?_;subst uu;refine⟨J,?_⟩;rw[List.find?_cons_of_pos<|by rw[hF]];exact EC<|ED rfl<|ev _ e
theorem A5 {N:Loc}{x:X}{ws ds:aG}(hx:∀{Y:af},gD r m Y->aV O x N Y=.ok (.U ws) Y)(hf:frees [none,none,some 0] N=[none,none,some<|.ref r])(h:∀p∈ws.zip ds,iM r m O p.1 p.2)(hl:ws.length=ds.length)(ha:ws.length<1000)(fy:gD r m Y):
  ∃J,aV O (.bi .tuple [.comp [none,none,some 0] [1] x []<|.bG (.l 2) jh [.l 1]]) N Y=(match ds.find? lh with
   |some (.str s)=>.exc (excOf s) (Y++J)
   |_=>.ok (.U ds) (Y++J)):=by
 refine aM (Gs (O:=O) (src:=.U ws) (all:=ws) (λM=>rfl) (ds:=ds) [] fy h hl<|by simpa using ha) λJ e=>?_;rw[<-hf] at e;cases hd:ds.find? lh with
 |none=>
  rw[hd] at e;refine⟨J++[.list ds],?_⟩;rw[<-bQ];exact cL (aa (dU (hx fy) rfl e) ae)<|b9 (cE ao)<|by omega
 |some f=>
  refine aM (jE<|List.find?_some hd) λs An=>?_;subst An;rw[hd] at e;exact⟨J,EB<|vm<|xn (hx fy) rfl e⟩
theorem vp (ds:aG):(∃s,ds.find? lh=some (.str s)/\wholeOf ds=.str s)∨(ds.find? lh=none/\wholeOf ds=.U ds):=by
 cases h:ds.find? lh with
 |none=>exact .inr ⟨rfl,by unfold wholeOf;rw[h]⟩
 |some f=>
  refine aM (jE<|List.find?_some h) λs FU=>?_;subst FU;exact .inl<|bD s rfl (by unfold wholeOf;rw[h])
theorem Jv {ws ds:aG}(h:∀p∈ws.zip ds,iM r m O p.1 p.2)(hl:ws.length=ds.length)(ha:ws.length<1000):iM r m (bk tx O) (.U [.str fj,.int 0,.U ws]) (vk ds):=by
 intro Y fy;refine aM (A5 (O:=O) (N:=[some<|.ref r,some<|.U [.str fj,.int 0,.U ws],some<|.str fj,some<|.int 0,none,none,none,none]) (x:=.i (.l 1)<|.xi 2) (λM=>aF (I rfl) ag rfl) rfl h hl ha fy) λJ e=>⟨J,?_⟩;unfold vk;rcases vp ds with ⟨s,h1,h2⟩ | ⟨h1,h2⟩<;>rw[h1] at e<;>rw[h2]
 ·show _=Res.exc _ _;apply gj rfl rfl rfl;dsimp only[Cm];apply ah
  ·(first | apply dr | apply dq | apply bE)
   repeat wp_step
  apply ah
  ·(first | apply dr | apply dq | apply bE)
   repeat wp_step
  apply ah
  ·(first | apply dr | apply dq | apply bE)
   repeat wp_step
  apply cP;apply bj
  ·(first | apply dr | apply dq | apply bE)
   repeat wp_step
  ·rfl
  apply cP;apply oJ;apply vo;apply vn ag;exact vm e
 ·show _=Res.ok (V.U [.str fj,.U ds]) _;apply bf (i:=Cm) (R:=(some<|.U [.str fj,.U ds],_)) rfl rfl rfl;dsimp only[Cm];apply ah
  ·(first | apply dr | apply dq | apply bE)
   repeat wp_step
  apply ah
  ·(first | apply dr | apply dq | apply bE)
   repeat wp_step
  apply ah
  ·(first | apply dr | apply dq | apply bE)
   repeat wp_step
  apply ah
  ·apply QV
   ·(first | apply dr | apply dq | apply bE)
    repeat wp_step
   ·exact(rfl:_=some true)
   ·apply ah
    ·exact bL<|aS<|aa ag<|aa e ae
    ·rfl
  ·rfl
end
section
variable {O:ar} {Y:af} {m r:Nat}
noncomputable abbrev dh (n:Str)(rs ts:V):V:=.U [.str n,rs,ts]
def nj (r m:Nat)(O:ar)(n:Str)(rs ts d:V):Prop:=∀{Y:af},gD r m Y->∃J,O 117 [.ref r,.int 0,.U [dh n rs ts]] Y=told d (Y++J)
variable {n:Str} {rs ts d:V}
theorem pe (hd:lh d=true∨lh d=false)(h:nj r m O n rs ts d):iM r m (bk tx O) (eF n rs ts) d:=by
 intro Y fy;have em:=Nh fy;obtain⟨J,e⟩:=h fy;refine⟨J,?_⟩;rcases hd with hF | hF
 ·obtain⟨s,rfl⟩:=jE hF;rw[ll] at e⊢;apply dW rfl rfl rfl
  repeat (intro w;first | exact w | refine(?_:_->_) (w<|by first | (with_reducible first | exact em | exact e | assumption) | first | exact em | exact e | assumption | exact eq_int | exact rfl))
 ·rw[lP hF] at e⊢;apply dW rfl rfl rfl
  repeat (intro w;first | exact w | refine(?_:_->_) (w<|by first | (with_reducible first | exact em | exact e | assumption) | first | exact em | exact e | assumption | exact eq_int | exact rfl))
theorem xo (h:gD r m Y):eV Y (.ref r) qu=some 124:=h.bG rfl λM=>rfl
theorem Jw (h:gD r m Y):eV Y (.ref r) mP=some 136:=h.bG rfl λM=>rfl
theorem Ni (h:gD r m Y):eV Y (.ref r) pN=some 131:=h.bG rfl λM=>rfl
theorem vq {row:V}(aa1:∀Y,cb Y row (.int 0)=some (.str n)){N:Loc}(hl:N[2]?=some (some<|.U [row])):aV O (.bi .tuple [.comp [none,none] [1] (.l 2) []<|.i (.l 1)<|.xi 0]) N Y=.ok (.U [.str n]) (Y++[.list [.str n]]):=
 cL (aa (dU (I hl) rfl<|bo (dC rfl cH (aF (I rfl) ag<|aa1 Y)<|aN rfl) rfl b8) ae) (b9 (cE ao)<|aN rfl)
theorem sH (hd:lh d=true∨lh d=false)(hn:lh d=false->d≠.none)(h:∀{Y:af},gD r m Y->∃J,O 124 [.ref r,.int 0,dh n rs ts] Y=told d (Y++J)):nj r m (bk tx O) n rs ts d:=by
 intro Y fy;have Dg:=fy.push (J:=[Cell.list [V.str n]]);have em:=xo Dg;obtain⟨J,e⟩:=h Dg;have e1:∀N:Loc,N[2]?=some (some<|.U [dh n rs ts])->aV O (.bi .tuple [.comp [none,none] [1] (.l 2) []<|.i (.l 1)<|.xi 0]) N Y=.ok (.U [.str n]) (Y++[.list [.str n]]):=λN hl=>vq (λM=>rfl) hl;refine⟨[.list [.str n]]++J,?_⟩;rw[<-bQ];rcases hd with hF | hF
 ·obtain⟨s,rfl⟩:=jE hF;rw[ll] at e⊢;apply run_set (e1 _ rfl) (i:=Cn) rfl rfl rfl rfl
  repeat wp_step
 ·rw[lP hF] at e⊢;have e2:cy (Y++[Cell.list [V.str n]]++J) .IsNot d .none=some true:=by
   have:=hn hF;cases d<;>first | rfl | exact absurd rfl this
  apply run_set (e1 _ rfl) (i:=Cn) rfl rfl rfl rfl
  repeat wp_step
theorem vr (hd:lh d=true∨lh d=false)(hs:∀{Y:af},gD r m Y->∃J,O 124 [.ref r,.int 0,dh n rs ts] Y=.ok .none (Y++J))(h:∀{Y:af},gD r m Y->∃J,O 136 [.ref r,.int 0,.U [.str n],dh n rs ts] Y=told d (Y++J)):nj r m (bk tx O) n rs ts d:=by
 intro Y fy;have Dg:=fy.push (J:=[Cell.list [V.str n]]);obtain⟨J,e⟩:=hs Dg;have C8:=Dg.push (J:=J);have em2:=Jw C8;obtain⟨J',e'⟩:=h C8;have e1:∀N:Loc,N[2]?=some (some<|.U [dh n rs ts])->aV O (.bi .tuple [.comp [none,none] [1] (.l 2) []<|.i (.l 1)<|.xi 0]) N Y=.ok (.U [.str n]) (Y++[.list [.str n]]):=λN hl=>vq (λM=>rfl) hl;refine⟨[.list [.str n]]++J++J',?_⟩;rw[<-bQ,<-bQ];have pre:∀{RF:Res fc},bZ O 400 [.ret<|.bG (.l 0) mP [.l 1,.l 4,.i (.l 2)<|.xi (-1)]] [some<|.ref r,some<|.int 0,some<|.U [dh n rs ts],none,some<|.U [.str n],some .none,none,none,none] (Y++[Cell.list [V.str n]]++J)=RF->
   bZ O 400 Cn.body [some<|.ref r,some<|.int 0,some<|.U [dh n rs ts],ai,ai,ai,ai,ai,ai] Y=RF:=λ{RF} h=>by
  dsimp only[Cn];refine ah (az (e1 _ rfl) aD)<|ah (bj (aq (cL (aa (I rfl) ae) rfl) ag eq_int) rfl<|ah (az (bO (I rfl) (xo Dg) (aa (I rfl)<|aa (aF (I rfl) ag rfl) ae) e) aD)<|ah (aA (aq (I rfl) ag rfl) rfl ay) ay)<|ah (gB (vc (I rfl) ag rfl) rfl rfl) h
 rcases hd with hF | hF
 ·obtain⟨s,rfl⟩:=jE hF;rw[ll] at e'⊢;apply gj (i:=Cn) rfl rfl rfl;apply pre;apply bE
  repeat wp_step
 ·rw[lP hF] at e'⊢;apply bf (i:=Cn) (R:=(some d,_)) rfl rfl rfl;apply pre;apply bE
  repeat wp_step
end
section
variable {O:ar} {Y:af} {m r:Nat}
theorem Jx {told:V}{n:Str}:bk tx O 131 [.ref r,.int 0,dh n (.U [])<|.U [],told] Y=.ok told Y:=by
 have e0:=lN (Y:=Y) (l:=[]);apply dW (i:=TW) rfl rfl rfl
 repeat (intro w;first | exact w | refine(?_:_->_) (w<|by first | (with_reducible first | exact e0 | assumption) | first | exact e0 | assumption | exact eq_int | exact rfl))
theorem Gu (hb:∀{Y:af} {told:V} {n:Str},O 131 [.ref r,.int 0,dh n (.U [])<|.U [],told] Y=.ok told Y)(fy:gD r m Y):bk tx O 124 [.ref r,.int 0,dh ft (.U [])<|.U []] Y=.ok (.U [.str pD,.str ft]) Y:=by
 refine aI fy.attr λg hg ha=>?_;have a1:db Y (.ref r) bq=true:=fy.may rfl;have a2:jN Y (.ref r) bq=some (.ref g):=ha _ _ rfl;have a3:=in_str (s:=ft) hg (ts:=[lW]) rfl;have em:=Ni fy;apply dW (i:=z6) rfl rfl rfl
 repeat (intro w;first | exact w | refine(?_:_->_) (w<|by first | (with_reducible first | exact a1 | exact a2 | exact a3 | exact em | exact hb | assumption) | first | exact a1 | exact a2 | exact a3 | exact em | exact hb | assumption | exact eq_int | exact rfl))
theorem sI {n:Str}(hn:n=cx∨n=ms){rs ts:V}(fy:gD r m Y):bk tx O 124 [.ref r,.int 0,dh n rs ts] Y=.ok .none Y:=by
 refine aI fy.attr λg hg ha=>?_;have a1:db Y (.ref r) bq=true:=fy.may rfl;have a2:jN Y (.ref r) bq=some (.ref g):=ha _ _ rfl;have a3:=in_str (s:=n) hg (ts:=[lW]) rfl;rcases hn with rfl | rfl
 all_goals
  apply dW (i:=z6) rfl rfl rfl
  repeat (intro w;first | exact w | refine(?_:_->_) (w<|by first | (with_reducible first | exact a1 | exact a2 | exact a3 | assumption) | first | exact a1 | exact a2 | exact a3 | assumption | exact eq_int | exact rfl))
theorem Dh {rs jy ws ds:aG}(hr:nJ rs jy)(h:∀p∈ws.zip ds,iM r m O p.1 p.2)(hl:ws.length=ds.length)(ha:ws.length<1000)(fy:gD r m Y):∃J,bk tx O 124 [.ref r,.int 0,dh cU (.U rs)<|.U ws] Y=told (fK rs ds) (Y++J):=by
 refine aI fy.attr λg hg SL=>?_;have a1:db Y (.ref r) bq=true:=fy.may rfl;have a2:jN Y (.ref r) bq=some (.ref g):=SL _ _ rfl;have a3:=in_str (s:=cU) hg (ts:=[lW]) rfl;have em:=o8 fy;have e0:=lN (Y:=Y) (l:=rs);have il:vS Y .len [.U ws]=.ok (.int ws.length) Y:=nh rfl<|lt_num ‹_› rfl
 have e1:=ne_int (Y:=Y) (i:=ws.length) (j:=1);have pre:∀{RF:Res fc},bZ O 400 [.ite (.or [.m .NotEq (.l 4)<|.U [],.m .NotEq (.bi .len [.l 5])<|.xi 1]) [.raise 76 (.xs Ht)<|.l 1] [],.ret<|.U [.xs pF,.bG (.l 0) jh [.i (.l 5)<|.xi 0]]] [some<|.ref r,some<|.int 0,some<|dh cU (.U rs)<|.U ws,some<|.str cU,some<|.U rs,some<|.U ws,none,none,none] Y=RF->
   bZ O 400 z6.body [some<|.ref r,some<|.int 0,some<|dh cU (.U rs)<|.U ws,ai,ai,ai,ai,ai,ai] Y=RF:=λ{RF} h=>by
  dsimp only[z6];apply ah
  ·(first | apply dr | apply dq | apply bE)
   repeat wp_step
  apply ah
  ·(first | apply dr | apply dq | apply bE)
   repeat wp_step
  apply ah
  ·(first | apply dr | apply dq | apply bE)
   repeat wp_step
  apply ah
  ·(first | apply dr | apply dq | apply bE)
   repeat wp_step
  apply ah
  ·(first | apply dr | apply dq | apply bE)
   repeat wp_step
  apply ah
  ·(first | apply dr | apply dq | apply bE)
   repeat wp_step
  exact h
 by_cases hbad:rs.isEmpty=false∨¬ws.length=1
 ·have DO:fK rs ds=.str aB:=by
   unfold fK;refine aY hbad (λh0=>?_) λh0=>?_
   ·rw[h0];rfl
   ·have:(ds.length==1)=false:=by simpa using (by omega:¬ds.length=1)
    rw[this,Bool.not_false,Bool.or_true]
  refine⟨[],?_⟩;rw[DO,iq];show _=Res.exc 76 _;apply gj (i:=z6) rfl rfl rfl;apply pre;apply cP;apply bj (v:=.bool true) (al:=Y)
  ·apply ic;cases he:rs.isEmpty<;>rw[he] at e0
   ·exact l8 (aq (I rfl) (aS ae) e0) rfl
   ·have h0:¬ws.length=1:=by
     refine aY hbad (λh0=>?_) λh0=>?_
     ·rw[he] at h0;cases h0
     ·exact h0
    rw[eN<|show¬((ws.length:Int)=1) by omega] at e1;exact f6 (aq (I rfl) (aS ae) e0) rfl<|f0<|aq (cL (aa (I rfl) ae) il) ag e1
  ·rfl
  apply cP
  (first | apply dr | apply dq | apply bE)
  repeat wp_step
 ·have he:rs.isEmpty=true:=by
   cases q:rs.isEmpty
   ·exact absurd (.inl q) hbad
   ·rfl
  have h1:ws.length=1:=by
   apply Classical.byContradiction;exact λq=>hbad<|.inr q
  rw[he] at e0;rw[dP<|show((ws.length:Int)=1) by omega] at e1;refine aM (wx.mp h1) λw dZ=>?_;subst dZ;refine aM (wx.mp<|hl.symm.trans h1) λd mu=>?_;subst mu;refine aM (h (w,d) (.head _) fy) λJ e=>?_;dsimp only at e;refine⟨J,?_⟩;have hc:nO O 400 (.ite (.or [.m .NotEq (.l 4)<|.U [],.m .NotEq (.bi .len [.l 5])<|.xi 1]) [.raise 76 (.xs Ht)<|.l 1] []) [some<|.ref r,some<|.int 0,some<|dh cU (.U rs)<|.U [w],some<|.str cU,some<|.U rs,some<|.U [w],none,none,none] Y=.ok (none,[some<|.ref r,some<|.int 0,some<|dh cU (.U rs)<|.U [w],some<|.str cU,some<|.U rs,some<|.U [w],none,none,none]) Y:=
   aA (ic<|f6 (aq (I rfl) (aS ae) e0) rfl<|f0<|aq (cL (aa (I rfl) ae) il) ag e1) rfl ay
  have DO:fK rs [d]=df (lh d) d (.U [.str pF,d]):=by
   unfold fK;rw[he];cases hF:lh d
   ·have:wholeOf [d]=.U [d]:=by unfold wholeOf;rw[wz (by rw[hF];decide)];rfl
    rw[this];rfl
   ·have:wholeOf [d]=d:=by unfold wholeOf;rw[List.find?_cons_of_pos<|by rw[hF]]
    rw[this,hF];rfl
  rw[DO];cases hF:lh d
  ·rw[lP hF] at e;show _=Res.ok (V.U [.str pF,d]) _;apply bf (i:=z6) (R:=(some<|.U [.str pF,d],_)) rfl rfl rfl;apply pre;apply ah
   ·exact hc
   (first | apply dr | apply dq | apply bE)
   repeat wp_step
  ·refine aM (jE hF) λs dZ=>?_;subst dZ;rw[ll] at e;show _=Res.exc (excOf s) _;apply gj (i:=z6) rfl rfl rfl;apply pre;apply ah
   ·exact hc
   apply cP;apply oJ;apply vo;apply vn ag;apply vm
   (first | apply dr | apply dq | apply bE)
   repeat wp_step
end
def tV (O:ar)(m:Nat):Prop:=∀(Y:af) (names:cY) (path:Str),ch m Y->(names,path)∈ma->O 302 [.ref m,.str z_,.U<|names.map .str,.str aB,.int 0] Y=.ok (.str path) Y
def Di (O:ar):Prop:=∀(Y:af) (rg rd:V),wj rg rd->O 86 [rg,.int 0] Y=df (isName rd) (.exc 52 Y) (.ok rd Y)
noncomputable def nk:List S:=Fi.body.drop 3
section
variable {O:ar} {Y:af} {m r:Nat}
noncomputable abbrev OY (r:Nat)(names row p rs ps:V):Loc:=[some<|.ref r,some<|.int 0,some names,some row,some p,some rs,some ps,none,none,none,none]
theorem rR (hf:tV O m){n:Str}{rs ps row:V}(hn:(([n]:cY),n)∈ma)(h1:∃kd,cb W (.ref 2) (.str n)=some kd/\cy Y .NotIn kd (.U [.str bl,.str cX])=some false)(h2:cb W (.ref 10) (.str n)=some (.U [rs,ps]))(fy:gD r m Y){RF:Res fc}
  (h:bZ O 400 nk (OY r (.U [.str n]) row (.str n) rs ps) Y=RF):bZ O 400 Fi.body [some<|.ref r,some<|.int 0,some<|.U [.str n],some row,ai,ai,ai,ai,ai,ai,ai] Y=RF:=by
 refine aI fy.attr λg hg SL=>?_;have a1:db Y (.ref r) gG=true:=fy.may rfl;have a2:jN Y (.ref r) gG=some (.ref m):=SL _ _ rfl;have a3:db Y (.ref r) kP=true:=fy.may rfl;have a4:jN Y (.ref r) kP=some (.str z_):=SL _ _ rfl;refine LL fy.mG.facts λk2 W0 zq=>Xg zq λb1 b2 b3 b4 b5 b6 b7=>aI h1 λkd hk mm=>?_;have c1:=b6 _ _ hk;have c2:=b7 _ _ h2;have e:=hf Y [n] n fy.mG hn;dsimp only[Fi];apply ah
 ·(first | apply dr | apply dq | apply bE)
  repeat wp_step
 apply ah
 ·(first | apply dr | apply dq | apply bE)
  repeat wp_step
 apply ah
 ·(first | apply dr | apply dq | apply bE)
  repeat wp_step
 exact h
theorem Nj (hf:tV O m)(fy:gD r m Y):∃J,bk tx O 136 [.ref r,.int 0,.U [.str cx],dh cx (.U [])<|.U []] Y=.ok (.U [.str kQ,.str cx,.U [],.U []]) (Y++J):=by
 have e0:=λY:af=>lN (Y:=Y) (l:=[]);have e1:=ne_int (Y:=Y) (i:=0) (j:=0);refine⟨[.list []],?_⟩;apply bf (i:=Fi) (R:=(some<|.U [.str kQ,.str cx,.U [],.U []],_)) rfl rfl rfl;apply rR hf (rs:=.U []) (ps:=.U []) (by decide) ⟨_,rfl,rfl⟩ rfl fy;dsimp only[nk,Fi,List.drop];have em:=o8 fy;have et:vS (Y++[Cell.list []]) .tuple [.ref Y.length]=.ok (.U []) (Y++[Cell.list []]):=b9 (cE ao) (by decide);have ea:jk Y .Mult (.U [.none]) (.int 0)=.ok (.U []) Y:=rfl
 (first | apply dr | apply dq | apply bE)
 repeat (first | (intro w;refine(?_:_->_) (w<|e0 _)) | wp_step)
end
section
variable {O:ar} {Y:af} {m r:Nat}
noncomputable abbrev OZ:X:=.ite (.m .NotEq (.i (.l 3)<|.xi 1)<|.U []) (.bi .tuple [.comp [none,none,none,some 1] [1] (.i (.l 3)<|.xi 1) []<|.call 86 [.l 1,.l 3]])<|.bin .Mult (.U [.c .none])<|.bi .len [.l 5]
abbrev nF (r:Nat)(rs ws:aG):Loc:=OY r (.U [.str ms]) (dh ms (.U rs)<|.U ws) (.str ms) (.U [.str fF])<|.U [.str lW]
section
variable {rs jy ws ds:aG} {x:V} {RF:Res fc}
theorem Jy (hb:rs.length<1000):aV O (.m .NotEq (.bi .len [.i (.l 3)<|.xi 1])<|.bi .len [.l 5]) (nF r rs ws) Y=.ok (.bool !decide ((rs.length:Int)=1)) Y:=
 aq (cL (aa (aF (I rfl) ag rfl) ae)<|nh rfl<|lt_num hb rfl) (cL (aa (I rfl) ae) rfl) ne_int
theorem EE (ha:ws.length<1000):aV O (.m .NotEq (.bi .len [.i (.l 3)<|.xi 2])<|.bi .len [.l 6]) (nF r rs ws) Y=.ok (.bool !decide ((ws.length:Int)=1)) Y:=
 aq (cL (aa (aF (I rfl) ag rfl) ae)<|nh rfl<|lt_num ha rfl) (cL (aa (I rfl) ae) rfl) ne_int
theorem Jz:aV O (.m .NotEq (.i (.l 3)<|.xi 1)<|.U []) (nF r rs ws) Y=.ok (.bool !rs.isEmpty) Y:=aq (aF (I rfl) ag rfl) (aS ae) lN
theorem Nk (h1:1<rs.length)(hb:rs.length<1000):bZ O 400 nk (nF r rs ws) Y=.exc 76 Y:=by
 have e1:=Jy (O:=O) (Y:=Y) (r:=r) (ws:=ws) hb;have e0:=Jz (O:=O) (Y:=Y) (r:=r) (ws:=ws) (rs:=rs);rw[eN<|show¬((rs.length:Int)=1) from λe=>nT h1<|Int.ofNat.inj e] at e1;rw[show rs.isEmpty=false by cases rs with
  |nil=>cases h1
  |cons _ _=>rfl] at e0
 refine cP<|bj (eJ<|gM e0 rfl<|ip e1) rfl ?_
 apply bE
 repeat wp_step
theorem yO (h1:¬1<rs.length)(hb:rs.length<1000)(h:bZ O 400 (nk.drop 1) (nF r rs ws) Y=RF):bZ O 400 nk (nF r rs ws) Y=RF:=by
 have e0:=Jz (O:=O) (Y:=Y) (r:=r) (ws:=ws) (rs:=rs);cases rs with
 |nil=>exact ah (aA (eJ<|kt e0 rfl) rfl ay) h
 |cons a q=>
  cases q with
  |nil=>exact ah (aA (eJ<|gM e0 rfl<|ip<|Jy (O:=O) (Y:=Y) (r:=r) (ws:=ws) hb) rfl ay) h
  |cons b q=>exact absurd (Nat.succ_lt_succ<|Nat.zero_lt_succ _) h1
theorem Nl (h1:¬ws.length=1)(ha:ws.length<1000):bZ O 400 (nk.drop 1) (nF r rs ws) Y=.exc 76 Y:=by
 have e1:=EE (O:=O) (Y:=Y) (r:=r) (rs:=rs) ha;rw[eN<|show¬((ws.length:Int)=1) from λe=>h1<|Int.ofNat.inj e] at e1;refine cP<|bj e1 rfl ?_
 apply bE
 repeat wp_step
theorem Dj (h1:ws.length=1)(ha:ws.length<1000)(h:bZ O 400 (nk.drop 2) (nF r rs ws) Y=RF):bZ O 400 (nk.drop 1) (nF r rs ws) Y=RF:=by
 have e1:=EE (O:=O) (Y:=Y) (r:=r) (rs:=rs) ha;rw[dP<|show(ws.length:Int)=1 from bH Int.ofNat h1] at e1;exact ah (aA e1 rfl ay) h
theorem Nn (hR:Di O)(hr:nJ rs jy)(h1:¬1<rs.length):∃x,lL rs jy=[x]/\((isName x=true/\aV O OZ (nF r rs ws) Y=.exc 52 Y)∨(isName x=false/\∃J,aV O OZ (nF r rs ws) Y=.ok (.U [x]) (Y++J))):=by
 have e0:=Jz (O:=O) (Y:=Y) (r:=r) (ws:=ws) (rs:=rs);cases hr with
 |nil=>exact bD .none rfl<|.inr ⟨rfl,[],by rw[iq];exact fU e0 rfl<|eX (aS<|aa ag ae) (cL (aa (I rfl) ae) rfl) rfl⟩
 |@cons s d vP tY g g'=>
  cases g' with
  |cons _ _=>exact absurd (Nat.succ_lt_succ<|Nat.zero_lt_succ _) h1
  |nil=>
   have Lr:=hR Y _ _ g;refine bD d rfl ?_;cases hN:isName d<;>rw[hN] at Lr
   ·exact .inr ⟨rfl,[.list [d]],fk e0 rfl<|cL (aa (dU (aF (I rfl) ag rfl) rfl<|bo (dC rfl cH (aK (aa (I rfl)<|aa (I rfl) ae) Lr)<|aN rfl) rfl b8) ae)<|b9 (cE ao)<|aN rfl⟩
   ·exact .inl ⟨rfl,fk e0 rfl<|EB<|vm<|xn (aF (I rfl) ag rfl) rfl<|EC<|ED rfl<|aK (aa (I rfl)<|aa (I rfl) ae) Lr⟩
theorem Rg (h1:¬1<rs.length)(hd:ds.length=1)(hk:lL rs jy=[x]):mF rs jy ds=df (isName x) (.str aH) (df (lh<|wholeOf ds) (wholeOf ds)<|.U [.str kQ,.str ms,.U [x],wholeOf ds]):=by
 unfold mF;rw[hd,eN h1,hk];rfl
theorem No (hf:tV O m)(hR:Di O)(hr:nJ rs jy)(SP:rs.length=jy.length)(h:∀p∈ws.zip ds,iM r m O p.1 p.2)(hl:ws.length=ds.length)(ha:ws.length<1000)(hb:rs.length<1000)(fy:gD r m Y):∃J,bk tx O 136 [.ref r,.int 0,.U [.str ms],dh ms (.U rs)<|.U ws] Y=told (mF rs jy ds) (Y++J):=by
 have exc:∀{C:Nat} {Y':af},bZ O 400 nk (nF r rs ws) Y=.exc C Y'->bk tx O 136 [.ref r,.int 0,.U [.str ms],dh ms (.U rs)<|.U ws] Y=.exc C Y':=λ{C Y'} e=>gj rfl rfl rfl<|rR hf (by decide) ⟨_,rfl,rfl⟩ rfl fy e
 by_cases hr1:1<rs.length
 ·refine⟨[],?_⟩;rw[show mF rs jy ds=.str aB by unfold mF;rw[dP hr1];rfl,iq];exact exc<|Nk hr1 hb
 by_cases hw1:ws.length=1
 ·refine aI (Nn (O:=O) (Y:=Y) (r:=r) (ws:=ws) hR hr hr1) λx hk hx=>?_;rw[Rg hr1 (hl.symm.trans hw1) hk];refine aY hx (λhx=>?_) λhx=>?_
  ·refine cN hx λhN e=>?_;rw[hN];exact⟨[],by rw[iq];exact exc<|yO hr1 hb<|Dj hw1 ha<|cP<|qY e⟩
  ·refine cN hx λhN hx=>aM hx λJ e7=>?_;rw[hN];refine aM (A5 (O:=O) (N:=[some<|.ref r,some<|.int 0,some<|.U [.str ms],some<|dh ms (.U rs)<|.U ws,some<|.str ms,some<|.U [.str fF],some<|.U [.str lW],some<|.U [x],none,none,none]) (x:=.i (.l 3)<|.xi 2) (λM=>aF (I rfl) ag rfl) rfl h hl ha<|fy.push (J:=J)) λJ' e8=>⟨J++J',?_⟩;rw[<-bQ];refine aY (vp ds) (λq=>?_) λq=>?_
   ·refine aI q λs h1 h2=>?_;rw[h1] at e8;rw[h2];exact exc<|yO hr1 hb<|Dj hw1 ha<|ah (az e7 aD)<|cP<|oJ<|vo<|vn ag<|vn (I rfl)<|vn (I rfl)<|vm e8
   ·refine cN q λh1 h2=>?_;rw[h1] at e8;rw[h2];exact bf rfl rfl rfl
     (rR hf (by decide) ⟨_,rfl,rfl⟩ rfl fy<|yO hr1 hb<|Dj hw1 ha<|ah (az e7 aD)<|ah (bL<|aS<|aa ag<|aa (I rfl)<|aa (I rfl)<|aa e8 ae) rfl)
 ·refine⟨[],?_⟩;rw[show mF rs jy ds=.str aB by
   unfold mF;rw[show(ds.length==1)=false from beq_eq_false_iff_ne.mpr λe=>hw1<|hl.trans e,Bool.not_false,Bool.or_true],iq]
  exact exc<|yO hr1 hb<|Nl hw1 ha
end
end
def Vh:Nat->List V->af->Res V->Prop:=λf vs Y r=>f=302/\∃m names,vs=[.ref m,.str z_,.U<|names.map .str,.str aB,.int 0]/\ch m Y/\
 ((∃path,ma.lookup names=some path/\r=.ok (.str path) Y)∨(names=[sZ]/\r=.exc 52 Y))
theorem yP:∀p∈ma,ma.lookup p.1=some p.2:=by decide+kernel
theorem yQ {names:cY}{path:Str}(h:ma.lookup names=some path):(names,path)∈ma:=by
 have:∀{l:List (cY × Str)},l.lookup names=some path->(names,path)∈l:=by
  intro l
  induction l with
  |nil=>intro h;cases h
  |cons p r ih=>
   obtain⟨a,b⟩:=p;intro h;rw[kL] at h;split at h
   ·next e=>cases h;rw[eq_of_beq e];exact .head _
   ·exact .tail _<|ih h
 exact this h
theorem A6:∀{a b:cY},a.map V.str=b.map V.str->a=b
 | [],[],_=>rfl
 |x::a,y::b,h=>by
  rw[d8,d8] at h;injection h with h1 h2
  injection h1 with h1
  rw[h1,A6 h2]
 | [],_::_,h=>by cases h
 |_::_,[],h=>by cases h
section
variable {gx:Gx}
theorem Vi (H:nP gx tx):Kn (2 * 72) Vh:=by
 intro f vs Y h;obtain⟨r,rfl,m,names,rfl,⟨π,E,e⟩,hr⟩:=h;have ml:∀ns:cY,lB (at' π) [.ref 1,.str z_,.U<|ns.map .str,.str aB,.int 0]=[.ref m,.str z_,.U<|ns.map .str,.str aB,.int 0]:=λns=>by
  simp only[lB,V.ml,o0,m8 e]
 have rl:∀ns:cY,kq W.length [.ref 1,.str z_,.U<|ns.map .str,.str aB,.int 0]=true:=λns=>by
  rw[sG];simp only[kq,V.rl,rM];rfl
 refine aY hr (λYm=>?_) λYn=>?_
 ·refine aI Ym λpath hp An=>?_;subst An;refine⟨_,?_,rfl,m,names,rfl,⟨π,E,e⟩,.inl ⟨path,hp,rfl⟩⟩;have:=(Gq H<|yQ hp).keep E<|rl names
  rw[ml names] at this;exact this
 ·refine cN Yn λFU Qn=>?_;subst FU;subst Qn;have:=(Gr H).OT E<|rl [sZ]
  rw[ml [sZ]] at this;exact⟨_,this,rfl,m,[sZ],rfl,⟨π,E,e⟩,.inr ⟨rfl,rfl⟩⟩
def UW:Nat->ar:=overs tx (2 * 72) Vh
theorem Rh (H:nP gx tx)(i:Nat):hV (UW (i+1)) (2 * (72+6 * (i+1))):=xf H 72 i
variable {i:Nat}
theorem eY {f:Nat}{vs:aG}{Y:af}(hf:f≠302):UW (i+1) f vs Y=bk tx (UW i) f vs Y:=AS λ⟨_,h,_⟩=>hf h
theorem EF (H:nP gx tx)(i m:Nat):tV (UW (i+1)) m:=λY names path hw hp=>by
 have hl:=yP _ hp;have:=AR (O:=UW i) (tx:=tx) (Vi H) (f:=302) (Y:=Y) ⟨_,rfl,m,names,rfl,hw,.inl ⟨path,hl,rfl⟩⟩;refine Xs this λM m' aa2 e M hr=>?_;injection e with e1 e2
 injection e2 with _ e3
 injection e3 with e4 _
 injection e4 with e4
 have:=A6 e4;subst this;refine aY hr (λYo=>?_) λYp=>?_
 ·refine aI Yo λpath' vT hr=>?_;rw[hl] at vT;cases vT;exact hr
 ·refine cN Yp λUw M=>?_;subst Uw;rw[show ma.lookup [sZ]=none by decide+kernel] at hl;cases hl
theorem JA (i:Nat):Di (UW (i+1)):=λY rg rd h=>by rw[eY<|by decide];exact Vf h
variable {rs jy:aG}
theorem nJ.len (h:nJ rs jy):rs.length=jy.length:=by
 induction h with
 |nil=>rfl
 |cons _ _ ih=>simp[ih]
variable {k:Nat} {ws ds:aG}
theorem ff.len (h:ff k ws ds):ws.length=ds.length:=by
 refine ff.rec (motive_1:=λM M M M=>True) (motive_2:=λk ws ds M=>ws.length=ds.length) ?u8 ?S ?ref ?arr ?U ?box ?G ?nil ?cons h
 case nil=>exact λk=>rfl
 case cons=>exact λM M M M j=>bH (· +1) j
 all_goals intros;trivial
variable {r m:Nat}
theorem Vj (hi:4<=i):iM r m (UW i) (eF ft (.U [])<|.U []) (.U [.str pD,.str ft]):=λ{Y} fy=>by
 refine aM (nR hi) λi An=>?_;subst An;have hb:∀{Y:af} {told:V} {n:Str},UW (i+1) 131 [.ref r,.int 0,dh n (.U [])<|.U [],told] Y=.ok told Y:=λ{Y told n}=>by rw[eY<|by decide];exact Jx
 have Sm:∀{Y:af},gD r m Y->∃J,UW (i+2) 124 [.ref r,.int 0,dh ft (.U [])<|.U []] Y=told (.U [.str pD,.str ft]) (Y++J):=λ{Y} fy=>⟨[],by rw[eY (by decide),iq];exact Gu hb fy⟩;have DP:nj r m (UW (i+3)) ft (.U []) (.U []) (.U [.str pD,.str ft]):=λ{Y} fy=>by rw[eY<|by decide];exact sH (.inr rfl) (λM e=>by cases e) Sm fy
 rw[eY<|by decide];exact pe (.inr rfl) DP fy
theorem Y8 (H:nP gx tx)(hi:4<=i):iM r m (UW i) (eF cx (.U [])<|.U []) (.U [.str kQ,.str cx,.U [],.U []]):=λ{Y} fy=>by
 refine aM (nR hi) λi FU=>?_;subst FU;have So:∀{Y:af},gD r m Y->∃J,UW (i+2) 136 [.ref r,.int 0,.U [.str cx],dh cx (.U [])<|.U []] Y=told (.U [.str kQ,.str cx,.U [],.U []]) (Y++J):=λ{Y} fy=>by rw[eY<|by decide];exact Nj (EF H i m) fy
 have DP:nj r m (UW (i+3)) cx (.U []) (.U []) (.U [.str kQ,.str cx,.U [],.U []]):=λ{Y} fy=>by rw[eY<|by decide];exact vr (.inr rfl) (λ{Y} fy=>⟨[],by rw[eY (by decide),iq];exact sI (.inl rfl) fy⟩:∀{Y:af},gD r m Y->∃J,UW (i+2) 124 [.ref r,.int 0,dh cx (.U [])<|.U []] Y=.ok .none (Y++J)) So fy
 rw[eY<|by decide];exact pe (.inr rfl) DP fy
theorem Ri (H:nP gx tx)(hr:nJ rs jy)(ht:ff k ws ds)(h2:ws.length<=2)(hi:4<=i)(T:∀p∈ws.zip ds,iM r m (UW<|i - 3) p.1 p.2):iM r m (UW i) (eF cU (.U rs)<|.U ws) (fK rs ds):=λ{Y} fy=>by
 refine aM (nR hi) λi YK=>?_;subst YK;have hF:lh (fK rs ds)=true∨lh (fK rs ds)=false:=by cases lh (fK rs ds)<;>simp
 have hn:lh (fK rs ds)=false->fK rs ds≠.none:=λM e=>by
  have hd:=(ku.box hr ht h2).Gi;rw[e] at hd;rcases hd with h | h | ⟨l,h,_⟩<;>cases h
 have Sm:∀{Y:af},gD r m Y->∃J,UW (i+2) 124 [.ref r,.int 0,dh cU (.U rs)<|.U ws] Y=told (fK rs ds) (Y++J):=λ{Y} fy=>by rw[eY<|by decide];exact Dh hr T (ff.len ht) (kI h2<|aN rfl) fy
 have DP:nj r m (UW (i+3)) cU (.U rs) (.U ws) (fK rs ds):=λ{Y} fy=>by rw[eY<|by decide];exact sH hF hn Sm fy
 rw[eY<|by decide];exact pe hF DP fy
theorem Y9 (H:nP gx tx)(hr:nJ rs jy)(ht:ff k ws ds)(h2:ws.length<=2)(h3:rs.length<=2)(hi:4<=i)(T:∀p∈ws.zip ds,iM r m (UW<|i - 3) p.1 p.2):iM r m (UW i) (eF ms (.U rs)<|.U ws) (mF rs jy ds):=λ{Y} fy=>by
 refine aM (nR hi) λi QO=>?_;subst QO;have hF:lh (mF rs jy ds)=true∨lh (mF rs jy ds)=false:=by cases lh (mF rs jy ds)<;>simp
 have So:∀{Y:af},gD r m Y->∃J,UW (i+2) 136 [.ref r,.int 0,.U [.str ms],dh ms (.U rs)<|.U ws] Y=told (mF rs jy ds) (Y++J):=λ{Y} fy=>by rw[eY<|by decide];exact No (EF H i m) (JA i) hr hr.len T (ff.len ht) (kI h2<|aN rfl) (kI h3<|aN rfl) fy
 have DP:nj r m (UW (i+3)) ms (.U rs) (.U ws) (mF rs jy ds):=λ{Y} fy=>by rw[eY<|by decide];exact vr hF (λ{Y} fy=>⟨[],by rw[eY (by decide),iq];exact sI (.inr rfl) fy⟩:∀{Y:af},gD r m Y->∃J,UW (i+2) 124 [.ref r,.int 0,dh ms (.U rs)<|.U ws] Y=.ok .none (Y++J)) So fy
 rw[eY<|by decide];exact pe hF DP fy
theorem qZ (h:2 * (k+2)+6<=i):∃n,i=n+3+1/\2 * k+6<=n+1:=aM (nR h) λn e=>bD (n+(2 * k+6)) e<|Nat.le_succ_of_le<|Nat.le_add_left _ _
theorem EG (h:2 * k+6<=i):4<=i:=by exact uf ‹_› rfl
theorem Np {k':Nat}(h:2 * k+6<=i)(h':k'<=k):2 * k'+6<=i:=d9 (t7 (Nat.mul_le_mul_left 2 h') 6) h
theorem JB {a n:Nat}(m:Nat)(h:a<=n+1):a<=n+1+m:=d9 h<|dX _ _
theorem Nq (H:nP gx tx){ww d:V}(h:ku k ww d):∀i,2 * k+6<=i->iM r m (UW i) ww d:=by
 refine ku.rec (motive_1:=λk ww d M=>∀i,2 * k+6<=i->iM r m (UW i) ww d) (motive_2:=λk ws ds M=>∀i,2 * k+6<=i->∀p∈ws.zip ds,iM r m (UW i) p.1 p.2) ?u8 ?S ?ref ?arr ?U ?box ?G ?nil ?cons h
 case u8=>exact λi hi=>Vj<|EG hi
 case S=>exact λi hi=>Y8 H<|EG hi
 case ref=>
  intro k x rd w d b hr ht ih i hi Y fy;refine aI (qZ hi) λn e hn=>?_;subst e;rw[eY<|by decide];exact Jt ⟨λh=>JA (n+2) _ _ _ h⟩ hr ht.Gi (ih (n+3)<|JB 2 hn) b fy
 case arr=>
  intro k w d x _ ht ih i hi Y fy;refine aI (qZ hi) λn e hn=>?_;subst e;rw[eY<|by decide];exact Ju ht.Gi (ih (n+3)<|JB 2 hn) fy
 case U=>
  intro k ws ds ht h2 ih i hi Y fy;refine aI (qZ hi) λn e hn=>?_;subst e;rw[eY<|by decide];exact Jv (ih (n+3)<|JB 2 hn) ht.len (kI h2<|aN rfl) fy
 case box=>
  intro k rs jy ws ds hr ht h2 ih i hi;refine aI (qZ hi) λn e hn=>?_;subst e;exact Ri H hr ht h2 (Nat.le_add_left 4 n)<|ih (n+1) hn
 case G=>
  intro k rs jy ws ds hr ht h2 h3 ih i hi;refine aI (qZ hi) λn e hn=>?_;subst e;exact Y9 H hr ht h2 h3 (Nat.le_add_left 4 n)<|ih (n+1) hn
 case nil=>exact λk i hi p hp=>False.elim<|dj hp
 case cons=>
  intro k k' w d ws ds h hk _ ih j i hi p hp;refine @Or.elim _ _ _ (aX.mp hp) (λe=>?_)<|j i hi p
  subst e;exact ih i<|Np hi hk
end
section
variable {O:ar} {Y:af} {m r k:Nat}
noncomputable abbrev je (Y:af)(C:Nat)(l:ii):af:=Y++[.dict l,.inst C Y.length]
variable {C:Nat} {l:ii}
theorem rS:(je Y C l)[Y.length]?=some (.dict l):=by rw[j9<|a9 _,nU];rfl
theorem rT:(je Y C l)[Y.length+1]?=some (.inst C Y.length):=by rw[j9<|kN _,show Y.length.succ - Y.length=1 by omega];rfl
theorem jT {n:Str}(h:uo.attrs C n=true)(hl:l.length<499):db (je Y C l) (.ref (Y.length+1)) n=true:=by
 exact yH rT rS h hl
theorem jU {l':ii}{n:Str}{v:V}(h:rq l n v=l'):iV (je Y C l) (.ref (Y.length+1)) n v=some (je Y C l'):=by
 rw[vf rT rS,List.set_append_right _ _<|a9 _,nU,h];rfl
theorem A7 {mo g:V}:bk tx O 100 [.ref (Y.length+1),mo,.str z_,g,.none,.none] (je Y 139 [])=.ok .none (je Y 139 [(gG,mo),(kP,.str z_),(bq,g),(iH,.none),(tF,.none)]):=by
 apply bf (i:=PN) (R:=(none,_)) rfl rfl rfl;dsimp only[PN];refine ah (az (I rfl)<|iY (I rfl) (jT rfl<|aN rfl)<|jU rfl)<|ah (az (I rfl)<|iY (I rfl) (jT rfl<|aN rfl)<|jU rfl) ?_
 refine ah (az (I rfl)<|iY (I rfl) (jT rfl<|aN rfl)<|jU rfl)<|ah (az (I rfl)<|iY (I rfl) (jT rfl<|aN rfl)<|jU rfl) ?_
 exact ah (az (I rfl)<|iY (I rfl) (jT rfl<|aN rfl)<|jU rfl) ay
theorem JC {gx:Gx}(H:nP gx tx){ww d:V}(hT:ku k ww d)(i:Nat)(hi:2 * k+8<=i)(hw:ch m Y){g:Nat}(hg:Y[g]?=some (.list [.str lW])):
  ∃J,UW i 151 [.ref m,.str z_,.ref g,.none,ww] Y=told d (Y++J):=by
 refine aM (nR<|show 2<=i by exact uf ‹_› rfl) λi dZ=>?_;subst dZ;have hR:gD (Y.length+1) m (je Y 139<|qc m g):=⟨hw.push,Y.length,g,rT,rS,cF hg⟩;refine aM (Nq H hT (i+1) (by omega) hR) λJ e=>?_;have e1:UW (i+1) 100 [.ref (Y.length+1),.ref m,.str z_,.ref g,.none,.none] (je Y 139 [])=.ok .none (je Y 139<|qc m g):=by rw[eY<|by decide];exact A7
 have em:=o8 hR;refine⟨[.dict<|qc m g,.inst 139 Y.length]++J,?_⟩;rw[<-bQ,eY<|by decide];have hn:aV (UW (i+1)) (.new 139 [.l 0,.l 1,.l 2,.l 3,.l 5]) [some<|.ref m,some<|.str z_,some<|.ref g,some .none,some ww,some .none,none] Y=.ok (.ref (Y.length+1)) (je Y 139<|qc m g):=
  vd rfl (aa (I rfl)<|aa (I rfl)<|aa (I rfl)<|aa (I rfl)<|aa (I rfl) ae) e1
 cases hF:lh d
 ·rw[lP hF] at e⊢;apply dW rfl rfl rfl
  repeat (intro w;first | exact w | refine(?_:_->_) (w<|by first | (with_reducible assumption) | assumption | exact eq_int | exact rfl))
 ·refine aM (jE hF) λs mu=>?_;subst mu;rw[ll] at e⊢;apply dW rfl rfl rfl
  repeat (intro w;first | exact w | refine(?_:_->_) (w<|by first | (with_reducible assumption) | assumption | exact eq_int | exact rfl))
end
noncomputable abbrev pT:V:=.U []
abbrev O0:V:=eF ft (.U [])<|.U []
def bdX:List (X × X):=[(.U [.U [.xs cD,.U [],.U []]],.xs cD),(.U [.U [.xs un,.U [],.U []],.U [.xs cD,.U [],.U []]],.xs fR),
 (.U [.U [.xs aQ,.U [],.U []],.U [.xs cD,.U [],.U []]],.xs cD),(.U [.U [.xs cD,.U [],.U []]],.xs cD),(.U [.U [.xs iU,.U [],.U []]],.xs aH),
 (.U [.U [.xs iU,.U [],.U [.l 1]]],.xs aH),(.U [.U [.xs cD,.U [.xs fF],.U []]],.xs aH),(.U [.U [.xs un,.U [],.U [.l 1]],.U [.xs cD,.U [],.U []]],.xs aB),
 (.U [.U [.xs un,.U [.xs fF],.U []],.U [.xs cD,.U [],.U []]],.xs aB),(.U [.U [.xs un,.U [],.U [.l 1]],.U [.xs cD,.U [],.U [.l 1]]],.xs aH),
 (.U [.U [.xs cx,.U [],.U []]],.xs aH),(.U [.U [.xs sZ,.U [],.U []]],.xs aH),(.U [.U [.xs cD,.U [],.U []]],.xs cD)]
def q5:List (V × V):=[(.U [dh cD pT pT],.str cD),(.U [dh un pT pT,dh cD pT pT],.str fR),(.U [dh aQ pT pT,dh cD pT pT],.str cD),(.U [dh cD pT pT],.str cD),(.U [dh iU pT pT],.str aH),
 (.U [dh iU pT<|.U [O0]],.str aH),(.U [dh cD (.U [.str fF]) pT],.str aH),(.U [dh un pT<|.U [O0],dh cD pT pT],.str aB),(.U [dh un (.U [.str fF]) pT,dh cD pT pT],.str aB),(.U [dh un pT<|.U [O0],dh cD pT<|.U [O0]],.str aH),
 (.U [dh cx pT pT],.str aH),(.U [dh sZ pT pT],.str aH),(.U [dh cD pT pT],.str cD)]
section
variable {O:ar} {s:Nat} {Y:af} {a b:Int}
theorem Dk {N:Loc}{xs:List (X × X)}:∀{vs:List (V × V)} {Y:af},(∀p∈xs.zip vs,∀Y,aV O p.1.1 N Y=.ok p.2.1 Y/\aV O p.1.2 N Y=.ok p.2.2 Y)->xs.length=vs.length->s<Y.length->
  ∃ps J,nN O (xs.map λp=>.s [p.1,p.2]) N Y=.ok ps (Y++J)/\bd s (Y++J) ps (vs.map (·.1)) (vs.map (·.2)):=by
 induction xs with
 |nil=>
  intro vs Y _ hl _;cases vs with
  |nil=>exact jX [] [] (by rw[iq];exact ae) .nil
  |cons=>exact Nat.noConfusion hl
 |cons x xs ih=>
  intro vs Y h hl hs;cases vs with
  |nil=>exact Nat.noConfusion hl
  |cons v vs=>
   have h12:=h (x,v) (.head _) Y;refine gm (ih (vs:=vs) (Y:=Y++[.list [v.1,v.2]]) (λp hp=>h p<|.tail _ hp) (jH hl) (by rw[b0];exact eB hs<|dX _ _)) λps J e hR=>?_;refine jX (.ref Y.length::ps) ([.list [v.1,v.2]]++J) ?_ ?_
   ·rw[<-bQ];exact aa (bh<|aa h12.1<|aa h12.2 ae) e
   ·rw[<-bQ];exact .cons (nT hs) (cF ao) hR
theorem bd.nth {ps ws ds:aG}(h:bd s Y ps ws ds):∀{i:Nat} {v:V},ps[i]?=some v->∃j w d,v=.ref j/\j≠s/\Y[j]?=some (.list [w,d])/\ws[i]?=some w/\ds[i]?=some d:=by
 induction h with
 |nil=>exact λ{i v} e=>(Option.some_ne_none v<|e.symm.trans List.getElem?_nil).elim
 |cons h1 h2 _ ih=>
  intro i v e;cases i with
  |zero=>exact LQ _ _ _<|Ou (aT e).symm h1 h2 rfl rfl
  |succ i=>exact ih e
theorem Gv (H1:vl O s)(hp:∀{Y:af} {n r t:V},O 486 [n,r,t] Y=.ok (.U [.str lU,.int 0,.U [.U [n,r,t]]]) Y)(hs:Y[s]?=some (aC a b)):
  ∃j Y' sp d a' b',bk tx O 510 [.ref s] Y=.ok (.ref j) Y'/\bg s Y Y'/\Y'[s]?=some (aC a' b')/\Y'[j]?=some (.list [sp,d])/\j≠s/\(sp,d)∈q5:=by
 have Wr:∀p∈bdX.zip q5,∀Y,aV O p.1.1 [some<|.ref s,some O0,none,none] Y=.ok p.2.1 Y/\aV O p.1.2 [some<|.ref s,some O0,none,none] Y=.ok p.2.2 Y:=by
  intro p hp;simp only[bdX,q5,List.zip_cons_cons,List.zip_nil_right,aX,dj,or_false] at hp;rcases hp with rfl | rfl | rfl | rfl | rfl | rfl | rfl | rfl | rfl | rfl | rfl | rfl | rfl<;>exact λY=>⟨rfl,rfl⟩
 refine gm (Dk (s:=s) Wr rfl<|nf hs) λps J e hR=>?_;have s1:=ak (c':=Cell.list ps)<|cF (J:=J) hs
 have h13:ps.length=13:=by rw[<-hR.len.1];rfl
 refine mN (H1 s1 (eL.list (t:=(Y++J).length) (l:=ps) ao ((dl (cF hs)<|a9 _).symm:s≠(Y++J).length)<|by omega) (by omega)<|by omega) λi v bK fW hv e2=>?_;refine LP (hR.nth hv) λj sp d dZ hj cj g1 g2=>?_;subst dZ;have K2:bg s (Y++J++[Cell.list ps]) ((Y++J++[Cell.list ps]).set s<|aC bK fW):=.set;refine rn j _ sp d bK fW ?_ ((bg.push.trans .push).trans K2) (cW s1 _ _) (K2.old _ _ hj<|ak cj) hj ?_
 ·apply bf (i:=PY) (R:=(some<|.ref j,[some<|.ref s,some O0,none,none])) rfl rfl rfl;dsimp only[PY];refine ah (az (aK (aa ag<|aa (aS ae)<|aa (aS ae) ae) hp) aD)<|ah (bL<|aK (aa (I rfl)<|aa (bh e) ae) e2) rfl
 ·rw[fP] at g1 g2;cases hb:q5[i]? with
  |none=>rw[hb] at g1;cases g1
  |some p=>
   rw[hb] at g1 g2;cases g1;cases g2;exact bn hb
end
mutual
theorem V.A8 {k k':Nat}(h:k<=k'):∀(v:V),v.rl k=true->v.rl k'=true
 | .none,_=>rfl
 | .bool _,_=>rfl
 | .int _,_=>rfl
 | .str _,_=>rfl
 | .rng _ _,_=>rfl
 | .ref i,c=>by
  simp only[V.rl] at c⊢;have:i<k:=by simpa using c
  simpa using eB this h
 | .U l,c=>rU h l c
 | .gl l,c=>rU h l c
theorem rU {k k':Nat}(h:k<=k'):∀(l:aG),kq k l=true->kq k' l=true
 | [],_=>rfl
 |v::r,c=>by
  have c':v.rl k=true/\kq k r=true:=by simpa [kq] using c
  rw[kq,V.A8 h v c'.1,rU h r c'.2];rfl
end
def oK:List (V × (Str ⊕ Nat)):=[(.U [dh cD pT pT],.inl cD),(.U [dh un pT pT,dh cD pT pT],.inl fR),(.U [dh aQ pT pT,dh cD pT pT],.inl cD),(.U [dh iU pT pT],.inl iU),
 (.U [dh un pT<|.U [O0],dh cD pT pT],.inr 76),(.U [dh un (.U [.str fF]) pT,dh cD pT pT],.inr 76),(.U [dh cx pT pT],.inr 52),(.U [dh sZ pT pT],.inr 52)]
def lQ (sp:V):Option (Str ⊕ Nat):=(oK.find? λp=>V.beq p.1 sp).map (·.2)
def Rj (p:V × (Str ⊕ Nat)):Bool:=@Sum.casesOn Str Nat (λM=>Bool) p.2 (λpath=>Vd (run tx 20 156 [.ref 1,.str z_,p.1,.int 0] W) λv Y=>V.beq v (.str path)&&Db W Y)
 λC=>Rc (run tx 20 156 [.ref 1,.str z_,p.1,.int 0] W) λC' Y=>Nat.beq C' C&&Db W Y
theorem wm:oK.all (λp=>Rj p&&p.1.rl 0)=true:=by k_all
noncomputable def EH (x:Str ⊕ Nat)(Y:af):Res V:=match x with
 | .inl p=>.ok (.str p) Y
 | .inr C=>.exc C Y
section
variable {gx:Gx}
variable {sp:V} {x:Str ⊕ Nat}
theorem Dl (H:nP gx tx)(h:(sp,x)∈oK):cT (2 * (6 * 20)) 156 [.ref 1,.str z_,sp,.int 0] W (EH x W)/\sp.rl 0=true:=by
 have h:=fO.mp<|gn.mp wm _ h
 refine⟨?_,h.2⟩;have h:=h.1;have d:=(H.run 20).pr (f:=156) (vs:=[.ref 1,.str z_,sp,.int 0]) (Y:=W);cases x with
 |inl p=>
  refine gm (yN h) λv Y e h=>?_;have h:=fO.mp h;refine aM (qX h.2) λJ e'=>?_;rw[e,V.beq_eq h.1,e'] at d;exact d.drop xm (a9 _) rfl
 |inr C=>
  refine gm (EA h) λC' Y e h=>?_;have h:=fO.mp h;refine aM (qX h.2) λJ e'=>?_;rw[e,Nat.eq_of_beq_eq_true h.1,e'] at d;exact d.OS xm<|a9 _
theorem A9 (h:lQ sp=some x):(sp,x)∈oK:=by
 unfold lQ at h;cases q:oK.find? λp=>V.beq p.1 sp with
 |none=>rw[q] at h;cases h
 |some p=>
  rw[q] at h;cases h;have:=V.beq_eq (List.find?_some (p:=λp:V × (Str ⊕ Nat)=>V.beq p.1 sp) q:V.beq p.1 sp=true);rw[<-this];exact zx q
def Vk:Nat->List V->af->Res V->Prop:=λf vs Y r=>f=156/\∃m sp x,vs=[.ref m,.str z_,sp,.int 0]/\ch m Y/\lQ sp=some x/\r=EH x Y
theorem Vl (H:nP gx tx):Kn (2 * 120) Vk:=by
 intro f vs Y h;obtain⟨r,rfl,m,sp,x,rfl,⟨π,E,e⟩,hx,rfl⟩:=h;refine cN (Dl H<|A9 hx) λd hc=>?_;have Ws:lB (at' π) [.ref 1,.str z_,sp,.int 0]=[.ref m,.str z_,sp,.int 0]:=by
  simp only[lB,V.ml,m8 e,V.rO (λi hi=>absurd hi<|Nat.not_lt_zero i) sp hc]
 have Wt:kq W.length [.ref 1,.str z_,sp,.int 0]=true:=by
  rw[sG];simp only[kq,V.rl,V.A8 (pC 17) sp hc];rfl
 refine⟨_,?_,rfl,m,sp,x,rfl,⟨π,E,e⟩,hx,rfl⟩;cases x with
 |inl p=>
  have:=d.keep E Wt;rw[Ws] at this;exact this
 |inr C=>
  have:=d.OT E Wt;rw[Ws] at this;exact this
def UB:Nat->ar:=overs tx (2 * 120) Vk
theorem Rk (H:nP gx tx)(i:Nat):hV (UB (i+1)) (2 * (120+6 * (i+1))):=xf H 120 i
theorem qd {i f:Nat}{vs:aG}{Y:af}(hf:f≠156):UB (i+1) f vs Y=bk tx (UB i) f vs Y:=AS λ⟨_,h,_⟩=>hf h
theorem JD (H:nP gx tx)(i m:Nat){Y:af}(hw:ch m Y)(hx:lQ sp=some x):UB (i+1) 156 [.ref m,.str z_,sp,.int 0] Y=EH x Y:=by
 have:=AR (O:=UB i) (tx:=tx) (Vl H) (f:=156) (Y:=Y) ⟨_,rfl,m,sp,x,rfl,hw,hx,rfl⟩;refine Pz this λM m' Oq x' e M hx' hr=>?_;injection e with e1 e2
 injection e2 with _ e3
 injection e3 with e4 _
 subst e4;rw[hx] at hx';cases hx';exact hr
end
structure dp (Y Y':af):Prop where
 le:Y.length<=Y'.length
 old:∀(i:Nat) (c:Cell),Y[i]?=some c->Y'[i]?=some c
section
variable {O:ar} {Y Y' Cr:af} {m k t:Nat}
theorem dp.refl:dp Y Y:=⟨a9 _,λM M h=>h⟩
theorem dp.trans (h:dp Y Y')(k:dp Y' Cr):dp Y Cr:=⟨d9 h.le k.le,λi c hc=>k.old i c<|h.old i c hc⟩
theorem dp.push {J:af}(h:dp Y Y'):dp Y (Y'++J):=⟨by rw[b0];have:=h.le;exact d9 ‹_› (dX _ _),λi c hc=>cF<|h.old i c hc⟩
theorem dp.set {c:Cell}(h:dp Y Y')(ht:Y.length<=t):dp Y (Y'.set t c):=⟨by rw[qp];exact h.le,λi c' hc=>by
 have:=(bM.mp hc).1;rw[eA<|by exact nT<|eB ‹_› ‹_›];exact h.old i c' hc⟩
theorem dp.mG (h:dp Y Y')(w:ch m Y):ch m Y':=by
 refine aI w fun π E e=>bD π ⟨E.len,E.nd,λi c hc=>?_⟩ e;exact jI (E.cell i c hc) λj h1 h2 h3=>lA j h1 (h.old _ _ h2) h3
theorem append_at {l:aG}{v:V}(h:Y[t]?=some (.list l))(hl:l.length<10000):OD Y (.ref t) .append [v]=.ok .none (Y.set t<|.list (l++[v])):=by
 show pU Y t (λl=>if l.length<10000 then .ok .none (Y.set t<|.list (l++[v])) else .stuck)= _;exact cq (js h)<|if_pos hl
theorem gO {d:Bm}{l:aG}(h:Y[t]?=some (.list l))(hd:d=.append∨d=.pop):Fh Y (.ref t) d=true:=by
 rcases hd with rfl | rfl<;>(show(vR Y t).isSome=true;rw[js h];rfl)
theorem ky {l:Cell}{c:Cell}(h:Y[t]?=some c):(Y.set t l)[t]?=some l:=tZ (bM.mp h).1
def isFn (d:V):Bool:=match d with
 | .str s=>decide (s=aH)||decide (s=aB)
 |_=>false
def Gw (d:V):Nat:=match d with
 | .str s=>excOf s
 |_=>0
theorem yR {l:aG}:∀Y:af,cy Y .NotEq (.U l) (.U [])=some (!l.isEmpty):=λY=>lN
noncomputable abbrev O1:X:=.or [.m .NotEq (.i (.i (.l 9)<|.xi (-1))<|.xi 1)<|.U [],.m .NotEq (.i (.i (.l 9)<|.xi (-1))<|.xi 2)<|.U []]
abbrev Dm:List S:=[.ite O1 [.raise 52 (.xs DW)<|.l 3] [],.set (.l 10)<|.call 156 [.l 0,.l 1,.l 9,.l 3],.ite (.m .NotEq (.i (.i (.attr (.l 0) bq)<|.l 10)<|.xi 1)<|.U []) [.raise 52 (.xs DW)<|.l 3] [],.ex<|.bm (.l 8) .append [.l 10]]
abbrev eP (m:Nat)(g:V)(tf:Nat)(r n pA tp sp p:jJ):Loc:=[some<|.ref m,some<|.str z_,some g,some<|.int 0,some<|.ref tf,r,n,pA,tp,sp,p,none,none,none,none]
def q6 (O:ar)(m:Nat):Prop:=∀(Y:af) (sp:V) (x:Str ⊕ Nat),ch m Y->lQ sp=some x->O 156 [.ref m,.str z_,sp,.int 0] Y=EH x Y
inductive BdC (Y:af)(sp d:V):Prop
 |a (b1 b2:aG) (x:V) (h1:cb Y sp (.int (-1))=some x) (h2:cb Y x (.int 1)=some (.U b1)) (h3:cb Y x (.int 2)=some (.U b2)) (h4:(!b1.isEmpty||!b2.isEmpty)=true) (hd:d=.str aH)
 |b (x:V) (h1:cb Y sp (.int (-1))=some x) (h2:cb Y x (.int 1)=some (.U [])) (h3:cb Y x (.int 2)=some (.U [])) (h4:lQ sp=some (.inr (Gw d))) (hf:isFn d=true)
 |few (x:V) (h1:cb Y sp (.int (-1))=some x) (h2:cb Y x (.int 1)=some (.U [])) (h3:cb Y x (.int 2)=some (.U [])) (q:Str) (gs ps:aG) (h4:lQ sp=some (.inl q)) (h5:cb W (.ref 10) (.str q)=some (.U [.U gs,.U ps])) (hp:ps.isEmpty=false) (hd:d=.str aH)
 |ok (x:V) (h1:cb Y sp (.int (-1))=some x) (h2:cb Y x (.int 1)=some (.U [])) (h3:cb Y x (.int 2)=some (.U [])) (q:Str) (gs:aG) (h4:lQ sp=some (.inl q)) (h5:cb W (.ref 10) (.str q)=some (.U [.U gs,.U []])) (hd:d=.str q) (hf:isFn d=false)
theorem JE (Y:af){q:V × V}(hb:q∈q5):BdC Y q.1 q.2:=by
 have no:∀{P:Prop},q∈([]:List (V × V))->P:=λh=>(dj h).elim;unfold q5 at hb;exact(aX.mp hb).elim (λe=>e▸.ok _ rfl rfl rfl cD [] (by k_all) rfl rfl rfl) λhb=>(aX.mp hb).elim (λe=>e▸.ok _ rfl rfl rfl fR [] (by k_all) rfl rfl rfl) λhb=>(aX.mp hb).elim (λe=>e▸.ok _ rfl rfl rfl cD [] (by k_all) rfl rfl rfl) λhb=>(aX.mp hb).elim (λe=>e▸.ok _ rfl rfl rfl cD [] (by k_all) rfl rfl rfl) λhb=>(aX.mp hb).elim (λe=>e▸.few _ rfl rfl rfl iU [] [.str Hw] (by k_all) rfl rfl rfl) λhb=>(aX.mp hb).elim (λe=>e▸.a _ _ _ rfl rfl rfl rfl rfl) λhb=>(aX.mp hb).elim (λe=>e▸.a _ _ _ rfl rfl rfl rfl rfl) λhb=>(aX.mp hb).elim (λe=>e▸.b _ rfl rfl rfl (by k_all) rfl) λhb=>(aX.mp hb).elim (λe=>e▸.b _ rfl rfl rfl (by k_all) rfl) λhb=>(aX.mp hb).elim (λe=>e▸.a _ _ _ rfl rfl rfl rfl rfl) λhb=>(aX.mp hb).elim (λe=>e▸.b _ rfl rfl rfl (by k_all) rfl) λhb=>(aX.mp hb).elim (λe=>e▸.b _ rfl rfl rfl (by k_all) rfl) λhb=>(aX.mp hb).elim (λe=>e▸.ok _ rfl rfl rfl cD [] (by k_all) rfl rfl rfl) no
section
variable {sp d x:V} {g:V} {tf tp:Nat} {r n pA p:jJ} {acc:aG}
theorem JF {b1 b2:aG}{N:Loc}(hl:N[9]?=some (some sp))(h1:cb Y sp (.int (-1))=some x)(h2:cb Y x (.int 1)=some (.U b1))(h3:cb Y x (.int 2)=some (.U b2)):aV O O1 N Y=.ok (.bool (!b1.isEmpty||!b2.isEmpty)) Y:=by
 have e1:=yR (l:=b1) Y;have i1:aV O (.i (.l 9)<|.xi (-1)) N Y=.ok x Y:=aF (I hl) ag h1;cases hb:b1.isEmpty<;>rw[hb] at e1
 ·exact l8 (aq (aF i1 ag h2) (aS ae) e1) rfl
 ·exact f6 (aq (aF i1 ag h2) (aS ae) e1) rfl<|f0<|aq (aF i1 ag h3) (aS ae)<|yR Y
theorem yS {RF:Res fc}(h1:cb Y sp (.int (-1))=some x)(h2:cb Y x (.int 1)=some (.U []))(h3:cb Y x (.int 2)=some (.U []))(h:bZ O 400 (Dm.drop 1) (eP m g tf r n pA (some<|.ref tp) (some sp) p) Y=RF):bZ O 400 Dm (eP m g tf r n pA (some<|.ref tp) (some sp) p) Y=RF:=
 ah (aA (JF rfl h1 h2 h3) rfl ay) h
theorem vt {R:Res V}(e:O 156 [.ref m,.str z_,sp,.int 0] Y=R):aV O (.call 156 [.l 0,.l 1,.l 9,.l 3]) (eP m g tf r n pA (some<|.ref tp) (some sp) p) Y=R:=
 aK (aa (I rfl)<|aa (I rfl)<|aa (I rfl)<|aa (I rfl) ae) e
theorem EI (hw:ch m Y){q:Str}{gs ps:aG}(h5:cb W (.ref 10) (.str q)=some (.U [.U gs,.U ps])):aV O (.m .NotEq (.i (.i (.attr (.l 0) bq)<|.l 10)<|.xi 1)<|.U []) (eP m g tf r n pA (some<|.ref tp) (some sp)<|some<|.str q) Y=.ok (.bool (!ps.isEmpty)) Y:=by
 exact LL hw.facts λk2 W0 zq=>Xg zq λb1 b2 b3 b4 b5 b6 b7=>aq (aF (aF (tO (I rfl) b3 b4) (I rfl)<|b7 _ _ h5) ag rfl) (aS ae)<|yR Y
theorem Dn (hT:q6 O m)(hb:(sp,d)∈q5)(hw:ch m Y)(ht:Y[tp]?=some (.list acc))(ha:acc.length<100):
  (isFn d=true/\bZ O 400 Dm (eP m g tf r n pA (some<|.ref tp) (some sp) p) Y=.exc (Gw d) Y)∨
  (isFn d=false/\∃p',bZ O 400 Dm (eP m g tf r n pA (some<|.ref tp) (some sp) p) Y=.ok (none,eP m g tf r n pA (some<|.ref tp) (some sp) p') (Y.set tp<|.list (acc++[d]))):=by
 have c:BdC Y sp d:=JE Y hb;cases c with
 |a b1 b2 x h1 h2 h3 h4 hd=>
  have e:=JF (O:=O) (N:=eP m g tf r n pA (some<|.ref tp) (some sp) p) rfl h1 h2 h3;rw[h4] at e;rw[hd];exact .inl ⟨rfl,cP<|bj e rfl<|cP<|oG ag<|I rfl⟩
 |b x h1 h2 h3 h4 hf=>exact .inl ⟨hf,yS h1 h2 h3<|cP<|qY<|vt<|hT Y sp _ hw h4⟩
 |few x h1 h2 h3 q gs ps h4 h5 hp hd=>
  have e:=EI (O:=O) (sp:=sp) (g:=g) (tf:=tf) (tp:=tp) (r:=r) (n:=n) (pA:=pA) hw h5;rw[hp] at e;rw[hd];exact .inl ⟨rfl,yS h1 h2 h3<|ah (az (vt<|hT Y sp _ hw h4) aD)<|cP<|bj e rfl<|cP<|oG ag<|I rfl⟩
 |ok x h1 h2 h3 q gs h4 h5 hd hf=>
  rw[hd] at hf⊢;exact .inr<|S5 hf (some<|.str q)<|yS h1 h2 h3<|ah (az (vt<|hT Y sp _ hw h4) aD)<|ah (aA (EI hw h5) rfl ay)<|ah (gR<|jS (I rfl) (gO ht<|.inl rfl) (aa (I rfl) ae)<|append_at ht<|lt_num ha rfl) ay
end
end
section
variable {O:ar} {N loc':Loc} {Y al ax:af} {f:V->Loc->af->Res fc} {src v:V} {all rest:aG} {C:Nat} {R:Res fc}
theorem eQ:forL f src all [] N Y=.ok (none,N) Y:=rfl
theorem aZ (h:f v N Y=.ok (none,loc') al)(q:same al src all=true)(k:forL f src all rest loc' al=R):forL f src all (v::rest) N Y=R:=aJ h<|qV q k
theorem qe (h:f v N Y=.exc C al):forL f src all (v::rest) N Y=.exc C al:=dz h
theorem JG {x:X}{t:T}{ss:List S}{W:Nat}(h:aV O x N Y=.ok src al)(q:cG al src=some all)(k:forL (λv N Y=>(tG O t v N Y).bind λN Y=>bZ O W ss N Y) src all all N al=.exc C ax):nO O W (.for t x ss) N Y=.exc C ax:=gB h q k
end
section
variable {O:ar} {Y aw Y':af} {m t:Nat}
abbrev Rm (O:ar):V->Loc->af->Res fc:=λv N Y=>(tG O (.l 9) v N Y).bind λN Y=>bZ O 400 Dm N Y
theorem Ba (hT:q6 O m)(hw:ch m aw){g:V}{tf tp:Nat}{r n pA:jJ}{src:V}{all:aG}(nv:∀Y,same Y src all=true)(h0:aw.length<=tp):∀(l:List (V × V)) {Y:af} {acc:aG} {sp p:jJ},(∀q∈l,q∈q5)->dp aw Y->Y[tp]?=some (.list acc)->acc.length+l.length<100->
  (∃q Y',l.find? (λq=>isFn q.2)=some q/\forL (Rm O) src all (l.map (·.1)) (eP m g tf r n pA (some<|.ref tp) sp p) Y=.exc (Gw q.2) Y'/\dp aw Y')∨
  (l.find? (λq=>isFn q.2)=none/\∃Y' Oq p',forL (Rm O) src all (l.map (·.1)) (eP m g tf r n pA (some<|.ref tp) sp p) Y=.ok (none,eP m g tf r n pA (some<|.ref tp) Oq p') Y'/\dp aw Y'/\Y'[tp]?=some (.list<|acc++l.map (·.2))/\∀i,i≠tp->Y'[i]?=Y[i]?):=by
 intro l
 induction l with
 |nil=>
  intro Y acc sp p _ hg ht _;exact .inr<|S6 rfl Y sp p eQ hg (by simpa using ht) λM M=>rfl
 |cons hd l ih=>
  intro Y acc sp p hb hg ht ha;obtain⟨EJ,d⟩:=hd;rw[dE] at ha;have sS:(Rm O) EJ (eP m g tf r n pA (some<|.ref tp) sp p) Y=bZ O 400 Dm (eP m g tf r n pA (some<|.ref tp) (some EJ) p) Y:=rfl;refine aY (Dn hT (hb _<|.head _) (hg.mG hw) (g:=g) (tf:=tf) (r:=r) (n:=n) (pA:=pA) (p:=p) ht<|iR ‹_› rfl) (λYq=>?_) λQi=>?_
  ·exact cN Yq λhF e=>.inl<|eT (EJ,d) Y (by rw[List.find?_cons_of_pos<|by exact hF]) (qe<|sS.trans e) hg
  ·refine BY Qi λhF p' e=>aY (ih (sp:=some EJ) (p:=p') (λq hq=>hb q<|.tail _ hq) (hg.set (c:=.list (acc++[d])) h0) (ky ht)<|iQ ‹_›) (λQj=>?_) λQo=>?_
   ·refine cZ Qj λq Y' h1 h2 h3=>?_;exact .inl<|eT q Y' (by rw[wz<|by simpa using hF];exact h1) (aZ (sS.trans e) (nv _) h2) h3
   ·refine Pz Qo λh1 Y' Oq p'' h2 h3 h4 h5=>?_;refine .inr<|S6 (by rw[wz<|by simpa using hF];exact h1) Y' Oq p'' (aZ (sS.trans e) (nv _) h2) h3 (by simpa using h4) λi hi=>?_
    rw[h5 i hi,eA<|gb hi]
abbrev Vm:cY:=[lT,gZ,g6,g7,ft,fQ,g8,g9,dI]
def jv (prev:cY)(n:Str):Bool:=anyS n prev||(anyS n Vm||anyS n [uj,eU,cU])
def jV:List Str->List (Str × List (V × V))->jJ
 |_,[]=>none
 |prev,(n,bs)::r=>if jv prev n then some (.str aH) else match bs.find? (λq=>isFn q.2) with
  |some q=>some q.2
  |none=>jV (prev++[n]) r
abbrev JH:X:=.or [.m .In (.l 6)<|.comp [none,none] [1] (.l 4) []<|.i (.l 1)<|.xi 0,.m .In (.l 6)<|.c<|.U [.str lT,.str gZ,.str g6,.str g7,.str ft,.str fQ,.str g8,.str g9,.str dI],.m .In (.l 6)<|.U [.xs uj,.xs eU,.xs cU]]
noncomputable abbrev iC (l:List (Str × aG)):aG:=l.map λp=>.U [.str p.1,.U p.2]
theorem JI {tf:Nat}{qs:aG}:∀(l:List (Str × aG)) (acc:aG),Y[tf]?=some (.list qs)->acc.length+l.length<1000->dk (iL O [none,none] [1] []<|.i (.l 1)<|.xi 0) (.ref tf) qs (iC l) acc Y=.ok (acc++l.map λp=>.str p.1) Y:=by
 intro l
 induction l with
 |nil=>
  intro acc _ _;show dk _ _ _ [] acc Y= _;rw[b8];simp
 |cons p l ih=>
  intro acc h ha;rw[dE] at ha;rw[show acc++((p::l).map λp=>V.str p.1)=acc++[V.str p.1]++(l.map λp=>V.str p.1) by simp];exact bo (dC rfl cH (aF (I rfl) ag rfl)<|iR ‹_› rfl) (ba h)<|ih _ h<|iQ ‹_›
theorem Nr (l:List (Str × aG)):strsOf (l.map λp=>V.str p.1)=some (l.map (·.1)):=by
 induction l with
 |nil=>rfl
 |cons p r ih=>rw[d8,d8,strsOf,ih];rfl
theorem Nt {g:V}{tf:Nat}{r pA tp sp p:jJ}{n:Str}{l:List (Str × aG)}(h:Y[tf]?=some (.list<|iC l))(hl:l.length<900):aV O JH (eP m g tf r (some<|.str n) pA tp sp p) Y=.ok (.bool<|jv (l.map (·.1)) n) (Y++[.list<|l.map λp=>.str p.1]):=by
 have e0:=JI (O:=O) l [] h (by simpa using (lt_num ‹_› rfl:l.length<1000));rw[sf] at e0;have e1:aV O (.comp [none,none] [1] (.l 4) []<|.i (.l 1)<|.xi 0) (eP m g tf r (some<|.str n) pA tp sp p) Y=.ok (.ref Y.length) (Y++[.list<|l.map λp=>.str p.1]):=dU (I rfl) (cI h) e0;have e2:=in_str (Y:=Y++[Cell.list<|l.map λp=>V.str p.1]) (t:=Y.length) (s:=n) ao<|Nr l
 unfold jv;refine ic ?_;cases ha:anyS n (l.map (·.1))<;>rw[ha] at e2
 ·refine f6 (aq (I rfl) e1 e2) rfl ?_;cases hb:anyS n Vm
  ·refine f6 (aq (I rfl) ag (show _=some false by rw[<-hb];rfl)) rfl ?_;exact f0<|aq (I rfl) (aS<|aa ag<|aa ag<|aa ag ae) rfl
  ·exact l8 (aq (I rfl) ag (show _=some true by rw[<-hb];rfl)) rfl
 ·exact l8 (aq (I rfl) e1 e2) rfl
end
def nameSet:cY:=[lW,Hw,fQ,cU]
noncomputable abbrev Item:=Str × List (V × V)
noncomputable abbrev fm (l:List Item):aG:=l.map λp=>.U [.str p.1,.U<|p.2.map (·.1)]
noncomputable abbrev vu (l:List Item):List (Str × aG):=l.map λp=>(p.1,p.2.map (·.2))
abbrev Vn:X:=.bin .Add (.bin .Add (.xs nZ)<|.l 6)<|.xs Oz
abbrev JJ:List S:=[.ite JH [.raise 52 Vn<|.l 3] [],.set (.l 8)<|.s [],.for (.l 9) (.l 7) Dm,.ex<|.bm (.l 4) .append [.U [.l 6,.bi .tuple [.l 8]]]]
abbrev outF (O:ar):V->Loc->af->Res fc:=λv N Y=>(tG O (.U [.l 6,.l 7]) v N Y).bind λN Y=>bZ O 400 JJ N Y
section
variable {O:ar} {Y aw Y':af} {m t:Nat}
theorem Rn {n:Str}(hn:n∈nameSet){N:Loc}(hl:N[6]?=some (some<|.str n)):∃s,aV O Vn N Y=.ok (.str s) Y:=by
 simp only[nameSet,aX,dj,or_false] at hn;rcases hn with rfl | rfl | rfl | rfl<;>exact⟨_,eX (eX ag (I hl) rfl) ag rfl⟩
variable {tf:Nat}
theorem Do (hT:q6 O m)(hw:ch m aw){g:V}{r:jJ}{src:V}{all:aG}(nv:∀Y,same Y src all=true)(h0:aw.length<=tf):∀(l:List Item) {Y:af} {dn:List (Str × aG)} {n pA tp sp p:jJ},(∀q∈l,q.1∈nameSet/\q.2.length<=2/\∀x∈q.2,x∈q5)->dp aw Y->Y[tf]?=some (.list<|iC dn)->dn.length+l.length<100->
  (∃d Y',jV (dn.map (·.1)) l=some d/\forL (outF O) src all (fm l) (eP m g tf r n pA tp sp p) Y=.exc (Gw d) Y'/\dp aw Y')∨
  (jV (dn.map (·.1)) l=none/\∃Y' n' Os W2 Oq p',forL (outF O) src all (fm l) (eP m g tf r n pA tp sp p) Y=.ok (none,eP m g tf r n' Os W2 Oq p') Y'/\dp aw Y'/\Y'[tf]?=some (.list<|iC<|dn++vu l)):=by
 intro l
 induction l with
 |nil=>
  intro Y dn n pA tp sp p _ hg ht _;exact .inr<|S8 rfl Y n pA tp sp p eQ hg<|by simpa using ht
 |cons hd l ih=>
  intro Y dn n pA tp sp p hb hg ht ha;obtain⟨n₁,bs⟩:=hd;rw[dE] at ha;refine qr (hb _<|.head _) λhn Ot SQ=>?_;have Ot:=Ot;have sS:(outF O) (.U [.str n₁,.U<|bs.map (·.1)]) (eP m g tf r n pA tp sp p) Y=bZ O 400 JJ (eP m g tf r (some<|.str n₁) (some<|.U<|bs.map (·.1)) tp sp p) Y:=rfl;have ew:=Nt (O:=O) (m:=m) (g:=g) (r:=r) (pA:=some<|.U<|bs.map (·.1)) (tp:=tp) (sp:=sp) (p:=p) (n:=n₁) ht<|iR ‹_› rfl
  cases hW:jv (dn.map (·.1)) n₁<;>rw[hW] at ew
  ·have ht1:=ak (c':=Cell.list<|dn.map λp=>V.str p.1) ht;have SM:=ak (c':=Cell.list []) ht1;have mM:=(bM.mp ht).1;have Wl:aw.length<=(Y++[Cell.list<|dn.map λp=>V.str p.1]).length:=by have:=hg.push (J:=[Cell.list<|dn.map λp=>V.str p.1]).le;exact this
   have dS:tf≠(Y++[Cell.list<|dn.map λp=>V.str p.1]).length:=by rw[b0];omega
   have pre:∀{RF:Res fc},bZ O 400 (JJ.drop 2) (eP m g tf r (some<|.str n₁) (some<|.U<|bs.map (·.1)) (some<|.ref (Y++[Cell.list<|dn.map λp=>V.str p.1]).length) sp p) (Y++[Cell.list<|dn.map λp=>V.str p.1]++[Cell.list []])=RF->bZ O 400 JJ (eP m g tf r (some<|.str n₁) (some<|.U<|bs.map (·.1)) tp sp p) Y=RF:=λ{RF} h=>
    ah (aA ew rfl ay) (ah (az (bh ae) aD) h)
   refine aY (Ba hT hw (g:=g) (tf:=tf) (r:=r) (n:=some<|.str n₁) (pA:=some<|.U<|bs.map (·.1)) (src:=.U<|bs.map (·.1)) (all:=bs.map (·.1)) (λM=>rfl) Wl bs (sp:=sp) (p:=p) SQ (hg.push.push (J:=[Cell.list []])) ao<|by simpa using (fA ‹_› rfl:bs.length<100)) (λQp=>?_) λQq=>?_
   ·refine cZ Qp λq Y' h1 h2 h3=>.inl<|eT q.2 Y' ?_ (qe<|sS.trans<|pre<|cP<|JG (I rfl) rfl h2) h3
    unfold jV;rw[hW,h1];rfl
   ·refine Pz Qq λh1 Y' Oq p' h2 h3 h4 h5=>?_;rw[sf] at h4;have h6:Y'[tf]?=some (.list<|iC dn):=by rw[h5 tf dS];exact SM
    have e7:bZ O 400 JJ (eP m g tf r (some<|.str n₁) (some<|.U<|bs.map (·.1)) tp sp p) Y=.ok (none,eP m g tf r (some<|.str n₁) (some<|.U<|bs.map (·.1)) (some<|.ref (Y++[Cell.list<|dn.map λp=>V.str p.1]).length) Oq p') (Y'.set tf<|.list<|iC dn++[.U [.str n₁,.U<|bs.map (·.2)]]):=by
     refine pre<|ah (gB (I rfl) rfl h2)<|ah (gR<|jS (I rfl) (gO h6<|.inl rfl) (aa (aS<|aa (I rfl)<|aa (cL (aa (I rfl) ae)<|b9 (cE h4)<|by(rw[cu];exact fA ‹_› rfl)) ae) ae)<|append_at h6<|by(rw[cu];exact iR ‹_› rfl)) ay
    have hd:iC dn++[V.U [.str n₁,.U<|bs.map (·.2)]]=iC (dn++[(n₁,bs.map (·.2))]):=by simp[iC]
    rw[hd] at e7;rcases ih (dn:=dn++[(n₁,bs.map (·.2))]) (λq hq=>hb q<|.tail _ hq) (h3.set h0) (ky h6) (iQ ‹_›) with Qr | Qs
    ·refine cZ Qr λd ax k1 k2 k3=>.inl<|eT d ax ?_ (aZ (sS.trans e7) (nv _) k2) k3
     rw[jV,hW,h1];simpa using k1
    ·refine S4 Qs λk1 ax n' Os W2 aa3 p'' k2 k3 k4=>.inr<|S8 ?_ ax n' Os W2 aa3 p'' (aZ (sS.trans e7) (nv _) k2) k3<|by simpa using k4
     rw[jV,hW,h1];simpa using k1
  ·refine aM (Rn (O:=O) (Y:=Y++[Cell.list<|dn.map λp=>V.str p.1]) hn (N:=eP m g tf r (some<|.str n₁) (some<|.U<|bs.map (·.1)) tp sp p) rfl) λs es=>.inl<|eT (.str aH) (Y++[.list<|dn.map λp=>.str p.1]) ?_ (qe<|sS.trans<|cP<|bj ew rfl<|cP<|oG es<|I rfl) hg.push
   rw[jV,hW];rfl
abbrev Vo:List S:=[.ite (.m .Eq (.slcTo (.l 5)<|.xi 2)<|.xs pP) [.raise 52 (.bin .Add (.xs Oy)<|.l 5)<|.l 3] []]
def mH:List (aG):=[[],[.str fF],[.str fF,.str rp]]
def rV:List (aG):=[[.str pP],[.str fF,.str jL],[.str jM]]
variable {rs:aG}
theorem Gy (h:rs∈mH){told:aG}:∃r,nO O 400 (.for (.l 5) (.i (.l 2)<|.xi 0) Vo) (eP m (.U [.U rs,.U told]) tf none none none none none none) Y=.ok (none,eP m (.U [.U rs,.U told]) tf r none none none none none) Y:=by
 simp only[mH,aX,dj,or_false] at h;rcases h with rfl | rfl | rfl
 ·exact⟨none,by k_all⟩
 ·exact⟨some<|.str fF,by k_all⟩
 ·exact⟨some<|.str rp,by k_all⟩
theorem JK (h:rs∈rV){told:aG}:nO O 400 (.for (.l 5) (.i (.l 2)<|.xi 0) Vo) (eP m (.U [.U rs,.U told]) tf none none none none none none) Y=.exc 52 Y:=by
 simp only[rV,aX,dj,or_false] at h;rcases h with rfl | rfl | rfl<;>k_all
theorem Dp (hT:q6 O m)(hw:ch m Y)(hr:rs∈mH∨rs∈rV){l:List Item}(hl:∀q∈l,q.1∈nameSet/\q.2.length<=2/\∀x∈q.2,x∈q5)(hlen:l.length<=2):
  (rs∈rV/\∃Y',bk tx O 161 [.ref m,.str z_,.U [.U rs,.U<|fm l],.int 0] Y=.exc 52 Y'/\dp Y Y')∨
  (rs∈mH/\((∃d Y',jV [] l=some d/\bk tx O 161 [.ref m,.str z_,.U [.U rs,.U<|fm l],.int 0] Y=.exc (Gw d) Y'/\dp Y Y')∨
   (jV [] l=none/\∃t Y',bk tx O 161 [.ref m,.str z_,.U [.U rs,.U<|fm l],.int 0] Y=.ok (.ref t) Y'/\dp Y Y'/\Y.length<=t/\Y'[t]?=some (.list<|iC<|vu l)))):=by
 have st:∀{RF:Res fc},bZ O 400 (PO.body.drop 1) (eP m (.U [.U rs,.U<|fm l]) Y.length none none none none none none) (Y++[Cell.list []])=RF->bZ O 400 PO.body [some<|.ref m,some<|.str z_,some<|.U [.U rs,.U<|fm l],some<|.int 0,ai,ai,ai,ai,ai,ai,ai,ai,ai,ai,ai] Y=RF:=λ{RF} h=>
  ah (az (bh ae) aD) h
 refine aY hr (λhr=>?_) λhr=>?_
 ·refine .inr ⟨hr,?_⟩;refine aM (Gy (O:=O) (Y:=Y++[Cell.list []]) (m:=m) hr (told:=fm l) (tf:=Y.length)) λr e1=>aY (Do hT hw (g:=.U [.U rs,.U<|fm l]) (r:=r) (src:=.U<|fm l) (all:=fm l) (λM=>rfl) (a9 _) l (dn:=[]) (n:=none) (pA:=none) (tp:=none) (sp:=none) (p:=none) hl (dp.refl.push) ao<|by simpa using (fA ‹_› rfl:l.length<100)) (λQt=>?_) λQG=>?_
  ·refine cZ Qt λd Y' h1 h2 h3=>.inl<|eT d Y' h1 ?_ h3
   apply dW rfl rfl rfl
   repeat (intro w;first | exact w | refine(?_:_->_) (w<|by first | (with_reducible assumption) | assumption | exact eq_int | exact rfl))
  ·refine S4 QG λh1 Y' n' Os W2 Oq p' h2 h3 h4=>.inr<|Xv h1 Y.length Y' ?_ h3 (a9 _)<|by simpa using h4
   apply dW rfl rfl rfl
   repeat (intro w;first | exact w | refine(?_:_->_) (w<|by first | (with_reducible assumption) | assumption | exact eq_int | exact rfl))
 ·refine .inl<|Xt hr (Y++[Cell.list []]) ?_ dp.refl.push
  apply gj rfl rfl rfl;exact st<|cP<|JK hr
end
def eR (s m:Nat)(Y:af):Prop:=∃π,Emb π W Y/\π[1]?=some m/\s∉π
section
variable {O:ar} {Y Y':af} {s m k t:Nat} {a b:Int}
theorem eR.at (h:eR s m Y):ch m Y:=by obtain⟨π,E,e,_⟩:=h;exact⟨π,E,e⟩
theorem bg.mG (h:bg s Y Y')(w:eR s m Y):eR s m Y':=by
 refine jI w fun π E e hs=>lA π ⟨E.len,E.nd,λi c hc=>?_⟩ e hs;exact jI (E.cell i c hc) λj h1 h2 h3=>lA j h1 (h.old _ _ (λe=>hs<|e▸bn h1) h2) h3
theorem bg.Ro {c:Cell}(h:bg s Y Y')(ht:Y.length<=t):bg s Y (Y'.set t c):=⟨by rw[qp];exact h.le,λi c' hi hc=>by
 have:=(bM.mp hc).1;rw[eA<|by exact nT<|eB ‹_› ‹_›];exact h.old i c' hi hc⟩
theorem dp.keep (h:dp Y Y'):bg s Y Y':=⟨h.le,λi c M hc=>h.old i c hc⟩
def rW (O:ar)(s:Nat):Prop:=∀(Y:af) (a b:Int),Y[s]?=some (aC a b)->∃j Y' sp d a' b',O 510 [.ref s] Y=.ok (.ref j) Y'/\bg s Y Y'/\Y'[s]?=some (aC a' b')/\Y'[j]?=some (.list [sp,d])/\j≠s/\(sp,d)∈q5
inductive LE:List V->List V->List (V × V)->Prop
 |nil:LE [] [] []
 |cons {sp d:V} {ws ds:aG} {bs:List (V × V)}:(sp,d)∈q5->LE ws ds bs->LE (sp::ws) (d::ds) ((sp,d)::bs)
theorem LE.is {ws ds:aG}{bs:List (V × V)}(h:LE ws ds bs):ws=bs.map (·.1)/\ds=bs.map (·.2)/\∀x∈bs,x∈q5:=by
 induction h with
 |nil=>exact⟨rfl,rfl,λM h=>by cases h⟩
 |cons h _ ih=>exact⟨by rw[d8,<-ih.1],by rw[d8,<-ih.2.1],λx hx=>by
   rcases aX.mp hx with rfl | hx
   ·exact h
   ·exact ih.2.2 x hx⟩
theorem Gz (hB:rW O s){all:aG}{lo hi:Int}:∀(l:aG) {Y:af} {a b:Int} (acc ws ds:aG) (bs:List (V × V)),Y[s]?=some (aC a b)->bd s Y acc ws ds->LE ws ds bs->acc.length+l.length<=2->
  ∃ps Hb tY bs' Y' a' b',dk (iL O [none,none,none,some<|.ref s] [1] []<|.call 510 [.l 3]) (.rng lo hi) all l acc Y=.ok ps Y'/\bg s Y Y'/\Y'[s]?=some (aC a' b')/\bd s Y' ps Hb tY/\LE Hb tY bs'/\ps.length<=2:=by
 intro l
 induction l with
 |nil=>
  intro Y a b acc ws ds bs hs hR hG hl;exact Ly acc ws ds bs Y a b<|SZ b8 .refl hs hR hG<|by simpa using hl
 |cons v r ih=>
  intro Y a b acc ws ds bs hs hR hG hl;refine G0 (hB Y a b hs) λj al x d bJ dT zq=>DS zq λe1 K1 s1 c1 n1 T1=>?_;have app:∀{ps ws ds:aG} {bs:List (V × V)},bd s al ps ws ds->LE ws ds bs->bd s al (ps++[.ref j]) (ws++[x]) (ds++[d])/\LE (ws++[x]) (ds++[d]) (bs++[(x,d)]):=by
   intro ps ws ds bs h
   induction h generalizing bs with
   |nil=>intro g;cases g;exact⟨.cons n1 c1 .nil,.cons T1 .nil⟩
   |cons g1 g2 _ ih=>intro g;cases g with | cons g3 g4=>exact⟨.cons g1 g2 (ih g4).1,.cons g3 (ih g4).2⟩
  refine cN (app (hR.keep K1) hG) λZ8 Z9=>?_;rw[dE] at hl;exact LN (ih (acc++[.ref j]) _ _ _ s1 Z8 Z9<|tC ‹_›) λps Hb tY bs' Y' a' b' zq=>DS zq λe2 K2 s2 R2 G2 l2=>Ly ps Hb tY bs' Y' a' b'<|SZ (bo (dC rfl cH (aK (aa (I rfl) ae) e1)<|iR ‹_› rfl) rfl e2) (K1.trans K2) s2 R2 G2 l2
noncomputable abbrev Vp:X:=.comp [none,none,none,some 0] [1] (.bi .range [.call 385 [.l 0,.xi 3]]) []<|.call 510 [.l 3]
def q7 (O:ar)(s:Nat):Prop:=∀(Y:af) (a b top:Int),Y[s]?=some (aC a b)->0<top->top<1000->∃d a' b',0<=d/\d<top/\O 385 [.ref s,.int top] Y=.ok (.int d) (Y.set s<|aC a' b')
theorem Vq (hB:rW O s)(hK:q7 O s){N:Loc}(Lq:N[0]?=some (some<|.ref s))(hs:Y[s]?=some (aC a b)):
  ∃t Y' ps ws ds bs a' b',aV O Vp N Y=.ok (.ref t) Y'/\bg s Y Y'/\Y'[s]?=some (aC a' b')/\Y.length<=t/\Y'[t]?=some (.list ps)/\bd s Y' ps ws ds/\LE ws ds bs/\ps.length<=2:=by
 refine kg (hK Y a b 3 hs (by decide)<|by decide) λd bK fW d0 d1 e2=>?_;refine aM (Int.eq_ofNat_of_zero_le d0) λn dZ=>?_;subst dZ;have iv:∃l:aG,l.length=n/\cG (Y.set s<|aC bK fW) (.rng 0 (n:Int))=some l:=by
  refine bD ((List.range<|((n:Int) - 0).toNat).map λ(k:Nat)=>.int (0+(k:Int))) ?_ ?_
  ·rw[cu,List.length_range];exact rfl
  ·unfold cG;dsimp only;rw[if_pos<|by omega]
 refine aI iv λl hl iv=>?_;refine LN (Gz hB (all:=l) (lo:=0) (hi:=n) l [] [] [] [] (cW hs bK fW) .nil .nil (by simp;omega)) λps ws ds bs bB mB pu zq=>DS zq λe3 K3 s3 R3 G3 l3=>?_;have K:=bg.set.trans K3;refine WA bB.length (bB++[.list ps]) ps ws ds bs mB pu<|Sy ?_ (K.trans .push) (ak s3) K.le ao (R3.keep .push) G3 l3
 have hf:frees [none,none,none,some 0] N=[none,none,none,some<|.ref s]:=by
  unfold frees;simp[Lq]
 refine dU (cL (aa (aK (aa (I Lq)<|aa ag ae) e2) ae) rfl) iv ?_;rw[hf];exact e3
end
abbrev yT:cY:=[lT,gZ,g6,g7,ft,fQ,g8,g9,dI,eU,cU]
def rowOf (p:Item):V:=.U [.str p.1,dt isFn<|p.2.map (·.2)]
abbrev gS (l:List Item):aG:=l.map rowOf
def q8 (prev:cY)(p:Item):V:=df (jv prev p.1) (.str aH)<|df (isFn<|dt isFn<|p.2.map (·.2)) (dt isFn<|p.2.map (·.2))<|.str z_
def fD:List Str->List Item->aG
 |_,[]=>[]
 |prev,p::r=>q8 prev p::fD (prev++[p.1]) r
section
variable {O:ar} {Y:af} {t:Nat} {a b:Int}
theorem Dq {sp d:V}(h:(sp,d)∈q5):∃x,d=.str x:=by
 simp only[q5,aX,dj,or_false,Prod.mk.injEq] at h;rcases h with ⟨_,h⟩ | ⟨_,h⟩ | ⟨_,h⟩ | ⟨_,h⟩ | ⟨_,h⟩ | ⟨_,h⟩ | ⟨_,h⟩ | ⟨_,h⟩ | ⟨_,h⟩ | ⟨_,h⟩ | ⟨_,h⟩ | ⟨_,h⟩ | ⟨_,h⟩<;>exact⟨_,h⟩
theorem xp {x:Str}{t:Nat}(ht:Y[t]?=some a8):cy Y .In (.str x) (.ref t)=some (isFn<|.str x):=by
 rw[in_str ht rfl];have e:∀a b:Str,decide (a=b)=decide (b=a):=λa b=>by
  by_cases h:a=b
  ·rw[dP h,dP h.symm]
  ·rw[eN h,eN λq=>h q.symm]
 simp only[anyS,isFn,Bool.or_false];rw[e aH x,e aB x]
theorem Bb {x:V × V}(h:x∈q5)(n:Nat):Plain n x.2:=by
 simp only[q5,aX,dj,or_false] at h;rcases h with rfl | rfl | rfl | rfl | rfl | rfl | rfl | rfl | rfl | rfl | rfl | rfl | rfl<;>exact ie _ (by k_all) n
theorem q9 {bs:List (V × V)}(hb:∀x∈bs,x∈q5):(∃x,dt isFn (bs.map (·.2))=.str x/\isFn (.str x)=true/\bs.find? (λq=>isFn q.2)≠none/\∀q,bs.find? (λq=>isFn q.2)=some q->q.2=.str x)∨
  (dt isFn (bs.map (·.2))=.U (bs.map (·.2))/\bs.find? (λq=>isFn q.2)=none):=by
 have hm:(bs.map (·.2)).find? isFn=(bs.find? λq=>isFn q.2).map (·.2):=by rw[List.find?_map];rfl
 unfold dt;rw[hm];cases hf:bs.find? (λq=>isFn q.2) with
 |none=>exact .inr ⟨rfl,rfl⟩
 |some q=>
  refine aM (Dq<|hb q<|zx hf) λx hx=>?_;refine .inl<|nV x hx (hx▸(List.find?_some (p:=λq:V × V=>isFn q.2) hf:isFn q.2=true)) (by simp) (λq' h=>by cases h;exact hx)
theorem JL {bs:List (V × V)}(hb:∀x∈bs,x∈q5){t:Nat}(ht:Y[t]?=some a8):cy Y .In (dt isFn<|bs.map (·.2)) (.ref t)=some (isFn<|dt isFn<|bs.map (·.2)):=by
 rcases q9 hb with ⟨x,h,_⟩ | ⟨h,_⟩<;>rw[h]
 ·exact xp ht
 ·have p:Plain 1 (.U<|bs.map (·.2)):=.U 0 _ λx hx=>by
   refine aI (bT.mp hx) λq hq dZ=>?_;subst dZ;exact Bb (hb q hq) 0
  exact ju (.inr<|.inr ⟨_,rfl,p⟩) (by decide) ht
theorem Vr {x:Str}:cy Y .In (.str x) (.gl [.str lT,.str gZ,.str g6,.str g7,.str ft,.str fQ,.str g8,.str g9,.str dI,.str eU,.str cU])=some (anyS x yT):=rfl
theorem JM {n:Str}(hn:n∈nameSet)(prev:cY):(anyS n prev||anyS n yT)=jv prev n:=by
 unfold jv
 congr 1
 simp only[nameSet,aX,dj,or_false] at hn;rcases hn with rfl | rfl | rfl | rfl<;>decide+kernel
noncomputable abbrev JN:X:=.comp [none,none] [1] (.slcTo (.l 3)<|.xi (-1)) []<|.i (.l 1)<|.xi 0
theorem Dr {tf:Nat}{qs:aG}:∀(l:List Item) (acc:aG),Y[tf]?=some (.list qs)->acc.length+l.length<1000->dk (iL O [none,none] [1] []<|.i (.l 1)<|.xi 0) (.ref tf) qs (gS l) acc Y=.ok (acc++l.map λp=>.str p.1) Y:=by
 intro l
 induction l with
 |nil=>
  intro acc _ _;show dk _ _ _ [] acc Y= _;rw[b8];simp
 |cons p l ih=>
  intro acc h ha;rw[dE] at ha;rw[show acc++((p::l).map λp=>V.str p.1)=acc++[V.str p.1]++(l.map λp=>V.str p.1) by simp];exact bo (dC rfl cH (aF (I rfl) ag rfl)<|iR ‹_› rfl) (ba h)<|ih _ h<|iQ ‹_›
theorem Rq {i:Nat}{l:aG}(h:Y[i]?=some (.list l))(hl:l.length<10000):rt Y (.ref i) (.int (-1))=.ok (.ref Y.length) (Y++[.list l.dropLast]):=by
 show fq (vR Y i) _= _;exact cq (js h)<|(if_pos ⟨rfl,hl⟩).trans rfl
theorem Rr {N:Loc}{t3:Nat}{l:List Item}{p:Item}(WY:N[3]?=some (some<|.ref t3))(h:Y[t3]?=some (.list<|gS (l++[p])))(hl:l.length<900):aV O JN N Y=.ok (.ref (Y++[Cell.list<|gS l]).length) (Y++[Cell.list<|gS l]++[.list<|l.map λp=>.str p.1]):=by
 have e0:=Dr (O:=O) (Y:=Y++[Cell.list<|gS l]) (tf:=Y.length) l [] ao (by simpa using (lt_num ‹_› rfl:l.length<1000));rw[sf] at e0;have e1:=Rq h (by rw[cu,b0,gQ];omega);rw[show(gS (l++[p])).dropLast=gS l by simp[gS]] at e1;exact dU (vc (I WY) ag e1) (cI ao) e0
theorem JO (l:List Item):strsOf (l.map λp=>V.str p.1)=some (l.map (·.1)):=by
 induction l with
 |nil=>rfl
 |cons p r ih=>rw[d8,d8,strsOf,ih];rfl
end
abbrev Vs:List S:=[.set (.l 6) Vp,.ex<|.bm (.l 12) .append [.U [.l 5,.bi .tuple [.comp [none,none] [1] (.l 6) []<|.i (.l 1)<|.xi 0]]],.set (.l 7)<|.call 498 [.l 6],.ex<|.bm (.l 3) .append [.U [.l 5,.l 7]],
 .set (.l 8) (.or [.m .In (.l 5) JN,.m .In (.l 5)<|.c<|.gl [.str lT,.str gZ,.str g6,.str g7,.str ft,.str fQ,.str g8,.str g9,.str dI,.str eU,.str cU]]),
 .ex (.bm (.l 4) .append [.ite (.l 8) (.xs aH)<|.ite (.m .In (.l 7)<|.s [.xs aH,.xs aB]) (.l 7)<|.xs z_])]
abbrev Rs (O:ar):V->Loc->af->Res fc:=λv N Y=>(tG O (.l 5) v N Y).bind λN Y=>bZ O 400 Vs N Y
noncomputable abbrev nG (s m:Nat)(names:V)(t3 t4:Nat)(n x6 x7 x8:jJ)(rs:V)(lx:Nat):Loc:=[some<|.ref s,some<|.ref m,some names,some<|.ref t3,some<|.ref t4,n,x6,x7,x8,none,none,some rs,some<|.ref lx,ai,ai,ai,ai,ai,ai,ai]
def EK (O:ar)(s:Nat):Prop:=∀(Y:af) (t:Nat) (ps ws ds:aG),t≠s->Y[t]?=some (.list ps)->bd s Y ps ws ds->(∀d∈ds,∃x,d=.str x)->ps.length<=2->∃J,O 498 [.ref t] Y=.ok (dt isFn ds) (Y++J)
section
variable {O:ar} {Y aw Y':af} {s m t:Nat} {a b:Int}
theorem bd.put {t:Nat}{L:aG}{c:Cell}{ps ws ds:aG}(h:bd s Y ps ws ds)(ht:Y[t]?=some (.list L))(hd:∀d∈ds,∃x,d=.str x)(hL:∀w x,L≠[w,.str x]):bd s (Y.set t c) ps ws ds:=by
 induction h with
 |nil=>exact .nil
 |@cons j w d ps ws ds h1 h2 _ ih=>
  refine .cons h1 ?_<|ih λd zs=>hd d<|.tail _ zs
  rw[eA]
  ·exact h2
  ·rintro rfl;replace h2:=ht▸h2;refine aM (hd d<|.head _) λx dZ=>?_;subst dZ;injection h2 with h2
   injection h2 with h2
   exact hL w x h2
theorem Nu {l:List Item}(w:V)(x:Str):fm l≠[w,.str x]:=by
 intro h
 match l,h with
 | [_,_],h=>cases h
theorem vw:∀(prev:cY) (l:List Item) (p:Item),fD prev (l++[p])=fD prev l++[q8 (prev++l.map (·.1)) p]
 |prev,[],p=>by simp[fD]
 |prev,q::l,p=>by
  rw[sd,fD,vw (prev++[q.1]) l p,fD];simp
structure xq (s:Nat)(aw:af)(lx t3 t4:Nat)(l:List Item)(Y:af):Prop where
 keep:bg s aw Y
 src:∃a b,Y[s]?=some (aC a b)
 told:Y[lx]?=some (.list<|fm l)
 rows:Y[t3]?=some (.list<|gS l)
 dues:Y[t4]?=some (.list<|fD [] l)
structure Rt (s:Nat)(aw:af)(lx t3 t4:Nat):Prop where
 s0:s<aw.length
 h12:aw.length<=lx
 h3:aw.length<=t3
 h4:aw.length<=t4
 n1:lx≠t3
 n2:lx≠t4
 n3:t3≠t4
theorem JP (hB:rW O s)(hK:q7 O s)(hA:EK O s){aw Y:af}{lx t3 t4:Nat}(T:Rt s aw lx t3 t4){l:List Item}(hl:l.length<=2)(h:xq s aw lx t3 t4 l Y){n:Str}(hn:n∈nameSet){names rs:V}{x5 x6 x7 x8:jJ}:
  ∃bs W3 W4 W6 Y',(∀x∈bs,x∈q5)/\bs.length<=2/\(Rs O) (.str n) (nG s m names t3 t4 x5 x6 x7 x8 rs lx) Y=.ok (none,nG s m names t3 t4 (some<|.str n) W3 W4 W6 rs lx) Y'/\xq s aw lx t3 t4 (l++[(n,bs)]) Y':=by
 refine kf h.src λa b hs=>?_;have SR:lx≠s:=by have:=T.s0;have:=T.h12;exact nT<|eB ‹_› ‹_›
 have d3:t3≠s:=by have:=T.s0;have:=T.h3;exact nT<|eB ‹_› ‹_›
 have d4:t4≠s:=by have:=T.s0;have:=T.h4;exact nT<|eB ‹_› ‹_›
 refine SV (Vq (N:=nG s m names t3 t4 (some<|.str n) x6 x7 x8 rs lx) hB hK rfl hs) λt6 al ps ws ds bs bJ dT zq=>Px zq λe1 K1 s1 h6 c6 R6 G6 l6=>?_;refine qr G6.is λmu uu SQ=>?_;subst mu;subst uu;have lr:=R6.len;rw[cu] at lr;have mM:∀{t:Nat} {c:Cell},Y[t]?=some c->t<Y.length:=λh=>(bM.mp h).1;have d6:t6≠s:=by have:=nf hs;exact nT<|eB ‹_› ‹_›
 have aa4:lx≠t6:=by have:=mM h.told;exact ka<|eB ‹_› ‹_›
 have d63:t3≠t6:=by have:=mM h.rows;exact ka<|eB ‹_› ‹_›
 have c12:=ak (c':=Cell.list<|bs.map (·.1))<|K1.old _ _ SR h.told
 have e2:aV O (.bi .tuple [.comp [none,none] [1] (.l 6) []<|.i (.l 1)<|.xi 0]) (nG s m names t3 t4 (some<|.str n) (some<|.ref t6) x7 x8 rs lx) al=.ok (.U<|bs.map (·.1)) (al++[.list<|bs.map (·.1)]):=
  cL (aa (ni (I rfl) c6 R6 l6) ae) (b9 (cE ao) (by rw[cu];omega))
 let ax:=(al++[Cell.list<|bs.map (·.1)]).set lx<|.list<|fm (l++[(n,bs)])
 have s2:ax[s]?=some (aC bJ dT):=by show(List.set _ _ _)[s]?= _;rw[eA SR];exact ak s1
 have c6':ax[t6]?=some (.list ps):=by show(List.set _ _ _)[t6]?= _;rw[eA aa4];exact ak c6
 have WX:ax[t3]?=some (.list<|gS l):=by show(List.set _ _ _)[t3]?= _;rw[eA T.n1];exact ak<|K1.old _ _ d3 h.rows
 have c4':ax[t4]?=some (.list<|fD [] l):=by show(List.set _ _ _)[t4]?= _;rw[eA T.n2];exact ak<|K1.old _ _ d4 h.dues
 have Sb:∀d∈bs.map (·.2),∃x,d=.str x:=λd hd=>by
  refine aI (bT.mp hd) λq hq An=>?_;subst An;exact Dq<|SQ q hq
 refine aM (hA ax t6 ps _ _ d6 c6' ((R6.keep .push).put c12 Sb λw x=>Nu w x:bd s ax ps (bs.map (·.1)) (bs.map (·.2))) Sb l6) λJ e4=>?_;let aU:=(ax++J).set t3<|.list<|gS (l++[(n,bs)])
 have Sp:(ax++J)[t3]?=some (.list<|gS l):=cF WX;have K4:bg s aw aU:=bg.Ro ((bg.Ro ((h.keep.trans K1).trans .push) T.h12:bg s aw ax).trans .push) T.h3;have s4:aU[s]?=some (aC bJ dT):=by show(List.set _ _ _)[s]?= _;rw[eA d3];exact cF s2
 have f3:aU[t3]?=some (.list<|gS (l++[(n,bs)])):=ky Sp;have f12:aU[lx]?=some (.list<|fm (l++[(n,bs)])):=by show(List.set _ _ _)[lx]?= _;rw[eA<|gb T.n1];exact cF (ky c12:ax[lx]?=some (.list<|fm (l++[(n,bs)])))
 have f4:aU[t4]?=some (.list<|fD [] l):=by show(List.set _ _ _)[t4]?= _;rw[eA T.n3];exact cF c4'
 let eG:=aU++[Cell.list<|gS l]++[Cell.list<|l.map λp=>V.str p.1];have e6:=Rr (O:=O) (N:=nG s m names t3 t4 (some<|.str n) (some<|.ref t6) (some<|dt isFn<|bs.map (·.2)) x8 rs lx) (Y:=aU) rfl f3<|fA ‹_› rfl
 have i6:=in_str (Y:=eG) (t:=(aU++[Cell.list<|gS l]).length) (s:=n) ao<|JO l
 have e7:aV O (.or [.m .In (.l 5) JN,.m .In (.l 5)<|.c<|.gl [.str lT,.str gZ,.str g6,.str g7,.str ft,.str fQ,.str g8,.str g9,.str dI,.str eU,.str cU]]) (nG s m names t3 t4 (some<|.str n) (some<|.ref t6) (some<|dt isFn<|bs.map (·.2)) x8 rs lx) aU=.ok (.bool<|jv (l.map (·.1)) n) eG:=by
  rw[<-JM hn];refine ic ?_;cases ha:anyS n (l.map (·.1))<;>rw[ha] at i6
  ·exact f6 (aq (I rfl) e6 i6) rfl<|f0<|aq (I rfl) ag Vr
  ·exact l8 (aq (I rfl) e6 i6) rfl
 have s5:eG[s]?=some (aC bJ dT):=ak<|ak s4
 have g3:eG[t3]?=some (.list<|gS (l++[(n,bs)])):=ak<|ak f3
 have g12:eG[lx]?=some (.list<|fm (l++[(n,bs)])):=ak<|ak f12
 have g4:eG[t4]?=some (.list<|fD [] l):=ak<|ak f4
 have hlen:(fD [] l).length<10000:=by
  have:∀(prev:cY) (l:List Item),(fD prev l).length=l.length:=λprev l=>by
   induction l generalizing prev with
   |nil=>rfl
   |cons p r ih=>rw[fD,dE,dE,ih]
  rw[this];exact fA ‹_› rfl
 have fin:∀(xr:af) (y:V),bg s eG xr->y=q8 (l.map (·.1)) (n,bs)->aV O (.ite (.l 8) (.xs aH)<|.ite (.m .In (.l 7)<|.s [.xs aH,.xs aB]) (.l 7)<|.xs z_) (nG s m names t3 t4 (some<|.str n) (some<|.ref t6) (some<|dt isFn<|bs.map (·.2)) (some<|.bool<|jv (l.map (·.1)) n) rs lx) eG=.ok y xr->xr[s]?=some (aC bJ dT)->
   (Rs O) (.str n) (nG s m names t3 t4 x5 x6 x7 x8 rs lx) Y=.ok (none,nG s m names t3 t4 (some<|.str n) (some<|.ref t6) (some<|dt isFn<|bs.map (·.2)) (some<|.bool<|jv (l.map (·.1)) n) rs lx) (xr.set t4<|.list<|fD [] (l++[(n,bs)]))/\xq s aw lx t3 t4 (l++[(n,bs)]) (xr.set t4<|.list<|fD [] (l++[(n,bs)])):=λxr y K6 hy ey s6=>by
  have k4:=K6.old _ _ d4 g4;have ed:fD [] l++[y]=fD [] (l++[(n,bs)]):=by rw[vw,hy];simp
  refine⟨?_,bg.Ro (((K4.trans .push).trans .push:bg s aw eG).trans K6) T.h4,⟨bJ,dT,by rw[eA d4];exact s6⟩,by rw[eA<|gb T.n2];exact K6.old _ _ SR g12,by rw[eA<|gb T.n3];exact K6.old _ _ d3 g3,ky k4⟩;refine(?_:bZ O 400 Vs (nG s m names t3 t4 (some<|.str n) x6 x7 x8 rs lx) Y= _);refine ah (az e1 aD) ?_;refine ah (gR<|jS (I rfl) (gO (K1.old _ _ SR h.told)<|.inl rfl) (aa (aS<|aa (I rfl)<|aa e2 ae) ae)<|(append_at c12<|by(rw[cu];exact fA ‹_› rfl)).trans<|by rw[(by simp[fm]:fm l++[V.U [.str n,.U<|bs.map (·.1)]]=fm (l++[(n,bs)]))]) ?_;refine ah (az (aK (aa (I rfl) ae) e4) aD) ?_;refine ah (gR<|jS (I rfl) (gO Sp<|.inl rfl) (aa (aS<|aa (I rfl)<|aa (I rfl) ae) ae)<|(append_at Sp<|by(rw[cu];exact fA ‹_› rfl)).trans<|by rw[(by simp[gS,rowOf]:gS l++[V.U [.str n,dt isFn<|bs.map (·.2)]]=gS (l++[(n,bs)]))]) ?_;refine ah (az e7 aD)<|ah (gR<|jS (I rfl) (gO g4<|.inl rfl) (aa ey ae)<|(append_at k4 hlen).trans<|by rw[ed]) ?_
  exact ay
 have Ot:bs.length<=2:=by omega
 cases hW:jv (l.map (·.1)) n
 ·have iF:=JL (Y:=eG++[a8]) (t:=eG.length) SQ ao;have hy:df (isFn<|dt isFn<|bs.map (·.2)) (dt isFn<|bs.map (·.2)) (.str z_)=q8 (l.map (·.1)) (n,bs):=by unfold q8;rw[hW]
  obtain⟨f1,f2⟩:=fin (eG++[a8]) _ .push hy (by
   refine(Eq.symm hW)▸(fU (I rfl) rfl ?_);cases hF:isFn (dt isFn<|bs.map (·.2))<;>rw[hF] at iF
   ·exact fU (aq (I rfl) (bh<|aa ag<|aa ag ae) iF) rfl ag
   ·exact fk (aq (I rfl) (bh<|aa ag<|aa ag ae) iF) rfl<|I rfl) (ak s5)
  exact LR bs _ _ _ _<|LU SQ Ot f1 f2
 ·refine cN (fin eG (.str aH) .refl (by unfold q8;rw[hW]) (by rw[hW];exact fk (I rfl) rfl ag) s5) λf1 f2=>?_;exact LR bs _ _ _ _<|LU SQ Ot f1 f2
end
def xu (v:V):Bool:=match v with
 | .str x=>!decide (x=z_)
 |_=>true
section
variable {O:ar} {Y aw Y':af} {s m t:Nat} {a b:Int}
theorem GA (hB:rW O s)(hK:q7 O s)(hA:EK O s){aw:af}{lx t3 t4:Nat}(T:Rt s aw lx t3 t4){names rs src:V}{all:aG}(nv:∀Y,same Y src all=true):∀(ns:cY) {l:List Item} {Y:af} {x5 x6 x7 x8:jJ},(∀n∈ns,n∈nameSet)->l.length+ns.length<=2->(∀q∈l,q.1∈nameSet/\q.2.length<=2/\∀x∈q.2,x∈q5)->xq s aw lx t3 t4 l Y->
  ∃l' x5' W3 W4 W6 Y',(∀q∈l',q.1∈nameSet/\q.2.length<=2/\∀x∈q.2,x∈q5)/\l'.length=l.length+ns.length/\forL (Rs O) src all (ns.map .str) (nG s m names t3 t4 x5 x6 x7 x8 rs lx) Y=.ok (none,nG s m names t3 t4 x5' W3 W4 W6 rs lx) Y'/\xq s aw lx t3 t4 l' Y':=by
 intro ns
 induction ns with
 |nil=>
  intro l Y x5 x6 x7 x8 _ _ hl h;exact SY l x5 x6 x7 x8 Y<|LU hl rfl eQ h
 |cons n ns ih=>
  intro l Y x5 x6 x7 x8 hn hlen hl h;rw[dE] at hlen;refine LM (JP (m:=m) hB hK hA T (d9 (dX _ _) ‹_›) h (hn n<|.head _) (names:=names) (rs:=rs) (x5:=x5) (x6:=x6) (x7:=x7) (x8:=x8)) λbs W3 W4 W6 al zq=>Lx zq λhb Ot e1 h1=>?_;obtain⟨l',y5,y6,y7,y8,Y',k1,k2,k3,k4⟩:=ih (λx hx=>hn x<|.tail _ hx) (tC ‹_›) (λq hq=>by
   refine aY (fb.mp hq) (λhq=>?_) λhq=>?_
   ·exact hl q hq
   ·rw[cK.mp hq];exact⟨hn n<|.head _,Ot,hb⟩) h1
  refine SY l' y5 y6 y7 y8 Y'<|LU k1 ?_ (aZ e1 (nv _) k3) k4
  rw[k2,b0,gQ,dE];omega
theorem GB {prev:cY}{p:Item}(hb:∀x∈p.2,x∈q5):∃x,q8 prev p=.str x:=by
 unfold q8;cases jv prev p.1
 ·refine aY (q9 hb) (λQI=>?_) λQK=>?_
  ·refine jI QI λx h hx M=>?_;rw[h,hx];exact⟨x,rfl⟩
  ·refine cN QK λh M=>?_;rw[h];exact⟨z_,rfl⟩
 ·exact⟨aH,rfl⟩
theorem vx:∀(l:List Item) (prev:cY),(∀q∈l,∀x∈q.2,x∈q5)->(fD prev l).find? xu=jV prev l:=by
 intro l
 induction l with
 |nil=>
  intro _ _;exact rfl
 |cons hd l ih=>
  intro prev h;obtain⟨n,bs⟩:=hd;rw[fD,jV];unfold q8;dsimp only;cases hW:jv prev n
  ·refine aY (q9<|h (n,bs)<|.head _) (λQL=>?_) λQM=>?_
   ·refine uc QL λx hx hF hq hq'=>?_;rw[hx,hF];cases hf:bs.find? (λq=>isFn q.2) with
    |none=>exact absurd hf hq
    |some q=>
     have dS:xu (.str x)=true:=by
      simp only[isFn,Bool.or_eq_true,mn] at hF;rcases hF with rfl | rfl<;>decide+kernel
     show List.find? xu (V.str x::_)= _;rw[List.find?_cons_of_pos dS];show some (V.str x)=some q.2;rw[hq' q hf]
   ·refine cN QM λhx hq=>?_;rw[hx,hq];show List.find? xu (V.str z_::_)= _;rw[wz<|by decide+kernel];exact ih _ λq hq=>h q<|.tail _ hq
  ·show List.find? xu (V.str aH::_)= _;rw[List.find?_cons_of_pos<|by decide+kernel];rfl
theorem Ds:∀(l:List Item) (prev:cY),(∀q∈l,∀x∈q.2,x∈q5)->∀d∈fD prev l,∃x,d=.str x:=by
 intro l
 induction l with
 |nil=>
  intro _ _ d hd;cases hd
 |cons p l ih=>
  intro prev h d hd;rw[fD] at hd;rcases aX.mp hd with rfl | hd
  ·exact GB<|h p<|.head _
  ·exact ih _ (λq hq=>h q<|.tail _ hq) d hd
theorem JQ {x:Str}:cy Y .NotEq (.str x) (.str z_)=some (xu<|.str x):=rfl
theorem Bc {t:Nat}{qs:aG}:∀(l acc:aG),(∀d∈l,∃x,d=.str x)->Y[t]?=some (.list qs)->acc.length+l.length<1000->dk (iL O [none,none] [1] [.m .NotEq (.l 1)<|.xs z_]<|.l 1) (.ref t) qs l acc Y=.ok (acc++l.filter xu) Y:=by
 intro l
 induction l with
 |nil=>
  intro acc _ _ _;rw[b8];simp
 |cons d l ih=>
  intro acc h ht ha;rw[dE] at ha;refine aM (h d<|.head _) λx dZ=>?_;subst dZ;have hc:=JQ (Y:=Y) (x:=x);cases hN:xu (.str x)<;>rw[hN] at hc
  ·rw[List.filter_cons_of_neg (by rw[hN];decide)];exact bo (jq rfl<|mE (aq (I rfl) ag hc) rfl) (ba ht)<|ih acc (λd hd=>h d<|.tail _ hd) ht<|BZ ‹_›
  ·rw[List.filter_cons_of_pos (by rw[hN]),show acc++V.str x::l.filter xu=acc++[V.str x]++l.filter xu by simp];exact bo (dC rfl (oF (aq (I rfl) ag hc) rfl cH) (I rfl)<|iR ‹_› rfl) (ba ht)<|ih _ (λd hd=>h d<|.tail _ hd) ht<|iQ ‹_›
abbrev pJ:aG:=[.U [],.U [.str fF],.U [.str fF,.str rp]]
theorem Be {rs:aG}{t:Nat}(ht:Y[t]?=some (.list pJ)):(rs∈mH->cy Y .NotIn (.U rs) (.ref t)=some false)/\(rs∈rV->cy Y .NotIn (.U rs) (.ref t)=some true):=by
 have e:∀rs:aG,cy Y .NotIn (.U rs) (.ref t)=(zX Y (.U rs)<|.ref t).map λb=>!b:=λrs=>by
  show(isIn Y (.U rs)<|.ref t).map _= _;rw[in_of ht];rfl
 have e1:dH Y 12 (.ref t)=some (.list [.tuple [],.tuple [.str fF],.tuple [.str fF,.str rp]]):=jt ht;refine⟨λh=>?_,λh=>?_⟩
 ·rw[e];simp only[mH,aX,dj,or_false] at h;unfold zX;rw[e1];rcases h with rfl | rfl | rfl<;>k_all
 ·rw[e];simp only[rV,aX,dj,or_false] at h;unfold zX;rw[e1];rcases h with rfl | rfl | rfl<;>k_all
end
abbrev xv:aG:=[.U [],.U [.str fF],.U [.str fF,.str rp],.U [.str pP],.U [.str fF,.str jL],.U [.str jM]]
abbrev names6:aG:=[.U [.str lW],.U [.str lW,.str Hw],.U [.str lW,.str Hw],.U [.str lW,.str lW],.U [.str lW,.str fQ],.U [.str cU]]
def xw (O:ar)(m:Nat):Prop:=∀(Y:af) (rs:aG) (l:List Item),ch m Y->(rs∈mH∨rs∈rV)->(∀q∈l,q.1∈nameSet/\q.2.length<=2/\∀x∈q.2,x∈q5)->l.length<=2->
  (rs∈rV/\∃Y',O 161 [.ref m,.str z_,.U [.U rs,.U<|fm l],.int 0] Y=.exc 52 Y'/\dp Y Y')∨
  (rs∈mH/\((∃d Y',jV [] l=some d/\O 161 [.ref m,.str z_,.U [.U rs,.U<|fm l],.int 0] Y=.exc (Gw d) Y'/\dp Y Y')∨
   (jV [] l=none/\∃t Y',O 161 [.ref m,.str z_,.U [.U rs,.U<|fm l],.int 0] Y=.ok (.ref t) Y'/\dp Y Y'/\Y.length<=t/\Y'[t]?=some (.list<|iC<|vu l))))
section
variable {Y:af} {t:Nat} {a b:Int}
theorem GC {i:Nat}{v:V}(h:xv[i]?=some v):∃rs,v=.U rs/\(rs∈mH∨rs∈rV):=by
 match i,h with
 | 0,h=>cases h;exact bD _ rfl<|.inl<|.head _
 | 1,h=>cases h;exact bD _ rfl<|.inl<|.tail _<|.head _
 | 2,h=>cases h;exact bD _ rfl<|.inl<|.tail _<|.tail _<|.head _
 | 3,h=>cases h;exact bD _ rfl<|.inr<|.head _
 | 4,h=>cases h;exact bD _ rfl<|.inr<|.tail _<|.head _
 | 5,h=>cases h;exact bD _ rfl<|.inr<|.tail _<|.tail _<|.head _
 |_+6,h=>cases h
theorem Dt {i:Nat}{v:V}(h:names6[i]?=some v):∃ns:cY,v=.U (ns.map .str)/\(∀n∈ns,n∈nameSet)/\ns.length<=2/\1<=ns.length:=by
 match i,h with
 | 0,h=>cases h;exact nV ([lW]) rfl (by decide) (by decide) (by decide)
 | 1,h=>cases h;exact nV ([lW,Hw]) rfl (by decide) (by decide) (by decide)
 | 2,h=>cases h;exact nV ([lW,Hw]) rfl (by decide) (by decide) (by decide)
 | 3,h=>cases h;exact nV ([lW,lW]) rfl (by decide) (by decide) (by decide)
 | 4,h=>cases h;exact nV ([lW,fQ]) rfl (by decide) (by decide) (by decide)
 | 5,h=>cases h;exact nV ([cU]) rfl (by decide) (by decide) (by decide)
 |_+6,h=>cases h
theorem JR {n:Nat}{t u:Nat}{l:aG}(hn:n<11)(ht:Y[t]?=some (.list l))(hu:Y[u]?=some (.list l))(hp:∀x∈l,Plain n x):cy Y .Eq (.ref t) (.ref u)=some true:=by
 refine uc ((Plain.U n l hp).data) λq q1 q2 q3 q4=>?_;refine aM (q3 l rfl) λps dZ=>?_;subst dZ;have hm:pQ (dH Y 11) l=some ps:=by
  have:=q4 Y 12<|fA ‹_› rfl
  show pQ (dH Y 11) l=some ps;have e:dH Y 12 (.U l)=(pQ (dH Y 11) l).map .tuple:=rfl;rw[e] at this;cases hq:pQ (dH Y 11) l with
  |none=>rw[hq] at this;cases this
  |some r=>rw[hq] at this;cases this;rfl
 have e:∀{i:Nat},Y[i]?=some (.list l)->dH Y 12 (.ref i)=some (.list ps):=λ{i} h=>by
  rw[jt h,hm];rfl
 have c1:PyData.canLay0 (.list ps)=true:=by simpa [PyData.canLay0] using q1
 have c2:SeqAt.shaped (.list ps)=true:=by
  unfold SeqAt.shaped;rw[c1,Bool.true_and,mn];simp only[PyData.depth] at q2⊢;omega
 refine(vg ht hu<|kM _).trans ?_;rw[tP (e ht) (e hu) (by rw[c2];rfl),(SeqAt.eqv_refl _ c1:PyData.eqv (.list ps) (.list ps)=true)]
end
abbrev JS:X:=.comp [none,none] [1] (.bin .Add (.s [.ite (.m .NotIn (.l 11)<|.s [.U [],.U [.xs fF],.U [.xs fF,.xs rp]]) (.xs aH)<|.xs z_])<|.l 4) [.m .NotEq (.l 1)<|.xs z_]<|.l 1
abbrev Vt:X:=.word [some 1,some 11,some 12,none,none]<|.call 161 [.l 0,.xs z_,.U [.l 1,.bi .tuple [.l 2]],.xi 0]
noncomputable abbrev Za:X:=.m .Eq (.l 10)<|.ite (.m .NotEq (.l 9)<|.s []) (.i (.l 9)<|.xi 0)<|.l 3
section
variable {O:ar} {Y Y':af} {k t:Nat} {a b:Int}
theorem JT {N:Loc}{rs:aG}{t4:Nat}{ds:aG}(aa5:N[11]?=some (some<|.U rs))(hl4:N[4]?=some (some<|.ref t4))(h4:Y[t4]?=some (.list ds))(hd:∀d∈ds,∃x,d=.str x)(hlen:ds.length<=2)(hr:rs∈mH∨rs∈rV):
  ∃u J,aV O JS N Y=.ok (.ref u) (Y++J)/\Y.length<=u/\((rs∈rV/\∃r,(Y++J)[u]?=some (.list (.str aH::r))/\r.length<=2)∨(rs∈mH/\(Y++J)[u]?=some (.list<|ds.filter xu))):=by
 have key:∀(w:Str) (bb:Bool),cy (Y++[Cell.list pJ]) .NotIn (.U rs) (.ref Y.length)=some bb->w=df bb aH z_->∃J,aV O JS N Y=.ok (.ref (Y++J).length) (Y++J++[.list<|(.str w::ds).filter xu]):=λw bb hb hw=>by
  have e1:aV O (.s [.ite (.m .NotIn (.l 11)<|.s [.U [],.U [.xs fF],.U [.xs fF,.xs rp]]) (.xs aH)<|.xs z_]) N Y=.ok (.ref (Y++[Cell.list pJ]).length) (Y++[Cell.list pJ]++[.list [.str w]]):=by
   refine bh<|aa (rP (aq (I aa5) (bh<|aa (aS ae)<|aa (aS<|aa ag ae)<|aa (aS<|aa ag<|aa ag ae) ae) hb) rfl ?_) ae
   subst hw;cases bb<;>exact ag
  have e3:=Bc (O:=O) (Y:=Y++[Cell.list pJ]++[Cell.list [V.str w]]++[Cell.list<|[V.str w]++ds]) (t:=(Y++[Cell.list pJ]++[Cell.list [V.str w]]).length) ([V.str w]++ds) [] (λd zs=>by
   rcases aX.mp zs with rfl | zs
   ·exact⟨w,rfl⟩
   ·exact hd d zs) ao (by simp;omega)
  rw[sf] at e3;refine⟨[.list pJ]++[.list [.str w]]++[.list<|[.str w]++ds],?_⟩;rw[<-bQ,<-bQ];exact dU (eX e1 (I hl4)<|add_lists (Y:=Y++[Cell.list pJ]++[Cell.list [V.str w]]) (i:=(Y++[Cell.list pJ]).length) (j:=t4) ao (ak<|ak h4) (by simp;omega)) (cI ao) e3
 have hN:=Be (Y:=Y++[Cell.list pJ]) (rs:=rs) (t:=Y.length) ao;refine aY hr (λhr=>?_) λhr=>?_
 ·refine aM (key z_ false (hN.1 hr) rfl) λJ e=>?_;refine eT _ (J++[.list<|(.str z_::ds).filter xu]) (by rw[<-bQ];exact e) (by rw[b0];omega)<|.inr ⟨hr,?_⟩
  rw[<-bQ,ao,List.filter_cons_of_neg<|by decide+kernel]
 ·refine aM (key aH true (hN.2 hr) rfl) λJ e=>?_;refine eT _ (J++[.list<|(.str aH::ds).filter xu]) (by rw[<-bQ];exact e) (by rw[b0];omega)<|.inl ⟨hr,ds.filter xu,?_,d9 (wB _ _) hlen⟩
  rw[<-bQ,ao,List.filter_cons_of_pos<|by k_all]
theorem vy {rs:aG}(h:rs∈mH)(k:rs∈rV):False:=by
 have key:∀{a b:aG},V.qw a b=false->rs=a->rs=b->False:=λ{a b} h e1 e2=>by
  rw[<-e1,<-e2,vi] at h;cases h
 simp only[mH,aX,dj,or_false] at h;simp only[rV,aX,dj,or_false] at k;rcases h with h | h | h<;>rcases k with k | k | k<;>exact key (by k_all) h k
def JU (C:Nat):V:=if C=64 then .str kR else if C=52 then .str aH else .str aB
theorem pf {fr:List (Option Nat)}{x:X}{N:Loc}{C:Nat}(hC:C=64∨C=52∨C=76)(h:aV O x (frees fr N) Y=.exc C Y'):aV O (.word fr x) N Y=.ok (JU C) Y':=by
 unfold JU;rcases hC with rfl | rfl | rfl
 ·show qy (aV O x (frees fr N) Y)= _;rw[h,<-(by k_all:Str.ofString "hidden"=kR)];rfl
 ·show qy (aV O x (frees fr N) Y)= _;rw[h,<-(by k_all:Str.ofString "name"=aH)];rfl
 ·show qy (aV O x (frees fr N) Y)= _;rw[h,<-(by k_all:Str.ofString "type"=aB)];rfl
theorem Bf:∀(l:List Item) (prev:cY) {d:V},(∀q∈l,∀x∈q.2,x∈q5)->jV prev l=some d->d=.str aH∨d=.str aB:=by
 intro l
 induction l with
 |nil=>
  intro _ _ _ h;cases h
 |cons hd l ih=>
  intro prev d hb h;obtain⟨n,bs⟩:=hd;rw[jV] at h;split at h
  ·cases h;exact .inl rfl
  ·split at h
   ·next q hq=>
    cases h;refine aM (Dq<|hb _ (.head _) q<|zx hq) λx hx=>?_;have h1:=List.find?_some hq;rw[hx] at h1⊢;simp only[isFn,Bool.or_eq_true,mn] at h1;rcases h1 with rfl | rfl
    ·exact .inl rfl
    ·exact .inr rfl
   ·exact ih _ (λq hq=>hb q<|.tail _ hq) h
theorem Bg {x:Str}:cy Y .Eq (.str x) (.str x)=some true:=by
 show some (decide (x=x))= _;rw[dP rfl]
theorem GD {l:List Item}(hb:∀q∈l,∀x∈q.2,x∈q5):∀(prev:cY),jV prev l=none->gS l=iC (vu l):=by
 induction l with
 |nil=>intro _ _;rfl
 |cons p r ih=>
  obtain⟨n,bs⟩:=p;intro prev h;rw[jV] at h;split at h
  ·cases h
  ·split at h
   ·cases h
   ·next hq=>
    refine aY (q9<|hb (n,bs)<|.head _) (λQS=>?_) λQT=>?_
    ·exact uc QS λx M M dS M=>absurd hq dS
    ·refine cN QT λhw M=>?_;show rowOf (n,bs)::gS r=.U [.str n,.U<|bs.map (·.2)]::iC (vu r);rw[(ih (λq hq=>hb q<|.tail _ hq) _ h)]
     congr 1
     unfold rowOf;dsimp only;rw[hw]
end
section
variable {O:ar} {Y Y':af} {s m t:Nat} {a b:Int}
noncomputable abbrev JV (s m:Nat)(names:V)(t3 t4:Nat)(x5 x6 x7 x8 x9 DQ:jJ)(rs:V)(lx:Nat):Loc:=[some<|.ref s,some<|.ref m,some names,some<|.ref t3,some<|.ref t4,x5,x6,x7,x8,x9,DQ,some rs,some<|.ref lx,ai,ai,ai,ai,ai,ai,ai]
theorem yU (hK:q7 O s)(hO:vl O s)(hB:rW O s)(hA:EK O s)(hG:xw O m)(hs:Y[s]?=some (aC a b))(hw:eR s m Y):
  ∃Y' a' b',bk tx O 515 [.ref s,.ref m] Y=.ok (.bool true) Y'/\bg s Y Y'/\Y'[s]?=some (aC a' b'):=by
 have dS:s≠Y.length:=(dl hs<|a9 _).symm;have s1:=ak (c':=Cell.list xv) hs;refine mN (hO s1 (eL.list (t:=Y.length) (l:=xv) ao dS<|by decide) (by decide)<|by decide) λi v bJ dT hv e1=>?_;refine aI (GC hv) λrs dZ hr=>?_;subst dZ;have K1:bg s Y ((Y++[Cell.list xv]).set s<|aC bJ dT):=bg.push.trans .set;have s1:=cW s1 bJ dT;generalize Dg:(Y++[Cell.list xv]).set s (aC bJ dT)=al at K1 s1 e1;have aa6:s≠al.length:=(dl s1<|a9 _).symm;have s2:=ak (c':=Cell.list names6) s1;refine mN (hO s2 (eL.list (t:=al.length) (l:=names6) ao aa6<|by decide) (by decide)<|by decide) λi v bK fW hv e2=>?_;refine uc (Dt hv) λns mu BJ hn2 hn1=>?_;subst mu;have K2:bg s al ((al++[Cell.list names6]).set s<|aC bK fW):=bg.push.trans .set;have s2:=cW s2 bK fW;generalize C8:(al++[Cell.list names6]).set s (aC bK fW)=ax at K2 s2 e2;let lx:=ax.length;let t3:=(ax++[Cell.list []]).length;let t4:=(ax++[Cell.list []]++[Cell.list []]).length;have h3:t3=ax.length+1:=by show(ax++[Cell.list []]).length= _;rw[b0];rfl
 have h4:t4=ax.length+2:=by show(ax++[Cell.list []]++[Cell.list []]).length= _;rw[b0,b0];rfl
 have T:Rt s ax lx t3 t4:=⟨nf s2,a9 _,by omega,by omega,by show ax.length≠t3;omega,by show ax.length≠t4;omega,by omega⟩;have st:xq s ax lx t3 t4 [] (ax++[Cell.list []]++[Cell.list []]++[Cell.list []]):=⟨(bg.push.trans .push).trans .push,⟨bK,fW,ak<|ak<|ak s2⟩,ak<|ak ao,ak ao,ao⟩;refine G0 (GA (m:=m) hB hK hA T (names:=.U<|ns.map .str) (rs:=.U rs) (src:=.U<|ns.map .str) (all:=ns.map .str) (λM=>rfl) ns (l:=[]) (x5:=none) (x6:=none) (x7:=none) (x8:=none) BJ (by simpa using hn2) (λq hq=>by cases hq) st) λl x5 x6 x7 x8 bB zq=>Lx zq λhl hlen e3 S3=>kf S3.src λmB pu s3=>?_;rw[List.length_nil,Nat.zero_add] at hlen;have SS:∀q∈l,∀x∈q.2,x∈q5:=λq hq=>(hl q hq).2.2;have hdl:∀(l:List Item) (prev:cY),(fD prev l).length=l.length:=λl=>by
  induction l with
  |nil=>intro _;rfl
  |cons p r ih=>intro prev;rw[fD,dE,dE,ih]
 refine cZ (JT (O:=O) (N:=JV s m (.U<|ns.map .str) t3 t4 x5 x6 x7 x8 none none (.U rs) lx) rfl rfl S3.dues (Ds l [] SS) (by rw[hdl];omega) hr) λu J e4 hu hF=>?_;have K3:bg s Y bB:=(K1.trans K2).trans S3.keep;have KJ:bg s Y (bB++J):=K3.trans .push;have wJ:eR s m (bB++J):=KJ.mG hw;have sJ:(bB++J)[s]?=some (aC mB pu):=cF s3;have SR:(bB++J)[lx]?=some (.list<|fm l):=cF S3.told;have aa7:vS (bB++J) .tuple [.ref lx]=.ok (.U<|fm l) (bB++J):=b9 (cE SR) (by rw[cu];omega);have pre:∀{RF:Res fc},bZ O 400 [.set (.l 10) Vt,.ret Za] (JV s m (.U<|ns.map .str) t3 t4 x5 x6 x7 x8 (some<|.ref u) none (.U rs) lx) (bB++J)=RF->bZ O 400 Mg.body [some<|.ref s,some<|.ref m,ai,ai,ai,ai,ai,ai,ai,ai,ai,ai,ai,ai,ai,ai,ai,ai,ai,ai] Y=RF:=λ{RF} h=>by
  refine ah (az (aK (aa (I rfl)<|aa (bh (vs:=xv) (al:=Y) rfl) ae) e1) aD)<|ah (az (aK (aa (I rfl)<|aa (bh (vs:=names6) (al:=al) rfl) ae) e2) aD) ?_
  refine ah (az (aS<|aa (bh ae)<|aa (bh ae)<|aa (bh ae) ae)<|ez rfl rfl<|aR aD<|aR aD<|aR aD dg)<|ah (gB (I rfl) rfl e3) ?_
  exact ah (az e4 aD) h
 have Po:∀{r:Res V},O 161 [.ref m,.str z_,.U [.U rs,.U<|fm l],.int 0] (bB++J)=r->aV O (.call 161 [.l 0,.xs z_,.U [.l 1,.bi .tuple [.l 2]],.xi 0]) (frees [some 1,some 11,some 12,none,none]<|JV s m (.U<|ns.map .str) t3 t4 x5 x6 x7 x8 (some<|.ref u) none (.U rs) lx) (bB++J)=r:=λ{r} h=>
  aK (aa (I rfl)<|aa ag<|aa (aS<|aa (I rfl)<|aa (cL (aa (I rfl) ae) aa7) ae)<|aa ag ae) h
 have bad:∀(w:Str) (aU:af) (r:aG) (C:Nat),(C=64∨C=52∨C=76)->JU C=.str w->(bB++J)[u]?=some (.list (.str w::r))->r.length<900->O 161 [.ref m,.str z_,.U [.U rs,.U<|fm l],.int 0] (bB++J)=.exc C aU->dp (bB++J) aU->∃Y' a' b',bk tx O 515 [.ref s,.ref m] Y=.ok (.bool true) Y'/\bg s Y Y'/\Y'[s]?=some (aC a' b'):=λw aU r C hC Pm Hc SP e5 hg=>by
  have e6:=pf hC<|Po e5
  rw[Pm] at e6;have u4:=hg.old _ _ Hc;have en:=ig (Y:=aU++[Cell.list []]) (ak u4) ao;have ei:cb (aU++[Cell.list []]) (.ref u) (.int 0)=some (.str w):=gN (i:=0) (ak u4) (by rw[dE];omega) rfl;refine zz (aU++[.list []]) mB pu ?_ ((KJ.trans hg.keep).trans .push)<|ak<|hg.old _ _ sJ
  apply bf (i:=Mg) (R:=(some<|.bool true,JV s m (.U<|ns.map .str) t3 t4 x5 x6 x7 x8 (some<|.ref u) (some<|.str w) (.U rs) lx)) rfl rfl rfl;apply pre;refine ah (az e6 aD)<|ah (bL<|aq (I rfl) (fk (aq (I rfl) (bh ae) en) rfl<|aF (I rfl) ag ei) Bg) rfl
 have fl:∀(ds:aG),(ds.filter xu).head?=ds.find? xu:=λds=>List.head?_filter;rcases hG (bB++J) rs l wJ.at hr hl (by omega) with ⟨Wu,aU,e5,hg⟩ | ⟨W7,⟨d,aU,hd,e5,hg⟩ | ⟨hd,t,aU,e5,hg,ht,hf⟩⟩
 ·rcases hF with ⟨_,r,Hc,hr2⟩ | ⟨W7,_⟩
  ·have SP:r.length<900:=by exact fA ‹_› rfl
   exact bad aH aU r 52 (.inr<|.inl rfl) rfl Hc SP e5 hg
  ·exact(vy W7 Wu).elim
 ·rcases hF with ⟨Wu,_⟩ | ⟨_,Hc⟩
  ·exact(vy W7 Wu).elim
  ·have h1:=vx l [] SS;rw[hd,<-fl] at h1;cases hq:(fD [] l).filter xu with
   |nil=>rw[hq] at h1;cases h1
   |cons y r=>
    rw[hq] at h1 Hc;cases h1;have SP:r.length<900:=by
     have:=wB xu<|fD [] l
     rw[hq,hdl,dE] at this;omega
    rcases Bf l [] SS hd with rfl | rfl
    ·exact bad aH aU r 52 (.inr<|.inl rfl) rfl Hc SP e5 hg
    ·exact bad aB aU r 76 (.inr<|.inr rfl) rfl Hc SP e5 hg
 ·rcases hF with ⟨Wu,_⟩ | ⟨_,Hc⟩
  ·exact(vy W7 Wu).elim
  ·have h1:=vx l [] SS;rw[hd,<-fl] at h1;cases hq:(fD [] l).filter xu with
   |cons y r=>rw[hq] at h1;cases h1
   |nil=>
    rw[hq] at Hc;have e6:=yF<|Po e5
    have u4:=hg.old _ _ Hc;have en:=ig (Y:=aU++[Cell.list []]) (ak u4) ao;have r4:aU[t3]?=some (.list<|gS l):=hg.old _ _<|cF S3.rows
    rw[GD SS [] hd] at r4;have hp:∀x∈iC (vu l),Plain 2 x:=λx hx=>by
     simp only[iC,vu,List.map_map,bT] at hx;refine aI hx λq hq uu=>?_;subst uu;refine .U 1 _ λy hy=>?_;rcases aX.mp hy with rfl | hy
     ·have:=(hl q hq).1;simp only[nameSet,aX,dj,or_false] at this;show Plain 1 (.str q.1);rcases this with h | h | h | h<;>rw[h]<;>exact ie _ (by k_all) 1
     ·rw[cK.mp hy];refine .U 0 _ λz hz=>?_;refine aI (bT.mp hz) λp hp An=>?_;subst An;exact Bb (SS q hq p hp) 0
    have ee:=JR (Y:=aU++[Cell.list []]) (n:=2) (by decide) (ak hf) (ak r4) hp;refine zz (aU++[.list []]) mB pu ?_ ((KJ.trans hg.keep).trans .push)<|ak<|hg.old _ _ sJ
    apply bf (i:=Mg) (R:=(some<|.bool true,JV s m (.U<|ns.map .str) t3 t4 x5 x6 x7 x8 (some<|.ref u) (some<|.ref t) (.U rs) lx)) rfl rfl rfl;apply pre;refine ah (az e6 aD)<|ah (bL<|aq (I rfl) (fU (aq (I rfl) (bh ae) en) rfl<|I rfl) ee) rfl
end
section
variable {gx:Gx} {s m:Nat} {Y:af} {a b:Int}
theorem EL (i:Nat):q7 (UB (i+1)) s:=λY a b top hs h0 h1=>by rw[qd<|by decide];exact xj hs h0 h1
theorem JW (i:Nat):vl (UB (i+2)) s:=λ{Y a b t l} hs ht h0 h1=>by
 rw[qd<|by decide];exact AZ (λtop g0 g1=>EL i Y a b top hs g0 g1) ht h0 h1
theorem Ru (i:Nat):rW (UB (i+3)) s:=λY a b hs=>by
 rw[qd<|by decide];exact Gv (JW i) (λ{Y n r t}=>by rw[qd<|by decide];exact A1) hs
theorem Rv (i:Nat):EK (UB (i+1)) s:=λY t ps ws ds ht hl hR hd hp=>by
 rw[qd<|by decide];exact Jp ht hl hR (λd zs Y t h=>by
  refine aM (hd d zs) λx dZ=>?_;subst dZ;exact xp h) (fA ‹_› rfl)
theorem GE (H:nP gx tx)(i:Nat):xw (UB (i+2)) m:=λY rs l hw hr hl hlen=>by
 rw[qd<|by decide];exact Dp (λY sp x hw hx=>JD H i m hw hx) hw hr hl hlen
theorem GF (H:nP gx tx)(hs:Y[s]?=some (aC a b))(hw:eR s m Y):
  ∃Y' a' b',UB 5 515 [.ref s,.ref m] Y=.ok (.bool true) Y'/\bg s Y Y'/\Y'[s]?=some (aC a' b'):=by
 rw[qd<|by decide];exact yU (EL 3) (JW 2) (Ru 1) (Rv 3) (GE H 2) hs hw
end
noncomputable abbrev kz:aG:=[.int 1,.int 2,.int 9,.int 28,.int 29]
structure Du (O:ar)(script:List Int):Prop where
 pool:∃j Y' a b,O 378 [.gl<|script.map .int,.int 0] []=.ok (.ref j) Y'/\Y'[j]?=some (aC a b)
 mG:∀Y:af,∃m Y',O 479 [] Y=.ok (.ref m) Y'/\dp Y Y'/\∀s,s<Y.length->eR s m Y'
 fixed:∀(Y:af) (m:Nat),ch m Y->O 522 [.ref m] Y=.ok (.bool true) Y
 chain:∀(Y:af) (n:Int),(n=30∨n=31∨V.int n∈kz)->O 472 [.int n] Y=.ok (.bool true) Y
 publics:∀(Y:af) (s:Nat) (a b:Int),Y[s]?=some (aC a b)->∃Y' a' b',O 458 [.ref s] Y=.ok (.bool true) Y'/\bg s Y Y'/\Y'[s]?=some (aC a' b')
 plain:∀(Y:af) (s:Nat) (a b:Int),Y[s]?=some (aC a b)->∃Y' a' b',O 465 [.ref s] Y=.ok (.bool true) Y'/\bg s Y Y'/\Y'[s]?=some (aC a' b')
 type:∀(Y:af) (s:Nat) (a b:Int),Y[s]?=some (aC a b)->∃k,k<=8/\eO k s Y (O 503 [.ref s,.int 3] Y)
 read:∀(Y:af) (m g k:Nat) (ww d:V),k<=8->ku k ww d->ch m Y->Y[g]?=some (.list [.str lW])->∃J,O 151 [.ref m,.str z_,.ref g,.none,ww] Y=told d (Y++J)
 bounds:∀(Y:af) (s m:Nat) (a b:Int),Y[s]?=some (aC a b)->eR s m Y->∃Y' a' b',O 515 [.ref s,.ref m] Y=.ok (.bool true) Y'/\bg s Y Y'/\Y'[s]?=some (aC a' b')
 one:∀(Y:af) (s:Nat) (a b:Int) (t:V) (l:aG),Y[s]?=some (aC a b)->eL Y s t l->0<l.length->l.length<1000->∃(i:Nat) (v:V) (a' b':Int),l[i]?=some v/\O 392 [.ref s,t] Y=.ok v (Y.set s<|aC a' b')
section
variable {O:ar} {Y:af} {s m:Nat} {a b:Int} {script:List Int} {g:V}
theorem Nv {k:Nat}{d:V}(h:fV k d)(hk:k<12):cy Y .NotEq d d=some false:=by
 rcases h with rfl | rfl | Zb
 ·k_all
 ·k_all
 ·refine aI Zb λl dZ p=>?_;subst dZ;refine uc p.data λq q1 q2 q3 q4=>?_;have e:=q4 Y 12 hk;have c:SeqAt.shaped q=true:=by
   unfold SeqAt.shaped;rw[q1,Bool.true_and,mn];omega
  have h0:v7 Y (.U l) (.U l)=none:=by
   show(if (true==true&&!(l.isEmpty==l.isEmpty))=true then some false else none)=none;rw[kM l.isEmpty];rfl
  show(Lz (v7 Y (.U l)<|.U l)<|yd Y (.U l)<|.U l).map _= _;rw[h0];show(yd Y (.U l)<|.U l).map _= _;rw[tP e e (by rw[c];rfl),SeqAt.eqv_refl _ q1];rfl
noncomputable abbrev EM (g:V)(s m:Nat)(x2 x3 x5:jJ):Loc:=[some g,some<|.ref s,x2,x3,some<|.ref m,x5,ai,ai,ai,ai,ai,ai,ai,ai,ai,ai,ai]
abbrev Vu:List S:=[.ite (.or [.not<|.call 458 [.l 1],.not<|.call 465 [.l 1]]) [.ret<|.c<|.bool false] [],.set (.U [.l 5,.l 3])<|.call 503 [.l 1,.xi 3],
 .ite (.m .NotEq (.word [some 4,some 5,none]<|.call 151 [.l 0,.xs z_,.s [.xs lW],.c .none,.l 1])<|.l 3) [.ret<|.c<|.bool false] [],.ite (.not<|.call 515 [.l 1,.l 4]) [.ret<|.c<|.bool false] []]
theorem Bh (H:Du O script)(hs:Y[s]?=some (aC a b))(hw:eR s m Y){x2 x3 x5:jJ}:∃x3' x5' Y' a' b',bZ O 400 Vu (EM g s m x2 x3 x5) Y=.ok (none,EM g s m x2 x3' x5') Y'/\bg s Y Y'/\Y'[s]?=some (aC a' b'):=by
 refine kg (H.publics Y s a b hs) λal bJ dT e1 K1 s1=>kg (H.plain al s bJ dT s1) λax bK fW e2 K2 s2=>?_;obtain⟨k,hk,j,bB,ww,d,mB,pu,e3,K3,s3,c3,n3,T3⟩:=H.type ax s bK fW s2;have KA:bg s Y bB:=(K1.trans K2).trans K3;have w4:ch m (bB++[Cell.list [V.str lW]]):=(KA.mG hw:eR s m bB).at.push;refine aM (H.read (bB++[Cell.list [V.str lW]]) m bB.length k ww d hk T3 w4 ao) λJ e4=>?_;have KB:bg s Y (bB++[Cell.list [V.str lW]]++J):=(KA.trans .push).trans .push;refine kg (H.bounds _ s m mB pu (cF (ak s3):(bB++[Cell.list [V.str lW]]++J)[s]?=some (aC mB pu))<|KB.mG hw) λeG AG Jm e5 K5 s5=>?_;have ec:aV O (.call 151 [.l 0,.xs z_,.s [.xs lW],.c .none,.l 1]) [some<|.ref m,some ww,none] bB=told d (bB++[Cell.list [V.str lW]]++J):=
  aK (aa (I rfl)<|aa ag<|aa (bh<|aa ag ae)<|aa ag<|aa (I rfl) ae) e4
 have ew:aV O (.word [some 4,some 5,none]<|.call 151 [.l 0,.xs z_,.s [.xs lW],.c .none,.l 1]) (EM g s m x2 (some d)<|some ww) bB=.ok d (bB++[Cell.list [V.str lW]]++J):=by
  rcases T3.Gi with rfl | rfl | Zc
  ·exact pf (C:=52) (.inr<|.inl rfl) ec
  ·exact pf (C:=76) (.inr<|.inr rfl) ec
  ·refine aI Zc λl mu M=>?_;subst mu;exact yF ec
 refine LR (some d) (some ww) eG AG Jm<|LS ?_ (KB.trans K5) s5
 refine ah (aA (ic<|f6 (lg (aK (aa (I rfl) ae) e1) rfl) rfl<|f0<|lg (aK (aa (I rfl) ae) e2) rfl) rfl ay)<|ah (az (aK (aa (I rfl)<|aa ag ae) e3)<|ez (cE c3) rfl<|aR aD<|aR aD dg) ?_
 exact ah (aA (aq ew (I rfl)<|Nv (Y:=bB++[Cell.list [V.str lW]]++J) T3.Gi<|fA ‹_› rfl) rfl ay)<|ah (aA (lg (aK (aa (I rfl)<|aa (I rfl) ae) e5) rfl) rfl ay) ay
theorem Nw (H:Du O script):∃Y',bk tx O 529 [.gl<|script.map .int] []=.ok (.bool true) Y':=by
 refine mN H.pool λs al bJ dT e1 s1=>cZ (H.mG al) λm ax e2 G2 w2=>?_;have w2:=w2 s<|nf s1
 refine LM (Bh (g:=.gl<|script.map .int) H (G2.old _ _ s1) w2 (x2:=some<|.int 0) (x3:=none) (x5:=none)) λx3 x5 bB mB pu zq=>He zq λe3 K3 s3=>LM (Bh (g:=.gl<|script.map .int) H s3 (K3.mG w2) (x2:=some<|.int 1) (x3:=x3) (x5:=x5)) λy3 y5 aU jR lC zq=>He zq λe4 K4 s4=>?_;have s5:=ak (c':=Cell.list kz) s4;refine mN (H.one _ s jR lC _ _ s5 (eL.list (t:=aU.length) (l:=kz) ao ((dl s4<|a9 _).symm:s≠aU.length)<|by decide) (by decide)<|by decide) λi v AG Jm hv e5=>?_;obtain⟨n,rfl,hn⟩:∃n:Int,v=.int n/\V.int n∈kz:=by
  have hm:=bn hv
  match i,hv with
  | 0,h=>cases h;exact bD _ rfl hm
  | 1,h=>cases h;exact bD _ rfl hm
  | 2,h=>cases h;exact bD _ rfl hm
  | 3,h=>cases h;exact bD _ rfl hm
  | 4,h=>cases h;exact bD _ rfl hm
  |_+5,h=>cases h
 refine⟨(aU++[Cell.list kz]).set s<|aC AG Jm,?_⟩;apply bf (i:=Ue) (R:=(some<|.bool true,EM (.gl<|script.map .int) s m (some<|.int 1) y3 y5)) rfl rfl rfl;refine ah (az (aS<|aa (aK (aa (I rfl)<|aa ag ae) e1)<|aa (aK ae e2) ae)<|ez rfl rfl<|aR aD<|aR aD dg)<|ah (aA (ic<|f6 (lg (aK (aa (I rfl) ae)<|H.fixed ax m w2.at) rfl) rfl<|f6 (lg (aK (aa ag ae)<|H.chain ax 30<|.inl rfl) rfl) rfl<|f0<|lg (aK (aa ag ae)<|H.chain ax 31<|.inr<|.inl rfl) rfl) rfl ay) ?_
 exact ah (gB (cL (aa ag ae) rfl) (all:=[.int 0,.int 1]) rfl<|aZ e3 rfl<|aZ e4 rfl eQ)<|ah (bL<|aK (aa (aK (aa (I rfl)<|aa (bh<|aa ag<|aa ag<|aa ag<|aa ag<|aa ag ae) ae) e5) ae)<|H.chain _ n<|.inr<|.inr hn) rfl
end
def names13:aG:=[.str lT,.str gZ,.str g6,.str g7,.str ft,.str fQ,.str g8,.str g9,.str dI,.str eU,.str cU,.str yb,.str Cd]
abbrev Rx:aG:=[.str yb,.str Cd]
noncomputable def EN (o:jJ):Bool:=match o with
 |some v=>v.ctorIdx==1&&v.PG
 |none=>false
noncomputable def Zd (l:aG):Bool:=match l with
 | []=>false
 |a::r=>r.length==1&&(a.ctorIdx==2&&(r.headD .none).ctorIdx==2)
def Ze (c:Cell):Bool:=match c with
 | .list l=>Zd l
 |_=>false
def Vv (Y:af):Bool:=match Y with
 | []=>false
 |c::_=>Ze c
def O2 (r:Res fc):Bool:=match r with
 | .ok f Y=>EN f.1&&Vv Y
 |_=>false
theorem JX {v:V}(h:(v.ctorIdx==2)=true):∃i,v=.int i:=@V.int.elim (λv=>∃i,v=.int i) v (ix h) λi=>⟨i,rfl⟩
theorem Dv {o:jJ}(h:EN o=true):o=some (.bool true):=by
 cases o with
 |none=>exact Bool.noConfusion h
 |some v=>
  have h:=h;exact @V.bool.elim (λv=>v.PG=true->some v=some (.bool true)) v (ix<|b1 h) (λb e=>by rw[show b=true from e])<|b2 h
theorem Nx {Y:af}(h:Vv Y=true):∃x y J,Y=aC x y::J:=by
 cases Y with
 |nil=>exact Bool.noConfusion h
 |cons c J=>
  cases c with
  |list l=>
   cases l with
   |nil=>exact Bool.noConfusion h
   |cons a r=>
    have h:(r.length==1&&(a.ctorIdx==2&&(r.headD .none).ctorIdx==2))=true:=h;refine aM (wx.mp<|eq_of_beq<|b1 h) λb dZ=>?_;subst dZ;refine aM (JX<|b1<|b2 h) λx mu=>?_;subst mu;refine aM (JX<|b2<|b2 h) λy uu=>?_;subst uu;exact zy x y J rfl
  |_=>exact Bool.noConfusion h
theorem JY {r:Res fc}(h:O2 r=true):∃N x y J,r=.ok (some<|.bool true,N) (aC x y::J):=by
 cases r with
 |ok f Y=>
  have h:=h;refine Hf (Nx<|b2 h) λx y J An=>?_;subst An;obtain⟨a,N⟩:=f;exact Xq N x y J (by rw[show a= _ from Dv (b1 h)])
 |_=>exact Bool.noConfusion h
def JZ (a b:Int)(i d:Nat):Res fc:=bZ (run tx 30) 400 (PX.body.drop 1) [some<|.ref 0,some<|names13.getD i .none,some<|.int d,ai,ai,ai,ai,ai,ai,ai,ai,ai] [aC a b,.list Rx,.list names13]
theorem plain_all (a b:Int):((List.range 13).all λi=>(List.range 7).all λd=>O2<|JZ a b i d)=true:=by k_all
theorem Bj {a b:Int}:∃a' b' J,run tx 31 465 [.ref 0] [aC a b]=.ok (.bool true) (aC a' b'::J):=by
 have hs:([aC a b]:af)[0]?=some (aC a b):=rfl;refine mN (lO (s:=0) 30 (by decide) (rfl:([aC a b,.list Rx,.list names13]:af)[0]?=some (aC a b)) (eL.list (t:=2) (l:=names13) rfl (by decide)<|by decide) (by decide)<|by decide) λi v bJ dT hv e1=>kg (iZ (s:=0) (Y:=[aC bJ dT,.list Rx,.list names13]) 30 (by decide) (top:=7) rfl (by decide)<|by decide) λd bK fW d0 d1 e2=>?_;refine aM (Int.eq_ofNat_of_zero_le d0) λd FU=>?_;subst FU;have h:=gn.mp (gn.mp (plain_all bK fW) i<|List.mem_range.mpr ((bM.mp hv).1:i<13)) d<|List.mem_range.mpr<|by omega
 refine Xj (JY h) λN x y J e3=>?_;have hn:names13.getD i .none=v:=by rw[zu,hv];rfl
 unfold JZ at e3;rw[hn] at e3;refine zy x y J ?_;show bk tx (run tx 30) 465 [.ref 0] [aC a b]= _;apply bf (i:=PX) (R:=(some<|.bool true,N)) rfl rfl rfl;exact ah (az (aS<|aa (aK (aa (I rfl)<|aa (eX ag (bh<|aa ag<|aa ag ae) rfl) ae) e1)<|aa (aK (aa (I rfl)<|aa ag ae) e2) ae)<|ez rfl rfl<|aR aD<|aR aD dg) e3
section
variable {gx:Gx} {s:Nat} {Y:af} {a b:Int}
theorem Ny {x y:Int}(h:Y[s]?=some (aC x y)):Emb [s] [aC x y] Y where
 len:=rfl
 nd:=by simp
 cell:=λi c hc=>by
  cases i with
  |zero=>cases hc;exact lA s rfl h rfl
  |succ i=>cases hc
theorem J0 {x y x' y':Int}(h:Y[s]?=some (aC x y)):Back [s] [s] [aC x y] Y [aC x' y'] (Y.set s<|aC x' y') where
 le:=a9 _
 more:=rfl
 len:=by rw[qp];rfl
 old:=λj M hj=>eA (by simpa [eq_comm] using hj)
 new:=λi c hc=>by
  cases i with
  |zero=>cases hc;exact bD s rfl<|cW h x' y'
  |succ i=>cases hc
theorem Dw (H:nP gx tx)(hs:Y[s]?=some (aC a b)):∃a' b',cT (2 * (6 * 31)) 465 [.ref s] Y (.ok (.bool true)<|Y.set s<|aC a' b'):=by
 refine Hf (Bj (a:=a) (b:=b)) λa' b' J e=>?_;have d:=(H.run 31).pr (f:=465) (vs:=[.ref 0]) (Y:=[aC a b]);rw[e] at d;exact E7 a' b'<|(cT.drop (J:=J) d rfl (a9 _) rfl:cT (2 * (6 * 31)) 465 [.ref 0] [aC a b] (.ok (.bool true) [aC a' b'])).frame (Ny hs) rfl<|J0 hs
end
section
variable {O:ar}
theorem xy {Y:af}{c:Int}{script:V}(hc:aV O (.ite (.m .Lt (.l 1)<|.bi .len [.l 0]) (.i (.l 0)<|.l 1)<|.xi 0) [some script,some<|.int 0,ai,ai,ai,ai,ai,ai] Y=.ok (.int c) Y):∃a b,bk tx O 378 [script,.int 0] Y=.ok (.ref Y.length) (Y++[aC a b]):=by
 have e1:(0:Int)<2147483629:=by decide
 have e2:(0:Int)<2147483647:=by decide
 let g:Int:=if c < -1 - c then -1 - c else c;have eg:vS Y .max [.int c,.int<|-1 - c]=.ok (.int g) Y:=rfl;have key:∀bb:Bool,cy Y .GtE (.int g) (.int<|(10:Int) ^ Int.toNat 18)=some bb->∃a b,bk tx O 378 [script,.int 0] Y=.ok (.ref Y.length) (Y++[aC a b]):=λbb hb=>by
  have ei:vS Y .int [.bool bb]=.ok (.int<|if bb then 1 else 0) Y:=rfl;have em:jk Y .Mult (.int g) (.int<|if bb then 1 else 0)=.ok (.int<|g * (if bb then 1 else 0)) Y:=mul_int _ (by cases bb<;>rfl)
  refine E7 (g * (if bb then 1 else 0)) (((((g.fmod 2147483629+7919 * 0 * 0)+31 * 0)+17) * 48271).fmod 2147483647) ?_;apply bf (i:=PU) (R:=(some<|.ref Y.length,_)) rfl rfl rfl;dsimp only[PU];refine ah (az hc aD) ?_
  (first | apply dr | apply dq | apply bE)
  repeat (first | (intro w;refine(?_:_->_) (w<|mod_int _ e1)) | (intro w;refine(?_:_->_) (w<|mod_int _ e2)) | (intro w;refine(?_:_->_) (w<|mul_int _ rfl)) | wp_step)
 exact key _ rfl
theorem J1 {script:List Int}(hl:script.length<1000):∃a b,bk tx O 378 [.gl<|script.map .int,.int 0] []=.ok (.ref 0) [aC a b]:=by
 have e1:vS [] .len [.gl<|script.map V.int]=.ok (.int script.length) []:=by
  have:=nh (Y:=[]) (v:=.gl<|script.map V.int) (k:=false) (l:=script.map V.int) rfl (by(rw[cu];exact lt_num ‹_› rfl));rw[cu] at this;exact this
 cases script with
 |nil=>exact xy<|fU (aq (I rfl) (cL (aa (I rfl) ae) e1) rfl) rfl ag
 |cons c r=>
  refine xy (c:=c)<|fk (aq (b:=true) (I rfl) (cL (aa (I rfl) ae) e1) ?_) rfl<|aF (I rfl) (I rfl)<|tS (i:=0) (l:=(c::r).map V.int) rfl (by rw[cu];exact hl)
  show some (decide ((0:Int)<((c::r).length:Int)))=some true;rw[dP (by rw[dE];omega)]
end
section
set_option tactic.hygienic true
def j5 (n:Int):Bool:=match bk tx (run (plainT tx) 139) 472 [.int n] [] with
 | .ok (.bool true) _=>true
 |_=>false
theorem Ry:j5 1=true:=by k_all
theorem Rz:j5 2=true:=by k_all
theorem RA:j5 9=true:=by k_all
theorem Nz:j5 28=true:=by k_all
theorem NA:j5 29=true:=by k_all
theorem NB:j5 30=true:=by k_all
theorem ND:j5 31=true:=by k_all
section
variable {gx:Gx} {Y:af}
theorem Dx (H:nP gx tx){n:Int}(h:j5 n=true):cT (2 * (2 * 139+6)) 472 [.int n] Y (.ok (.bool true) Y):=by
 have d:=(H.step (k:=2 * 139)<|H.YY 139).pr (f:=472) (vs:=[.int n]) (Y:=[]);unfold j5 at h;split at h
 ·next J e=>
  rw[e] at d;have d':cT (2 * (2 * 139+6)) 472 [.int n] [] (.ok (.bool true) []):=cT.drop (J:=J) d rfl (a9 _) rfl;exact d'.keep (π:=[]) ⟨rfl,by simp,λi c hc=>by cases hc⟩ rfl
 ·cases h
theorem oM {n k:Int}(e:V.int n=V.int k)(h:j5 k=true):j5 n=true:=by rw[show n=k from bH V.PH e];exact h
theorem GG {n:Int}(h:n=30∨n=31∨V.int n∈kz):j5 n=true:=by
 rcases h with rfl | rfl | h
 ·exact NB
 ·exact ND
 ·refine aY (aX.mp h) (λe=>?_) λh=>?_
  ·exact oM e Ry
  refine aY (aX.mp h) (λe=>?_) λh=>?_
  ·exact oM e Rz
  refine aY (aX.mp h) (λe=>?_) λh=>?_
  ·exact oM e RA
  refine aY (aX.mp h) (λe=>?_) λh=>?_
  ·exact oM e Nz
  ·exact oM (cK.mp h) NA
end
end
section
variable {gx:Gx} {Y:af} {s m:Nat} {a b:Int}
theorem J2 (H:nP gx tx):∃m Y',cT (2 * (6 * 20)) 479 [] Y (.ok (.ref m) Y')/\dp Y Y'/\∀s,s<Y.length->eR s m Y':=by
 let π:List Nat:=(List.range 17).map λk=>Y.length+k;have Zf:∀i,i<17->π[i]?=some (Y.length+i):=λi hi=>by
  show((List.range 17).map _)[i]?= _;rw[fP,t9 hi];rfl
 let Y':af:=Y++W.map λc=>c.ml<|at' π
 have Wv:∀(i:Nat) (c:Cell),W[i]?=some c->∃j,π[i]?=some j/\Y'[j]?=some (c.ml<|at' π):=λi c hc=>by
  have hi:i<17:=by have:=(bM.mp hc).1;rwa [sG] at this
  refine bD (Y.length+i) (Zf i hi) ?_;show(Y++_)[_]?= _;rw[j9<|dX _ _,r6,fP,hc];rfl
 have B:Back [] π [] Y W Y':=⟨pC _,by show π=[]++_;rw[sG];rfl,by show(Y++_).length= _;rw[b0,cu];rfl,λj hj M=>iE hj,Wv⟩;have d:=(Dd H).frame (⟨rfl,by simp,λi c hc=>by cases hc⟩:Emb [] [] Y) rfl B;refine eT (Y.length+1) Y' ?_ dp.refl.push λs hs=>⟨π,⟨?_,?_,λi c hc=>?_⟩,Zf 1<|aN rfl,?_⟩
 ·have:V.ml (at' π) (.ref 1)=.ref (Y.length+1):=by rw[V.ml,(m8 (Zf 1<|aN rfl):at' π 1=Y.length+1)]
  rw[this] at d;exact d
 ·show((List.range 17).map _).length= _;rw[cu,List.length_range,sG]
 ·show((List.range 17).map λk=>Y.length+k).Nodup;rw[List.nodup_iff_pairwise_ne,List.pairwise_map];exact List.nodup_range.imp λh e=>h (by omega)
 ·exact aI (Wv i c hc) λj h1 h2=>lA j h1 h2<|gn.mp xm c<|fN hc
 ·intro hm;refine aI (bT.mp hm) λk M hk=>?_;omega
theorem J3 (H:nP gx tx)(hw:ch m Y):cT (2 * (6 * 30)) 522 [.ref m] Y (.ok (.bool true) Y):=by
 refine aI hw fun π E e=>?_;have d:=(De H).keep E (by rw[sG];rfl);have:lB (at' π) [.ref 1]=[.ref m]:=by simp only[lB,V.ml,m8 e]
 rw[this] at d;exact d
end
noncomputable def Bk {α:Type}(Q:α->Prop):List α->Prop
 | []=>True
 |a::r=>Q a/\Bk Q r
theorem Bk.get {α:Type}{Q:α->Prop}{l:List α}(h:Bk Q l):∀a∈l,Q a:=by
 induction l with
 |nil=>exact λa h=>nomatch h
 |cons x r ih=>exact λa ha=>(aX.mp ha).elim (λe=>e▸h.1) λha=>ih h.2 a ha
structure Ct where
 g:Nat
 C:List V->af->Res V->Prop
def Ct.pr (n:Nat)(c:Ct):Prop:=∀vs Y,∃r,cT n c.g vs Y r/\c.C vs Y r
def Ct.ok (O:ar)(c:Ct):Prop:=∀vs Y,c.C vs Y<|O c.g vs Y
theorem GH {n:Nat}{l:List Ct}(nd:(l.map (·.g)).Nodup)(h:Bk (Ct.pr n) l):∃O,hV O n/\∀c∈l,c.ok O:=by
 induction l with
 |nil=>exact bD (λM M M=>.stuck) (.tM λM M M=>.stuck) λM h=>nomatch h
 |cons c r ih=>
  have nd':=gY.mp nd;refine aI (ih nd'.2 h.2) λO S hO=>bD (λf vs Y=>if f=c.g then (h.1 vs Y).choose else O f vs Y) (.tM λf vs Y=>?_) λd hd vs Y=>?_
  ·by_cases e:f=c.g
   ·rw[if_pos e,e];exact(h.1 vs Y).choose_spec.1
   ·rw[if_neg e];exact S.pr
  ·show d.C vs Y (if d.g=c.g then (h.1 vs Y).choose else O d.g vs Y);refine aY (aX.mp hd) (λe=>?_) λhd=>?_
   ·rw[e,if_pos rfl];exact(h.1 vs Y).choose_spec.2
   ·have hn:d.g≠c.g:=λe=>nd'.1 (show c.g∈r.map (·.g) by rw[<-e];exact cB hd);rw[if_neg hn];exact hO d hd vs Y
theorem oN {n g:Nat}{vs:aG}{Y:af}{p:Prop}{C:Res V->Prop}(h:p->∃r,cT n g vs Y r/\C r)(h0:¬p->C .stuck):∃r,cT n g vs Y r/\C r:=by
 by_cases hp:p
 ·exact h hp
 ·exact bD .stuck .stuck<|h0 hp
def Dy (s:Nat)(Y:af)(r:Res V):Prop:=∃Y' a' b',r=.ok (.bool true) Y'/\bg s Y Y'/\Y'[s]?=some (aC a' b')
abbrev O3:Ct:=⟨378,λvs Y r=>∀script:List Int,script.length<1000->vs=[.gl<|script.map .int,.int 0]->Y=[]->∃a b,r=.ok (.ref 0) [aC a b]⟩
abbrev J4:Ct:=⟨479,λvs Y r=>vs=[]->∃m Y',r=.ok (.ref m) Y'/\dp Y Y'/\∀s,s<Y.length->eR s m Y'⟩
abbrev J5:Ct:=⟨522,λvs Y r=>∀m,vs=[.ref m]->ch m Y->r=.ok (.bool true) Y⟩
abbrev J6:Ct:=⟨472,λvs Y r=>∀n:Int,vs=[.int n]->(n=30∨n=31∨V.int n∈kz)->r=.ok (.bool true) Y⟩
abbrev Vw:Ct:=⟨458,λvs Y r=>∀s a b,vs=[.ref s]->Y[s]?=some (aC a b)->Dy s Y r⟩
abbrev J7:Ct:=⟨465,λvs Y r=>∀s a b,vs=[.ref s]->Y[s]?=some (aC a b)->Dy s Y r⟩
abbrev O4:Ct:=⟨503,λvs Y r=>∀s a b,vs=[.ref s,.int 3]->Y[s]?=some (aC a b)->∃k,k<=8/\eO k s Y r⟩
abbrev O5:Ct:=⟨151,λvs Y r=>∀m g k ww d,vs=[.ref m,.str z_,.ref g,.none,ww]->k<=8->ku k ww d->ch m Y->Y[g]?=some (.list [.str lW])->∃J,r=told d (Y++J)⟩
abbrev O6:Ct:=⟨515,λvs Y r=>∀s m a b,vs=[.ref s,.ref m]->Y[s]?=some (aC a b)->eR s m Y->Dy s Y r⟩
abbrev Vx:Ct:=⟨392,λvs Y r=>∀s a b t l,vs=[.ref s,t]->Y[s]?=some (aC a b)->eL Y s t l->0<l.length->l.length<1000->∃(i:Nat) (v:V) (a' b':Int),l[i]?=some v/\r=.ok v (Y.set s<|aC a' b')⟩
noncomputable def Dz:List Ct:=[O3,J4,J5,J6,Vw,J7,O4,O5,O6,Vx]
section
variable {gx:Gx} {Y:af} {s m:Nat} {a b:Int}
theorem NE {O:ar}(h:∀c∈Dz,c.ok O){script:List Int}(hl:script.length<1000):Du O script:=
 have g:∀(i:Nat) (c:Ct),Dz[i]?=some c->c.ok O:=λi c e=>h c<|fN e
 {pool:=by
   exact kf (g 0 O3 rfl [.gl<|script.map .int,.int 0] [] script hl rfl rfl) λa b e=>S0 0 _ a b e rfl
  mG:=λY=>g 1 J4 rfl [] Y rfl
  fixed:=λY m hw=>g 2 J5 rfl _ Y m rfl hw
  chain:=λY n hn=>g 3 J6 rfl _ Y n rfl hn
  publics:=λY s a b hs=>g 4 Vw rfl _ Y s a b rfl hs
  plain:=λY s a b hs=>g 5 J7 rfl _ Y s a b rfl hs
  type:=λY s a b hs=>g 6 O4 rfl _ Y s a b rfl hs
  read:=λY m g' k ww d hk hT hw hg=>g 7 O5 rfl _ Y m g' k ww d rfl hk hT hw hg
  bounds:=λY s m a b hs hw=>g 8 O6 rfl _ Y s m a b rfl hs hw
  one:=λY s a b t l hs ht h0 h1=>g 9 Vx rfl _ Y s a b t l rfl hs ht h0 h1}
def EO (n:Nat):Prop:=∀(Y:af) (s:Nat) (a b:Int),Y[s]?=some (aC a b)->∃Y' a' b',cT n 458 [.ref s] Y (.ok (.bool true) Y')/\bg s Y Y'/\Y'[s]?=some (aC a' b')
def xz (n:Nat):Prop:=∀(Y:af) (m:Int),(m=30∨m=31∨V.int m∈kz)->cT n 472 [.int m] Y (.ok (.bool true) Y)
theorem Vy {s s':Nat}(e:[V.ref s]=[V.ref s']):s=s':=bH V.TF<|List.head_eq_of_cons_eq e
theorem Vz {k:Nat}{vs:aG}{f:Nat}{r:Res V}(d:cT (2 * k) f vs Y r)(h:k<=600):cT (2 * 600) f vs Y r:=d.weaken (by rw[fS,fS];exact h)<|Nat.mul_mod_right 2 k
theorem vA (H:nP gx tx)(f:Nat)(vs:aG):cT (2 * 600) f vs Y (run tx 30 f vs Y):=Vz (H.run 30).pr (by decide)
theorem RB (H:nP gx tx)(hP:EO (2 * 600))(hC:xz (2 * 600)):Bk (Ct.pr<|2 * 600) Dz:=
 ⟨λvs Y=>⟨_,vA H 378 vs,λM hl e1 e2=>by rw[e1,e2];exact J1 (O:=run tx 29) hl⟩,
 λvs Y=>oN (p:=vs=[]) (λe=>by
  refine cZ (J2 H (Y:=Y)) λm Y' d g1 g2=>?_;rw[e];exact⟨_,d.weaken (by decide) (by decide),λM=>⟨m,Y',rfl,g1,g2⟩⟩) λn e=>absurd e n,
 λvs Y=>oN (p:=∃m,vs=[.ref m]/\ch m Y) (λ⟨m,e,hw⟩=>by
  rw[e];exact⟨_,(J3 H hw).weaken (by decide) (by decide),λM M M=>rfl⟩) λn m e hw=>absurd ⟨m,e,hw⟩ n,
 λvs Y=>oN (p:=∃n:Int,vs=[.int n]/\(n=30∨n=31∨V.int n∈kz)) (λ⟨n,e,hn⟩=>by
  rw[e];exact⟨_,hC Y n hn,λM M M=>rfl⟩) λn m e hw=>absurd ⟨m,e,hw⟩ n,
 λvs Y=>oN (p:=∃s a b,vs=[.ref s]/\Y[s]?=some (aC a b)) (λ⟨s,a,b,e,hs⟩=>by
  refine kg (hP Y s a b hs) λY' a' b' d g1 g2=>?_;rw[e];exact⟨_,d,λs' M M e M=>Vy e▸⟨Y',a',b',rfl,g1,g2⟩⟩) λn s a b e hs=>absurd ⟨s,a,b,e,hs⟩ n,
 λvs Y=>oN (p:=∃s a b,vs=[.ref s]/\Y[s]?=some (aC a b)) (λ⟨s,a,b,e,hs⟩=>by
  refine kf (Dw H hs) λa' b' d=>?_;rw[e];exact⟨_,d.weaken (by decide) (by decide),λs' M M e M=>Vy e▸⟨_,a',b',rfl,.set,cW hs a' b'⟩⟩) λn s a b e hs=>absurd ⟨s,a,b,e,hs⟩ n,
 λvs Y=>⟨_,vA H 503 vs,λs a b e hs=>by
  rw[e];refine jI (Ra 3 (by decide) 30 (by decide) hs) λk k1 M h=>?_;exact⟨k,k1,h⟩⟩,
 λvs Y=>⟨UW 30 151 vs Y,((Rh H 29).pr).weaken (by decide) (by decide),λm g k ww d e hk hT hw hg=>by rw[e];exact JC H hT 30 (by omega) hw hg⟩,
 λvs Y=>⟨UB 5 515 vs Y,((Rk H 4).pr).weaken (by decide) (by decide),λs m a b e hs hw=>by rw[e];exact GF H hs hw⟩,
 λvs Y=>⟨_,vA H 392 vs,λs a b t l e hs ht g0 g1=>by rw[e];exact lO 30 (by decide) hs ht g0 g1⟩,trivial⟩
end
noncomputable abbrev fg:Str:=⟨#[97,58,58,102]⟩
noncomputable abbrev dY:Str:=⟨#[97,58,58,83]⟩
noncomputable abbrev fX:Str:=⟨#[97,58,58,69]⟩
noncomputable abbrev gU:Str:=⟨#[97,58,58,98,58,58,102]⟩
noncomputable abbrev gV:Str:=⟨#[97,58,58,98,58,58,83]⟩
noncomputable abbrev nl:Str:=⟨#[97,58,58,98,58,58,69]⟩
noncomputable abbrev pK:Str:=⟨#[69,58,58,86]⟩
noncomputable abbrev ph:Str:=⟨#[97,58,58,69,58,58,86]⟩
noncomputable abbrev Bn:Str:=⟨#[97,58,58,98,58,58,69,58,58,86]⟩
inductive Pl where
 |o | a | ab
inductive Nm where
 |f | S | E
def Pl.str:Pl->Str
 | .o=>z_
 | .a=>dG
 | .ab=>aP
def Nm.str:Nm->Str
 | .f=>dQ
 | .S=>cx
 | .E=>eD
def Pl.parts:Pl->cY
 | .o=>[]
 | .a=>[dG]
 | .ab=>[dG,BR]
def jn:Pl->Nm->Str
 | .o,n=>n.str
 | .a,.f=>fg
 | .a,.S=>dY
 | .a,.E=>fX
 | .ab,.f=>gU
 | .ab,.S=>gV
 | .ab,.E=>nl
noncomputable def jx:Pl->Nm->Nat
 | .o,.f=>2
 | .o,.S=>3
 | .o,.E=>4
 | .a,.f=>5
 | .a,.S=>6
 | .a,.E=>7
 | .ab,.f=>8
 | .ab,.S=>9
 | .ab,.E=>10
abbrev NF:cY:=[dG,aP,dQ,cx,eD,fg,dY,fX,gU,gV,nl]
abbrev ra (pb:Nat->Bool):ii:=[(dG,.bool<|pb 0),(aP,.bool<|pb 1),(dQ,.bool<|pb 2),(cx,.bool<|pb 3),(eD,.bool<|pb 4),(fg,.bool<|pb 5),(dY,.bool<|pb 6),(fX,.bool<|pb 7),(gU,.bool<|pb 8),(gV,.bool<|pb 9),(nl,.bool<|pb 10)]
theorem rb (pb:Nat->Bool):∀p n,aL (ra pb) (jn p n)=some (.bool<|pb<|jx p n)
 | .o,.f=>by k_all
 | .o,.S=>by k_all
 | .o,.E=>by k_all
 | .a,.f=>by k_all
 | .a,.S=>by k_all
 | .a,.E=>by k_all
 | .ab,.f=>by k_all
 | .ab,.S=>by k_all
 | .ab,.E=>by k_all
structure Hs (aw Y:af)(l:mj):Prop where
 nd:(l.map (·.1)).Nodup
 ge:∀q∈l,aw.length<=q.1
 told:∀q∈l,Y[q.1]?=some q.2
 grow:dp aw Y
section
variable {aw Y:af} {l:mj} {a i:Nat} {c c':Cell}
theorem Hs.get (h:Hs aw Y l)(i:Nat)(e:l[i]?=some (a,c)):Y[a]?=some c:=h.told _<|fN e
theorem Hs.push (h:Hs aw Y l){J:af}:Hs aw (Y++J) l:=⟨h.nd,h.ge,λq hq=>cF<|h.told q hq,h.grow.push⟩
theorem Hs.add (h:Hs aw Y l):Hs aw (Y++[c]) (l++[(Y.length,c)]):=by
 refine⟨?_,?_,?_,h.grow.push⟩
 ·rw[jc,r9];refine⟨h.nd,by simp,?_⟩;intro x hx y hy e;refine aI (bT.mp hx) λq hq dZ=>?_;subst dZ;have:=(bM.mp<|h.told q hq).1;simp only[d8,List.map_nil,cK] at hy;omega
 ·intro q hq;refine aY (fb.mp hq) (λhq=>?_) λhq=>?_
  ·exact h.ge q hq
  ·rw[cK.mp hq];exact h.grow.le
 ·intro q hq;refine aY (fb.mp hq) (λhq=>?_) λhq=>?_
  ·exact cF<|h.told q hq
  ·rw[cK.mp hq];exact ao
theorem Hs.set (h:Hs aw Y l)(i:Nat)(e:l[i]?=some (a,c)):Hs aw (Y.set a c') (l.set i (a,c')):=by
 refine aM (bM.mp e) λhi e'=>?_;have hm:(l.set i (a,c')).map (·.1)=l.map (·.1):=by
  rw[List.map_set];refine List.ext_getElem? λj=>?_;rw[List.getElem?_set];split
  ·next hj=>subst hj;rw[if_pos (by rw[cu];exact hi),fP,e];rfl
  ·rfl
 refine⟨by rw[hm];exact h.nd,λq hq=>?_,λq hq=>?_,h.grow.set<|h.ge _<|fN e⟩
 ·rcases List.mem_or_eq_of_mem_set hq with hq | rfl
  ·exact h.ge q hq
  ·exact h.ge (a,c)<|fN e
 ·refine aM (List.mem_iff_getElem?.mp hq) λj hj=>?_;rw[List.getElem?_set] at hj;split at hj
  ·next E3=>
   cases hj;exact tZ (bM.mp<|h.get i e).1
  ·next E3=>
   have dS:a≠q.1:=λhh=>E3<|kD h.nd (by rw[fP,e];rfl)<|by rw[fP,hj,Option.map_some,hh]
   rw[eA dS];exact h.told q<|fN hj
end
section
variable {Y:af} {m d t C:Nat} {l l':ii} {n s:Str} {v:V}
theorem vB (h:Y[m]?=some (.inst C d))(k:Y[d]?=some (.dict l))(e:uo.attrs C n=true)(hl:l.length<499):db Y (.ref m) n=true:=yH h k e hl
theorem EP (h:Y[m]?=some (.inst C d))(k:Y[d]?=some (.dict l))(e:aL l n=some v):jN Y (.ref m) n=some v:=yG h k e
theorem bX {O:ar}{N:Loc}{i:Nat}{n:Str}(hl:N[i]?=some (some<|.ref m))(h:Y[m]?=some (.inst C d))(k:Y[d]?=some (.dict l))(e:uo.attrs C n=true)(hn:l.length.blt 499=true)(hv:aL l n=some v):aV O (.attr (.l i) n) N Y=.ok v Y:=tO (I hl) (yH h k e<|aN hn)<|yG h k hv
theorem bY {f:Nat}(h:Y[m]?=some (.inst C d))(k:Y[d]?=some (.dict l))(e:uo.bG C n=some f)(e':aL l n=none):eV Y (.ref m) n=some f:=El h k (by rw[e'];rfl) e
theorem DA (h:Y[m]?=some (.inst C d))(k:Y[d]?=some (.dict l))(e:rq l n v=l'):iV Y (.ref m) n v=some (Y.set d<|.dict l'):=by rw[<-e];exact vf h k
theorem fh (h:Y[t]?=some (.dict l))(e:aL l s=some v):cb Y (.ref t) (.str s)=some v:=(oH h).trans e
theorem wn (h:Y[t]?=some (.dict l)){b:Bool}(e:(aL l s).isSome=b):cy Y .In (.str s) (.ref t)=some b:=(in_of h).trans (by rw[<-e];rfl)
theorem VA (h:Y[t]?=some (.dict l)):Fh Y (.ref t) .get=true:=by show(OB Y t).isSome=true;rw[CZ h];rfl
theorem O7 (h:Y[t]?=some (.dict l))(e:(aL l s).getD .none=v):OD Y (.ref t) .get [.str s]=.ok v Y:=by rw[<-e];exact cq (CZ h) rfl
theorem i7 (h:Y[t]?=some (.dict l))(hl:l.length<10000)(e:rq l s v=l'):iW Y (.ref t) (.str s) v=some (Y.set t<|.dict l'):=(C1 h).trans (by rw[<-e];exact if_pos hl)
end
abbrev sK (ck cp ct cg ci ce:Nat):ii:=[(dM,.ref ck),(dB,.ref cp),(dK,.ref ct),(bq,.ref cg),(kh,.ref ci),(ji,.ref ce)]
abbrev sL (tt tv tu:Nat):ii:=[(gd,.ref tt),(gu,.ref tv),(gv,.ref tu)]
theorem dA (k f:Nat)(vs:aG)(Y:af):run tx (k+1) f vs Y=bk tx (run tx k) f vs Y:=rfl
section
variable {k:Nat} {Y:af} {t td tt tv tu:Nat} {s:Str}
theorem pi (h:Y[t]?=some (.inst 236 td))(h':Y[td]?=some (.dict<|sL tt tv tu)):run tx (k+1) 228 [.ref t,.str aB] Y=.ok (.ref tt) Y:=by
 rw[dA];apply bf (i:=PP) (R:=(some<|.ref tt,_)) rfl rfl rfl;exact ah (bL<|fk (aq (I rfl) ag rfl) rfl<|bX rfl h h' rfl rfl rfl) rfl
theorem rc (h:Y[t]?=some (.inst 236 td))(h':Y[td]?=some (.dict<|sL tt tv tu)):run tx (k+1) 228 [.ref t,.str gH] Y=.ok (.ref tv) Y:=by
 rw[dA];apply bf (i:=PP) (R:=(some<|.ref tv,_)) rfl rfl rfl;exact ah (bL<|fU (aq (I rfl) ag rfl) rfl<|bX rfl h h' rfl rfl rfl) rfl
theorem EQ (h:Y[t]?=some (.inst 236 td))(h':Y[td]?=some (.dict<|sL tt tv tu)){src:V}{all:aG}(nv:same Y src all=true):∀(l:aG),(∀x∈l,∃q rows,run tx (k+1) 228 [.ref t,x] Y=.ok (.ref q) Y/\Y[q]?=some (.dict rows)/\aL rows s=none)->
  dk (iL (run tx (k+1)) [none,none,some<|.str s,some<|.ref t] [1] [.m .In (.l 2)<|.bG (.l 3) oR [.l 1]]<|.l 1) src all l [] Y=.ok [] Y
 | [],_=>b8
 |x::l,hx=>by
  refine cZ (hx x<|.head _) λq rows e1 e2 e3=>bo (jq rfl<|mE (v:=.bool false) (al:=Y) ?_ rfl) nv<|EQ h h' nv l λy hy=>hx y<|.tail _ hy
  exact aq (I rfl) (bO (I rfl) (bY h h' rfl rfl) (aa (I rfl) ae) e1) (wn e2 (by rw[e3];rfl):cy Y .In (.str s) (.ref q)=some false)
theorem rf (h:Y[t]?=some (.inst 236 td))(h':Y[td]?=some (.dict<|sL tt tv tu)){us:ii}(hu:Y[tu]?=some (.dict us))(hn:aL us s=none){l:aG}(hx:∀x∈l,∃q rows,run tx (k+1) 228 [.ref t,x] Y=.ok (.ref q) Y/\Y[q]?=some (.dict rows)/\aL rows s=none):
  run tx (k+2) 233 [.ref t,.str s,.U l] Y=.ok (.bool false) (Y++[.list []]++[.list []]):=by
 rw[dA];apply bf (i:=T6) (R:=(some<|.bool false,_)) rfl rfl rfl;exact ah (bL<|ic<|f6 (aq (I rfl) (bX rfl h h' rfl rfl rfl) (wn hu (by rw[hn];rfl):cy Y .In (.str s) (.ref tu)=some false)) rfl<|f0<|aq (dU (I rfl) rfl<|EQ h h' rfl l hx) (bh ae)<|ig (ak ao) ao) rfl
end
structure Ad where
 (m d ck cp ct cg ci ce:Nat)
structure Td where
 (t td tt tv tu:Nat)
structure Rw where
 (k p tab g i:ii)
structure Tw where
 (t v u:ii)
abbrev mI (A:Ad)(r:Rw):mj:=[(A.m,.inst 367 A.d),(A.d,.dict<|sK A.ck A.cp A.ct A.cg A.ci A.ce),(A.ck,.dict r.k),(A.cp,.dict r.p),(A.ct,.dict r.tab),(A.cg,.dict r.g),(A.ci,.dict r.i)]
abbrev mJ (B:Td)(q:Tw):mj:=[(B.t,.inst 236 B.td),(B.td,.dict<|sL B.tt B.tv B.tu),(B.tt,.dict q.t),(B.tv,.dict q.v),(B.tu,.dict q.u)]
abbrev iD (A:Ad)(B:Td)(r:Rw)(q:Tw)(R:mj):mj:=mI A r++(mJ B q++R)
abbrev dO (names:aG)(pub:Bool):ii:=[(iT,.U names),(jK,.bool pub),(lV,.int 0)]
abbrev yV (names:aG)(n:Str)(pub:Bool):V:=.U [.str sq,.int 0,.U names,.str n,.bool pub]
def i8 (n:Str):Bool:=!(anyS n yT)&&!(anyS n [aQ,dJ,c9])
section
variable {k:Nat} {Y aw:af} {A:Ad} {B:Td} {r:Rw} {q:Tw} {R:mj} {l:mj}
theorem Hs.pair (h:Hs aw Y l){c c':Cell}:Hs aw (Y++[c,c']) (l++[(Y.length,c),(Y.length+1,c')]):=by
 have:=(h.add (c:=c)).add (c:=c');rw[bQ,bQ,b0] at this;exact this
theorem J8 {names:aG}{pub:Bool}:run tx (k+1) 200 [.ref (Y.length+1),.U names,.bool pub,.int 0] (je Y 203 [])=.ok .none (je Y 203<|dO names pub):=by
 rw[dA];apply bf (i:=TZ) (R:=(none,_)) rfl rfl rfl;refine ah (az (I rfl)<|iY (I rfl) (jT rfl<|aN rfl)<|jU rfl)<|ah (az (I rfl)<|iY (I rfl) (jT rfl<|aN rfl)<|jU rfl) ?_
 exact ah (az (I rfl)<|iY (I rfl) (jT rfl<|aN rfl)<|jU rfl) ay
theorem cV {l:ii}{s:Str}{v:V}(h:aL l s=none):rq l s v=l++[(s,v)]:=by
 unfold rq;rw[if_neg];intro ha;unfold aL at h;rw[List.any_eq_true] at ha;refine aI ha λp hp e=>?_;rw[Option.map_eq_none_iff,List.find?_eq_none] at h;exact h p hp e
theorem GI (h:Hs aw Y (iD A B r q R)){names:aG}(hl:names.length<100){md:Str}(hm:aL r.tab md=some (.ref B.t)){n:Str}(hf:i8 n=true)(h1:aL q.t n=none)(h2:aL q.v n=none)(h3:aL q.u n=none)(hu:q.u.length<100){pub:Bool}:
  ∃Y' e,run tx (k+3) 287 [.ref A.m,.str md,yV names n pub] Y=.ok .none Y'/\Hs aw Y' (iD A B r ⟨q.t,q.v,q.u++[(n,.ref (e+1))]⟩<|R++[(e,.dict<|dO names pub),(e+1,.inst 203 e)])/\dp aw Y':=by
 unfold i8 at hf;rw[kJ,nS,nS] at hf;have hp:cy Y .In (.str n) (.U [.str lT,.str gZ,.str g6,.str g7,.str ft,.str fQ,.str g8,.str g9,.str dI,.str eU,.str cU])=some false:=by rw[<-hf.1];rfl
 have hw:cy Y .In (.str n) (.U [.str aQ,.str dJ,.str c9])=some false:=by rw[<-hf.2];rfl
 have tk:=rf (k:=k) (l:=[.str aB,.str gH]) (h.get 7 rfl) (h.get 8 rfl) (h.get 11 rfl) h3 (λx hx=>by
  rcases aX.mp hx with rfl | hx
  ·exact eT _ _ (pi (h.get 7 rfl)<|h.get 8 rfl) (h.get 9 rfl) h1
  ·rw[cK.mp hx];exact⟨_,_,rc (h.get 7 rfl)<|h.get 8 rfl,h.get 10 rfl,h2⟩)
 have g:=(h.push (J:=[.list []])).push (J:=[.list []]);have g':=g.pair (c:=.dict<|dO names pub) (c':=.inst 203 (Y++[Cell.list []]++[Cell.list []]).length);have g'':=g'.set 11 rfl (c':=.dict<|q.u++[(n,.ref<|(Y++[Cell.list []]++[Cell.list []]).length+1)]);refine eT _ ((Y++[Cell.list []]++[Cell.list []]).length) ?_ ?_ g''.grow
 rotate_left
 ·exact g''
 rw[dA];apply bf (i:=T8) (R:=(none,_)) rfl rfl rfl;refine ah (az (aS<|aa (aF (I rfl) ag rfl)<|aa (aF (I rfl) ag rfl)<|aa (aF (I rfl) ag rfl)<|aa (aF (I rfl) ag rfl) ae)<|ez rfl rfl<|aR aD<|aR aD<|aR aD<|aR aD dg)<|ah (az (fU (aq (I rfl) ag rfl) rfl<|I rfl) aD) ?_
 refine ah (az (aF (bX rfl (h.get 0 rfl) (h.get 1 rfl) rfl rfl rfl) (I rfl)<|fh (h.get 4 rfl) hm) aD)<|ah (aA (aq (I rfl) ag hp) rfl ay) ?_
 exact ah (aA (ic<|f6 (aq (I rfl) ag hw) rfl<|f0<|bO (I rfl) (bY (h.get 7 rfl) (h.get 8 rfl) rfl rfl) (aa (I rfl)<|aa (aS<|aa ag<|aa ag ae) ae) tk) rfl ay)<|ah (az (vd rfl (aa (cL (aa (I rfl) ae)<|b9 rfl<|lt_num ‹_› rfl)<|aa (I rfl)<|aa (I rfl) ae) J8)<|fJ (bX rfl (g'.get 7 rfl) (g'.get 8 rfl) rfl rfl rfl) (I rfl)<|i7 (g'.get 11 rfl) (lt_num ‹_› rfl)<|cV h3) ay
end
section
variable {k:Nat} {Y aw:af} {A:Ad} {B:Td} {r:Rw} {q:Tw} {R:mj} {l:mj}
variable {md n path kind:Str} {pv:V}
theorem xA (h:Hs aw Y (iD A B r q R))(hj:∀(Y:af) (k:Nat),run tx (k+1) 172 [.str md,.str n] Y=.ok (.str path) Y)(hm:aL r.tab md=some (.ref B.t))(hf:i8 n=true)(h1:aL q.t n=none)(h3:aL q.u n=none)(h4:aL r.k path=none)(h5:aL r.p path=none)(hl:r.k.length<1000/\r.p.length<1000/\q.t.length<1000/\q.v.length<1000):
  ∃Y',run tx (k+3) 268 [.ref A.m,.str md,.str n,.str kind,.U [.str aB],pv,.int 0] Y=.ok .none Y'/\Hs aw Y' (iD A B ⟨r.k++[(path,.str kind)],r.p++[(path,pv)],r.tab,r.g,r.i⟩ ⟨q.t++[(n,.str path)],q.v,q.u⟩ R):=by
 unfold i8 at hf;rw[kJ,nS,nS] at hf;have hp:cy Y .In (.str n) (.U [.str lT,.str gZ,.str g6,.str g7,.str ft,.str fQ,.str g8,.str g9,.str dI,.str eU,.str cU])=some false:=by rw[<-hf.1];rfl
 have tk:=rf (k:=k) (l:=[.str aB]) (h.get 7 rfl) (h.get 8 rfl) (h.get 11 rfl) h3 (λx hx=>by
  rw[cK.mp hx];exact⟨_,_,pi (h.get 7 rfl)<|h.get 8 rfl,h.get 9 rfl,h1⟩)
 have g:=(h.push (J:=[.list []])).push (J:=[.list []]);have g0:=g.set 9 rfl (c':=.dict<|q.t++[(n,.str path)]);have gk:=g0.set 2 rfl (c':=.dict<|r.k++[(path,.str kind)]);refine bD _ ?_<|gk.set 3 rfl (c':=.dict (r.p++[(path,pv)]))
 rw[dA];apply bf (i:=Md) (R:=(none,_)) rfl rfl rfl;refine ah (az (aS<|aa (aF (bX rfl (h.get 0 rfl) (h.get 1 rfl) rfl rfl rfl) (I rfl)<|fh (h.get 4 rfl) hm)<|aa (aK (aa (I rfl)<|aa (I rfl) ae)<|hj _ _) ae)<|ez rfl rfl<|aR aD<|aR aD dg)<|ah (aA (eJ<|gM (aq ag (I rfl) rfl) rfl<|ip<|aq (I rfl) ag hp) rfl ay) ?_
 refine ah (aA (ic<|f6 (bO (I rfl) (bY (h.get 7 rfl) (h.get 8 rfl) rfl rfl) (aa (I rfl)<|aa (I rfl) ae) tk) rfl<|f0<|aq (I rfl) (bX rfl (g.get 0 rfl) (g.get 1 rfl) rfl rfl rfl) (wn (g.get 2 rfl) (by rw[h4];rfl):cy (Y++[Cell.list []]++[Cell.list []]) .In (.str path) (.ref A.ck)=some false)) rfl ay)<|ah (gB (I rfl) rfl<|aZ (ah (az (I rfl)<|fJ (bO (I rfl) (bY (g.get 7 rfl) (g.get 8 rfl) rfl rfl) (aa (I rfl) ae)<|pi (g.get 7 rfl)<|g.get 8 rfl) (I rfl)<|i7 (g.get 9 rfl) (by omega)<|cV h1) ay) rfl eQ) ?_
 exact ah (az (I rfl)<|fJ (bX rfl (g0.get 0 rfl) (g0.get 1 rfl) rfl rfl rfl) (I rfl)<|i7 (g0.get 2 rfl) (by omega)<|cV h4)<|ah (az (I rfl)<|fJ (bX rfl (gk.get 0 rfl) (gk.get 1 rfl) rfl rfl rfl) (I rfl)<|i7 (gk.get 3 rfl) (by omega)<|cV h5) ay
theorem GJ (h:Hs aw Y (iD A B r q R))(hj:∀(Y:af) (k:Nat),run tx (k+1) 172 [.str md,.str n] Y=.ok (.str path) Y)(hm:aL r.tab md=some (.ref B.t))(hf:i8 n=true)(h2:aL q.v n=none)(h3:aL q.u n=none)(h4:aL r.k path=none)(h5:aL r.p path=none)(hl:r.k.length<1000/\r.p.length<1000/\q.t.length<1000/\q.v.length<1000):
  ∃Y',run tx (k+3) 268 [.ref A.m,.str md,.str n,.str kind,.U [.str gH],pv,.int 0] Y=.ok .none Y'/\Hs aw Y' (iD A B ⟨r.k++[(path,.str kind)],r.p++[(path,pv)],r.tab,r.g,r.i⟩ ⟨q.t,q.v++[(n,.str path)],q.u⟩ R):=by
 unfold i8 at hf;rw[kJ,nS,nS] at hf;have hp:cy Y .In (.str n) (.U [.str lT,.str gZ,.str g6,.str g7,.str ft,.str fQ,.str g8,.str g9,.str dI,.str eU,.str cU])=some false:=by rw[<-hf.1];rfl
 have tk:=rf (k:=k) (l:=[.str gH]) (h.get 7 rfl) (h.get 8 rfl) (h.get 11 rfl) h3 (λx hx=>by
  rw[cK.mp hx];exact⟨_,_,rc (h.get 7 rfl)<|h.get 8 rfl,h.get 10 rfl,h2⟩)
 have g:=(h.push (J:=[.list []])).push (J:=[.list []]);have g0:=g.set 10 rfl (c':=.dict<|q.v++[(n,.str path)]);have gk:=g0.set 2 rfl (c':=.dict<|r.k++[(path,.str kind)]);refine bD _ ?_<|gk.set 3 rfl (c':=.dict (r.p++[(path,pv)]))
 rw[dA];apply bf (i:=Md) (R:=(none,_)) rfl rfl rfl;refine ah (az (aS<|aa (aF (bX rfl (h.get 0 rfl) (h.get 1 rfl) rfl rfl rfl) (I rfl)<|fh (h.get 4 rfl) hm)<|aa (aK (aa (I rfl)<|aa (I rfl) ae)<|hj _ _) ae)<|ez rfl rfl<|aR aD<|aR aD dg)<|ah (aA (eJ<|kt (aq ag (I rfl) rfl) rfl) rfl ay) ?_
 refine ah (aA (ic<|f6 (bO (I rfl) (bY (h.get 7 rfl) (h.get 8 rfl) rfl rfl) (aa (I rfl)<|aa (I rfl) ae) tk) rfl<|f0<|aq (I rfl) (bX rfl (g.get 0 rfl) (g.get 1 rfl) rfl rfl rfl) (wn (g.get 2 rfl) (by rw[h4];rfl):cy (Y++[Cell.list []]++[Cell.list []]) .In (.str path) (.ref A.ck)=some false)) rfl ay)<|ah (gB (I rfl) rfl<|aZ (ah (az (I rfl)<|fJ (bO (I rfl) (bY (g.get 7 rfl) (g.get 8 rfl) rfl rfl) (aa (I rfl) ae)<|rc (g.get 7 rfl)<|g.get 8 rfl) (I rfl)<|i7 (g.get 10 rfl) (by omega)<|cV h2) ay) rfl eQ) ?_
 exact ah (az (I rfl)<|fJ (bX rfl (g0.get 0 rfl) (g0.get 1 rfl) rfl rfl rfl) (I rfl)<|i7 (g0.get 2 rfl) (by omega)<|cV h4)<|ah (az (I rfl)<|fJ (bX rfl (gk.get 0 rfl) (gk.get 1 rfl) rfl rfl rfl) (I rfl)<|i7 (gk.get 3 rfl) (by omega)<|cV h5) ay
theorem DB (h:Hs aw Y (iD A B r q R))(hj:∀(Y:af) (k:Nat),run tx (k+1) 172 [.str md,.str n] Y=.ok (.str path) Y)(hm:aL r.tab md=some (.ref B.t))(hf:i8 n=true)(h1:aL q.t n=none)(h2:aL q.v n=none)(h3:aL q.u n=none)(h4:aL r.k path=none)(h5:aL r.p path=none)(hl:r.k.length<1000/\r.p.length<1000/\q.t.length<1000/\q.v.length<1000):
  ∃Y',run tx (k+3) 268 [.ref A.m,.str md,.str n,.str kind,.U [.str aB,.str gH],pv,.int 0] Y=.ok .none Y'/\Hs aw Y' (iD A B ⟨r.k++[(path,.str kind)],r.p++[(path,pv)],r.tab,r.g,r.i⟩ ⟨q.t++[(n,.str path)],q.v++[(n,.str path)],q.u⟩ R):=by
 unfold i8 at hf;rw[kJ,nS,nS] at hf;have hp:cy Y .In (.str n) (.U [.str lT,.str gZ,.str g6,.str g7,.str ft,.str fQ,.str g8,.str g9,.str dI,.str eU,.str cU])=some false:=by rw[<-hf.1];rfl
 have tk:=rf (k:=k) (l:=[.str aB,.str gH]) (h.get 7 rfl) (h.get 8 rfl) (h.get 11 rfl) h3 (λx hx=>by
  rcases aX.mp hx with rfl | hx
  ·exact eT _ _ (pi (h.get 7 rfl)<|h.get 8 rfl) (h.get 9 rfl) h1
  ·rw[cK.mp hx];exact⟨_,_,rc (h.get 7 rfl)<|h.get 8 rfl,h.get 10 rfl,h2⟩)
 have g:=(h.push (J:=[.list []])).push (J:=[.list []]);have g0:=g.set 9 rfl (c':=.dict<|q.t++[(n,.str path)]);have g1:=g0.set 10 rfl (c':=.dict<|q.v++[(n,.str path)]);have gk:=g1.set 2 rfl (c':=.dict<|r.k++[(path,.str kind)]);refine bD _ ?_<|gk.set 3 rfl (c':=.dict (r.p++[(path,pv)]))
 rw[dA];apply bf (i:=Md) (R:=(none,_)) rfl rfl rfl;refine ah (az (aS<|aa (aF (bX rfl (h.get 0 rfl) (h.get 1 rfl) rfl rfl rfl) (I rfl)<|fh (h.get 4 rfl) hm)<|aa (aK (aa (I rfl)<|aa (I rfl) ae)<|hj _ _) ae)<|ez rfl rfl<|aR aD<|aR aD dg)<|ah (aA (eJ<|gM (aq ag (I rfl) rfl) rfl<|ip<|aq (I rfl) ag hp) rfl ay) ?_
 refine ah (aA (ic<|f6 (bO (I rfl) (bY (h.get 7 rfl) (h.get 8 rfl) rfl rfl) (aa (I rfl)<|aa (I rfl) ae) tk) rfl<|f0<|aq (I rfl) (bX rfl (g.get 0 rfl) (g.get 1 rfl) rfl rfl rfl) (wn (g.get 2 rfl) (by rw[h4];rfl):cy (Y++[Cell.list []]++[Cell.list []]) .In (.str path) (.ref A.ck)=some false)) rfl ay)<|ah (gB (I rfl) rfl<|aZ (ah (az (I rfl)<|fJ (bO (I rfl) (bY (g.get 7 rfl) (g.get 8 rfl) rfl rfl) (aa (I rfl) ae)<|pi (g.get 7 rfl)<|g.get 8 rfl) (I rfl)<|i7 (g.get 9 rfl) (by omega)<|cV h1) ay) rfl<|aZ (ah (az (I rfl)<|fJ (bO (I rfl) (bY (g0.get 7 rfl) (g0.get 8 rfl) rfl rfl) (aa (I rfl) ae)<|rc (g0.get 7 rfl)<|g0.get 8 rfl) (I rfl)<|i7 (g0.get 10 rfl) (by omega)<|cV h2) ay) rfl eQ) ?_
 exact ah (az (I rfl)<|fJ (bX rfl (g1.get 0 rfl) (g1.get 1 rfl) rfl rfl rfl) (I rfl)<|i7 (g1.get 2 rfl) (by omega)<|cV h4)<|ah (az (I rfl)<|fJ (bX rfl (gk.get 0 rfl) (gk.get 1 rfl) rfl rfl rfl) (I rfl)<|i7 (gk.get 3 rfl) (by omega)<|cV h5) ay
end
noncomputable abbrev cM:V:=.U [.U [],.U []]
theorem NG {a:Nat}(h:a<1000):a<10000:=by exact lt_num ‹_› rfl
section
variable {k:Nat} {Y aw:af} {A:Ad} {B:Td} {r:Rw} {q:Tw} {R:mj} {l:mj}
theorem NH (h:Hs aw Y (iD A B r q R)){md n path kind:Str}{pv item:V}(i0:∀Y,cb Y item (.int 0)=some (.str kind))(i1:∀Y,cb Y item (.int 1)=some (.int 0))(i2:∀Y,cb Y item (.int 2)=some (.str n))(i3:∀Y,cb Y item (.int 3)=some cM)(hj:∀(Y:af) (k:Nat),run tx (k+1) 172 [.str md,.str n] Y=.ok (.str path) Y)(hm:aL r.tab md=some (.ref B.t))(hf:i8 n=true)(h1:aL q.t n=none)(h3:aL q.u n=none)(h4:aL r.k path=none)(h5:aL r.p path=none)(h6:aL r.g path=none)(h7:aL r.i path=none)(hl:r.k.length<1000/\r.p.length<1000/\q.t.length<1000/\q.v.length<1000)(lS:r.g.length<1000/\r.i.length<1000):
  ∃Y',run tx (k+4) 273 [.ref A.m,.str md,item,.U [.str aB],pv] Y=.ok .none Y'/\Hs aw Y' (iD A B ⟨r.k++[(path,.str kind)],r.p++[(path,pv)],r.tab,r.g++[(path,cM)],r.i++[(path,item)]⟩ ⟨q.t++[(n,.str path)],q.v,q.u⟩ R):=by
 refine aI (xA (k:=k) h (kind:=kind) (pv:=pv) hj hm hf h1 h3 h4 h5 hl) λal e g=>?_;have g1:=g.push (J:=[.list []]);have g2:=g1.set 5 rfl (c':=.dict (r.g++[(path,cM)]));refine bD _ ?_<|g2.set 6 rfl (c':=.dict (r.i++[(path,item)]))
 rw[dA];apply bf (i:=PR) (R:=(none,_)) rfl rfl rfl;refine ah (gR<|bO (I rfl) (bY (h.get 0 rfl) (h.get 1 rfl) rfl rfl) (aa (I rfl)<|aa (aF (I rfl) ag<|i2 _)<|aa (aF (I rfl) ag<|i0 _)<|aa (I rfl)<|aa (I rfl)<|aa (aF (I rfl) ag<|i1 _) ae) e)<|ah (az (aK (aa (I rfl)<|aa (aF (I rfl) ag<|i2 _) ae)<|hj _ _) aD) ?_
 refine ah (az (aF (I rfl) ag<|i3 _)<|ez rfl rfl<|aR aD<|aR aD dg)<|ah (az (aS<|aa (cL (aa (I rfl) ae)<|b9 rfl<|aN rfl)<|aa (cL (aa (dU (I rfl) rfl b8) ae)<|b9 (cE ao)<|aN rfl) ae)<|fJ (bX rfl (g1.get 0 rfl) (g1.get 1 rfl) rfl rfl rfl) (I rfl)<|i7 (g1.get 5 rfl) (NG lS.1)<|cV h6) ?_
 exact ah (az (I rfl)<|fJ (bX rfl (g2.get 0 rfl) (g2.get 1 rfl) rfl rfl rfl) (I rfl)<|i7 (g2.get 6 rfl) (NG lS.2)<|cV h7) ay
theorem J9 (h:Hs aw Y (iD A B r q R)){md n path kind:Str}{pv item:V}(i0:∀Y,cb Y item (.int 0)=some (.str kind))(i1:∀Y,cb Y item (.int 1)=some (.int 0))(i2:∀Y,cb Y item (.int 2)=some (.str n))(i3:∀Y,cb Y item (.int 3)=some cM)(hj:∀(Y:af) (k:Nat),run tx (k+1) 172 [.str md,.str n] Y=.ok (.str path) Y)(hm:aL r.tab md=some (.ref B.t))(hf:i8 n=true)(h1:aL q.t n=none)(h2:aL q.v n=none)(h3:aL q.u n=none)(h4:aL r.k path=none)(h5:aL r.p path=none)(h6:aL r.g path=none)(h7:aL r.i path=none)(hl:r.k.length<1000/\r.p.length<1000/\q.t.length<1000/\q.v.length<1000)(lS:r.g.length<1000/\r.i.length<1000):
  ∃Y',run tx (k+4) 273 [.ref A.m,.str md,item,.U [.str aB,.str gH],pv] Y=.ok .none Y'/\Hs aw Y' (iD A B ⟨r.k++[(path,.str kind)],r.p++[(path,pv)],r.tab,r.g++[(path,cM)],r.i++[(path,item)]⟩ ⟨q.t++[(n,.str path)],q.v++[(n,.str path)],q.u⟩ R):=by
 refine aI (DB (k:=k) h (kind:=kind) (pv:=pv) hj hm hf h1 h2 h3 h4 h5 hl) λal e g=>?_;have g1:=g.push (J:=[.list []]);have g2:=g1.set 5 rfl (c':=.dict (r.g++[(path,cM)]));refine bD _ ?_<|g2.set 6 rfl (c':=.dict (r.i++[(path,item)]))
 rw[dA];apply bf (i:=PR) (R:=(none,_)) rfl rfl rfl;refine ah (gR<|bO (I rfl) (bY (h.get 0 rfl) (h.get 1 rfl) rfl rfl) (aa (I rfl)<|aa (aF (I rfl) ag<|i2 _)<|aa (aF (I rfl) ag<|i0 _)<|aa (I rfl)<|aa (I rfl)<|aa (aF (I rfl) ag<|i1 _) ae) e)<|ah (az (aK (aa (I rfl)<|aa (aF (I rfl) ag<|i2 _) ae)<|hj _ _) aD) ?_
 refine ah (az (aF (I rfl) ag<|i3 _)<|ez rfl rfl<|aR aD<|aR aD dg)<|ah (az (aS<|aa (cL (aa (I rfl) ae)<|b9 rfl<|aN rfl)<|aa (cL (aa (dU (I rfl) rfl b8) ae)<|b9 (cE ao)<|aN rfl) ae)<|fJ (bX rfl (g1.get 0 rfl) (g1.get 1 rfl) rfl rfl rfl) (I rfl)<|i7 (g1.get 5 rfl) (NG lS.1)<|cV h6) ?_
 exact ah (az (I rfl)<|fJ (bX rfl (g2.get 0 rfl) (g2.get 1 rfl) rfl rfl rfl) (I rfl)<|i7 (g2.get 6 rfl) (NG lS.2)<|cV h7) ay
end
abbrev cQ (n:Str)(pv:V):V:=.U [.str iP,.int 0,.str n,cM,.none,.U [],.none,.none,pv]
abbrev be (n:Str)(pv:V):V:=.U [.str bl,.int 0,.str n,cM,.str mR,.U [],pv]
abbrev bN (n:Str)(pv:V):V:=.U [.str cX,.int 0,.str n,cM,.U [.U [.str PF,.str mR,.U []]],pv]
abbrev gP (n:Str)(items:aG)(pv:V):V:=.U [.str bU,.int 0,.str n,.U items,pv]
abbrev RC (n:Nat):af:=[.dict<|sL (n+2) (n+3) (n+4),.inst 236 n,.dict [],.dict [],.dict []]
section
variable {k:Nat} {Y aw:af} {A:Ad} {B:Td} {r:Rw} {q:Tw} {R:mj} {l l':mj}
theorem Hs.perm (h:Hs aw Y l)(p:l'.Perm l):Hs aw Y l':=⟨(p.map _).nodup_iff.mpr h.nd,λq hq=>h.ge q<|p.mem_iff.mp hq,λq hq=>h.told q<|p.mem_iff.mp hq,h.grow⟩
theorem Ka {L:af}(i:Nat):(Y++L)[Y.length+i]?=L[i]?:=by rw[j9<|dX _ _,r6]
theorem NI {L:af}(i:Nat)(c:Cell):(Y++L).set (Y.length+i) c=Y++L.set i c:=by rw[List.set_append_right _ _<|dX _ _,r6]
theorem vC:run tx (k+1) 221 [.ref (Y.length+1)] (je Y 236 [])=.ok .none (Y++RC Y.length):=by
 have st:∀(L:af) (rows sT:ii) (s:Str) {N:Loc} {ss:List S} {RF:Res fc} (hl:N[0]?=some (some<|.ref (Y.length+1))) (h0:L[0]?=some (.dict rows)) (h1:L[1]?=some (.inst 236 Y.length)) (ha:uo.attrs 236 s=true) (hr:rows.length<499) (hd:rq rows s (.ref (Y++L).length)=sT),
   bZ (run tx k) 400 ss N (Y++(L++[Cell.dict []]).set 0 (.dict sT))=RF->bZ (run tx k) 400 (.set (.attr (.l 0) s) (.dct [] [])::ss) N (Y++L)=RF:=λL rows sT s {N ss RF} hl h0 h1 ha hr hd hk=>by
  have g0:(Y++L++[Cell.dict []])[Y.length]?=some (.dict rows):=ak (by rw[show Y.length=Y.length+0 from rfl,Ka];exact h0);have g1:(Y++L++[Cell.dict []])[Y.length+1]?=some (.inst 236 Y.length):=ak (by rw[Ka];exact h1);refine ah (az (l7 ae)<|iY (I hl) (vB g1 g0 ha hr)<|DA g1 g0 hd) ?_;rw[bQ,show Y.length=Y.length+0 from rfl,NI];exact hk
 have l5:∀(L:af),(Y++L).length=Y.length+L.length:=λL=>b0;rw[dA];apply bf (i:=T5) (R:=(none,_)) rfl rfl rfl;refine st [.dict [],.inst 236 Y.length] [] [(gd,.ref (Y.length+2))] gd rfl rfl rfl rfl (aN rfl) (by rw[l5];rfl) ?_;refine st [.dict [(gd,.ref (Y.length+2))],.inst 236 Y.length,.dict []] [(gd,.ref (Y.length+2))] [(gd,.ref (Y.length+2)),(gu,.ref (Y.length+3))] gu rfl rfl rfl rfl (aN rfl) (by rw[l5];rfl) ?_;refine st [.dict [(gd,.ref (Y.length+2)),(gu,.ref (Y.length+3))],.inst 236 Y.length,.dict [],.dict []] [(gd,.ref (Y.length+2)),(gu,.ref (Y.length+3))] (sL (Y.length+2) (Y.length+3) (Y.length+4)) gv rfl rfl rfl rfl (aN rfl) (by rw[l5];rfl) ?_;exact ay
theorem Hs.tab (h:Hs aw Y l):Hs aw (Y++RC Y.length) (l++mJ ⟨Y.length+1,Y.length,Y.length+2,Y.length+3,Y.length+4⟩ ⟨[],[],[]⟩):=by
 have h2:=(h.pair (c:=.dict<|sL (Y.length+2) (Y.length+3) (Y.length+4)) (c':=.inst 236 Y.length)).add (c:=.dict []);have h4:=(h2.add (c:=.dict [])).add (c:=.dict []);simp only[bQ,b0,dE,List.length_nil,sd,sf] at h4;exact h4.perm<|(List.Perm.append_left l<|List.Perm.swap _ _ _)
theorem wo (h:Hs aw Y (iD A B r q R)){path eF n:Str}{pv:V}(hj:∀(Y:af) (k:Nat),run tx (k+1) 172 [.str path,.str PF] Y=.ok (.str eF) Y)(h4:aL r.k eF=none)(hl:r.k.length<1000):
  ∃Y',run tx (k+2) 280 [.ref A.m,.str path,bN n pv] Y=.ok .none Y'/\Hs aw Y' (iD A B ⟨r.k++[(eF,.str cw)],r.p,r.tab,r.g,r.i⟩ q R):=by
 refine⟨_,?_,h.set 2 rfl⟩;rw[dA];apply bf (i:=T7) (R:=(none,_)) rfl rfl rfl;refine ah (gB (aF (I rfl) ag rfl) rfl<|aZ (ah (aA (aq (aK (aa (I rfl)<|aa (aF (I rfl) ag rfl) ae)<|hj _ _) (bX rfl (h.get 0 rfl) (h.get 1 rfl) rfl rfl rfl) (wn (h.get 2 rfl) (by rw[h4];rfl):cy Y .In (.str eF) (.ref A.ck)=some false)) rfl ay)<|ah (az ag<|fJ (bX rfl (h.get 0 rfl) (h.get 1 rfl) rfl rfl rfl) (aK (aa (I rfl)<|aa (aF (I rfl) ag rfl) ae)<|hj _ _)<|i7 (h.get 2 rfl) (NG hl)<|cV h4) ay) rfl eQ) ay
end
section
variable {k:Nat} {Y aw:af} {A:Ad} {B:Td} {r:Rw} {q:Tw} {R:mj} {l:mj}
theorem O8 {a:Nat}(h:a<900):a<1000:=by exact lt_num ‹_› rfl
theorem VB {a b:Nat}(h:a<900/\b<900):a<1000/\b<1000:=⟨O8 h.1,O8 h.2⟩
theorem NJ {a b c d:Nat}(h:a<900/\b<900/\c<900/\d<900):a<1000/\b<1000/\c<1000/\d<1000:=⟨O8 h.1,O8 h.2.1,O8 h.2.2.1,O8 h.2.2.2⟩
theorem Zg {a b:ii}{x:Str × V}(h:a.length<900):(a++[x]).length<1000:=by rw[b0,gQ];exact fA ‹_› rfl
variable {md n:Str}
theorem GK (h:Hs aw Y (iD A B r q R)){names:aG}(hl:names.length<100)(hm:aL r.tab md=some (.ref B.t))(hf:i8 n=true)(h1:aL q.t n=none)(h2:aL q.v n=none)(h3:aL q.u n=none)(hu:q.u.length<100){pub:Bool}:
  ∃Y' e,run tx (k+4) 261 [.ref A.m,.str md,yV names n pub] Y=.ok .none Y'/\Hs aw Y' (iD A B r ⟨q.t,q.v,q.u++[(n,.ref (e+1))]⟩<|R++[(e,.dict<|dO names pub),(e+1,.inst 203 e)]):=by
 refine cZ (GI (k:=k) h hl hm hf h1 h2 h3 hu (pub:=pub)) λY' e e1 g M=>jX Y' e ?_ g;rw[dA];apply bf (i:=Fj) (R:=(none,_)) rfl rfl rfl;exact ah (az (aS<|aa (aF (I rfl) ag rfl)<|aa (aF (I rfl) ag rfl) ae)<|ez rfl rfl<|aR aD<|aR aD dg)<|(ah (bj (aq (I rfl) ag rfl) rfl<|ah (gR<|bO (I rfl) (bY (h.get 0 rfl) (h.get 1 rfl) rfl rfl) (aa (I rfl)<|aa (I rfl) ae) e1) ay) ay)
variable {path:Str} {pv:V}
theorem vD (h:Hs aw Y (iD A B r q R))(hj:∀(Y:af) (k:Nat),run tx (k+1) 172 [.str md,.str n] Y=.ok (.str path) Y)(hm:aL r.tab md=some (.ref B.t))(hf:i8 n=true)(h2:aL q.v n=none)(h3:aL q.u n=none)(h4:aL r.k path=none)(h5:aL r.p path=none)(h7:aL r.i path=none)(hl:r.k.length<900/\r.p.length<900/\q.t.length<900/\q.v.length<900)(lS:r.g.length<900/\r.i.length<900):
  ∃Y',run tx (k+4) 261 [.ref A.m,.str md,cQ n pv] Y=.ok .none Y'/\Hs aw Y' (iD A B ⟨r.k++[(path,.str iP)],r.p++[(path,pv)],r.tab,r.g,r.i++[(path,cQ n pv)]⟩ ⟨q.t,q.v++[(n,.str path)],q.u⟩ R):=by
 refine aI (GJ (k:=k) h (kind:=iP) (pv:=pv) hj hm hf h2 h3 h4 h5<|NJ hl) λal e1 g=>bD _ ?_<|g.set 6 rfl (c':=.dict<|r.i++[(path,cQ n pv)])
 rw[dA];apply bf (i:=Fj) (R:=(none,_)) rfl rfl rfl;exact ah (az (aS<|aa (aF (I rfl) ag rfl)<|aa (aF (I rfl) ag rfl) ae)<|ez rfl rfl<|aR aD<|aR aD dg)<|(ah (aA (aq (I rfl) ag rfl) rfl<|ah (aA (aq (I rfl) ag rfl) rfl<|ah (aA (aq (I rfl) ag rfl) rfl<|ah (aA (aq (I rfl) ag rfl) rfl<|ah (aA (aq (I rfl) ag rfl) rfl<|ah (bj (aq (I rfl) (aS<|aa ag<|aa ag ae) rfl) rfl<|ah (gR<|bO (I rfl) (bY (h.get 0 rfl) (h.get 1 rfl) rfl rfl) (aa (I rfl)<|aa (aF (I rfl) ag rfl)<|aa (I rfl)<|aa (aS<|aa ag ae)<|aa (fk (aq (I rfl) ag rfl) rfl<|aF (I rfl) ag rfl)<|aa (I rfl) ae) e1)<|ah (az (I rfl)<|fJ (bX rfl (g.get 0 rfl) (g.get 1 rfl) rfl rfl rfl) (aK (aa (I rfl)<|aa (aF (I rfl) ag rfl) ae)<|hj _ _)<|i7 (g.get 6 rfl) (NG<|O8 lS.2)<|cV h7) ay) ay) ay) ay) ay) ay) ay)
theorem nq (h:Hs aw Y (iD A B r q R))(hj:∀(Y:af) (k:Nat),run tx (k+1) 172 [.str md,.str n] Y=.ok (.str path) Y)(hm:aL r.tab md=some (.ref B.t))(hf:i8 n=true)(h1:aL q.t n=none)(h2:aL q.v n=none)(h3:aL q.u n=none)(h4:aL r.k path=none)(h5:aL r.p path=none)(h6:aL r.g path=none)(h7:aL r.i path=none)(hl:r.k.length<900/\r.p.length<900/\q.t.length<900/\q.v.length<900)(lS:r.g.length<900/\r.i.length<900):
  ∃Y',run tx (k+5) 261 [.ref A.m,.str md,be n pv] Y=.ok .none Y'/\Hs aw Y' (iD A B ⟨r.k++[(path,.str bl)],r.p++[(path,pv)],r.tab,r.g++[(path,cM)],r.i++[(path,be n pv)]⟩ ⟨q.t++[(n,.str path)],q.v++[(n,.str path)],q.u⟩ R):=by
 refine aI (J9 (k:=k) h (kind:=bl) (pv:=pv) (item:=be n pv) (λM=>rfl) (λM=>rfl) (λM=>rfl) (λM=>rfl) hj hm hf h1 h2 h3 h4 h5 h6 h7 (NJ hl)<|VB lS) λal e1 g=>bD _ ?_ g;rw[dA];apply bf (i:=Fj) (R:=(none,_)) rfl rfl rfl;exact ah (az (aS<|aa (aF (I rfl) ag rfl)<|aa (aF (I rfl) ag rfl) ae)<|ez rfl rfl<|aR aD<|aR aD dg)<|(ah (aA (aq (I rfl) ag rfl) rfl<|ah (aA (aq (I rfl) ag rfl) rfl<|ah (bj (aq (I rfl) ag rfl) rfl<|ah (az (fU (aq (aF (I rfl) ag rfl) ag rfl) rfl<|aS<|aa ag<|aa ag ae) aD)<|ah (gR<|bO (I rfl) (bY (h.get 0 rfl) (h.get 1 rfl) rfl rfl) (aa (I rfl)<|aa (I rfl)<|aa (I rfl)<|aa (aF (I rfl) ag rfl) ae) e1) ay) ay) ay) ay)
theorem qf (h:Hs aw Y (iD A B r q R)){eF:Str}(hj:∀(Y:af) (k:Nat),run tx (k+1) 172 [.str md,.str n] Y=.ok (.str path) Y)(hjV:∀(Y:af) (k:Nat),run tx (k+1) 172 [.str path,.str PF] Y=.ok (.str eF) Y)(hm:aL r.tab md=some (.ref B.t))(hf:i8 n=true)(h1:aL q.t n=none)(h3:aL q.u n=none)(h4:aL r.k path=none)(h4V:aL (r.k++[(path,.str cX)]) eF=none)(h5:aL r.p path=none)(h6:aL r.g path=none)(h7:aL r.i path=none)(hl:r.k.length<900/\r.p.length<900/\q.t.length<900/\q.v.length<900)(lS:r.g.length<900/\r.i.length<900):
  ∃Y',run tx (k+5) 261 [.ref A.m,.str md,bN n pv] Y=.ok .none Y'/\Hs aw Y' (iD A B ⟨r.k++[(path,.str cX)]++[(eF,.str cw)],r.p++[(path,pv)],r.tab,r.g++[(path,cM)],r.i++[(path,bN n pv)]⟩ ⟨q.t++[(n,.str path)],q.v,q.u⟩ R):=by
 refine aI (NH (k:=k) h (kind:=cX) (pv:=pv) (item:=bN n pv) (λM=>rfl) (λM=>rfl) (λM=>rfl) (λM=>rfl) hj hm hf h1 h3 h4 h5 h6 h7 (NJ hl)<|VB lS) λal e1 g=>aI (wo (k:=k+2) g (n:=n) (pv:=pv) hjV h4V<|Zg (b:=[]) hl.1) λax e2 g2=>bD _ ?_ g2;rw[dA];apply bf (i:=Fj) (R:=(none,_)) rfl rfl rfl;exact ah (az (aS<|aa (aF (I rfl) ag rfl)<|aa (aF (I rfl) ag rfl) ae)<|ez rfl rfl<|aR aD<|aR aD dg)<|(ah (aA (aq (I rfl) ag rfl) rfl<|ah (aA (aq (I rfl) ag rfl) rfl<|ah (aA (aq (I rfl) ag rfl) rfl<|ah (bj (aq (I rfl) ag rfl) rfl<|ah (gR<|bO (I rfl) (bY (h.get 0 rfl) (h.get 1 rfl) rfl rfl) (aa (I rfl)<|aa (I rfl)<|aa (aS<|aa ag ae)<|aa (aF (I rfl) ag rfl) ae) e1)<|ah (gR<|bO (I rfl) (bY (g.get 0 rfl) (g.get 1 rfl) rfl rfl) (aa (aK (aa (I rfl)<|aa (aF (I rfl) ag rfl) ae)<|hj _ _)<|aa (I rfl) ae) e2) ay) ay) ay) ay) ay)
theorem GL (h:Hs aw Y (iD A B r q R)){items:aG}(hj:∀(Y:af) (k:Nat),run tx (k+1) 172 [.str md,.str n] Y=.ok (.str path) Y)(hm:aL r.tab md=some (.ref B.t))(hf:i8 n=true)(h1:aL q.t n=none)(h3:aL q.u n=none)(h4:aL r.k path=none)(h5:aL r.p path=none)(h8:aL r.tab path=none)(hl:r.k.length<900/\r.p.length<900/\q.t.length<900/\q.v.length<900)(lS:r.tab.length<900):
  ∃Y' B',run tx (k+4) 261 [.ref A.m,.str md,gP n items pv] Y=.ok .none Y'/\Hs aw Y' (iD A B ⟨r.k++[(path,.str bU)],r.p++[(path,pv)],r.tab++[(path,.ref B'.t)],r.g,r.i⟩ ⟨q.t++[(n,.str path)],q.v,q.u⟩<|R++mJ B' ⟨[],[],[]⟩):=by
 refine aI (xA (k:=k) h (kind:=bU) (pv:=pv) hj hm hf h1 h3 h4 h5<|NJ hl) λal e1 g=>?_;have g1:=g.tab;refine jX _ ⟨al.length+1,al.length,al.length+2,al.length+3,al.length+4⟩ ?_<|g1.set 4 rfl (c':=.dict<|r.tab++[(path,.ref (al.length+1))])
 rw[dA];apply bf (i:=Fj) (R:=(none,_)) rfl rfl rfl;exact ah (az (aS<|aa (aF (I rfl) ag rfl)<|aa (aF (I rfl) ag rfl) ae)<|ez rfl rfl<|aR aD<|aR aD dg)<|(ah (aA (aq (I rfl) ag rfl) rfl<|ah (bj (aq (I rfl) ag rfl) rfl<|ah (gR<|bO (I rfl) (bY (h.get 0 rfl) (h.get 1 rfl) rfl rfl) (aa (I rfl)<|aa (aF (I rfl) ag rfl)<|aa (I rfl)<|aa (aS<|aa ag ae)<|aa (aF (I rfl) ag rfl)<|aa (I rfl) ae) e1)<|ah (az (vd rfl ae vC)<|fJ (bX rfl (g1.get 0 rfl) (g1.get 1 rfl) rfl rfl rfl) (aK (aa (I rfl)<|aa (aF (I rfl) ag rfl) ae)<|hj _ _)<|i7 (g1.get 4 rfl) (NG<|O8 lS)<|cV h8) ay) ay) ay)
end
noncomputable def Pl.is:Pl->Pl->Bool
 | .o,.o=>true
 | .a,.a=>true
 | .ab,.ab=>true
 |_,_=>false
structure Lk where
 (place:Pl) (names:cY) (i:Nat) (pub opn:Bool)
def uN (i:Nat):Str:=WC++Str.ofString (toString<|Int.ofNat i)
abbrev Lk.item (l:Lk):V:=yV (l.names.map .str) (uN l.i) l.pub
noncomputable def cJ (p:Pl)(ls:List Lk):List Lk:=ls.filter λl=>p.is l.place
abbrev i9 (p:Pl)(pb:Nat->Bool):aG:=[cQ dQ<|.bool<|pb<|jx p .f,be cx<|.bool<|pb<|jx p .S,bN eD<|.bool<|pb<|jx p .E]
def iy (pb:Nat->Bool)(ls:List Lk):aG:=i9 .ab pb++(cJ .ab ls).map Lk.item
def ja (pb:Nat->Bool)(ls:List Lk):aG:=i9 .a pb++gP BR (iy pb ls) (.bool<|pb 1)::(cJ .a ls).map Lk.item
def j6 (pb:Nat->Bool)(ls:List Lk):aG:=i9 .o pb++gP dG (ja pb ls) (.bool<|pb 0)::(cJ .o ls).map Lk.item
structure Bo (R:mj)(row:Str × V)(l:Lk):Prop where
 name:row.1=uN l.i
 cells:∃e,row.2=.ref (e+1)/\(e,.dict<|dO (l.names.map .str) l.pub)∈R/\(e+1,.inst 203 e)∈R
inductive fM (R:mj):List (Str × V)->List Lk->Prop
 |nil:fM R [] []
 |snoc {rows ls row l}:fM R rows ls->Bo R row l->fM R (rows++[row]) (ls++[l])
abbrev yW:List S:=[.ite (.m .Eq (.i (.l 5)<|.xi 0)<|.xs bU) [.ex<|.bm (.l 2) .append [.U [.call 172 [.l 3,.i (.l 5)<|.xi 2],.bi .list [.i (.l 5)<|.xi 3]]]] [],.ex<|.bG (.l 0) tE [.l 3,.l 5]]
abbrev mf (O:ar):V->Loc->af->Res fc:=λv N Y=>(tG O (.l 5) v N Y).bind λN Y=>bZ O 400 yW N Y
noncomputable abbrev nt (m it tl:Nat)(md:Str)(ti:Nat)(x:jJ):Loc:=[some<|.ref m,some<|.ref it,some<|.ref tl,some<|.str md,some<|.ref ti,x,none,none,none]
section
variable {O:ar} {k:Nat} {Y aw Y':af} {A:Ad} {B:Td} {r:Rw} {q:Tw} {R R':mj} {l:mj}
theorem Bo.mono {row:Str × V}{u:Lk}(h:Bo R row u)(k:∀x∈R,x∈R'):Bo R' row u:=⟨h.name,by obtain⟨e,h1,h2,h3⟩:=h.cells;exact⟨e,h1,k _ h2,k _ h3⟩⟩
theorem fM.mono {rows:ii}{us:List Lk}(h:fM R rows us)(k:∀x∈R,x∈R'):fM R' rows us:=by
 induction h with
 |nil=>exact .nil
 |snoc _ h2 ih=>exact .snoc ih<|h2.mono k
theorem eZ {m it tl ti:Nat}{md kind:Str}{x:jJ}{item:V}(h0:Y[m]?=some (.inst 367 A.d))(h1:Y[A.d]?=some (.dict<|sK A.ck A.cp A.ct A.cg A.ci A.ce))(hx:cb Y item (.int 0)=some (.str kind))(hn:decide (kind=bU)=false)(e:O 261 [.ref m,.str md,item] Y=.ok .none Y'):
  mf O item (nt m it tl md ti x) Y=.ok (none,nt m it tl md ti<|some item) Y':=by
 have h:bZ O 400 yW (nt m it tl md ti<|some item) Y=.ok (none,nt m it tl md ti<|some item) Y':=
  ah (aA (aq (aF (I rfl) ag hx) ag (show cy Y .Eq (.str kind) (.str bU)=some false by rw[<-hn];rfl)) rfl ay) (ah (gR<|bO (I rfl) (bY h0 h1 rfl rfl) (aa (I rfl)<|aa (I rfl) ae) e) ay)
 exact h
theorem rX {it tl ti:Nat}{md:Str}(hm:aL r.tab md=some (.ref B.t)){all:aG}:∀(us:List Lk) {Y:af} {U:mj} {rows:ii} {done:List Lk} {x:jJ},
  Hs aw Y (iD A B r ⟨q.t,q.v,rows⟩ ((ti,.list all)::(R++U)))->fM U rows done->rows.length+us.length<100->
  (∀u∈us,u.names.length<100/\i8 (uN u.i)=true/\aL q.t (uN u.i)=none/\aL q.v (uN u.i)=none)->(us.map λu=>uN u.i).Nodup->(∀u∈us,aL rows (uN u.i)=none)->
  ∃Y' U' sT x',forL (mf<|run tx (k+4)) (.ref ti) all (us.map Lk.item) (nt A.m it tl md ti x) Y=.ok (none,nt A.m it tl md ti x') Y'/\Hs aw Y' (iD A B r ⟨q.t,q.v,sT⟩ ((ti,.list all)::(R++U')))/\fM U' sT (done++us):=by
 intro us
 induction us with
 |nil=>
  intro Y U rows done x h hu _ _ _ _;exact Sw Y U rows x<|LS eQ h (by rw[gp];exact hu)
 |cons u us ih=>
  intro Y U rows done x h hu hlen Hd tr Ha;rw[dE] at hlen;refine xN (Hd u<|.head _) λo1 o2 o3 o4=>?_;refine gm (GK (k:=k) h (names:=u.names.map .str) (by rw[cu];exact o1) hm (n:=uN u.i) o2 o3 o4 (Ha u<|.head _) (kI (dX _ _) hlen) (pub:=u.pub)) λal e e1 g=>?_;rw[d8,gY] at tr;have Hc:fM (U++[(e,.dict<|dO (u.names.map .str) u.pub),(e+1,.inst 203 e)]) (rows++[(uN u.i,.ref (e+1))]) (done++[u]):=
   .snoc (hu.mono λx hx=>jF _ hx) ⟨rfl,e,rfl,kH _<|.head _,kH _<|.tail _<|.head _⟩
  have g':Hs aw al (iD A B r ⟨q.t,q.v,rows++[(uN u.i,.ref (e+1))]⟩ ((ti,.list all)::(R++(U++[(e,.dict<|dO (u.names.map .str) u.pub),(e+1,.inst 203 e)])))):=by
   rw[<-bQ R];exact g
  obtain⟨ax,U',sT,x',f1,f2,f3⟩:=ih g' Hc (iQ ‹_›) (λv hv=>Hd v<|.tail _ hv) tr.2 (λv hv=>by
   have h1:=Ha v<|.tail _ hv
   unfold aL at h1⊢;rw[Option.map_eq_none_iff] at h1⊢;rw[List.find?_append,h1,Option.none_or,wz]
   ·rfl
   ·rw[mn];intro he;exact tr.1<|bT.mpr ⟨v,hv,he.symm⟩)
  refine Sw ax U' sT x'<|LS (aZ (eZ (h.get 0 rfl) (h.get 1 rfl) rfl (by decide+kernel) e1) (ba<|g.get 12 rfl) f1) f2 ?_
  rw[show done++u::us=done++[u]++us by simp];exact f3
end
abbrev VC (pb:Nat->Bool)(tab:ii):Rw:=⟨[(z_,.str bU)],[(z_,.bool true)],tab,[],[]⟩
abbrev VD (pb:Nat->Bool)(tab:ii):Rw:=⟨[(z_,.str bU),(dQ,.str iP)],[(z_,.bool true),(dQ,.bool<|pb 2)],tab,[],[(dQ,cQ dQ<|.bool<|pb 2)]⟩
abbrev VE (pb:Nat->Bool)(tab:ii):Rw:=⟨[(z_,.str bU),(dQ,.str iP),(cx,.str bl)],[(z_,.bool true),(dQ,.bool<|pb 2),(cx,.bool<|pb 3)],tab,[(cx,cM)],[(dQ,cQ dQ<|.bool<|pb 2),(cx,be cx<|.bool<|pb 3)]⟩
abbrev VF (pb:Nat->Bool)(tab:ii):Rw:=⟨[(z_,.str bU),(dQ,.str iP),(cx,.str bl),(eD,.str cX),(pK,.str cw)],[(z_,.bool true),(dQ,.bool<|pb 2),(cx,.bool<|pb 3),(eD,.bool<|pb 4)],tab,[(cx,cM),(eD,cM)],[(dQ,cQ dQ<|.bool<|pb 2),(cx,be cx<|.bool<|pb 3),(eD,bN eD<|.bool<|pb 4)]⟩
abbrev O9 (pb:Nat->Bool)(tab:ii):Rw:=⟨[(z_,.str bU),(dQ,.str iP),(cx,.str bl),(eD,.str cX),(pK,.str cw),(dG,.str bU)],[(z_,.bool true),(dQ,.bool<|pb 2),(cx,.bool<|pb 3),(eD,.bool<|pb 4),(dG,.bool<|pb 0)],tab,[(cx,cM),(eD,cM)],[(dQ,cQ dQ<|.bool<|pb 2),(cx,be cx<|.bool<|pb 3),(eD,bN eD<|.bool<|pb 4)]⟩
abbrev VG (pb:Nat->Bool)(tab:ii):Rw:=⟨[(z_,.str bU),(dQ,.str iP),(cx,.str bl),(eD,.str cX),(pK,.str cw),(dG,.str bU),(fg,.str iP)],[(z_,.bool true),(dQ,.bool<|pb 2),(cx,.bool<|pb 3),(eD,.bool<|pb 4),(dG,.bool<|pb 0),(fg,.bool<|pb 5)],tab,[(cx,cM),(eD,cM)],[(dQ,cQ dQ<|.bool<|pb 2),(cx,be cx<|.bool<|pb 3),(eD,bN eD<|.bool<|pb 4),(fg,cQ dQ<|.bool<|pb 5)]⟩
abbrev VH (pb:Nat->Bool)(tab:ii):Rw:=⟨[(z_,.str bU),(dQ,.str iP),(cx,.str bl),(eD,.str cX),(pK,.str cw),(dG,.str bU),(fg,.str iP),(dY,.str bl)],[(z_,.bool true),(dQ,.bool<|pb 2),(cx,.bool<|pb 3),(eD,.bool<|pb 4),(dG,.bool<|pb 0),(fg,.bool<|pb 5),(dY,.bool<|pb 6)],tab,[(cx,cM),(eD,cM),(dY,cM)],[(dQ,cQ dQ<|.bool<|pb 2),(cx,be cx<|.bool<|pb 3),(eD,bN eD<|.bool<|pb 4),(fg,cQ dQ<|.bool<|pb 5),(dY,be cx<|.bool<|pb 6)]⟩
abbrev VI (pb:Nat->Bool)(tab:ii):Rw:=⟨[(z_,.str bU),(dQ,.str iP),(cx,.str bl),(eD,.str cX),(pK,.str cw),(dG,.str bU),(fg,.str iP),(dY,.str bl),(fX,.str cX),(ph,.str cw)],[(z_,.bool true),(dQ,.bool<|pb 2),(cx,.bool<|pb 3),(eD,.bool<|pb 4),(dG,.bool<|pb 0),(fg,.bool<|pb 5),(dY,.bool<|pb 6),(fX,.bool<|pb 7)],tab,[(cx,cM),(eD,cM),(dY,cM),(fX,cM)],[(dQ,cQ dQ<|.bool<|pb 2),(cx,be cx<|.bool<|pb 3),(eD,bN eD<|.bool<|pb 4),(fg,cQ dQ<|.bool<|pb 5),(dY,be cx<|.bool<|pb 6),(fX,bN eD<|.bool<|pb 7)]⟩
abbrev Pa (pb:Nat->Bool)(tab:ii):Rw:=⟨[(z_,.str bU),(dQ,.str iP),(cx,.str bl),(eD,.str cX),(pK,.str cw),(dG,.str bU),(fg,.str iP),(dY,.str bl),(fX,.str cX),(ph,.str cw),(aP,.str bU)],[(z_,.bool true),(dQ,.bool<|pb 2),(cx,.bool<|pb 3),(eD,.bool<|pb 4),(dG,.bool<|pb 0),(fg,.bool<|pb 5),(dY,.bool<|pb 6),(fX,.bool<|pb 7),(aP,.bool<|pb 1)],tab,[(cx,cM),(eD,cM),(dY,cM),(fX,cM)],[(dQ,cQ dQ<|.bool<|pb 2),(cx,be cx<|.bool<|pb 3),(eD,bN eD<|.bool<|pb 4),(fg,cQ dQ<|.bool<|pb 5),(dY,be cx<|.bool<|pb 6),(fX,bN eD<|.bool<|pb 7)]⟩
abbrev RD (pb:Nat->Bool)(tab:ii):Rw:=⟨[(z_,.str bU),(dQ,.str iP),(cx,.str bl),(eD,.str cX),(pK,.str cw),(dG,.str bU),(fg,.str iP),(dY,.str bl),(fX,.str cX),(ph,.str cw),(aP,.str bU),(gU,.str iP)],[(z_,.bool true),(dQ,.bool<|pb 2),(cx,.bool<|pb 3),(eD,.bool<|pb 4),(dG,.bool<|pb 0),(fg,.bool<|pb 5),(dY,.bool<|pb 6),(fX,.bool<|pb 7),(aP,.bool<|pb 1),(gU,.bool<|pb 8)],tab,[(cx,cM),(eD,cM),(dY,cM),(fX,cM)],[(dQ,cQ dQ<|.bool<|pb 2),(cx,be cx<|.bool<|pb 3),(eD,bN eD<|.bool<|pb 4),(fg,cQ dQ<|.bool<|pb 5),(dY,be cx<|.bool<|pb 6),(fX,bN eD<|.bool<|pb 7),(gU,cQ dQ<|.bool<|pb 8)]⟩
abbrev RE (pb:Nat->Bool)(tab:ii):Rw:=⟨[(z_,.str bU),(dQ,.str iP),(cx,.str bl),(eD,.str cX),(pK,.str cw),(dG,.str bU),(fg,.str iP),(dY,.str bl),(fX,.str cX),(ph,.str cw),(aP,.str bU),(gU,.str iP),(gV,.str bl)],[(z_,.bool true),(dQ,.bool<|pb 2),(cx,.bool<|pb 3),(eD,.bool<|pb 4),(dG,.bool<|pb 0),(fg,.bool<|pb 5),(dY,.bool<|pb 6),(fX,.bool<|pb 7),(aP,.bool<|pb 1),(gU,.bool<|pb 8),(gV,.bool<|pb 9)],tab,[(cx,cM),(eD,cM),(dY,cM),(fX,cM),(gV,cM)],[(dQ,cQ dQ<|.bool<|pb 2),(cx,be cx<|.bool<|pb 3),(eD,bN eD<|.bool<|pb 4),(fg,cQ dQ<|.bool<|pb 5),(dY,be cx<|.bool<|pb 6),(fX,bN eD<|.bool<|pb 7),(gU,cQ dQ<|.bool<|pb 8),(gV,be cx<|.bool<|pb 9)]⟩
abbrev yX (pb:Nat->Bool)(tab:ii):Rw:=⟨[(z_,.str bU),(dQ,.str iP),(cx,.str bl),(eD,.str cX),(pK,.str cw),(dG,.str bU),(fg,.str iP),(dY,.str bl),(fX,.str cX),(ph,.str cw),(aP,.str bU),(gU,.str iP),(gV,.str bl),(nl,.str cX),(Bn,.str cw)],[(z_,.bool true),(dQ,.bool<|pb 2),(cx,.bool<|pb 3),(eD,.bool<|pb 4),(dG,.bool<|pb 0),(fg,.bool<|pb 5),(dY,.bool<|pb 6),(fX,.bool<|pb 7),(aP,.bool<|pb 1),(gU,.bool<|pb 8),(gV,.bool<|pb 9),(nl,.bool<|pb 10)],tab,[(cx,cM),(eD,cM),(dY,cM),(fX,cM),(gV,cM),(nl,cM)],[(dQ,cQ dQ<|.bool<|pb 2),(cx,be cx<|.bool<|pb 3),(eD,bN eD<|.bool<|pb 4),(fg,cQ dQ<|.bool<|pb 5),(dY,be cx<|.bool<|pb 6),(fX,bN eD<|.bool<|pb 7),(gU,cQ dQ<|.bool<|pb 8),(gV,be cx<|.bool<|pb 9),(nl,bN eD<|.bool<|pb 10)]⟩
abbrev tw (p:Pl)(us:ii):Tw:=⟨[(cx,.str<|jn p .S),(eD,.str<|jn p .E)],[(dQ,.str<|jn p .f),(cx,.str<|jn p .S)],us⟩
section
variable {O:ar} {k:Nat} {Y aw Y':af} {A:Ad} {B:Td} {R:mj} {pb:Nat->Bool} {tab:ii}
variable {it tl ti:Nat} {all:aG} {x:jJ}
theorem NK (hm:aL tab z_=some (.ref B.t))(h:Hs aw Y (iD A B (VC pb tab) ⟨[],[],[]⟩ ((ti,.list all)::R))):
  ∃Y' x',(∀(rest:aG) (RF:Res fc),forL (mf<|run tx (k+5)) (.ref ti) all rest (nt A.m it tl z_ ti x') Y'=RF->forL (mf<|run tx (k+5)) (.ref ti) all (i9 .o pb++rest) (nt A.m it tl z_ ti x) Y=RF)/\Hs aw Y' (iD A B (VF pb tab) (tw .o []) ((ti,.list all)::R)):=by
 refine aI (vD (k:=k+1) (path:=dQ) (n:=dQ) (pv:=.bool<|pb 2) h (λM M=>by k_all) hm (by k_all) (by k_all) (by k_all) (by k_all) (by k_all) (by k_all) ⟨aN rfl,aN rfl,aN rfl,aN rfl⟩ ⟨aN rfl,aN rfl⟩) λal e1 g1=>?_;have g1:Hs aw al (iD A B (VD pb tab) ⟨[],[(dQ,.str dQ)],[]⟩ ((ti,.list all)::R)):=g1;refine aI (nq (k:=k) (path:=cx) (n:=cx) (pv:=.bool<|pb 3) g1 (λM M=>by k_all) hm (by k_all) (by k_all) (by k_all) (by k_all) (by k_all) (by k_all) (by k_all) (by k_all) ⟨aN rfl,aN rfl,aN rfl,aN rfl⟩ ⟨aN rfl,aN rfl⟩) λax e2 g2=>?_;have g2:Hs aw ax (iD A B (VE pb tab) ⟨[(cx,.str cx)],[(dQ,.str dQ),(cx,.str cx)],[]⟩ ((ti,.list all)::R)):=g2;refine aI (qf (k:=k) (path:=eD) (eF:=pK) (n:=eD) (pv:=.bool<|pb 4) g2 (λM M=>by k_all) (λM M=>by k_all) hm (by k_all) (by k_all) (by k_all) (by k_all) (by k_all) (by k_all) (by k_all) (by k_all) ⟨aN rfl,aN rfl,aN rfl,aN rfl⟩ ⟨aN rfl,aN rfl⟩) λbB e3 g3=>jX bB (some<|bN eD<|.bool<|pb 4) (λrest RF hk=>?_) g3;have s2:=eZ (A:=A) (it:=it) (tl:=tl) (ti:=ti) (x:=some<|cQ dQ<|.bool<|pb 2) (kind:=bl) (item:=be cx<|.bool<|pb 3) (O:=run tx (k+5)) (g1.get 0 rfl) (g1.get 1 rfl) rfl (by k_all) e2;have s3:=eZ (A:=A) (it:=it) (tl:=tl) (ti:=ti) (x:=some<|be cx<|.bool<|pb 3) (kind:=cX) (item:=bN eD<|.bool<|pb 4) (O:=run tx (k+5)) (g2.get 0 rfl) (g2.get 1 rfl) rfl (by k_all) e3;exact aZ (eZ (A:=A) (it:=it) (tl:=tl) (ti:=ti) (x:=x) (kind:=iP) (item:=cQ dQ<|.bool<|pb 2) (O:=run tx (k+5)) (h.get 0 rfl) (h.get 1 rfl) rfl (by k_all) e1) (ba<|g1.get 12 rfl)<|aZ s2 (ba<|g2.get 12 rfl)<|aZ s3 (ba<|g3.get 12 rfl) hk
theorem NL (hm:aL tab dG=some (.ref B.t))(h:Hs aw Y (iD A B (O9 pb tab) ⟨[],[],[]⟩ ((ti,.list all)::R))):
  ∃Y' x',(∀(rest:aG) (RF:Res fc),forL (mf<|run tx (k+5)) (.ref ti) all rest (nt A.m it tl dG ti x') Y'=RF->forL (mf<|run tx (k+5)) (.ref ti) all (i9 .a pb++rest) (nt A.m it tl dG ti x) Y=RF)/\Hs aw Y' (iD A B (VI pb tab) (tw .a []) ((ti,.list all)::R)):=by
 refine aI (vD (k:=k+1) (path:=fg) (n:=dQ) (pv:=.bool<|pb 5) h (λM M=>by k_all) hm (by k_all) (by k_all) (by k_all) (by k_all) (by k_all) (by k_all) ⟨aN rfl,aN rfl,aN rfl,aN rfl⟩ ⟨aN rfl,aN rfl⟩) λal e1 g1=>?_;have g1:Hs aw al (iD A B (VG pb tab) ⟨[],[(dQ,.str fg)],[]⟩ ((ti,.list all)::R)):=g1;refine aI (nq (k:=k) (path:=dY) (n:=cx) (pv:=.bool<|pb 6) g1 (λM M=>by k_all) hm (by k_all) (by k_all) (by k_all) (by k_all) (by k_all) (by k_all) (by k_all) (by k_all) ⟨aN rfl,aN rfl,aN rfl,aN rfl⟩ ⟨aN rfl,aN rfl⟩) λax e2 g2=>?_;have g2:Hs aw ax (iD A B (VH pb tab) ⟨[(cx,.str dY)],[(dQ,.str fg),(cx,.str dY)],[]⟩ ((ti,.list all)::R)):=g2;refine aI (qf (k:=k) (path:=fX) (eF:=ph) (n:=eD) (pv:=.bool<|pb 7) g2 (λM M=>by k_all) (λM M=>by k_all) hm (by k_all) (by k_all) (by k_all) (by k_all) (by k_all) (by k_all) (by k_all) (by k_all) ⟨aN rfl,aN rfl,aN rfl,aN rfl⟩ ⟨aN rfl,aN rfl⟩) λbB e3 g3=>jX bB (some<|bN eD<|.bool<|pb 7) (λrest RF hk=>?_) g3;have s2:=eZ (A:=A) (it:=it) (tl:=tl) (ti:=ti) (x:=some<|cQ dQ<|.bool<|pb 5) (kind:=bl) (item:=be cx<|.bool<|pb 6) (O:=run tx (k+5)) (g1.get 0 rfl) (g1.get 1 rfl) rfl (by k_all) e2;have s3:=eZ (A:=A) (it:=it) (tl:=tl) (ti:=ti) (x:=some<|be cx<|.bool<|pb 6) (kind:=cX) (item:=bN eD<|.bool<|pb 7) (O:=run tx (k+5)) (g2.get 0 rfl) (g2.get 1 rfl) rfl (by k_all) e3;exact aZ (eZ (A:=A) (it:=it) (tl:=tl) (ti:=ti) (x:=x) (kind:=iP) (item:=cQ dQ<|.bool<|pb 5) (O:=run tx (k+5)) (h.get 0 rfl) (h.get 1 rfl) rfl (by k_all) e1) (ba<|g1.get 12 rfl)<|aZ s2 (ba<|g2.get 12 rfl)<|aZ s3 (ba<|g3.get 12 rfl) hk
theorem Kb (hm:aL tab aP=some (.ref B.t))(h:Hs aw Y (iD A B (Pa pb tab) ⟨[],[],[]⟩ ((ti,.list all)::R))):
  ∃Y' x',(∀(rest:aG) (RF:Res fc),forL (mf<|run tx (k+5)) (.ref ti) all rest (nt A.m it tl aP ti x') Y'=RF->forL (mf<|run tx (k+5)) (.ref ti) all (i9 .ab pb++rest) (nt A.m it tl aP ti x) Y=RF)/\Hs aw Y' (iD A B (yX pb tab) (tw .ab []) ((ti,.list all)::R)):=by
 refine aI (vD (k:=k+1) (path:=gU) (n:=dQ) (pv:=.bool<|pb 8) h (λM M=>by k_all) hm (by k_all) (by k_all) (by k_all) (by k_all) (by k_all) (by k_all) ⟨aN rfl,aN rfl,aN rfl,aN rfl⟩ ⟨aN rfl,aN rfl⟩) λal e1 g1=>?_;have g1:Hs aw al (iD A B (RD pb tab) ⟨[],[(dQ,.str gU)],[]⟩ ((ti,.list all)::R)):=g1;refine aI (nq (k:=k) (path:=gV) (n:=cx) (pv:=.bool<|pb 9) g1 (λM M=>by k_all) hm (by k_all) (by k_all) (by k_all) (by k_all) (by k_all) (by k_all) (by k_all) (by k_all) ⟨aN rfl,aN rfl,aN rfl,aN rfl⟩ ⟨aN rfl,aN rfl⟩) λax e2 g2=>?_;have g2:Hs aw ax (iD A B (RE pb tab) ⟨[(cx,.str gV)],[(dQ,.str gU),(cx,.str gV)],[]⟩ ((ti,.list all)::R)):=g2;refine aI (qf (k:=k) (path:=nl) (eF:=Bn) (n:=eD) (pv:=.bool<|pb 10) g2 (λM M=>by k_all) (λM M=>by k_all) hm (by k_all) (by k_all) (by k_all) (by k_all) (by k_all) (by k_all) (by k_all) (by k_all) ⟨aN rfl,aN rfl,aN rfl,aN rfl⟩ ⟨aN rfl,aN rfl⟩) λbB e3 g3=>jX bB (some<|bN eD<|.bool<|pb 10) (λrest RF hk=>?_) g3;have s2:=eZ (A:=A) (it:=it) (tl:=tl) (ti:=ti) (x:=some<|cQ dQ<|.bool<|pb 8) (kind:=bl) (item:=be cx<|.bool<|pb 9) (O:=run tx (k+5)) (g1.get 0 rfl) (g1.get 1 rfl) rfl (by k_all) e2;have s3:=eZ (A:=A) (it:=it) (tl:=tl) (ti:=ti) (x:=some<|be cx<|.bool<|pb 9) (kind:=cX) (item:=bN eD<|.bool<|pb 10) (O:=run tx (k+5)) (g2.get 0 rfl) (g2.get 1 rfl) rfl (by k_all) e3;exact aZ (eZ (A:=A) (it:=it) (tl:=tl) (ti:=ti) (x:=x) (kind:=iP) (item:=cQ dQ<|.bool<|pb 8) (O:=run tx (k+5)) (h.get 0 rfl) (h.get 1 rfl) rfl (by k_all) e1) (ba<|g1.get 12 rfl)<|aZ s2 (ba<|g2.get 12 rfl)<|aZ s3 (ba<|g3.get 12 rfl) hk
end
section
variable {O:ar} {k:Nat} {Y aw Y':af} {A:Ad} {B:Td} {r:Rw} {q:Tw} {R:mj} {W:Nat} {N loc':Loc} {RF:Res fc}
abbrev wp (O:ar)(c:X):Loc->af->Res Bool:=λN Y=>da<|aV O c N Y
variable {c:X} {ss:List S}
theorem DC (h:jm (wp O c) (λN Y=>bZ O W ss N Y) W N Y=RF):nO O W (.whl c ss) N Y=RF:=h
theorem RG {n:Nat}{v:V}{al ax:af}(h:aV O c N Y=.ok v al)(q:bp al v=some true)(e:bZ O W ss N al=.ok (none,loc') ax)(k:jm (wp O c) (λN Y=>bZ O W ss N Y) n loc' ax=RF):jm (wp O c) (λN Y=>bZ O W ss N Y) (n+1) N Y=RF:=aJ (fT h q)<|aJ e k
theorem VJ {n:Nat}{v:V}{al:af}(h:aV O c N Y=.ok v al)(q:bp al v=some false):jm (wp O c) (λN Y=>bZ O W ss N Y) (n+1) N Y=.ok (none,N) al:=aJ (fT h q) rfl
theorem NM {l:aG}(hl:l.length<10000):vS Y .list [.U l]=.ok (.ref Y.length) (Y++[.list l]):=o7 (Y:=Y) (v:=.U l) (k:=true) (f:=λM l=>alloc Y<|.list l) rfl hl
theorem Bp {it tl ti:Nat}{all lf:aG}{x:jJ}{md n path:Str}{pv:V}{items:aG}(h:Hs aw Y (iD A B r q ((ti,.list all)::(tl,.list lf)::R)))(hi:items.length<1000)(hlf:lf.length<100)(hj:∀(Y:af) (k:Nat),run tx (k+1) 172 [.str md,.str n] Y=.ok (.str path) Y)(hm:aL r.tab md=some (.ref B.t))(hf:i8 n=true)(h1:aL q.t n=none)(h3:aL q.u n=none)(h4:aL r.k path=none)(h5:aL r.p path=none)(h8:aL r.tab path=none)(hl:r.k.length<900/\r.p.length<900/\q.t.length<900/\q.v.length<900)(lS:r.tab.length<900):
  ∃Y' B' tn,mf (run tx (k+4)) (gP n items pv) (nt A.m it tl md ti x) Y=.ok (none,nt A.m it tl md ti<|some<|gP n items pv) Y'/\Hs aw Y' (iD A B ⟨r.k++[(path,.str bU)],r.p++[(path,pv)],r.tab++[(path,.ref B'.t)],r.g,r.i⟩ ⟨q.t++[(n,.str path)],q.v,q.u⟩ ((ti,.list all)::(tl,.list<|lf++[.U [.str path,.ref tn]])::(R++(tn,.list items)::mJ B' ⟨[],[],[]⟩))):=by
 have g:=h.add (c:=.list items);have g1:=g.set 13 rfl (c':=.list<|lf++[.U [.str path,.ref Y.length]]);refine gm (GL (k:=k) (pv:=pv) (items:=items) (R:=(ti,.list all)::(tl,.list<|lf++[.U [.str path,.ref Y.length]])::(R++[(Y.length,.list items)])) g1 hj hm hf h1 h3 h4 h5 h8 hl lS) λax B' e g2=>BX ax B' Y.length ?_ ?_
 ·have st:bZ (run tx (k+4)) 400 yW (nt A.m it tl md ti<|some<|gP n items pv) Y=.ok (none,nt A.m it tl md ti<|some<|gP n items pv) ax:=
   ah (bj (aq (aF (I rfl) ag rfl) ag rfl) rfl<|ah (gR<|jS (I rfl) (gO (h.get 13 rfl)<|.inl rfl) (aa (aS<|aa (aK (aa (I rfl)<|aa (aF (I rfl) ag rfl) ae)<|hj _ _)<|aa (cL (aa (aF (I rfl) ag rfl) ae)<|NM<|NG hi) ae) ae)<|append_at (g.get 13 rfl)<|lt_num ‹_› rfl) ay) (ah (gR<|bO (I rfl) (bY (g1.get 0 rfl) (g1.get 1 rfl) rfl rfl) (aa (I rfl)<|aa (I rfl) ae) e) ay)
  exact st
 ·refine g2.perm<|List.Perm.of_eq ?_
  simp only[iD,bQ,sd,sf]
end
noncomputable abbrev ER:X:=.m .NotEq (.l 2)<|.s []
abbrev ES:List S:=[.set (.U [.l 3,.l 4])<|.bm (.l 2) .pop [],.for (.l 5) (.l 4) yW]
section
variable {O:ar} {Y:af} {A:Ad} {r:Rw} {R:mj} {N:Loc} {RF:Res fc}
theorem pop_at {t:Nat}{l:aG}{v:V}(h:Y[t]?=some (.list (l++[v])))(hl:l.length<100):OD Y (.ref t) .pop []=.ok v (Y.set t<|.list l):=by
 refine cq (js h)<|(if_pos (by rw[b0,gQ];omega)).trans<|cq (by rw[List.getLast?_append,List.getLast?_singleton,Option.some_or]) ?_
 rw[List.dropLast_concat]
theorem yY {it tl ti:Nat}{x3 x4 x5 x':jJ}{md:Str}{lf all:aG}{n:Nat}(h:Y[tl]?=some (.list<|lf++[.U [.str md,.ref ti]]))(hlf:lf.length<100)(ha:((Y++[Cell.list []]).set tl<|.list lf)[ti]?=some (.list all)){ax:af}
  (hf:forL (mf O) (.ref ti) all all (nt A.m it tl md ti x5) ((Y++[Cell.list []]).set tl<|.list lf)=.ok (none,nt A.m it tl md ti x') ax)
  (hk:jm (wp O ER) (λN Y=>bZ O 400 ES N Y) n (nt A.m it tl md ti x') ax=RF):
  jm (wp O ER) (λN Y=>bZ O 400 ES N Y) (n+1) [some<|.ref A.m,some<|.ref it,some<|.ref tl,x3,x4,x5,none,none,none] Y=RF:=by
 have en:=ig (ak h) ao;rw[(by cases lf<;>rfl:(lf++[V.U [.str md,.ref ti]]).isEmpty=false)] at en
 refine RG (aq (I rfl) (bh ae) en) rfl ?_ hk;exact ah (az (jS (I rfl) (gO (ak h)<|.inr rfl) ae<|pop_at (ak h) hlf)<|ez rfl rfl<|aR aD<|aR aD dg)<|ah (gB (I rfl) (cI ha) hf) ay
theorem Kd {it tl:Nat}{x3 x4 x5:jJ}{n:Nat}(h:Y[tl]?=some (.list [])):jm (wp O ER) (λN Y=>bZ O 400 ES N Y) (n+1) [some<|.ref A.m,some<|.ref it,some<|.ref tl,x3,x4,x5,none,none,none] Y=.ok (none,[some<|.ref A.m,some<|.ref it,some<|.ref tl,x3,x4,x5,none,none,none]) (Y++[.list []]):=
 VJ (aq (I rfl) (bh ae)<|ig (ak h) ao) rfl
end
section
variable {O:ar} {k:Nat} {Y aw Y':af} {A:Ad} {B:Td} {r:Rw} {q:Tw} {R L:mj} {N:Loc} {RF:Res fc}
theorem mK {m d:Nat}{rows:ii}{c:Cell}{s:Str}(H:Hs aw Y ((d,.dict rows)::(m,.inst 367 d)::L))(hl:N[0]?=some (some<|.ref m))(ha:uo.attrs 367 s=true)(hr:rows.length<100)(hn:aL rows s=none):
  ∃Y',tG O (.attr (.l 0) s) (.ref Y.length) N (Y++[c])=.ok N Y'/\Hs aw Y' ((d,.dict<|rows++[(s,.ref Y.length)])::(m,.inst 367 d)::(L++[(Y.length,c)])):=by
 have g:=H.add (c:=c);exact bD _ (iY (I hl) (vB (g.get 1 rfl) (g.get 0 rfl) ha<|lt_num ‹_› rfl)<|DA (g.get 1 rfl) (g.get 0 rfl)<|cV hn)<|g.set 0 rfl (c':=.dict<|rows++[(s,.ref Y.length)])
theorem Ke {t:Nat}{l:aG}(h:Y[t]?=some (.list l))(hl:l.length<10000):vS Y .list [.ref t]=.ok (.ref Y.length) (Y++[.list l]):=o7 (f:=λM l=>alloc Y<|.list l) (cE h) hl
theorem Kf {it:Nat}{items:aG}(h:Y[it]?=some (.list items))(hi:items.length<1000):∃Y' A B ti tl,(∀RF,bZ (run tx (k+5)) 400 [.whl ER ES] [some<|.ref A.m,some<|.ref it,some<|.ref tl,ai,ai,ai,ai,ai,ai] Y'=RF->bZ (run tx (k+5)) 400 PQ.body [some<|.ref (Y.length+1),some<|.ref it,ai,ai,ai,ai,ai,ai,ai] (je Y 367 [])=RF)/\A.m=Y.length+1/\
  ∃e,Hs Y Y' (iD A B ⟨[(z_,.str bU)],[(z_,.bool true)],[(z_,.ref B.t)],[],[]⟩ ⟨[],[],[]⟩ [(ti,.list items),(tl,.list [.U [.str z_,.ref ti]]),e]):=by
 have H0:Hs Y (je Y 367 []) [(Y.length,.dict []),(Y.length+1,.inst 367 Y.length)]:=(⟨jG,(λq hq=>nomatch hq),(λq hq=>nomatch hq),dp.refl⟩:Hs Y Y []).pair;generalize aar:je Y 367 []=σ0 at H0;refine aI (mK (O:=run tx (k+5)) (N:=[some<|.ref (Y.length+1),some<|.ref it,ai,ai,ai,ai,ai,ai,ai]) (c:=.dict [(z_,.str bU)]) (s:=dM) H0 rfl rfl (aN rfl) rfl) λrh e1 H1=>aI (mK (O:=run tx (k+5)) (N:=[some<|.ref (Y.length+1),some<|.ref it,ai,ai,ai,ai,ai,ai,ai]) (c:=.dict [(z_,.bool true)]) (s:=dB) H1 rfl rfl (aN rfl)<|by k_all) λzo e2 H2=>aI (mK (O:=run tx (k+5)) (N:=[some<|.ref (Y.length+1),some<|.ref it,ai,ai,ai,ai,ai,ai,ai]) (c:=.dict [(z_,.ref (zo.length+1))]) (s:=dK) H2.tab rfl rfl (aN rfl)<|by k_all) λBS e3 H3=>aI (mK (O:=run tx (k+5)) (N:=[some<|.ref (Y.length+1),some<|.ref it,ai,ai,ai,ai,ai,ai,ai]) (c:=.dict []) (s:=bq) H3 rfl rfl (aN rfl)<|by k_all) λPb e4 H4=>aI (mK (O:=run tx (k+5)) (N:=[some<|.ref (Y.length+1),some<|.ref it,ai,ai,ai,ai,ai,ai,ai]) (c:=.dict []) (s:=kh) H4 rfl rfl (aN rfl)<|by k_all) λET e5 H5=>aI (mK (O:=run tx (k+5)) (N:=[some<|.ref (Y.length+1),some<|.ref it,ai,ai,ai,ai,ai,ai,ai]) (c:=.dict []) (s:=ji) H5 rfl rfl (aN rfl)<|by k_all) λNO e6 H6=>?_;have H8:=(H6.add (c:=.list items)).add (c:=.list [.U [.str z_,.ref NO.length]]);refine⟨_,⟨Y.length+1,Y.length,σ0.length,rh.length,(zo++RC zo.length).length,BS.length,Pb.length,ET.length⟩,⟨zo.length+1,zo.length,zo.length+2,zo.length+3,zo.length+4⟩,NO.length,(NO++[Cell.list items]).length,λRF hk=>?_,rfl,_,H8.perm<|Jf _ _ _ _ _ _ _ _ _ _ _ _ _ _ _⟩;refine ah (az (l7<|aa ag ae) e1)<|ah (az (l7<|aa ag ae) e2) ?_
 refine ah (az (l7<|aa (vd rfl ae vC) ae) e3)<|ah (az (l7 ae) e4) ?_
 refine ah (az (l7 ae) e5)<|ah (az (l7 ae) e6) ?_
 exact ah (az (bh<|aa (aS<|aa ag<|aa (cL (aa (I rfl) ae)<|Ke (H6.grow.old _ _ h:NO[it]?=some (.list items))<|NG hi) ae) ae) aD) hk
end
structure iO (ls:List Lk):Prop where
 len:ls.length<=6
 ok:∀l∈ls,l.i<6/\l.names.length<100
 nd:(ls.map (·.i)).Nodup
def px (p:Pl)(us:ii):Tw:=match p with
 | .o=>⟨[(cx,.str cx),(eD,.str eD),(dG,.str dG)],[(dQ,.str dQ),(cx,.str cx)],us⟩
 | .a=>⟨[(cx,.str dY),(eD,.str fX),(BR,.str aP)],[(dQ,.str fg),(cx,.str dY)],us⟩
 | .ab=>⟨[(cx,.str gV),(eD,.str nl)],[(dQ,.str gU),(cx,.str gV)],us⟩
theorem vE:∀i,i<6->i8 (uN i)=true/\∀p,aL (px p []).t (uN i)=none/\aL (px p []).v (uN i)=none
 | 0,_=>⟨by k_all,λp=>by cases p<;>exact⟨by k_all,by k_all⟩⟩
 | 1,_=>⟨by k_all,λp=>by cases p<;>exact⟨by k_all,by k_all⟩⟩
 | 2,_=>⟨by k_all,λp=>by cases p<;>exact⟨by k_all,by k_all⟩⟩
 | 3,_=>⟨by k_all,λp=>by cases p<;>exact⟨by k_all,by k_all⟩⟩
 | 4,_=>⟨by k_all,λp=>by cases p<;>exact⟨by k_all,by k_all⟩⟩
 | 5,_=>⟨by k_all,λp=>by cases p<;>exact⟨by k_all,by k_all⟩⟩
 |n+6,h=>absurd h (by omega)
theorem Kg {i j:Nat}(hi:i<6)(hj:j<6)(h:uN i=uN j):i=j:=by
 have:∀i:Fin 6,∀j:Fin 6,uN i.1=uN j.1->i=j:=by decide+kernel
 exact bH Fin.val<|this ⟨i,hi⟩ ⟨j,hj⟩ h
section
variable {ls:List Lk} {pb:Nat->Bool}
theorem lm (h:iO ls)(p:Pl):(cJ p ls).length<=6:=d9 (wB _ _) h.len
theorem di {p:Pl}{u:Lk}(h:u∈cJ p ls):u∈ls:=(List.mem_filter.mp h).1
theorem tW (h:iO ls)(p:Pl):((cJ p ls).map λu=>uN u.i).Nodup:=by
 have h1:((cJ p ls).map (·.i)).Nodup:=h.nd.sublist<|(List.filter_sublist).map _
 rw[List.nodup_iff_pairwise_ne,List.pairwise_map] at h1⊢;refine h1.imp_of_mem λ{a b} ha hb dS he=>dS<|Kg (h.ok _<|di ha).1 (h.ok _<|di hb).1 he
theorem sM (h:iO ls):(iy pb ls).length<1000:=by
 have:=lm h .ab;unfold iy;rw[b0,cu];show 3+_<1000;omega
theorem vF (h:iO ls):(ja pb ls).length<1000:=by
 have:=lm h .a;unfold ja;rw[b0];show 3+(((cJ _ ls).map Lk.item).length+1)<1000;rw[cu];omega
theorem DE (h:iO ls):(j6 pb ls).length<1000:=by
 have:=lm h .o;unfold j6;rw[b0];show 3+(((cJ _ ls).map Lk.item).length+1)<1000;rw[cu];omega
end
structure Kh (aw Y:af)(A:Ad)(B0 B1 B2:Td)(u0 u1 u2:ii)(U:mj)(pb:Nat->Bool)(ls:List Lk):Prop where
 hs:∃R,Hs aw Y<|mI A (yX pb [(z_,.ref B0.t),(dG,.ref B1.t),(aP,.ref B2.t)])++(mJ B2 (px .ab u2)++(mJ B1 (px .a u1)++(mJ B0 (px .o u0)++(U++R))))
 o:fM U u0 (cJ .o ls)
 a:fM U u1 (cJ .a ls)
 ab:fM U u2 (cJ .ab ls)
section
variable {k:Nat} {Y:af} {ls:List Lk} {pb:Nat->Bool}
theorem Ki (gX:iO ls){it:Nat}(h:Y[it]?=some (.list<|j6 pb ls)):∃Y' A B0 B1 B2 u0 u1 u2 U,run tx (k+6) 254 [.ref (Y.length+1),.ref it] (je Y 367 [])=.ok .none Y'/\A.m=Y.length+1/\Kh Y Y' A B0 B1 B2 u0 u1 u2 U pb ls:=by
 obtain⟨rh,A,B0,Pp,tl,Sq,hm,e,H1⟩:=Kf (k:=k) h<|DE gX
 have P1:=(H1.push (J:=[.list []])).set 13 rfl (c':=.list []);obtain⟨zo,x2,c2,H2⟩:=NK (k:=k) (tl:=tl) (it:=it) (all:=j6 pb ls) (x:=none) (tab:=[(z_,.ref B0.t)]) rfl P1;refine rm (Bp (k:=k+1) (md:=z_) (n:=dG) (path:=dG) (items:=ja pb ls) (pv:=.bool<|pb 0) (it:=it) (x:=x2) H2 (vF gX) (aN rfl) (λM M=>by k_all) rfl (by k_all) (by k_all) (by k_all) (by k_all) (by k_all) (by k_all) ⟨aN rfl,aN rfl,aN rfl,aN rfl⟩<|aN rfl) λBS B1 LK s3 H3=>?_;have H3':Hs Y BS (iD A B0 (O9 pb [(z_,.ref B0.t),(dG,.ref B1.t)]) (px .o []) ((Pp,.list<|j6 pb ls)::(((tl,.list [.U [.str dG,.ref LK]])::([e]++(LK,.list<|ja pb ls)::mJ B1 ⟨[],[],[]⟩))++[]))):=by rw[gp];exact H3
 refine Py (rX (k:=k+1) (it:=it) (tl:=tl) (md:=z_) (q:=px .o []) (x:=some<|gP dG (ja pb ls)<|.bool<|pb 0) rfl (cJ .o ls) H3' .nil (by have:=lm gX .o;show 0+_<100;omega) (λu hu=>⟨(gX.ok u<|di hu).2,(vE u.i (gX.ok u<|di hu).1).1,(vE u.i (gX.ok u<|di hu).1).2 .o⟩) (tW gX .o) λM M=>rfl) λPb U0 u0 x4 f4 H4 hu0=>?_;have H4p:=H4.perm<|xh _ (mJ B0<|px .o u0) [e] U0 (mJ B1 ⟨[],[],[]⟩) (Pp,.list<|j6 pb ls) (tl,.list [.U [.str dG,.ref LK]]) (LK,.list<|ja pb ls)
 have P5:=(H4p.push (J:=[.list []])).set 13 rfl (c':=.list []);refine gm (NL (k:=k) (tl:=tl) (it:=it) (all:=ja pb ls) (x:=x4) (tab:=[(z_,.ref B0.t),(dG,.ref B1.t)]) rfl P5) λET x5 c5 H5=>rm (Bp (k:=k+1) (md:=dG) (n:=BR) (path:=aP) (items:=iy pb ls) (pv:=.bool<|pb 1) (it:=it) (x:=x5) H5 (sM gX) (aN rfl) (λM M=>by k_all) rfl (by k_all) (by k_all) (by k_all) (by k_all) (by k_all) (by k_all) ⟨aN rfl,aN rfl,aN rfl,aN rfl⟩<|aN rfl) λNO B2 Pq s6 H6=>?_;have H6':Hs Y NO (iD A B1 (Pa pb [(z_,.ref B0.t),(dG,.ref B1.t),(aP,.ref B2.t)]) (px .a []) ((LK,.list<|ja pb ls)::(((tl,.list [.U [.str aP,.ref Pq]])::((mJ B0 (px .o u0)++((Pp,.list<|j6 pb ls)::([e]++U0)))++(Pq,.list<|iy pb ls)::mJ B2 ⟨[],[],[]⟩))++[]))):=by rw[gp];exact H6
 refine Py (rX (k:=k+1) (it:=it) (tl:=tl) (md:=dG) (q:=px .a []) (x:=some<|gP BR (iy pb ls)<|.bool<|pb 1) rfl (cJ .a ls) H6' .nil (by have:=lm gX .a;show 0+_<100;omega) (λu hu=>⟨(gX.ok u<|di hu).2,(vE u.i (gX.ok u<|di hu).1).1,(vE u.i (gX.ok u<|di hu).1).2 .a⟩) (tW gX .a) λM M=>rfl) λZh U1 u1 x7 f7 H7 hu1=>?_;have H7p:=H7.perm<|xh _ (mJ B1<|px .a u1) (mJ B0 (px .o u0)++((Pp,.list<|j6 pb ls)::([e]++U0))) U1 (mJ B2 ⟨[],[],[]⟩) (LK,.list<|ja pb ls) (tl,.list [.U [.str aP,.ref Pq]]) (Pq,.list<|iy pb ls)
 have P8:=(H7p.push (J:=[.list []])).set 13 rfl (c':=.list []);refine gm (Kb (k:=k) (tl:=tl) (it:=it) (all:=iy pb ls) (x:=x7) (tab:=[(z_,.ref B0.t),(dG,.ref B1.t),(aP,.ref B2.t)]) rfl P8) λWJ x8 c8 H8=>?_;have H8':Hs Y WJ (iD A B2 (yX pb [(z_,.ref B0.t),(dG,.ref B1.t),(aP,.ref B2.t)]) (px .ab []) ((Pq,.list<|iy pb ls)::(((tl,.list [])::(mJ B1 (px .a u1)++((LK,.list<|ja pb ls)::((mJ B0 (px .o u0)++((Pp,.list<|j6 pb ls)::([e]++U0)))++U1))))++[]))):=by rw[gp];exact H8
 refine Py (rX (k:=k+1) (it:=it) (tl:=tl) (md:=aP) (q:=px .ab []) (x:=x8) rfl (cJ .ab ls) H8' .nil (by have:=lm gX .ab;show 0+_<100;omega) (λu hu=>⟨(gX.ok u<|di hu).2,(vE u.i (gX.ok u<|di hu).1).1,(vE u.i (gX.ok u<|di hu).1).2 .ab⟩) (tW gX .ab) λM M=>rfl) λWL U2 u2 x9 f9 H9 hu2=>?_;have W9:=Kd (O:=run tx (k+5)) (A:=A) (it:=it) (x3:=some<|.str aP) (x4:=some<|.ref Pq) (x5:=x9) (n:=396)<|H9.get 13 rfl
 have W8:=yY (A:=A) (it:=it) (x3:=some<|.str dG) (x4:=some<|.ref LK) (lf:=[]) (H7p.get 13 rfl) (aN rfl) (P8.get 12 rfl) (c8 _ _ f9) W9;have W5:=yY (A:=A) (it:=it) (x3:=some<|.str z_) (x4:=some<|.ref Pp) (lf:=[]) (H4p.get 13 rfl) (aN rfl) (P5.get 12 rfl) (c5 _ _<|aZ s6 (ba<|H6.get 12 rfl) f7) W8;have W1:=yY (A:=A) (it:=it) (x3:=none) (x4:=none) (lf:=[]) (H1.get 13 rfl) (aN rfl) (P1.get 12 rfl) (c2 _ _<|aZ s3 (ba<|H3.get 12 rfl) f4) W5;refine⟨WL++[.list []],A,B0,B1,B2,u0,u1,u2,U0++(U1++U2),?_,hm,⟨[(Pp,.list<|j6 pb ls),(LK,.list<|ja pb ls),(Pq,.list<|iy pb ls),(tl,.list []),e],?_⟩,hu0.mono λx hx=>jF _ hx,hu1.mono λx hx=>kH _<|jF _ hx,hu2.mono λx hx=>kH _<|kH _ hx⟩
 rotate_left
 ·have:=(H9.perm<|Jg _ (mJ B0<|px .o u0) (mJ B1<|px .a u1) (mJ B2<|px .ab u2) U0 U1 U2 (Pp,.list<|j6 pb ls) (LK,.list<|ja pb ls) (Pq,.list<|iy pb ls) (tl,.list []) e).push (J:=[.list []]);rw[bQ U0,bQ U1];exact this
 rw[dA];apply bf (i:=PQ) (R:=(none,_)) rfl rfl rfl;exact Sq _<|ah (DC W1) ay
end
noncomputable def within:Pl->Pl->Bool
 |_,.o=>true
 | .a,.a=>true
 | .ab,.a=>true
 | .ab,.ab=>true
 |_,_=>false
section
variable {k:Nat} {Y aw:af} {A:Ad} {B:Td} {r:Rw} {q:Tw} {R:mj} {RF:Res fc}
theorem DF (p o:Pl):run tx (k+1) 186 [.str p.str,.str o.str] Y=.ok (.bool<|within p o) Y:=by cases p<;>cases o<;>k_all
theorem NP {m:Nat}(p o:Pl)(b:Bool):run tx (k+2) 294 [.ref m,.str p.str,.str o.str,.bool b] Y=.ok (.bool<|b||within p o) Y:=by
 rw[dA];apply bf (i:=T9) (R:=(some<|.bool<|b||within p o,_)) rfl rfl rfl;refine ah (bL<|ic<|ve (I rfl) lK ?_) rfl;cases b
 ·exact f0<|aK (aa (I rfl)<|aa (I rfl) ae)<|DF p o
 ·rfl
theorem Kj (h:Hs aw Y (iD A B r q R)){p o:Pl}{n path:Str}{b:Bool}{sn:Nat}(hk:aL r.k o.str=some (.str bU))(hm:aL r.tab o.str=some (.ref B.t))(hn:aL q.t n=some (.str path))(hp:aL r.p path=some (.bool b)){msg:Str}(Ls:jk Y .Add (.str path) (.str DY)=.ok (.str msg) Y):
  run tx (k+3) 330 [.ref A.m,.str p.str,.str o.str,.str n,.str aB,.int 0,.ref sn] Y=if b||within p o then .ok (.str path) Y else .exc 64 Y:=by
 have pre:∀{RF:Res fc},bZ (run tx (k+2)) 400 (Me.body.drop 4) [some<|.ref A.m,some<|.str p.str,some<|.str o.str,some<|.str n,some<|.str aB,some<|.int 0,some<|.ref sn,some<|.str path,some<|.ref B.t,none,none,none] Y=RF->bZ (run tx (k+2)) 400 Me.body [some<|.ref A.m,some<|.str p.str,some<|.str o.str,some<|.str n,some<|.str aB,some<|.int 0,some<|.ref sn,ai,ai,ai,ai,ai] Y=RF:=λ{RF} hx=>by
  refine ah (aA (aq (aF (bX rfl (h.get 0 rfl) (h.get 1 rfl) rfl rfl rfl) (I rfl)<|fh (h.get 2 rfl) hk) ag<|by rfl) rfl ay)<|ah (aA (aq (aF (bX rfl (h.get 0 rfl) (h.get 1 rfl) rfl rfl rfl) (I rfl)<|fh (h.get 2 rfl) hk) ag<|by rfl) rfl ay) ?_
  refine ah (az (aF (bX rfl (h.get 0 rfl) (h.get 1 rfl) rfl rfl rfl) (I rfl)<|fh (h.get 4 rfl) hm) aD)<|ah (az (jS (bO (I rfl) (bY (h.get 7 rfl) (h.get 8 rfl) rfl rfl) (aa (I rfl) ae)<|pi (h.get 7 rfl)<|h.get 8 rfl) (VA<|h.get 9 rfl) (aa (I rfl) ae)<|O7 (h.get 9 rfl)<|by rw[hn,Option.getD_some]) aD) ?_
  exact hx
 have BU:aV (run tx (k+2)) (.bG (.l 0) mq [.l 1,.l 2,.i (.attr (.l 0) dB)<|.l 7]) [some<|.ref A.m,some<|.str p.str,some<|.str o.str,some<|.str n,some<|.str aB,some<|.int 0,some<|.ref sn,some<|.str path,some<|.ref B.t,none,none,none] Y=.ok (.bool<|b||within p o) Y:=
  bO (I rfl) (bY (h.get 0 rfl) (h.get 1 rfl) rfl rfl) (aa (I rfl)<|aa (I rfl)<|aa (aF (bX rfl (h.get 0 rfl) (h.get 1 rfl) rfl rfl rfl) (I rfl)<|fh (h.get 3 rfl) hp) ae) (NP p o b)
 rw[dA];cases hb:(b||within p o)<;>rw[hb] at BU
 ·apply gj rfl rfl rfl;exact pre<|cP<|bj (aq (I rfl) ag rfl) rfl<|cP<|bj (lg BU lK) rfl<|cP<|oG (eX (I rfl) ag Ls)<|I rfl
 ·apply bf (i:=Me) (R:=(some<|.str path,_)) rfl rfl rfl;exact pre<|ah (bj (aq (I rfl) ag rfl) rfl<|ah (aA (lg BU lK) rfl ay)<|bP<|bL<|I rfl) rfl
theorem Kk {m sn:Nat}{p:Pl}{here n:Str}{r:Res V}(hm:eV Y (.ref m) pO=some 330)(h:run tx k 330 [.ref m,.str p.str,.str here,.str n,.str aB,.int 0,.ref sn] Y=r)(hr:(∃v,r=.ok v Y)∨r=.exc 64 Y):run tx (k+1) 323 [.ref m,.str p.str,.str here,.str n,.str aB,.int 0,.ref sn] Y=r:=by
 rw[dA];have e:aV (run tx k) (.bG (.l 0) pO [.l 1,.l 2,.l 3,.l 4,.l 5,.l 6]) [some<|.ref m,some<|.str p.str,some<|.str here,some<|.str n,some<|.str aB,some<|.int 0,some<|.ref sn,none,none] Y=r:=
  bO (I rfl) hm (aa (I rfl)<|aa (I rfl)<|aa (I rfl)<|aa (I rfl)<|aa (I rfl)<|aa (I rfl) ae) h
 rcases hr with Zi | rfl
 ·refine aM Zi λv dZ=>?_;subst dZ;apply bf (i:=Uc) (R:=(some v,_)) rfl rfl rfl;exact ah (bj (aq (I rfl) ag rfl) rfl<|bP<|bL e) rfl
 ·apply gj rfl rfl rfl;exact cP<|bj (aq (I rfl) ag rfl) rfl<|cP<|oJ e
end
inductive jf (O:ar)(m sn:Nat)(p:Pl)(Y:af):Str->List Str->Res V->Prop
 |done {here}:jf O m sn p Y here [] (.ok (.str here) Y)
 |more {here n path rest r}:O 323 [.ref m,.str p.str,.str here,.str n,.str aB,.int 0,.ref sn] Y=.ok (.str path) Y->jf O m sn p Y path rest r->jf O m sn p Y here (n::rest) r
 |exc {here n rest}:O 323 [.ref m,.str p.str,.str here,.str n,.str aB,.int 0,.ref sn] Y=.exc 64 Y->jf O m sn p Y here (n::rest) (.exc 64 Y)
noncomputable abbrev Pc:X:=.m .Lt (.l 7)<|.bi .len [.l 2]
abbrev Pd:List S:=[.set (.l 8)<|.ite (.m .Eq (.bin .Add (.l 7)<|.xi 1)<|.bi .len [.l 2]) (.l 3)<|.xs aB,.set (.l 9)<|.bG (.l 0) mQ [.l 1,.l 6,.i (.l 2)<|.l 7,.l 8,.l 4,.l 5],.ite (.m .Is (.l 9)<|.c .none) [.raise 52 (.bin .Add (.xs Hu)<|.bm (.xs so) .join [.l 2])<|.l 4] [],.set (.U [.l 6,.l 7])<|.U [.l 9,.bin .Add (.l 7)<|.xi 1]]
abbrev yZ (m:Nat)(p:Pl)(names:aG)(sn:Nat)(here:Str)(i:Nat)(x8 x9:jJ):Loc:=[some<|.ref m,some<|.str p.str,some<|.U names,some<|.str aB,some<|.int 0,some<|.ref sn,some<|.str here,some<|.int i,x8,x9,none,none]
section
variable {O:ar} {k:Nat} {Y:af} {r:Rw} {q:Tw} {R:mj} {N:Loc} {m sn:Nat} {p:Pl}
theorem Zj {c:X}{ss:List S}{n W C:Nat}{v:V}{al ax:af}(h:aV O c N Y=.ok v al)(q:bp al v=some true)(e:bZ O W ss N al=.exc C ax):jm (wp O c) (λN Y=>bZ O W ss N Y) (n+1) N Y=.exc C ax:=aJ (fT h q)<|dz e
theorem Kl {l:aG}{i:Nat}{v:V}(hv:l[i]?=some v)(hl:l.length<1000):cb Y (.U l) (.int i)=some v:=by
 have hi:=(bM.mp hv).1;rw[Em];unfold WE;rw[if_pos (by unfold smallInt;rw[dP (by omega),dP<|by omega];rfl)];have hs:seqIndex? (i:Int) l.length=some i:=by
  unfold seqIndex?;simp only[show¬(i:Int)<0 by omega,if_false];rw[if_pos (by rw[kJ,mn,mn];omega)];rfl
 rw[hs];exact hv
theorem y0 {l:aG}(hl:l.length<1000):vS Y .len [.U l]=.ok (.int l.length) Y:=o7 (Y:=Y) (v:=.U l) (k:=true) (f:=λM l=>.ok (.int l.length) Y) rfl<|eB hl<|by decide
theorem lt_int {i j:Int}{b:Bool}(h:decide (i<j)=b):cy Y .Lt (.int i) (.int j)=some b:=by rw[<-h];rfl
abbrev whW (O:ar)(m:Nat)(p:Pl)(names:cY)(sn:Nat)(Y:af)(here:Str)(i:Nat)(x8 x9:jJ)(n:Nat):Res fc:=jm (wp O Pc) (λN Y=>bZ O 400 Pd N Y) n (yZ m p (names.map .str) sn here i x8 x9) Y
inductive za (m:Nat)(p:Pl)(names:cY)(sn:Nat)(Y:af)(w:Res fc):Res V->Prop
 |ok (path:Str) (x8 x9:jJ):w=.ok (none,yZ m p (names.map .str) sn path names.length x8 x9) Y->za m p names sn Y w (.ok (.str path) Y)
 |exc:w=.exc 64 Y->za m p names sn Y w (.exc 64 Y)
section
variable {names rest:cY} {here s path:Str} {i n:Nat} {x8 x9:jJ} {b:Bool}
theorem EU (h:names.drop i=s::rest):names[i]?=some s/\i<names.length/\names.drop (i+1)=rest:=by
 have e:names[i]?=some s:=by
  have:=bH (·[0]?) h;rw[List.getElem?_drop] at this;exact this
 refine⟨e,(bM.mp e).1,?_⟩;rw[<-List.tail_drop,h];rfl
theorem xB (hl:names.length<100):aV O (.bi .len [.l 2]) (yZ m p (names.map .str) sn here i x8 x9) Y=.ok (.int names.length) Y:=by
 have e:=y0 (Y:=Y) (l:=names.map V.str) (by rw[cu];exact lt_num hl rfl);rw[cu] at e;exact cL (aa (I rfl) ae) e
theorem qg (hl:names.length<100)(h:decide ((i:Int)<(names.length:Int))=b):aV O Pc (yZ m p (names.map .str) sn here i x8 x9) Y=.ok (.bool b) Y:=aq (I rfl) (xB hl)<|lt_int h
theorem GM {x y:X}{R:Res V}{b:Bool}(h:aV O x N Y=R)(h':aV O y N Y=R):aV O (df b x y) N Y=R:=by
 cases b
 ·exact h'
 ·exact h
theorem Km (hl:names.length<100):aV O (.ite (.m .Eq (.bin .Add (.l 7)<|.xi 1)<|.bi .len [.l 2]) (.l 3)<|.xs aB) (yZ m p (names.map .str) sn here i x8 x9) Y=.ok (.str aB) Y:=
 rP (aq (eX (I rfl) ag rfl) (xB hl) rfl) lK (GM (I rfl) ag)
theorem Ko (hm:eV Y (.ref m) mQ=some 323)(hl:names.length<100)(hs:names[i]?=some s){R:Res V}(e:O 323 [.ref m,.str p.str,.str here,.str s,.str aB,.int 0,.ref sn] Y=R):
  aV O (.bG (.l 0) mQ [.l 1,.l 6,.i (.l 2)<|.l 7,.l 8,.l 4,.l 5]) (yZ m p (names.map .str) sn here i (some<|.str aB) x9) Y=R:=
 bO (I rfl) hm (aa (I rfl)<|aa (I rfl)<|aa (aF (I rfl) (I rfl)<|Kl (by rw[fP,hs];rfl) (by rw[cu];exact lt_num hl rfl))<|aa (I rfl)<|aa (I rfl)<|aa (I rfl) ae) e
theorem GN (hm:eV Y (.ref m) mQ=some 323)(hl:names.length<100)(hs:names[i]?=some s)(e:O 323 [.ref m,.str p.str,.str here,.str s,.str aB,.int 0,.ref sn] Y=.ok (.str path) Y):
  bZ O 400 Pd (yZ m p (names.map .str) sn here i x8 x9) Y=.ok (none,yZ m p (names.map .str) sn path (i+1:Nat) (some<|.str aB)<|some<|.str path) Y:=
 ah (az (Km hl) aD) (ah (az (Ko hm hl hs e) aD)<|ah (aA (aq (I rfl) ag rfl) rfl ay)<|ah (az (aS<|aa (I rfl)<|aa (eX (I rfl) ag rfl) ae)<|ez rfl rfl<|aR aD<|aR aD dg) ay)
theorem GO (hm:eV Y (.ref m) mQ=some 323)(hl:names.length<100){r:Res V}(hs:jf O m sn p Y here rest r):∀(i:Nat) (x8 x9:jJ) (n:Nat),names.drop i=rest->i<=names.length->rest.length<n->za m p names sn Y (whW O m p names sn Y here i x8 x9 n) r:=by
 induction hs with
 |@done here=>
  intro i x8 x9 n hd hi hn;refine aI (oQ hn) λn e1 M=>?_;rw[(Nat.le_antisymm hi (List.drop_eq_nil_iff.mp hd):i=names.length),e1];exact .ok here x8 x9<|VJ (qg hl<|eN<|Int.lt_irrefl _) rfl
 |@more here s path rest r e _ ih=>
  intro i x8 x9 n hd hi hn;refine qr (EU hd) λg1 g2 g3=>aI (oQ hn) λn e1 hn=>?_;have ht:=qg (O:=O) (m:=m) (p:=p) (sn:=sn) (Y:=Y) (here:=here) (x8:=x8) (x9:=x9) hl<|dP<|Int.ofNat_lt.mpr g2
  have st:=GN (x8:=x8) (x9:=x9) hm hl g1 e;have k:=ih (i+1) (some<|.str aB) (some<|.str path) n g3 g2 hn;rw[e1];cases k with
  |ok q y z w=>exact .ok q y z<|RG ht rfl st w
  |exc w=>exact .exc<|RG ht rfl st w
 |@exc here s rest e=>
  intro i x8 x9 n hd hi hn;refine qr (EU hd) λg1 g2 g3=>aI (oQ hn) λn e1 hn=>?_;rw[e1];exact .exc<|Zj (qg hl<|dP<|Int.ofNat_lt.mpr g2) rfl<|ah (az (Km hl) aD)<|cP<|qY<|Ko hm hl g1 e
end
end
@[reducible] noncomputable def wq (x:Option Str)(Y:af):Res V:=match x with
 |some path=>.ok (.str path) Y
 |none=>.exc 64 Y
section
variable {O:ar} {k:Nat} {Y aw Y':af} {A:Ad} {r:Rw} {L:mj} {N:Loc} {RF:Res fc} {m sn:Nat} {p:Pl}
theorem Kq {c:X}{ss:List S}{W C:Nat}{al:af}(h:jm (wp O c) (λN Y=>bZ O W ss N Y) W N Y=.exc C al):nO O W (.whl c ss) N Y=.exc C al:=DC h
theorem Kr {names:cY}(hl:names.length<100){pre rest:cY}(hn:names=pre++rest){here:Str}(hmb:eV Y (.ref m) tD=some 316)(hms:eV Y (.ref m) mQ=some 323)(hb:O 316 [.ref m,.str p.str,.U<|names.map .str,.int 0] Y=.ok (.U [.str here,.int pre.length]) Y){r:Res V}(hs:jf O m sn p Y here rest r):
  bk tx O 309 [.ref m,.str p.str,.U<|names.map .str,.str aB,.int 0,.ref sn] Y=r:=by
 have first:∀{RF:Res fc},bZ O 400 (PS.body.drop 1) (yZ m p (names.map .str) sn here pre.length none none) Y=RF->bZ O 400 PS.body [some<|.ref m,some<|.str p.str,some<|.U<|names.map .str,some<|.str aB,some<|.int 0,some<|.ref sn,ai,ai,ai,ai,ai,ai] Y=RF:=λ{RF} hx=>
  ah (az (bO (I rfl) hmb (aa (I rfl)<|aa (I rfl)<|aa (I rfl) ae) hb)<|ez rfl rfl<|aR aD<|aR aD dg) hx
 have hd:names.drop pre.length=rest:=by rw[hn,List.drop_append_of_le_length<|a9 _,List.drop_length];rfl
 have hle:pre.length<=names.length:=by rw[hn,b0];exact dX _ _
 have hlr:rest.length<400:=by rw[hn,b0] at hl;exact eB (kI (Nat.le_add_left _ _) hl)<|aN rfl
 have w:=GO hms hl hs pre.length none none 400 hd hle hlr;cases w with
 |ok path x8 x9 e=>
  exact bf rfl rfl rfl<|first (ah (DC e)<|ah (aA (ic<|f6 (aq (I rfl) ag rfl) rfl<|f0<|eJ<|kt (aq (I rfl) ag rfl) rfl) rfl ay)<|bP<|bL<|I rfl)
 |exc e=>exact gj rfl rfl rfl<|first (cP<|Kq e)
theorem Ks (h:Hs aw Y (mI A r++L)){names:cY}(hl:names.length<100){pre rest:cY}(hn:names=pre++rest){here:Str}{P:Option Str->Prop}
  (hb:∀Y,run tx (k+4) 316 [.ref A.m,.str p.str,.U<|names.map .str,.int 0] Y=.ok (.U [.str here,.int pre.length]) Y)
  (hs:∀Y' ce,Hs aw Y' (mI {A with ce:=ce} r++L)->∀sn,∃x:Option Str,jf (run tx (k+4)) A.m sn p Y' here rest (wq x Y')/\P x):
  ∃Y' ce x,P x/\Hs aw Y' (mI {A with ce:=ce} r++L)/\run tx (k+6) 302 [.ref A.m,.str p.str,.U<|names.map .str,.str aB,.int 0] Y=(wq x Y'):=by
 have g0:=h.push (J:=[.dict []]);have g1:=g0.set 1 rfl (c':=.dict<|sK A.ck A.cp A.ct A.cg A.ci Y.length);have g2:=g1.push (J:=[.list []]);have g3:Hs aw (((Y++[Cell.dict []]).set A.d<|.dict<|sK A.ck A.cp A.ct A.cg A.ci Y.length)++[Cell.list []]) (mI {A with ce:=Y.length} r++L):=g2;refine aI (hs _ _ g3 ((Y++[Cell.dict []]).set A.d<|.dict<|sK A.ck A.cp A.ct A.cg A.ci Y.length).length) λx hx hP=>zz _ Y.length x hP g3 ?_;have hw:=Kr (O:=run tx (k+4)) hl hn (bY (g2.get 0 rfl) (g2.get 1 rfl) rfl rfl) (bY (g2.get 0 rfl) (g2.get 1 rfl) rfl rfl) (hb _) hx;have hL:(names.map V.str).length<10000:=by rw[cu];exact lt_num ‹_› rfl
 have e:aV (run tx (k+5)) (.bG (.l 0) ui [.l 1,.bi .tuple [.l 2],.l 3,.l 4,.s []]) [some<|.ref A.m,some<|.str p.str,some<|.U<|names.map .str,some<|.str aB,some<|.int 0,none] ((Y++[Cell.dict []]).set A.d<|.dict<|sK A.ck A.cp A.ct A.cg A.ci Y.length)=wq x (((Y++[Cell.dict []]).set A.d<|.dict<|sK A.ck A.cp A.ct A.cg A.ci Y.length)++[Cell.list []]):=
  bO (I rfl) (bY (g1.get 0 rfl) (g1.get 1 rfl) rfl rfl) (aa (I rfl)<|aa (cL (aa (I rfl) ae)<|b9 rfl hL)<|aa (I rfl)<|aa (I rfl)<|aa (bh ae) ae) hw
 have st:∀{RF:Res fc},bZ (run tx (k+5)) 400 (Fk.body.drop 1) [some<|.ref A.m,some<|.str p.str,some<|.U<|names.map .str,some<|.str aB,some<|.int 0,none] ((Y++[Cell.dict []]).set A.d<|.dict<|sK A.ck A.cp A.ct A.cg A.ci Y.length)=RF->bZ (run tx (k+5)) 400 Fk.body [some<|.ref A.m,some<|.str p.str,some<|.U<|names.map .str,some<|.str aB,some<|.int 0,none] Y=RF:=λ{RF} hx=>
  ah (az (l7 ae)<|iY (I rfl) (vB (g0.get 0 rfl) (g0.get 1 rfl) rfl<|aN rfl)<|DA (g0.get 0 rfl) (g0.get 1 rfl)<|by k_all) hx
 rw[dA];cases x with
 |some path=>
  apply bf (i:=Fk) (R:=(some<|.str path,_)) rfl rfl rfl;exact st<|bP<|bL e
 |none=>
  apply gj (i:=Fk) rfl rfl rfl;exact st<|cP<|oJ e
end
inductive DG (p rows:ii)(n:Str):Option Bool->Prop
 |no:aL rows n=none->DG p rows n none
 |yes {path:Str} {b:Bool}:aL rows n=some (.str path)->aL p path=some (.bool b)->DG p rows n (some b)
inductive Bq (Y:af)(us:ii)(n:Str):Option Bool->Prop
 |no:aL us n=none->Bq Y us n none
 |yes {e:Nat} {b:Bool} {names:aG}:aL us n=some (.ref (e+1))->Y[e+1]?=some (.inst 203 e)->Y[e]?=some (.dict (dO names b))->Bq Y us n (some b)
noncomputable def zb (l:List Bool):Bool:=l.isEmpty||l.any id
section
variable {O:ar} {k:Nat} {Y aw Y':af} {A A':Ad} {B:Td} {r:Rw} {q:Tw} {L R:mj} {N loc':Loc} {RF:Res fc} {m e:Nat} {p:Pl} {n o:Str}
variable {t:Nat}
theorem xC (h:Hs aw Y (iD A B r q R)){rows:ii}(hq:Y[t]?=some (.dict rows)){bt:Option Bool}(ht:DG r.p rows n bt){acc:aG}(Om:acc.length<10):
  iL O [none,none,some<|.str n,some<|.ref A.m] [1] [.m .In (.l 2)<|.l 1] (.i (.attr (.l 3) dB)<|.i (.l 1)<|.l 2) (.ref t) acc Y=.ok (acc++bt.toList.map .bool) Y:=by
 cases ht with
 |no e=>
  rw[show acc++(none:Option Bool).toList.map V.bool=acc from gp _];exact jq rfl<|mE (aq (I rfl) (I rfl)<|wn hq (by rw[e];rfl)) rfl
 |yes e e2=>
  exact dC rfl (oF (aq (I rfl) (I rfl)<|wn hq (by rw[e];rfl)) rfl cH) (aF (bX rfl (h.get 0 rfl) (h.get 1 rfl) rfl rfl rfl) (aF (I rfl) (I rfl)<|fh hq e)<|fh (h.get 3 rfl) e2)<|lt_num ‹_› rfl
theorem Kt {u:Nat}{l:aG}(ht:Y[t]?=some (.list l))(hu:Y[u]?=some (.list [])):cy Y .Eq (.ref t) (.ref u)=some l.isEmpty:=by
 have h:=ig ht hu;have e:cy Y .NotEq (.ref t) (.ref u)=(cy Y .Eq (.ref t)<|.ref u).map λb=>!b:=rfl;rw[e] at h;cases q:cy Y .Eq (.ref t) (.ref u) with
 |none=>rw[q] at h;cases h
 |some b=>
  rw[q,Option.map_some] at h;have h:=aT h;cases b<;>cases q2:l.isEmpty<;>rw[q2] at h<;>first | rfl | cases h
theorem vG (m:Nat):∀l:List Bool,pQ (dH Y (m+1)) (l.map V.bool)=some (l.map PyData.bool)
 | []=>rfl
 |b::r=>by
  show(pQ (dH Y (m+1))<|r.map V.bool).map _= _;rw[vG m r];rfl
theorem xD:∀l:List Bool,PyData.canLayAll0 (l.map PyData.bool)=true
 | []=>rfl
 |b::r=>by rw[d8,PyData.canLayAll0,xD r];rfl
theorem xE:∀l:List Bool,((l.map PyData.bool).any λy=>PyData.eqv y<|.bool true)=l.any id
 | []=>rfl
 |b::r=>by
  rw[d8,sj,sj,xE r];cases b<;>rfl
theorem Ku {l:List Bool}(ht:Y[t]?=some (.list<|l.map .bool)):cy Y .In (.bool true) (.ref t)=some (l.any id):=by
 refine(in_of ht).trans ?_;have e1:dH Y 12 (.ref t)=some (.list<|l.map PyData.bool):=by rw[jt ht,vG 10 l];rfl
 refine(yJ e1 rfl (by rw[xD];rfl)).trans ?_;rw[xE]
variable {init:aG}
theorem NQ {v:V}(hl:init.length<100):cb Y (.U (init++[v])) (.int (-1))=some v:=by
 have hL:(init++[v]).length=init.length+1:=by rw[b0];rfl
 rw[Em];unfold WE;rw[if_pos<|show smallInt (-1)=true from rfl];have hs:seqIndex? (-1:Int) (init++[v]).length=some init.length:=by
  unfold seqIndex?;rw[hL];simp only[show((-1:Int)<0) from by decide,if_true];rw[if_pos (by rw[kJ,mn,mn];omega)]
  congr 1
  omega
 rw[hs];show(init++[v])[init.length]?=some v;rw[j9<|a9 _,nU];rfl
theorem Kv {v:V}(hl:init.length<100):rt Y (.U (init++[v])) (.int (-1))=.ok (.U init) Y:=by
 refine(if_pos ⟨rfl,by rw[b0,gQ];exact fA ‹_› rfl⟩).trans ?_;rw[List.dropLast_concat]
theorem Br {l:List Bool}{N:Loc}(hl:N[6]?=some (some<|.ref t))(ht:Y[t]?=some (.list<|l.map .bool)):
  aV O (.or [.m .Eq (.l 6)<|.s [],.m .In (.c<|.bool true)<|.l 6]) N Y=.ok (.bool<|zb l) (Y++[.list []]):=by
 refine ic<|ve (aq (I hl) (bh ae)<|Kt (ak ht) ao) lK ?_
 cases l with
 |nil=>rfl
 |cons b l=>exact f0<|aq ag (I hl)<|Ku<|ak ht
theorem Bt (h:Hs aw Y (iD A B r q R)){x1 x2:jJ}(hk:aL r.k o=some (.str bU))(hm:aL r.tab o=some (.ref B.t)){bt bv bu:Option Bool}(ht:DG r.p q.t n bt)(hv:DG r.p q.v n bv)(hu:Bq Y q.u n bu):
  ∃loc' J,bZ O 400 (pV.body.drop 3) [some<|.ref A.m,x1,x2,some<|.str n,some<|.str o,none,none,none,none] Y=.ok (some<|.bool<|zb (bt.toList++bv.toList++bu.toList),loc') (Y++J):=by
 have e6:dk (iL O [none,none,some<|.str n,some<|.ref A.m] [1] [.m .In (.l 2)<|.l 1]<|.i (.attr (.l 3) dB)<|.i (.l 1)<|.l 2) (.U [.ref B.tt,.ref B.tv]) [.ref B.tt,.ref B.tv] [.ref B.tt,.ref B.tv] [] Y=.ok ((bt.toList++bv.toList).map .bool) Y:=by
  refine bo (xC h (h.get 9 rfl) ht<|aN rfl) rfl<|bo (xC h (h.get 10 rfl) hv (by cases bt<;>exact aN rfl)) rfl ?_
  rw[jc];rfl
 have pre:∀{RF:Res fc},bZ O 400 (pV.body.drop 6) [some<|.ref A.m,x1,x2,some<|.str n,some<|.str o,some<|.ref B.t,some<|.ref Y.length,none,none] (Y++[.list<|(bt.toList++bv.toList).map .bool])=RF->bZ O 400 (pV.body.drop 3) [some<|.ref A.m,x1,x2,some<|.str n,some<|.str o,none,none,none,none] Y=RF:=λ{RF} hx=>by
  refine ah (aA (aq (aF (bX rfl (h.get 0 rfl) (h.get 1 rfl) rfl rfl rfl) (I rfl)<|fh (h.get 2 rfl) hk) ag<|by rfl) rfl ay)<|ah (az (aF (bX rfl (h.get 0 rfl) (h.get 1 rfl) rfl rfl rfl) (I rfl)<|fh (h.get 4 rfl) hm) aD) ?_
  exact ah (az (dU (aS<|aa (bX rfl (h.get 7 rfl) (h.get 8 rfl) rfl rfl rfl)<|aa (bX rfl (h.get 7 rfl) (h.get 8 rfl) rfl rfl rfl) ae) rfl e6) aD) hx
 have g:=h.push (J:=[.list<|(bt.toList++bv.toList).map .bool]);have au:aV O (.attr (.l 5) gv) [some<|.ref A.m,x1,x2,some<|.str n,some<|.str o,some<|.ref B.t,some<|.ref Y.length,none,none] (Y++[.list<|(bt.toList++bv.toList).map .bool])=.ok (.ref B.tu) (Y++[.list<|(bt.toList++bv.toList).map .bool]):=bX rfl (g.get 7 rfl) (g.get 8 rfl) rfl rfl rfl;cases hu with
 |no e=>
  refine E7 ([some<|.ref A.m,x1,x2,some<|.str n,some<|.str o,some<|.ref B.t,some<|.ref Y.length,none,none]) ([.list<|(bt.toList++bv.toList).map .bool,.list []])<|pre ?_
  refine ah (aA (aq (I rfl) au<|wn (g.get 11 rfl) (b:=false) (by rw[e];rfl)) rfl ay) ?_;rw[show(none:Option Bool).toList=[] from rfl,gp];have:=bP (W:=400) (ss:=[])<|bL (W:=400)<|Br (O:=O) (N:=[some<|.ref A.m,x1,x2,some<|.str n,some<|.str o,some<|.ref B.t,some<|.ref Y.length,none,none]) rfl<|ao (Y:=Y) (c:=.list<|(bt.toList++bv.toList).map .bool)
  rw[bQ Y] at this;exact this
 |@yes e b names e1 e2 e3=>
  refine E7 ([some<|.ref A.m,x1,x2,some<|.str n,some<|.str o,some<|.ref B.t,some<|.ref Y.length,none,none]) ([.list<|(bt.toList++bv.toList++[b]).map .bool,.list []])<|pre ?_
  have hs:(Y++[Cell.list<|(bt.toList++bv.toList).map .bool]).set Y.length (.list<|(bt.toList++bv.toList).map .bool++[.bool b])=Y++[.list<|(bt.toList++bv.toList++[b]).map .bool]:=by
   rw[List.set_append_right _ _<|a9 _,nU,jc (l₁:=bt.toList++bv.toList)];rfl
  have ha:=append_at (v:=.bool b) (ao (Y:=Y) (c:=.list<|(bt.toList++bv.toList).map .bool)) (by cases bt<;>cases bv<;>exact aN rfl)
  rw[hs] at ha;refine ah (bj (aq (I rfl) au<|wn (g.get 11 rfl) (b:=true) (by rw[e1];rfl)) rfl<|ah (gR<|jS (I rfl) (gO ao<|.inl rfl) (aa (tO (aF au (I rfl)<|fh (g.get 11 rfl) e1) (vB (ak e2) (ak e3) rfl<|aN rfl)<|EP (ak e2) (ak e3) rfl) ae) ha) ay) ?_;have:=bP (W:=400) (ss:=[])<|bL (W:=400)<|Br (O:=O) (N:=[some<|.ref A.m,x1,x2,some<|.str n,some<|.str o,some<|.ref B.t,some<|.ref Y.length,none,none]) rfl<|ao (Y:=Y) (c:=.list<|(bt.toList++bv.toList++[b]).map .bool)
  rw[bQ Y] at this;exact this
theorem vH (c1:Y[e+1]?=some (.inst 203 e)){pub:Bool}(c2:Y[e]?=some (.dict<|dO (init++[.str n]) pub))(hl:init.length<100){x0 x1:jJ}(hx:bZ O 400 (pV.body.drop 1) [x0,x1,some<|.ref (e+1),some<|.str n,ai,ai,ai,ai,ai] Y=RF):
  bZ O 400 pV.body [x0,x1,some<|.ref (e+1),ai,ai,ai,ai,ai,ai] Y=RF:=
 ah (az (aF (bX rfl c1 c2 rfl rfl rfl) ag<|NQ hl) aD) hx
theorem Kw (h:Hs aw Y (mI A r++L))(c1:Y[e+1]?=some (.inst 203 e)){pub:Bool}(c2:Y[e]?=some (.dict<|dO ([]++[.str n]) pub))(hw:anyS n [aQ,dJ,c9]=true){path:Str}{b:Bool}(hp:aL r.p path=some (.bool b)){L':mj}(h':Hs aw Y' (mI A' r++L'))(hA:A'.cp=A.cp)
  (hf:run tx k 302 [.ref A.m,.str p.str,.U [.str n],.str aB,.int 0] Y=.ok (.str path) Y'):run tx (k+1) 364 [.ref A.m,.str p.str,.ref (e+1)] Y=.ok (.bool b) Y':=by
 rw[dA];apply bf (i:=pV) (R:=(some<|.bool b,_)) rfl rfl rfl;have hc:cy Y .In (.str n) (.U [.str aQ,.str dJ,.str c9])=some true:=by rw[<-hw];rfl
 have h3:=h'.get 3 rfl;rw[hA] at h3;refine vH c1 c2 (aN rfl)<|ah (bj (aq (I rfl) ag hc) rfl<|bP<|bL<|aF (bX rfl (h.get 0 rfl) (h.get 1 rfl) rfl rfl rfl) (bO (I rfl) (bY (h.get 0 rfl) (h.get 1 rfl) rfl rfl) (aa (I rfl)<|aa (bX rfl c1 c2 rfl rfl rfl)<|aa ag<|aa (bX rfl c1 c2 rfl rfl rfl) ae) hf)<|fh h3 hp) rfl
theorem RI {a:Nat}{b:Bool}(h:decide (a=1)=b):cy Y .Eq (.int a) (.int 1)=some b:=by
 have e:cy Y .Eq (.int a) (.int 1)=some (decide ((a:Int)=1)):=rfl;rw[e,<-h]
 congr 1
 exact decide_eq_decide.mpr (by omega)
end
section
variable {O:ar} {k:Nat} {Y aw Y':af} {A A':Ad} {B:Td} {r:Rw} {q:Tw} {L R:mj} {N loc':Loc} {RF:Res fc} {m e:Nat} {p:Pl} {n o:Str}
variable {pub:Bool}
theorem Kx (h:Hs aw Y (iD A B r q R))(c1:Y[e+1]?=some (.inst 203 e))(c2:Y[e]?=some (.dict<|dO ([]++[.str n]) pub))(hw:anyS n [aQ,dJ,c9]=false)
  (hk:aL r.k p.str=some (.str bU)) (hm:aL r.tab p.str=some (.ref B.t)) {bt bv bu:Option Bool} (ht:DG r.p q.t n bt) (hv:DG r.p q.v n bv) (hu:Bq Y q.u n bu):
  ∃J,run tx (k+1) 364 [.ref A.m,.str p.str,.ref (e+1)] Y=.ok (.bool<|zb (bt.toList++bv.toList++bu.toList)) (Y++J):=by
 refine kf (Bt (O:=run tx k) (x1:=some<|.str p.str) (x2:=some<|.ref (e+1)) h hk hm ht hv hu) λloc' J et=>⟨J,?_⟩;rw[dA];apply bf (i:=pV) (R:=(some _,loc')) rfl rfl rfl;have hc:cy Y .In (.str n) (.U [.str aQ,.str dJ,.str c9])=some false:=by rw[<-hw];rfl
 exact vH c1 c2 (aN rfl)<|ah (aA (aq (I rfl) ag hc) rfl ay)<|ah (az (fk (aq (cL (aa (bX rfl c1 c2 rfl rfl rfl) ae)<|y0<|aN rfl) ag rfl) rfl<|I rfl) aD) et
variable {init:aG}
theorem rY (h:Hs aw Y (mI A r++L))(c1:Y[e+1]?=some (.inst 203 e))(c2:Y[e]?=some (.dict<|dO (init++[.str n]) pub))(hl:init.length<100)(h0:0<init.length)(hw:anyS n [aQ,dJ,c9]=false){x:Option Str}
  (hf:O 302 [.ref A.m,.str p.str,.U init,.str aB,.int 0] Y=wq x Y'):
  (∀path RF,x=some path->bZ O 400 (pV.body.drop 3) [some<|.ref A.m,some<|.str p.str,some<|.ref (e+1),some<|.str n,some<|.str path,none,none,none,none] Y'=RF->bZ O 400 pV.body [some<|.ref A.m,some<|.str p.str,some<|.ref (e+1),ai,ai,ai,ai,ai,ai] Y=RF)/\
  (x=none->bZ O 400 pV.body [some<|.ref A.m,some<|.str p.str,some<|.ref (e+1),ai,ai,ai,ai,ai,ai] Y=.exc 64 Y'):=by
 have hc:cy Y .In (.str n) (.U [.str aQ,.str dJ,.str c9])=some false:=by rw[<-hw];rfl
 have an:∀{N:Loc},N[2]?=some (some<|.ref (e+1))->aV O (.attr (.l 2) iT) N Y=.ok (.U<|init++[.str n]) Y:=λhl=>tO (I hl) (vB c1 c2 rfl<|aN rfl)<|EP c1 c2 rfl
 have ef:∀{r:Res V},r=wq x Y'->aV O (.ite (.m .Eq (.bi .len [.attr (.l 2) iT])<|.xi 1) (.l 1)<|.bG (.l 0) kO [.l 1,.slcTo (.attr (.l 2) iT)<|.xi (-1),.xs aB,.attr (.l 2) lV]) [some<|.ref A.m,some<|.str p.str,some<|.ref (e+1),some<|.str n,ai,ai,ai,ai,ai] Y=r:=λ{r} hr=>
  fU (aq (cL (aa (an rfl) ae)<|y0 (by rw[b0,gQ];omega)) ag (RI (by rw[decide_eq_false_iff_not,b0,gQ];omega):cy Y .Eq (.int ((init++[V.str n]).length:Int)) (.int 1)=some false)) rfl (bO (I rfl) (bY (h.get 0 rfl) (h.get 1 rfl) rfl rfl) (aa (I rfl)<|aa (vc (an rfl) ag<|Kv hl)<|aa ag<|aa (bX rfl c1 c2 rfl rfl rfl) ae)<|hf.trans hr.symm)
 have pre:∀{RF:Res fc},bZ O 400 (pV.body.drop 2) [some<|.ref A.m,some<|.str p.str,some<|.ref (e+1),some<|.str n,ai,ai,ai,ai,ai] Y=RF->bZ O 400 pV.body [some<|.ref A.m,some<|.str p.str,some<|.ref (e+1),ai,ai,ai,ai,ai,ai] Y=RF:=λ{RF} hx=>
  vH c1 c2 hl (ah (aA (aq (I rfl) ag hc) rfl ay) hx)
 refine⟨λpath RF hx hk=>?_,λhx=>?_⟩
 ·exact pre<|ah (az (ef<|by rw[hx]) aD) hk
 ·exact pre<|cP<|qY<|ef<|by rw[hx]
theorem Bu (h:Hs aw Y (mI A r++L))(c1:Y[e+1]?=some (.inst 203 e))(c2:Y[e]?=some (.dict<|dO (init++[.str n]) pub))(hl:init.length<100)(h0:0<init.length)(hw:anyS n [aQ,dJ,c9]=false)
  (hf:run tx k 302 [.ref A.m,.str p.str,.U init,.str aB,.int 0] Y=.exc 64 Y'):run tx (k+1) 364 [.ref A.m,.str p.str,.ref (e+1)] Y=.exc 64 Y':=by
 rw[dA];apply gj rfl rfl rfl;exact(rY h c1 c2 hl h0 hw hf).2 rfl
theorem GP (h:Hs aw Y (mI A r++L))(c1:Y[e+1]?=some (.inst 203 e))(c2:Y[e]?=some (.dict<|dO (init++[.str n]) pub))(hl:init.length<100)(h0:0<init.length)(hw:anyS n [aQ,dJ,c9]=false){path:Str}
  (hf:run tx k 302 [.ref A.m,.str p.str,.U init,.str aB,.int 0] Y=.ok (.str path) Y') (hA:A'.m=A.m) {L':mj} (h':Hs aw Y' (mI A' r++L')) (hk:aL r.k path=some (.str cX)) {b:Bool} (hp:aL r.p path=some (.bool b)):run tx (k+1) 364 [.ref A.m,.str p.str,.ref (e+1)] Y=.ok (.bool b) Y':=by
 rw[dA];have h1:=h'.get 0 rfl;rw[hA] at h1;apply bf (i:=pV) (R:=(some<|.bool b,_)) rfl rfl rfl;exact(rY h c1 c2 hl h0 hw hf).1 path _ rfl (ah (bj (aq (aF (bX rfl h1 (h'.get 1 rfl) rfl rfl rfl) (I rfl)<|fh (h'.get 2 rfl) hk) ag<|by rfl) rfl<|bP<|bL<|aF (bX rfl h1 (h'.get 1 rfl) rfl rfl rfl) (I rfl)<|fh (h'.get 3 rfl) hp) rfl)
theorem Ky (h:Hs aw Y (mI A r++L))(c1:Y[e+1]?=some (.inst 203 e))(c2:Y[e]?=some (.dict<|dO (init++[.str n]) pub))(hl:init.length<100)(h0:0<init.length)(hw:anyS n [aQ,dJ,c9]=false){path:Str}
  (hf:run tx k 302 [.ref A.m,.str p.str,.U init,.str aB,.int 0] Y=.ok (.str path) Y') (hA:A'.m=A.m) (h':Hs aw Y' (iD A' B r q R)) (hk:aL r.k path=some (.str bU)) (hm:aL r.tab path=some (.ref B.t)) {bt bv bu:Option Bool} (ht:DG r.p q.t n bt) (hv:DG r.p q.v n bv) (hu:Bq Y' q.u n bu):
  ∃J,run tx (k+1) 364 [.ref A.m,.str p.str,.ref (e+1)] Y=.ok (.bool<|zb (bt.toList++bv.toList++bu.toList)) (Y'++J):=by
 refine kf (Bt (O:=run tx k) (x1:=some<|.str p.str) (x2:=some<|.ref (e+1)) h' hk hm ht hv hu) λloc' J et=>?_;rw[hA] at et;refine⟨J,?_⟩;rw[dA];apply bf (i:=pV) (R:=(some _,loc')) rfl rfl rfl;exact(rY (x:=some path) h c1 c2 hl h0 hw hf).1 path _ rfl et
end
noncomputable def sel {α:Type}(p:Pl)(x y z:α):α:=match p with
 | .o=>x
 | .a=>y
 | .ab=>z
structure PW where
 (B0 B1 B2:Td) (u0 u1 u2:ii) (pb:Nat->Bool) (ls:List Lk)
def PW.B (W:PW)(p:Pl):Td:=sel p W.B0 W.B1 W.B2
def PW.u (W:PW)(p:Pl):ii:=sel p W.u0 W.u1 W.u2
abbrev PW.r (W:PW):Rw:=yX W.pb [(z_,.ref W.B0.t),(dG,.ref W.B1.t),(aP,.ref W.B2.t)]
abbrev mh (W:PW)(U:mj)(aw Y:af)(A:Ad):Prop:=Kh aw Y A W.B0 W.B1 W.B2 W.u0 W.u1 W.u2 U W.pb W.ls
theorem RJ {α:Type}(C T0 T1 T2 X:List α):(C++(T0++(T2++(T1++X)))).Perm (C++(T2++(T1++(T0++X)))):=((List.perm_append_comm_assoc T0 T2 (T1++X)).trans<|(List.perm_append_comm_assoc T0 T1 X).append_left T2).append_left C
theorem RK {α:Type}(C T1 T2 X:List α):(C++(T1++(T2++X))).Perm (C++(T2++(T1++X))):=(List.perm_append_comm_assoc T1 T2 X).append_left C
section
variable {O:ar} {k:Nat} {Y aw Y':af} {A:Ad} {W:PW} {U:mj} {m sn e:Nat} {p g:Pl} {n o s:Str}
theorem mh.iD (H:mh W U aw Y A)(p:Pl):∃R,Hs aw Y (iD A (W.B p) W.r (px p<|W.u p) R):=by
 refine aM H.hs λR h=>?_;cases p with
 |ab=>exact⟨_,h⟩
 |a=>exact⟨_,h.perm<|RK _ _ _ _⟩
 |o=>exact⟨_,h.perm<|RJ _ _ _ _ _⟩
theorem mh.cell (H:mh W U aw Y A){x:Nat × Cell}(hx:x∈U):Y[x.1]?=some x.2:=by
 exact aM H.hs λR h=>h.told x<|kH _<|kH _<|kH _<|kH _<|jF _ hx
theorem mh.grow (H:mh W U aw Y A):dp aw Y:=by
 exact aM H.hs λR h=>h.grow
theorem mh.push (H:mh W U aw Y A){J:af}:mh W U aw (Y++J) A:=by
 exact aM H.hs λR h=>⟨⟨R,h.push⟩,H.o,H.a,H.ab⟩
theorem mh.pin (H:mh W U aw Y A){c:Cell}:mh W (U++[(Y.length,c)]) aw (Y++[c]) A:=by
 exact aM H.hs λR h=>⟨⟨R,(h.add).perm<|Jh _ _ _ _ _ _ _⟩,H.o.mono λx hx=>jF _ hx,H.a.mono λx hx=>jF _ hx,H.ab.mono λx hx=>jF _ hx⟩
theorem pj {l:ii}{row:Str × V}:aL (l++[row]) s=match aL l s with
  |some v=>some v
  |none=>if row.1=s then some row.2 else none:=by
 unfold aL;rw[List.find?_append];cases l.find? λp=>decide (p.1=s) with
 |some v=>rfl
 |none=>
  rw[Option.none_or,List.find?_cons];by_cases h:row.1=s
  ·rw[dP h,if_pos h];rfl
  ·rw[eN h,if_neg h];rfl
theorem fM.none {R:mj}{rows:ii}{us:List Lk}(h:fM R rows us)(hs:∀l∈us,uN l.i≠s):aL rows s=none:=by
 induction h with
 |nil=>rfl
 |snoc _ h2 ih=>
  rw[pj,ih λl hl=>hs l<|jF _ hl,if_neg];rw[h2.name];exact hs _<|kH _<|.head _
theorem fM.get {R:mj}{rows:ii}{us:List Lk}(h:fM R rows us)(nd:(us.map λu=>uN u.i).Nodup){l:Lk}(hl:l∈us):∃v,aL rows (uN l.i)=some v/\Bo R (uN l.i,v) l:=by
 induction h with
 |nil=>cases hl
 |@snoc rows ls row l' h1 h2 ih=>
  rw[jc,r9] at nd;refine aY (fb.mp hl) (λhl=>?_) λhl=>?_
  ·exact aI (ih nd.1 hl) λv e1 e2=>bD v (by rw[pj,e1]) e2
  ·cases cK.mp hl;refine bD row.2 ?_ ⟨rfl,h2.cells⟩;rw[pj,h1.none λl hl=>?_,if_pos h2.name];exact nd.2.2 _ (bT.mpr ⟨l,hl,rfl⟩) _<|bT.mpr ⟨_,.head _,rfl⟩
theorem mh.uses (H:mh W U aw Y A)(p:Pl):fM U (W.u p) (cJ p W.ls):=by
 cases p with
 |o=>exact H.o
 |a=>exact H.a
 |ab=>exact H.ab
theorem mh.use (H:mh W U aw Y A)(gX:iO W.ls){l:Lk}(hl:l∈cJ p W.ls):∃e,aL (W.u p) (uN l.i)=some (.ref (e+1))/\Y[e+1]?=some (.inst 203 e)/\Y[e]?=some (.dict<|dO (l.names.map .str) l.pub):=by
 refine aI ((H.uses p).get (tW gX p) hl) λv e1 e2=>jI e2.cells λe e3 h1 h2=>?_;cases e3;exact lA e e1 (H.cell h2)<|H.cell h1
theorem mh.no (H:mh W U aw Y A)(gX:iO W.ls)(hs:∀i,i<6->uN i≠s):aL (W.u p) s=none:=
 (H.uses p).none λl hl=>hs _ (gX.ok l<|di hl).1
theorem mh.find (H:mh W U aw Y A){names:cY}(hl:names.length<100){pre rest:cY}(hn:names=pre++rest){here:Str}{P:Option Str->Prop}
  (hb:∀Y,run tx (k+4) 316 [.ref A.m,.str p.str,.U<|names.map .str,.int 0] Y=.ok (.U [.str here,.int pre.length]) Y)
  (hs:∀Y' ce,mh W U aw Y' {A with ce:=ce}->∀sn,∃x:Option Str,jf (run tx (k+4)) A.m sn p Y' here rest (wq x Y')/\P x):
  ∃Y' ce x,P x/\mh W U aw Y' {A with ce:=ce}/\run tx (k+6) 302 [.ref A.m,.str p.str,.U<|names.map .str,.str aB,.int 0] Y=wq x Y':=by
 exact aM H.hs λR h=>kg (Ks h hl hn hb λY' ce h' sn=>hs Y' ce ⟨⟨R,h'⟩,H.o,H.a,H.ab⟩ sn) λY' ce x h1 h2 h3=>zz Y' ce x h1 ⟨⟨R,h2⟩,H.o,H.a,H.ab⟩ h3
theorem vI (p:Pl):aL W.r.k p.str=some (.str bU):=by cases p<;>k_all
theorem zd (p:Pl):aL W.r.tab p.str=some (.ref (W.B p).t):=by cases p<;>k_all
theorem mh.step (H:mh W U aw Y A){path:Str}{b:Bool}(hn:aL (px g []).t n=some (.str path))(hp:aL W.r.p path=some (.bool b))(Ls:∀Y,∃msg,jk Y .Add (.str path) (.str DY)=.ok (.str msg) Y):
  run tx (k+4) 323 [.ref A.m,.str p.str,.str g.str,.str n,.str aB,.int 0,.ref sn] Y=if b||within p g then .ok (.str path) Y else .exc 64 Y:=by
 refine aM (H.iD g) λR h=>?_;refine aM (Ls Y) λmsg Ls=>Kk (bY (h.get 0 rfl) (h.get 1 rfl) rfl rfl) (Kj h (vI g) (zd g) (by cases g<;>exact hn:aL (px g<|W.u g).t n=some (.str path)) hp Ls) ?_
 cases (b||within p g)
 ·exact .inr rfl
 ·exact .inl ⟨_,rfl⟩
theorem jf.app {m sn:Nat}{here mid:Str}{l1 l2:cY}{r:Res V}(h:jf O m sn p Y here l1 (.ok (.str mid) Y))(k:jf O m sn p Y mid l2 r):jf O m sn p Y here (l1++l2) r:=by
 generalize e:(Res.ok (.str mid) Y:Res V)=r1 at h
 induction h with
 |done=>cases e;exact k
 |more h1 _ ih=>exact .more h1<|ih e
 |exc _=>cases e
theorem jf.VK {m sn:Nat}{here:Str}{l1 l2:cY}(h:jf O m sn p Y here l1 (.exc 64 Y)):jf O m sn p Y here (l1++l2) (.exc 64 Y):=by
 generalize e:(Res.exc 64 Y:Res V)=r1 at h
 induction h with
 |done=>cases e
 |more h1 _ ih=>exact .more h1<|ih e
 |exc h1=>exact .exc h1
def fY (pb:Nat->Bool)(p:Pl):Pl->Bool
 | .ab=>pb 1||within p .a
 |_=>true
theorem vJ (H:mh W U aw Y A)(p g:Pl):jf (run tx (k+4)) A.m sn p Y z_ g.parts (wq (if fY W.pb p g then some g.str else none) Y):=by
 have sa:run tx (k+4) 323 [.ref A.m,.str p.str,.str z_,.str dG,.str aB,.int 0,.ref sn] Y=.ok (.str dG) Y:=by
  have:=H.step (k:=k) (sn:=sn) (p:=p) (g:=.o) (n:=dG) (path:=dG) (b:=W.pb 0) (by k_all) (by k_all) λM=>⟨_,rfl⟩;rw[(by cases p<;>rfl:within p .o=true),Bool.or_true] at this
  exact this
 cases g with
 |o=>exact .done
 |a=>exact .more sa .done
 |ab=>
  have sb:=H.step (k:=k) (sn:=sn) (p:=p) (g:=.a) (n:=BR) (path:=aP) (b:=W.pb 1) (by k_all) (by k_all) λM=>⟨_,rfl⟩;show jf _ _ _ _ _ _ _ (wq (if (W.pb 1||within p .a) then _ else _) Y);cases q:(W.pb 1||within p .a) with
  |true=>rw[q] at sb;exact .more sa<|.more sb .done
  |false=>rw[q] at sb;exact .more sa<|.exc sb
theorem Bv (H:mh W U aw Y A)(p g:Pl):jf (run tx (k+4)) A.m sn p Y z_ (g.parts++[eD]) (wq (if fY W.pb p g&&(W.pb (jx g .E)||within p g) then some (jn g .E) else none) Y):=by
 have h1:=vJ (k:=k) (sn:=sn) H p g;have se:run tx (k+4) 323 [.ref A.m,.str p.str,.str g.str,.str eD,.str aB,.int 0,.ref sn] Y=if W.pb (jx g .E)||within p g then .ok (.str<|jn g .E) Y else .exc 64 Y:=by
  cases g<;>exact H.step (k:=k) (by k_all) (by k_all) λM=>⟨_,rfl⟩
 cases q:fY W.pb p g with
 |false=>rw[q] at h1;exact h1.VK
 |true=>
  rw[q] at h1;rw[Bool.true_and];cases q2:(W.pb (jx g .E)||within p g) with
  |true=>rw[q2] at se;exact h1.app<|.more se .done
  |false=>rw[q2] at se;exact h1.app<|.exc se
theorem oO {ps:V}{rest:aG}(hl:rest.length<100):run tx (k+1) 316 [.ref m,ps,.U (.str aQ::rest),.int 0] Y=.ok (.U [.str z_,.int 1]) Y:=by
 rw[dA];apply bf (i:=Ua) (R:=(some<|.U [.str z_,.int 1],_)) rfl rfl rfl;exact ah (aA (aq (I rfl) (aS ae) rfl) rfl ay)<|ah (bj (aq (aF (I rfl) ag<|Kl rfl (by rw[dE];omega)) ag rfl) rfl<|bP<|bL<|aS<|aa ag<|aa ag ae) rfl
end
inductive fE (pb:Nat->Bool)(ls:List Lk):Pl->List Str->Bool->Prop
 |name (p g:Pl) (n:Nm):fE pb ls p ((aQ::g.parts)++[n.str]) (fY pb p g&&pb (jx g n))
 |var (p g:Pl):fE pb ls p ((aQ::(g.parts++[eD]))++[PF]) (fY pb p g&&pb (jx g .E))
 |own (p:Pl) (n:Nm):fE pb ls p [n.str] (pb (jx p n))
 |some (p:Pl):fE pb ls p [xX] true
 |link (p:Pl) (l:Lk):l∈ls->fE pb ls p ((aQ::l.place.parts)++[uN l.i]) (fY pb p l.place&&l.pub)
 |sup_a:fE pb ls .a [c9] true
 |sup_ab:fE pb ls .ab [c9] (pb 0)
 |crate (p:Pl):fE pb ls p [aQ] true
 |self:fE pb ls .o [dJ] true
 |ga (p:Pl):fE pb ls p ((aQ::Pl.o.parts)++[dG]) (pb 0)
 |gab (p:Pl):fE pb ls p ((aQ::Pl.a.parts)++[BR]) (pb 1)
def EV (W:PW)(U:mj)(aw:af)(A:Ad)(opn:Bool)(r:Res V):Prop:=∃Y' ce,mh W U aw Y' {A with ce:=ce}/\(r=.ok (.bool opn) Y'∨(opn=false/\r=.exc 64 Y'))
theorem VL {s:Str}(h:∀i:Fin 6,decide (uN i.1=s)=false):∀i,i<6->uN i≠s:=λi hi=>of_decide_eq_false<|h ⟨i,hi⟩
section
variable {k:Nat} {Y aw Y':af} {A A':Ad} {W:PW} {U:mj} {m sn e:Nat} {p g:Pl} {n o s:Str}
variable {b:Bool}
theorem vK:zb [b]=b:=by cases b<;>rfl
theorem RM:zb [b,b]=b:=by cases b<;>rfl
theorem EW (W:PW)(g:Pl)(n:Nm):∃bt bv,DG W.r.p (px g<|W.u g).t n.str bt/\DG W.r.p (px g<|W.u g).v n.str bv/\zb (bt.toList++bv.toList++(none:Option Bool).toList)=W.pb (jx g n):=by
 cases n with
 |f=>exact eT none (some<|W.pb<|jx g .f) (.no (by cases g<;>k_all)) (.yes (path:=jn g .f) (by cases g<;>k_all) (by cases g<;>k_all)) vK
 |S=>exact eT (some<|W.pb<|jx g .S) (some<|W.pb<|jx g .S) (.yes (path:=jn g .S) (by cases g<;>k_all) (by cases g<;>k_all)) (.yes (path:=jn g .S) (by cases g<;>k_all) (by cases g<;>k_all)) RM
 |E=>exact eT (some<|W.pb<|jx g .E) none (.yes (path:=jn g .E) (by cases g<;>k_all) (by cases g<;>k_all)) (.no (by cases g<;>k_all)) vK
theorem mh.Kz (H:mh W U aw Y A)(gX:iO W.ls)(hs:∀i:Fin 6,decide (uN i.1=s)=false):Bq Y (px p<|W.u p).u s none:=by
 have:=H.no (p:=p) gX<|VL hs
 cases p<;>exact .no this
theorem KC {p:Pl}{us:ii}:(px p us).u=us:=by cases p<;>rfl
variable {pub:Bool}
theorem mh.tell (H:mh W U aw Y A)(c1:Y[e+1]?=some (.inst 203 e))(c2:Y[e]?=some (.dict<|dO (((aQ::g.parts)++[n]).map .str) pub))(hw:anyS n [aQ,dJ,c9]=false)
  (h:∀Y',(∃ce,mh W U aw Y' {A with ce:=ce})->∃bt bv bu,DG W.r.p (px g<|W.u g).t n bt/\DG W.r.p (px g<|W.u g).v n bv/\Bq Y' (px g<|W.u g).u n bu/\zb (bt.toList++bv.toList++bu.toList)=b):
  EV W U aw A (fY W.pb p g&&b) (run tx (k+7) 364 [.ref A.m,.str p.str,.ref (e+1)] Y):=by
 rw[jc] at c2;have hl:(aQ::g.parts).length<100:=by cases g<;>exact aN rfl
 have lS:((aQ::g.parts).map V.str).length<100:=by rw[cu];exact hl
 have h0:0<((aQ::g.parts).map V.str).length:=by rw[cu];exact Nat.succ_pos _
 refine kg (H.find (k:=k) (p:=p) hl (pre:=[aQ]) (rest:=g.parts) rfl (here:=z_) (P:=λx=>x=if fY W.pb p g then some g.str else none) (λY=>oO (by rw[cu];cases g<;>exact aN rfl)) λY' ce H' sn=>⟨_,vJ (k:=k) H' p g,rfl⟩) λY' ce x hx H' hf=>?_
 refine aM (H.iD .o) λR hs=>?_;cases q:fY W.pb p g with
 |false=>
  rw[q] at hx;cases hx;exact jX Y' ce H'<|.inr ⟨rfl,Bu hs c1 c2 lS h0 hw hf⟩
 |true=>
  rw[q] at hx;cases hx;exact aM (H'.iD g) λR' BM=>ud (h Y' ⟨ce,H'⟩) λbt bv bu t1 t2 t3 t4=>aM (Ky (k:=k+6) (A':={A with ce:=ce}) hs c1 c2 lS h0 hw hf rfl BM (vI g) (zd g) t1 t2 t3) λJ ht=>jX (Y'++J) ce H'.push<|.inl<|by rw[ht,t4,Bool.true_and]
theorem xF (H:mh W U aw Y A)(c1:Y[e+1]?=some (.inst 203 e)){bt bv bu:Option Bool}(c2:Y[e]?=some (.dict<|dO ([n].map .str) pub))(hw:anyS n [aQ,dJ,c9]=false)(t1:DG W.r.p (px p<|W.u p).t n bt)(t2:DG W.r.p (px p<|W.u p).v n bv)(t3:Bq Y (px p<|W.u p).u n bu):EV W U aw A (zb (bt.toList++bv.toList++bu.toList)) (run tx (k+7) 364 [.ref A.m,.str p.str,.ref (e+1)] Y):=by
 exact aM (H.iD p) λR h=>aM (Kx h c1 c2 hw (vI p) (zd p) t1 t2 t3) λJ ht=>jX (Y++J) A.ce H.push<|.inl ht
theorem pp (H:mh W U aw Y A)(c1:Y[e+1]?=some (.inst 203 e)){w:Str}(path:Str)(c2:Y[e]?=some (.dict<|dO ([w].map .str) pub))(hw:anyS w [aQ,dJ,c9]=true)(hp:aL W.r.p path=some (.bool b))(hb:(∀Y,run tx (k+4) 316 [.ref A.m,.str p.str,.U<|[w].map .str,.int 0] Y=.ok (.U [.str path,.int 1]) Y)):EV W U aw A b (run tx (k+7) 364 [.ref A.m,.str p.str,.ref (e+1)] Y):=by
 refine aM (H.iD p) λR h=>kg (H.find (k:=k) (p:=p) (names:=[w]) (aN rfl) (pre:=[w]) (rest:=[]) rfl (here:=path) (P:=λx=>x=some path) hb λY' ce H' sn=>⟨_,.done,rfl⟩) λY' ce x hx H' hf=>?_;cases hx;exact aM H'.hs λR' h'=>jX Y' ce H'<|.inl<|Kw h c1 c2 hw hp h' rfl hf
theorem KD (H:mh W U aw Y A)(gX:iO W.ls){names:cY}{opn:Bool}(hu:fE W.pb W.ls p names opn)(c1:Y[e+1]?=some (.inst 203 e))(c2:Y[e]?=some (.dict<|dO (names.map .str) pub)):
  EV W U aw A opn (run tx (k+7) 364 [.ref A.m,.str p.str,.ref (e+1)] Y):=by
 induction hu with
 |name p g n=>
  refine cZ (EW W g n) λbt bv t1 t2 t3=>?_;exact H.tell c1 c2 (by cases n<;>rfl) λY' ⟨ce,H'⟩=>⟨bt,bv,none,t1,t2,H'.Kz gX (by cases n<;>decide+kernel),t3⟩
 |var p g=>
  refine aM (H.iD p) λR h=>?_;rw[jc] at c2;have hl:(aQ::(g.parts++[eD])).length<100:=by cases g<;>exact aN rfl
  have lS:((aQ::(g.parts++[eD])).map V.str).length<100:=by rw[cu];exact hl
  have h0:0<((aQ::(g.parts++[eD])).map V.str).length:=by rw[cu];exact Nat.succ_pos _
  refine kg (H.find (k:=k) (p:=p) hl (pre:=[aQ]) (rest:=g.parts++[eD]) rfl (here:=z_) (P:=λx=>x=if fY W.pb p g&&(W.pb (jx g .E)||within p g) then some (jn g .E) else none) (λY=>oO (by rw[cu];cases g<;>exact aN rfl)) λY' ce H' sn=>⟨_,Bv (k:=k) H' p g,rfl⟩) λY' ce x hx H' hf=>?_
  cases q:(fY W.pb p g&&(W.pb (jx g .E)||within p g)) with
  |false=>
   rw[q] at hx;cases hx;refine jX Y' ce H'<|.inr ⟨?_,Bu h c1 c2 lS h0 rfl hf⟩
   cases q1:fY W.pb p g with
   |false=>rfl
   |true=>
    rw[q1,Bool.true_and] at q;rw[Bool.true_and];cases q2:W.pb (jx g .E) with
    |false=>rfl
    |true=>rw[q2] at q;cases q
  |true=>
   rw[q] at hx;cases hx;refine aM H'.hs λR' h'=>jX Y' ce H'<|.inl ?_
   rw[((kJ _ _▸q).1:fY W.pb p g=true),Bool.true_and];exact GP (k:=k+6) (A':={A with ce:=ce}) h c1 c2 lS h0 rfl hf rfl h' (by cases g<;>k_all) (by cases g<;>k_all)
 |own p n=>
  refine cZ (EW W p n) λbt bv t1 t2 t3=>?_;rw[<-t3];exact xF H c1 c2 (by cases n<;>rfl) t1 t2<|H.Kz gX (by cases n<;>decide+kernel)
 |some p=>
  exact xF H c1 (bt:=none) (bv:=none) (bu:=none) c2 rfl (.no (by cases p<;>k_all)) (.no (by cases p<;>k_all))<|H.Kz gX<|by decide+kernel
 |link p l hl=>
  refine cN (vE l.i (gX.ok l hl).1) λf1 f2=>?_;have hw:anyS (uN l.i) [aQ,dJ,c9]=false:=by
   unfold i8 at f1;rw[kJ,nS,nS] at f1;exact f1.2
  refine H.tell c1 c2 hw λY' ⟨ce,H'⟩=>jI (H'.use gX (List.mem_filter.mpr ⟨hl,by cases l.place<;>rfl⟩:l∈cJ l.place W.ls)) λe' e1 e2 e3=>?_
  refine sV none none (Option.some l.pub) (.no ?_) (.no ?_) (.yes (by rw[KC];exact e1) e2 e3) vK
  ·rw[<-(f2 l.place).1];cases l.place<;>rfl
  ·rw[<-(f2 l.place).2];cases l.place<;>rfl
 |sup_a=>exact pp H c1 z_ c2 rfl (by k_all) λY=>by k_all
 |sup_ab=>exact pp H c1 dG c2 rfl (by k_all) λY=>by k_all
 |crate p=>exact pp H c1 z_ c2 rfl (by k_all) λY=>oO<|aN rfl
 |self=>exact pp H c1 z_ c2 rfl (by k_all) λY=>by k_all
 |ga p=>exact H.tell c1 c2 rfl λY' ⟨ce,H'⟩=>⟨Option.some<|W.pb 0,none,none,.yes (path:=dG) (by k_all) (by k_all),.no (by k_all),H'.Kz gX (by decide+kernel),vK⟩
 |gab p=>exact H.tell (g:=.a) c1 c2 rfl λY' ⟨ce,H'⟩=>⟨Option.some<|W.pb 1,none,none,.yes (path:=aP) (by k_all) (by k_all),.no (by k_all),H'.Kz gX (by decide+kernel),vK⟩
end
noncomputable def Lk.bad (l:Lk):Bool:=l.pub&&!l.opn
theorem Bw {s x:Str}:∀{l:cY},s∈v8 x l↔s=x∨s∈l
 | []=>by unfold v8;exact aX
 |y::r=>by
  unfold v8;split
  ·rw[aX,aX,Bw];exact⟨λh=>h.elim (λh=>.inr<|.inl h) λh=>h.elim .inl λh=>.inr<|.inr h,λh=>h.elim (λh=>.inr<|.inl h) λh=>h.elim .inl λh=>.inr<|.inr h⟩
  ·exact aX
theorem rZ {s:Str}:∀{l:cY},s∈mt l↔s∈l
 | []=>Iff.rfl
 |y::r=>by
  show s∈v8 y (mt r)↔_;rw[Bw,rZ,aX]
theorem fM.keys {R:mj}{rows:ii}{us:List Lk}(h:fM R rows us):rows.map (·.1)=us.map λu=>uN u.i:=by
 induction h with
 |nil=>rfl
 |snoc _ h2 ih=>rw[jc,jc,ih];exact bH _<|bH (λx=>[x]) h2.name
theorem KE {Y:af}:∀i,i<6->∃m1 m2,jk Y .Add (.str ya) (.str<|uN i)=.ok (.str m1) Y/\jk Y .Add (.str m1) (.str Hv)=.ok (.str m2) Y
 | 0,_=>⟨_,_,rfl,rfl⟩
 | 1,_=>⟨_,_,rfl,rfl⟩
 | 2,_=>⟨_,_,rfl,rfl⟩
 | 3,_=>⟨_,_,rfl,rfl⟩
 | 4,_=>⟨_,_,rfl,rfl⟩
 | 5,_=>⟨_,_,rfl,rfl⟩
 |n+6,h=>absurd h (by omega)
abbrev NR:List S:=[.set (.l 4)<|.i (.attr (.l 2) gv)<|.l 3,.ite (.and [.attr (.l 4) jK,.not<|.bG (.l 0) hH [.l 1,.l 4]]) [.raise 64 (.bin .Add (.bin .Add (.xs ya)<|.l 3)<|.xs Hv)<|.attr (.l 4) lV] []]
abbrev KG (O:ar):V->Loc->af->Res fc:=λv N Y=>(tG O (.l 3) v N Y).bind λN Y=>bZ O 400 NR N Y
abbrev VM:List S:=[.set (.l 2)<|.i (.attr (.l 0) dK)<|.l 1,.for (.l 3) (.bi .sorted [.attr (.l 2) gv]) NR]
abbrev NS (O:ar):V->Loc->af->Res fc:=λv N Y=>(tG O (.l 1) v N Y).bind λN Y=>bZ O 400 VM N Y
noncomputable abbrev mi (m:Nat)(x1 x2 x3 x4:jJ):Loc:=[some<|.ref m,x1,x2,x3,x4,none,none]
section
variable {O:ar} {k:Nat} {Y aw Y':af} {A:Ad} {W:PW} {U U':mj} {m e:Nat} {p:Pl} {n o s:Str} {x1 x2 x3 x4:jJ}
variable {x:X} {N:Loc} {C:Nat} {al:af}
theorem KH {ss tt:List S}(h:aV O x N Y=.exc C al):nO O 400 (.ite x ss tt) N Y=.exc C al:=dz<|dz h
theorem KI (h:aV O x N Y=.exc C al):ny O [x] N Y=.exc C al:=dz h
theorem KK (h:aV O x N Y=.exc C al):aV O (.not x) N Y=.exc C al:=dz<|dz h
theorem KL (H:mh W U aw Y A)(gX:iO W.ls)(Hd:∀l∈W.ls,fE W.pb W.ls l.place l.names l.opn){l:Lk}(hl:l∈cJ p W.ls):
  ∃Y' ce,mh W U aw Y' {A with ce:=ce}/\((l.bad=false/\∃y3 y4,KG (run tx (k+7)) (.str<|uN l.i) (mi A.m (some<|.str p.str) (some<|.ref (W.B p).t) x3 x4) Y=.ok (none,mi A.m (some<|.str p.str) (some<|.ref (W.B p).t) y3 y4) Y')∨(l.bad=true/\KG (run tx (k+7)) (.str<|uN l.i) (mi A.m (some<|.str p.str) (some<|.ref (W.B p).t) x3 x4) Y=.exc 64 Y')):=by
 refine aM (H.iD p) λR h=>jI (H.use gX hl) λe e1 c1 c2=>?_;have hp:l.place=p:=by
  have:=(List.mem_filter.mp hl).2;cases p<;>cases hq:l.place<;>rw[hq] at this<;>first | rfl | cases this
 have hu:=Hd l<|di hl
 rw[hp] at hu;have RW:=h.get 11 rfl;rw[KC] at RW;have pre:∀{RF:Res fc},bZ (run tx (k+7)) 400 (NR.drop 1) (mi A.m (some<|.str p.str) (some<|.ref (W.B p).t) (some<|.str<|uN l.i)<|some<|.ref (e+1)) Y=RF->KG (run tx (k+7)) (.str<|uN l.i) (mi A.m (some<|.str p.str) (some<|.ref (W.B p).t) x3 x4) Y=RF:=λ{RF} hx=>by
  have:bZ (run tx (k+7)) 400 NR (mi A.m (some<|.str p.str) (some<|.ref (W.B p).t) (some<|.str<|uN l.i) x4) Y=RF:=
   ah (az (aF (bX rfl (h.get 7 rfl) (h.get 8 rfl) rfl rfl rfl) (I rfl)<|fh RW e1) aD) hx
  exact this
 have ap:aV (run tx (k+7)) (.attr (.l 4) jK) (mi A.m (some<|.str p.str) (some<|.ref (W.B p).t) (some<|.str<|uN l.i)<|some<|.ref (e+1)) Y=.ok (.bool l.pub) Y:=bX rfl c1 c2 rfl rfl rfl;cases hpub:l.pub with
 |false=>
  rw[hpub] at ap;refine jX Y A.ce H<|.inl ⟨by unfold Lk.bad;rw[hpub];rfl,some<|.str<|uN l.i,some<|.ref (e+1),pre ?_⟩
  exact ah (aA (eJ<|kt ap rfl) rfl ay) ay
 |true=>
  rw[hpub] at ap;refine gm (KD (k:=k) (p:=p) H gX hu c1 c2) λY' ce H' ht=>?_;have hm:∀{r:Res V},run tx (k+7) 364 [.ref A.m,.str p.str,.ref (e+1)] Y=r->aV (run tx (k+7)) (.bG (.l 0) hH [.l 1,.l 4]) (mi A.m (some<|.str p.str) (some<|.ref (W.B p).t) (some<|.str<|uN l.i)<|some<|.ref (e+1)) Y=r:=λhr=>
   bO (I rfl) (bY (h.get 0 rfl) (h.get 1 rfl) rfl rfl) (aa (I rfl)<|aa (I rfl) ae) hr
  refine aY ht (λht=>?_) λZk=>?_
  ·cases ho:l.opn with
   |true=>
    rw[ho] at ht;refine jX Y' ce H'<|.inl ⟨by unfold Lk.bad;rw[ho,hpub];rfl,some<|.str<|uN l.i,some<|.ref (e+1),pre ?_⟩
    exact ah (aA (eJ<|gM ap rfl<|ip<|lg (hm ht) rfl) rfl ay) ay
   |false=>
    rw[ho] at ht;refine jI (H'.use gX hl) λe' Sl c1' Op=>?_;have he:e'=e:=by rw[e1] at Sl;cases Sl;rfl
    subst he;refine gm (KE (Y:=Y') l.i (gX.ok l<|di hl).1) λm1 m2 g1 g2=>?_;refine jX Y' ce H'<|.inr ⟨by unfold Lk.bad;rw[ho,hpub];rfl,pre ?_⟩
    exact cP<|bj (eJ<|gM ap rfl<|ip<|lg (hm ht) rfl) rfl<|cP<|oG (eX (eX ag (I rfl) g1) ag g2)<|bX rfl c1' Op rfl rfl rfl
  ·refine cN Zk λho ht=>?_;refine jX Y' ce H'<|.inr ⟨by unfold Lk.bad;rw[ho,hpub];rfl,pre ?_⟩
   exact cP<|KH<|eJ<|gM ap rfl<|KI<|KK<|hm ht
theorem DH (gX:iO W.ls)(Hd:∀l∈W.ls,fE W.pb W.ls l.place l.names l.opn){si:Nat}{all:aG}(hsi:(si,Cell.list all)∈U):∀(rest:cY) {Y:af} {A:Ad} {x3 x4:jJ},(∀s∈rest,∃l∈cJ p W.ls,s=uN l.i)->mh W U aw Y A->
  ∃Y' ce,mh W U aw Y' {A with ce:=ce}/\(((∀s∈rest,∃l∈cJ p W.ls,s=uN l.i/\l.bad=false)/\∃y3 y4,forL (KG<|run tx (k+7)) (.ref si) all (rest.map .str) (mi A.m (some<|.str p.str) (some<|.ref (W.B p).t) x3 x4) Y=.ok (none,mi A.m (some<|.str p.str) (some<|.ref (W.B p).t) y3 y4) Y')∨
   ((∃l∈W.ls,l.bad=true)/\forL (KG<|run tx (k+7)) (.ref si) all (rest.map .str) (mi A.m (some<|.str p.str) (some<|.ref (W.B p).t) x3 x4) Y=.exc 64 Y')):=by
 intro rest
 induction rest with
 |nil=>
  intro Y A x3 x4 _ H;exact jX Y A.ce H<|.inl ⟨λM h=>(nomatch h),x3,x4,eQ⟩
 |cons s rest ih=>
  intro Y A x3 x4 hr H;refine aI (hr s<|.head _) λl hl dZ=>?_;subst dZ;refine gm (KL (k:=k) (x3:=x3) (x4:=x4) H gX Hd hl) λal VN wr h1=>aY h1 (λZl=>?_) λZm=>?_
  ·refine LV Zl λhb y3 y4 e1=>gm (ih (x3:=y3) (x4:=y4) (λs hs=>hr s<|.tail _ hs) wr) λax EX ze h2=>jX ax EX ze<|aY h2 (λZn=>?_) λZo=>?_
   ·refine LV Zn λhb2 z3 z4 e2=>.inl<|Xu (λs hs=>?_) z3 z4<|aZ e1 (ba<|wr.cell hsi) e2
    rcases aX.mp hs with rfl | hs
    ·exact lA l hl rfl hb
    ·exact hb2 s hs
   ·exact cN Zo λhb2 e2=>.inr ⟨hb2,aZ e1 (ba<|wr.cell hsi) e2⟩
  ·exact cN Zm λhb e1=>jX al VN wr<|.inr ⟨⟨l,di hl,hb⟩,qe e1⟩
theorem Bx {t:Nat}{l:ii}(h:Y[t]?=some (.dict l))(hl:l.length<64):vS Y .sorted [.ref t]=.ok (.ref Y.length) (Y++[.list<|(mt<|l.map (·.1)).map .str]):=by
 show pS Y t (λl=>if l.length<64 then alloc Y (.list<|(mt<|l.map (·.1)).map .str) else .stuck)= _;exact cq (CZ h)<|(if_pos hl).trans rfl
theorem qh (H:mh W U aw Y A)(gX:iO W.ls)(Hd:∀l∈W.ls,fE W.pb W.ls l.place l.names l.opn)(p:Pl):
  ∃Y' ce U',mh W (U++U') aw Y' {A with ce:=ce}/\(((∀l∈cJ p W.ls,l.bad=false)/\∃y2 y3 y4,NS (run tx (k+7)) (.str p.str) (mi A.m x1 x2 x3 x4) Y=.ok (none,mi A.m (some<|.str p.str) y2 y3 y4) Y')∨((∃l∈W.ls,l.bad=true)/\NS (run tx (k+7)) (.str p.str) (mi A.m x1 x2 x3 x4) Y=.exc 64 Y')):=by
 refine aM (H.iD p) λR h=>?_;have RW:=h.get 11 rfl;rw[KC] at RW;have hk:=(H.uses p).keys;have hlen:(W.u p).length<64:=by
  have:=bH List.length hk;rw[cu,cu] at this;have:=lm gX p;omega
 have hs:=Bx RW hlen;rw[hk] at hs;obtain⟨ax,EX,ze,h2⟩:=DH gX Hd (kH _<|.head _) (mt<|(cJ p W.ls).map λu=>uN u.i) (λs hs=>by
  refine aI (bT.mp<|rZ.mp hs) λl hl e=>?_;exact⟨l,hl,e.symm⟩) (H.pin)
 have pre:∀{RF:Res fc},bZ (run tx (k+7)) 400 VM (mi A.m (some<|.str p.str) x2 x3 x4) Y=RF->NS (run tx (k+7)) (.str p.str) (mi A.m x1 x2 x3 x4) Y=RF:=λhx=>hx;have st:nO (run tx (k+7)) 400 (.set (.l 2)<|.i (.attr (.l 0) dK)<|.l 1) (mi A.m (some<|.str p.str) x2 x3 x4) Y=.ok (none,mi A.m (some<|.str p.str) (some<|.ref (W.B p).t) x3 x4) Y:=
  az (aF (bX rfl (h.get 0 rfl) (h.get 1 rfl) rfl rfl rfl) (I rfl)<|fh (h.get 4 rfl)<|zd p) aD
 have es:aV (run tx (k+7)) (.bi .sorted [.attr (.l 2) gv]) (mi A.m (some<|.str p.str) (some<|.ref (W.B p).t) x3 x4) Y=.ok (.ref Y.length) (Y++[.list<|(mt<|(cJ p W.ls).map λu=>uN u.i).map .str]):=
  cL (aa (bX rfl (h.get 7 rfl) (h.get 8 rfl) rfl rfl rfl) ae) hs
 refine aY h2 (λZp=>?_) λZq=>?_
 ·refine LV Zp λhb y3 y4 e2=>BX ax EX _ ze<|.inl ⟨λl hl=>?_,some<|.ref (W.B p).t,y3,y4,pre<|ah st<|ah (gB es (cI ao) e2) ay⟩
  refine jI (hb _<|rZ.mpr<|bT.mpr ⟨l,hl,rfl⟩) λl' lS e BK=>?_;have:l=l':=by
   refine aM (List.mem_iff_getElem?.mp<|di hl) λa ha=>aM (List.mem_iff_getElem?.mp<|di lS) λb hb=>?_;have hab:a=b:=kD gX.nd (i:=a) (j:=b) (a:=l.i) (by rw[fP,ha];rfl) (by rw[fP,hb,Option.map_some,Kg (gX.ok l<|di hl).1 (gX.ok l'<|di lS).1 e]);rw[hab,hb] at ha;cases ha;rfl
  rw[this];exact BK
 ·exact cN Zq λhb e2=>BX ax EX _ ze<|.inr ⟨hb,pre<|ah st<|cP<|gB es (cI ao) e2⟩
theorem By (H:mh W U aw Y A)(gX:iO W.ls)(Hd:∀l∈W.ls,fE W.pb W.ls l.place l.names l.opn):
  ∃Y',dp aw Y'/\(((∀l∈W.ls,l.bad=false)/\run tx (k+8) 359 [.ref A.m] Y=.ok .none Y')∨((∃l∈W.ls,l.bad=true)/\run tx (k+8) 359 [.ref A.m] Y=.exc 64 Y')):=by
 refine aM (H.iD .o) λR h=>?_;have hs:=Bx (h.get 4 rfl)<|aN rfl
 rw[(by k_all:(mt<|W.r.tab.map (·.1)).map V.str=[.str z_,.str dG,.str aP])] at hs;have es:aV (run tx (k+7)) (.bi .sorted [.attr (.l 0) dK]) (mi A.m none none none none) Y=.ok (.ref Y.length) (Y++[.list [.str z_,.str dG,.str aP]]):=
  cL (aa (bX rfl (h.get 0 rfl) (h.get 1 rfl) rfl rfl rfl) ae) hs
 have bad:∀{Y':af},dp aw Y'->(∃l∈W.ls,l.bad=true)->forL (NS<|run tx (k+7)) (.ref Y.length) [.str z_,.str dG,.str aP] [.str z_,.str dG,.str aP] (mi A.m none none none none) (Y++[.list [.str z_,.str dG,.str aP]])=.exc 64 Y'->∃Y',dp aw Y'/\(((∀l∈W.ls,l.bad=false)/\run tx (k+8) 359 [.ref A.m] Y=.ok .none Y')∨((∃l∈W.ls,l.bad=true)/\run tx (k+8) 359 [.ref A.m] Y=.exc 64 Y')):=λ{Y'} G hb e=>by
  refine bD Y' G<|.inr ⟨hb,?_⟩
  rw[dA];apply gj (i:=PT) rfl rfl rfl;exact cP<|gB es (cI ao) e
 have zk:∀X:mj,(Y.length,Cell.list [.str z_,.str dG,.str aP])∈(U++[(Y.length,Cell.list [.str z_,.str dG,.str aP])])++X:=λX=>jF _<|kH _<|.head _
 refine rm (qh (k:=k) (x1:=none) (x2:=none) (x3:=none) (x4:=none) (H.pin (c:=.list [.str z_,.str dG,.str aP])) gX Hd .o) λal c₁ Zr wr h1=>?_;rcases h1 with ⟨b1,y2,y3,y4,e1⟩ | ⟨hb,e1⟩
 rotate_left
 ·exact bad wr.grow hb<|qe e1
 refine rm (qh (k:=k) (x1:=some<|.str z_) (x2:=y2) (x3:=y3) (x4:=y4) wr gX Hd .a) λax c₂ QJ ze h2=>?_;rcases h2 with ⟨b2,w2,w3,w4,e2⟩ | ⟨hb,e2⟩
 rotate_left
 ·exact bad ze.grow hb<|aZ e1 (ba<|wr.cell<|zk _)<|qe e2
 refine rm (qh (k:=k) (x1:=some<|.str dG) (x2:=w2) (x3:=w3) (x4:=w4) ze gX Hd .ab) λbB aas F5 RN h3=>?_;have Sr:(Y.length,Cell.list [.str z_,.str dG,.str aP])∈(U++[(Y.length,Cell.list [.str z_,.str dG,.str aP])])++Zr++QJ:=jF _<|zk _
 rcases h3 with ⟨b3,v2,v3,v4,e3⟩ | ⟨hb,e3⟩
 rotate_left
 ·exact bad RN.grow hb<|aZ e1 (ba<|wr.cell<|zk _)<|aZ e2 (ba<|ze.cell Sr)<|qe e3
 refine bD bB RN.grow<|.inl ⟨λl hl=>?_,?_⟩
 ·have lS:l∈cJ l.place W.ls:=List.mem_filter.mpr ⟨hl,by cases l.place<;>rfl⟩
  cases hp:l.place with
  |o=>rw[hp] at lS;exact b1 l lS
  |a=>rw[hp] at lS;exact b2 l lS
  |ab=>rw[hp] at lS;exact b3 l lS
 ·rw[dA];apply bf (i:=PT) (R:=(none,_)) rfl rfl rfl;exact ah (gB es (cI ao)<|aZ e1 (ba<|wr.cell<|zk _)<|aZ e2 (ba<|ze.cell Sr)<|aZ e3 (ba<|RN.cell<|jF _ Sr) eQ) ay
end
abbrev Lk.U (l:Lk):V:=.U [.str l.place.str,.U<|l.names.map .str,.str<|uN l.i,.bool l.pub,.bool l.opn]
def itemsOf (p:Pl)(pb:Nat->Bool)(ls:List Lk):aG:=match p with
 | .o=>j6 pb ls
 | .a=>ja pb ls
 | .ab=>iy pb ls
abbrev lkB:List S:=[.ite (.m .Eq (.l 6)<|.l 0) [.ex<|.bm (.l 3) .append [.U [.xs sq,.xi 0,.l 7,.l 8,.l 9]]] []]
abbrev lkF (O:ar):V->Loc->af->Res fc:=λv N Y=>(tG O (.U [.l 6,.l 7,.l 8,.l 9,.l 10]) v N Y).bind λN Y=>bZ O 400 lkB N Y
noncomputable abbrev Bz (p:Pl)(pd lk t:Nat)(x4 x5 x6 x7 x8 x9 DQ:jJ):Loc:=[some<|.str p.str,some<|.ref pd,some<|.ref lk,some<|.ref t,x4,x5,x6,x7,x8,x9,DQ,ai,ai,ai,ai,ai]
section
variable {O:ar} {k:Nat} {Y aw Y' al:af} {p g:Pl} {n o s:Str} {pd lk t:Nat} {pb:Nat->Bool} {ls:List Lk} {x4 x5 x6 x7 x8 x9 DQ:jJ}
theorem ln (p:Pl)(n:Nm):run tx (k+1) 404 [.str p.str,.str n.str] Y=.ok (.str<|jn p n) Y:=by cases p<;>cases n<;>k_all
theorem RO (b:Bool):run tx (k+1) 425 [.str dQ,.bool b] Y=.ok (cQ dQ<|.bool b) Y:=by k_all
theorem Pe {q:Pl}:cy Y .Eq (.str q.str) (.str p.str)=some (p.is q):=by cases q<;>cases p<;>rfl
theorem DI (tB:∀Y',dp aw Y'->same Y' (.ref lk) (ls.map Lk.U)=true)(ht:aw.length<=t):∀(rest:List Lk) {Y:af} {acc:aG} {x6 x7 x8 x9 DQ:jJ},dp aw Y->Y[t]?=some (.list acc)->acc.length+rest.length<1000->
  ∃Y' y6 y7 y8 y9 Ss,forL (lkF O) (.ref lk) (ls.map Lk.U) (rest.map Lk.U) (Bz p pd lk t x4 x5 x6 x7 x8 x9 DQ) Y=.ok (none,Bz p pd lk t x4 x5 y6 y7 y8 y9 Ss) Y'/\dp aw Y'/\Y'[t]?=some (.list<|acc++(cJ p rest).map Lk.item):=by
 intro rest
 induction rest with
 |nil=>
  intro Y acc x6 x7 x8 x9 DQ hg h _;exact E8 Y x6 x7 x8 x9 DQ eQ hg (by rw[show(cJ p []).map Lk.item=[] from rfl,gp];exact h)
 |cons l rest ih=>
  intro Y acc x6 x7 x8 x9 DQ hg h hlen;rw[dE] at hlen;have pre:∀{RF:Res fc},bZ O 400 lkB (Bz p pd lk t x4 x5 (some<|.str l.place.str) (some<|.U<|l.names.map .str) (some<|.str<|uN l.i) (some<|.bool l.pub)<|some<|.bool l.opn) Y=RF->lkF O l.U (Bz p pd lk t x4 x5 x6 x7 x8 x9 DQ) Y=RF:=λ{RF} hx=>hx;cases q:p.is l.place with
  |true=>
   have Xb:dp aw (Y.set t<|.list (acc++[l.item])):=hg.set ht;refine E6 (ih (acc:=acc++[l.item]) (x6:=some<|.str l.place.str) (x7:=some<|.U<|l.names.map .str) (x8:=some<|.str<|uN l.i) (x9:=some<|.bool l.pub) (DQ:=some<|.bool l.opn) Xb (ky h)<|iQ ‹_›) λY' y6 y7 y8 y9 Ss e g h'=>E8 Y' y6 y7 y8 y9 Ss (aZ (pre ?_) (tB _ Xb) e) g ?_
   ·exact ah (bj (aq (I rfl) (I rfl)<|Pe.trans<|by rw[q]) rfl<|ah (gR<|jS (I rfl) (gO h<|.inl rfl) (aa (aS<|aa ag<|aa ag<|aa (I rfl)<|aa (I rfl)<|aa (I rfl) ae) ae)<|append_at h<|iR ‹_› rfl) ay) ay
   ·rw[h',show cJ p (l::rest)=l::cJ p rest from List.filter_cons_of_pos q,d8,bQ];rfl
  |false=>
   refine E6 (ih (acc:=acc) (x6:=some<|.str l.place.str) (x7:=some<|.U<|l.names.map .str) (x8:=some<|.str<|uN l.i) (x9:=some<|.bool l.pub) (DQ:=some<|.bool l.opn) hg h<|BZ ‹_›) λY' y6 y7 y8 y9 Ss e g h'=>E8 Y' y6 y7 y8 y9 Ss (aZ (pre ?_) (tB _ hg) e) g ?_
   ·exact ah (aA (aq (I rfl) (I rfl)<|Pe.trans<|by rw[q]) rfl ay) ay
   ·rw[h',show cJ p (l::rest)=cJ p rest from List.filter_cons_of_neg (by rw[q];exact Bool.false_ne_true)]
theorem sN {l:aG}{v:V}(hl:l.length<100):OD (Y++[Cell.list l]) (.ref Y.length) .append [v]=.ok .none (Y++[.list (l++[v])]):=by
 have:=append_at (v:=v) (ao (Y:=Y) (c:=.list l))<|lt_num ‹_› rfl
 rw[List.set_append_right _ _<|a9 _,nU] at this;exact this
theorem xG (vU:Y[pd]?=some (.dict<|ra pb)){Lu:V}(zk:(aL [(z_,V.str dG),(dG,V.str BR)] p.str).getD .none=Lu){RF:Res fc}
  (hx:bZ (run tx (k+1)) 400 (Fm.body.drop 4) (Bz p pd lk Y.length (some Lu) none none none none none none) (Y++[.list<|i9 p pb]++[.dict [(z_,.str dG),(dG,.str BR)]])=RF):
  bZ (run tx (k+1)) 400 Fm.body [some<|.str p.str,some<|.ref pd,some<|.ref lk,ai,ai,ai,ai,ai,ai,ai,ai,ai,ai,ai,ai,ai] Y=RF:=by
 have i:∀(J:af) (n:Nm),cb (Y++J) (.ref pd) (.str<|jn p n)=some (.bool<|pb<|jx p n):=λJ n=>fh (cF vU)<|rb pb p n
 refine ah (az (bh<|aa (aK (aa ag<|aa (aF (I rfl) (aK (aa (I rfl)<|aa ag ae)<|ln p .f) (fh vU (rb pb p .f):cb Y (.ref pd) (.str<|jn p .f)=some (.bool<|pb<|jx p .f))) ae)<|RO _) ae) aD)<|ah (gR<|jS (I rfl) (gO ao<|.inl rfl) (aa (aS<|aa ag<|aa ag<|aa ag<|aa ag<|aa ag<|aa (aS ae)<|aa (aF (I rfl) (aK (aa (I rfl)<|aa ag ae)<|ln p .S)<|i _ .S) ae) ae)<|sN<|aN rfl) ?_
 exact ah (gR<|jS (I rfl) (gO ao<|.inl rfl) (aa (aS<|aa ag<|aa ag<|aa ag<|aa ag<|aa (aS<|aa (aS<|aa ag<|aa ag<|aa (aS ae) ae) ae)<|aa (aF (I rfl) (aK (aa (I rfl)<|aa ag ae)<|ln p .E)<|i _ .E) ae) ae)<|sN<|aN rfl)<|ah (az (jS (l7<|aa ag<|aa ag ae) (VA ao) (aa (I rfl) ae)<|O7 ao zk) aD) hx
def zf (O:ar)(p:Pl)(pd lk:Nat)(pb:Nat->Bool)(ls:List Lk):Prop:=∀Y:af,Y[pd]?=some (.dict<|ra pb)->Y[lk]?=some (.list<|ls.map Lk.U)->∃j Y',O 453 [.str p.str,.ref pd,.ref lk] Y=.ok (.ref j) Y'/\dp Y Y'/\Y.length<=j/\Y'[j]?=some (.list<|itemsOf p pb ls)
theorem xH (tB:aw[lk]?=some (.list<|ls.map Lk.U))(gX:iO ls)(ht:aw.length<=t)(hg:dp aw Y){acc:aG}(h:Y[t]?=some (.list acc))(Om:acc.length<100):
  ∃loc' Y',bZ O 400 (Fm.body.drop 5) (Bz p pd lk t x4 x5 none none none none none) Y=.ok (some<|.ref t,loc') Y'/\dp aw Y'/\Y'[t]?=some (.list<|acc++(cJ p ls).map Lk.item):=by
 have hl:=gX.len;refine E6 (DI (O:=O) (p:=p) (pd:=pd) (lk:=lk) (t:=t) (x4:=x4) (x5:=x5) (x6:=none) (x7:=none) (x8:=none) (x9:=none) (DQ:=none) (λY' G=>ba<|G.old _ _ tB) ht ls hg h<|by omega) λY' y6 y7 y8 y9 Ss e g h'=>eT (Bz p pd lk t x4 x5 y6 y7 y8 y9 Ss) Y' ?_ g h';exact ah (gB (I rfl) (cI<|hg.old _ _ tB) e)<|bP<|bL<|I rfl
theorem KM (gX:iO ls):zf (run tx (k+2)) .ab pd lk pb ls:=λY vU tB=>by
 refine cZ (xH (O:=run tx (k+1)) (p:=.ab) (pd:=pd) (t:=Y.length) (x4:=some .none) (x5:=none) tB gX (a9 _) ((dp.refl (Y:=Y)).push.push) (ak (c':=.dict [(z_,.str dG),(dG,.str BR)])<|ao (Y:=Y) (c:=.list<|i9 .ab pb))<|aN rfl) λloc' Y' e g h'=>BW Y.length Y' ?_ g (a9 _) h';rw[dA];apply bf (i:=Fm) (R:=(some _,loc')) rfl rfl rfl;exact xG (k:=k) vU rfl<|ah (aA (aq (I rfl) ag rfl) rfl ay) e
theorem BA {q:Pl}{Lu path:Str}{b:Bool}{inner:aG}(gX:iO ls)(zk:(aL [(z_,V.str dG),(dG,V.str BR)] p.str).getD .none=.str Lu)(hj:∀Y,run tx (k+1) 404 [.str p.str,.str Lu] Y=.ok (.str path) Y)(hp:path=q.str)(hb:aL (ra pb) path=some (.bool b))(hil:inner.length<1000)
  (hi:∀Y:af,Y[pd]?=some (.dict<|ra pb)->Y[lk]?=some (.list<|ls.map Lk.U)->∃j Y',run tx (k+1) 453 [.str q.str,.ref pd,.ref lk] Y=.ok (.ref j) Y'/\dp Y Y'/\Y.length<=j/\Y'[j]?=some (.list inner))
  (Y:af) (vU:Y[pd]?=some (.dict<|ra pb)) (tB:Y[lk]?=some (.list<|ls.map Lk.U)):∃j Y',run tx (k+2) 453 [.str p.str,.ref pd,.ref lk] Y=.ok (.ref j) Y'/\dp Y Y'/\Y.length<=j/\Y'[j]?=some (.list (i9 p pb++gP Lu inner (.bool b)::(cJ p ls).map Lk.item)):=by
 have G2:dp Y (Y++[Cell.list<|i9 p pb]++[Cell.dict [(z_,V.str dG),(dG,V.str BR)]]):=(dp.refl (Y:=Y)).push.push;refine sU (hi _ (G2.old _ _ vU)<|G2.old _ _ tB) λj bB e3 G3 M h3=>?_;have ht:bB[Y.length]?=some (.list<|i9 p pb):=G3.old _ _<|ak ao
 refine cZ (xH (O:=run tx (k+1)) (p:=p) (pd:=pd) (t:=Y.length) (x4:=some<|.str Lu) (x5:=some<|.str path) (acc:=i9 p pb++[gP Lu inner<|.bool b]) tB gX (a9 _) ((G2.trans G3).set (a9 _):dp Y (bB.set Y.length<|.list<|i9 p pb++[gP Lu inner<|.bool b])) (ky ht)<|aN rfl) λloc' Y' e g h'=>?_;subst hp;refine BW Y.length Y' ?_ g (a9 _) (by rw[h',bQ];rfl);rw[dA];apply bf (i:=Fm) (R:=(some _,loc')) rfl rfl rfl;refine xG (k:=k) vU zk<|ah (f:=(none,Bz p pd lk Y.length (some<|.str Lu) (some<|.str q.str) none none none none none)) (al:=bB.set Y.length<|.list<|i9 p pb++[gP Lu inner<|.bool b]) (bj (aq (I rfl) ag rfl) rfl ?_) e
 exact ah (az (aK (aa (I rfl)<|aa (I rfl) ae)<|hj _) aD)<|ah (gR<|jS (I rfl) (gO (ak ao)<|.inl rfl) (aa (aS<|aa ag<|aa ag<|aa (I rfl)<|aa (cL (aa (aK (aa (I rfl)<|aa (I rfl)<|aa (I rfl) ae) e3) ae)<|b9 (cE h3)<|lt_num ‹_› rfl)<|aa (aF (I rfl) (I rfl)<|fh ((G2.trans G3).old _ _ vU) hb) ae) ae)<|append_at ht<|aN rfl) ay
theorem NT (gX:iO ls):zf (run tx (k+3)) .a pd lk pb ls:=λY vU tB=>
 BA gX rfl (λY=>by k_all) rfl (by k_all) (sM gX) (KM gX) Y vU tB
theorem NU (gX:iO ls):zf (run tx (k+4)) .o pd lk pb ls:=λY vU tB=>
 BA gX rfl (λY=>by k_all) rfl (by k_all) (vF gX) (NT gX) Y vU tB
end
def lu (pb:Nat->Bool)(ls:List Lk)(s:Nat)(Y:af)(r:Res V):Prop:=∃Y' j p names opn a' b',r=.ok (.ref j) Y'/\Y'[j]?=some (.list [.str p.str,.U<|names.map .str,.bool opn])/\bg s Y Y'/\Y'[s]?=some (aC a' b')/\fE pb ls p names opn
abbrev EY:aG:=[.str z_,.str dG,.str aP]
abbrev oP (s pd lk:Nat)(p:Pl)(d:Int)(g:Pl)(n:Nm)(b:Bool)(x9 DQ:jJ):Loc:=[some<|.ref s,some<|.ref pd,some<|.ref lk,some<|.str p.str,some<|.int d,some<|.str g.str,some<|.U (.str aQ::g.parts.map .str),some<|.str n.str,some<|.bool b,x9,DQ,ai,ai,ai,ai,ai,ai]
section
variable {O:ar} {k:Nat} {Y Y':af} {p g:Pl} {n:Nm} {s pd lk t:Nat} {pb:Nat->Bool} {ls:List Lk} {a b:Int} {d:Int}
theorem vL (hs:Y[s]?=some (aC a b)):∃(p:Pl) (a' b':Int),run tx (k+2) 392 [.ref s,.gl EY] Y=.ok (.str p.str) (Y.set s<|aC a' b'):=by
 refine mN (lO (k+2) (aN rfl) hs (eL.gl (l:=EY)<|aN rfl) (aN rfl)<|aN rfl) λi v a' b' hv e=>?_
 match i,hv with
 | 0,h=>cases h;exact zy .o a' b' e
 | 1,h=>cases h;exact zy .a a' b' e
 | 2,h=>cases h;exact zy .ab a' b' e
 |_+3,h=>cases h
theorem NV (hs:Y[s]?=some (aC a b))(ht:Y[t]?=some (.list [.str dQ,.str cx,.str eD]))(dS:s≠t):∃(n:Nm) (a' b':Int),run tx (k+2) 392 [.ref s,.ref t] Y=.ok (.str n.str) (Y.set s<|aC a' b'):=by
 refine mN (lO (k+2) (aN rfl) hs (eL.list ht dS<|aN rfl) (aN rfl)<|aN rfl) λi v a' b' hv e=>?_
 match i,hv with
 | 0,h=>cases h;exact zy .f a' b' e
 | 1,h=>cases h;exact zy .S a' b' e
 | 2,h=>cases h;exact zy .E a' b' e
 |_+3,h=>cases h
theorem xI (g:Pl):∃J,run tx (k+1) 411 [.str g.str] Y=.ok (.U<|g.parts.map .str) (Y++J):=by
 cases g with
 |o=>exact⟨[],by rw[gp];k_all⟩
 |a=>
  refine⟨[.list [.str dG]],?_⟩;rw[dA];apply bf (i:=PV) (R:=(some<|.U [.str dG],_)) rfl rfl rfl;exact bP<|bL<|fk (aq (I rfl) ag rfl) rfl<|cL (aa (jS (I rfl) rfl (aa ag ae)<|by k_all) ae)<|b9 (cE ao)<|aN rfl
 |ab=>
  refine⟨[.list [.str dG,.str BR]],?_⟩;rw[dA];apply bf (i:=PV) (R:=(some<|.U [.str dG,.str BR],_)) rfl rfl rfl;exact bP<|bL<|fk (aq (I rfl) ag rfl) rfl<|cL (aa (jS (I rfl) rfl (aa ag ae)<|by k_all) ae)<|b9 (cE ao)<|aN rfl
theorem KN:run tx (k+1) 432 [.str p.str,.str dG] Y=.ok (.bool<|within p .a) Y:=by cases p<;>k_all
theorem BC (vU:Y[pd]?=some (.dict<|ra pb)):run tx (k+2) 439 [.ref pd,.str p.str,.str g.str] Y=.ok (.bool<|fY pb p g) Y:=by
 rw[dA];cases g with
 |o=>
  apply bf (i:=Mf) (R:=(some<|.bool true,_)) rfl rfl rfl;exact bP<|bL<|ic<|l8 (aq (I rfl) ag rfl) rfl
 |a=>
  apply bf (i:=Mf) (R:=(some<|.bool true,_)) rfl rfl rfl;exact bP<|bL<|ic<|l8 (aq (I rfl) ag rfl) rfl
 |ab=>
  apply bf (i:=Mf) (R:=(some<|.bool<|fY pb p .ab,_)) rfl rfl rfl;refine bP<|bL<|ic<|f6 (aq (I rfl) ag rfl) rfl<|ve (aF (I rfl) ag (fh vU (by k_all):cb Y (.ref pd) (.str aP)=some (.bool<|pb 1))) lK ?_
  show df (pb 1) _ _=(Res.ok (V.bool<|pb 1||within p .a) Y:Res V);cases pb 1
  ·exact f0<|aK (aa (I rfl)<|aa ag ae) KN
  ·rfl
theorem NW (hs:Y[s]?=some (aC a b))(vU:Y[pd]?=some (.dict<|ra pb))(dS:pd≠s):∃(Y':af) (p:Pl) (d:Int) (g:Pl) (n:Nm) (a' b':Int),(∀RF,bZ (run tx (k+3)) 400 (n8.body.drop 3) (oP s pd lk p d g n (fY pb p g) none none) Y'=RF->bZ (run tx (k+3)) 400 n8.body [some<|.ref s,some<|.ref pd,some<|.ref lk,ai,ai,ai,ai,ai,ai,ai,ai,ai,ai,ai,ai,ai,ai] Y=RF)/\bg s Y Y'/\Y'[s]?=some (aC a' b')/\0<=d/\d<8:=by
 refine Hf (vL (k:=k+1) hs) λp a1 b1 e1=>?_;have s1:=cW hs a1 b1;refine kg (iZ (k+3) (aN rfl) (top:=8) s1 (by decide)<|by decide) λd a2 b2 d0 d1 e2=>?_;have s2:=cW s1 a2 b2;refine Hf (vL (k:=k+1) s2) λg a3 b3 e3=>?_;have s3:=cW s2 a3 b3;have K3:bg s Y (((Y.set s<|aC a1 b1).set s<|aC a2 b2).set s<|aC a3 b3):=(bg.set.trans .set).trans .set;generalize aat:((Y.set s<|aC a1 b1).set s<|aC a2 b2).set s (aC a3 b3)=BS at e3 s3 K3;refine aM (xI (k:=k+2) (Y:=BS) g) λJ e4=>?_;have s4:(BS++J++[Cell.list [.str dQ,.str cx,.str eD]])[s]?=some (aC a3 b3):=ak<|cF s3
 refine Hf (NV (k:=k+1) s4 ao (dl (cF (J:=J) s3)<|a9 _).symm) λn a5 b5 e5=>?_;have K5:=((K3.trans .push).trans .push:bg s Y (BS++J++[Cell.list [.str dQ,.str cx,.str eD]])).trans<|bg.set (c:=aC a5 b5)
 have s5:=cW s4 a5 b5;generalize aau:(BS++J++[Cell.list [.str dQ,.str cx,.str eD]]).set s (aC a5 b5)=ET at e5 s5 K5;refine Ly ET p d g n a5 b5<|Ou (λRF hx=>?_) K5 s5 d0 d1
 refine ah (az (aS<|aa (aK (aa (I rfl)<|aa ag ae) e1)<|aa (aK (aa (I rfl)<|aa ag ae) e2)<|aa (aK (aa (I rfl)<|aa ag ae) e3) ae)<|ez rfl rfl<|aR aD<|aR aD<|aR aD dg) ?_;exact ah (az (aS<|aa (eX (aS<|aa ag ae) (aK (aa (I rfl) ae) e4) (show jk (BS++J) .Add (.U [.str aQ]) (.U<|g.parts.map .str)=.ok (.U (.str aQ::g.parts.map .str)) (BS++J) by cases g<;>rfl))<|aa (aK (aa (I rfl)<|aa (bh<|aa ag<|aa ag<|aa ag ae) ae) e5) ae)<|ez rfl rfl<|aR aD<|aR aD dg)<|ah (az (aK (aa (I rfl)<|aa (I rfl)<|aa (I rfl) ae)<|BC (k:=k+1) (p:=p) (g:=g)<|K5.old _ _ dS vU) aD) hx
theorem iz {vs:aG}{names:cY}{opn:Bool}{a' b':Int}{loc':Loc}(he:bZ (run tx (k+3)) 400 n8.body [some<|.ref s,some<|.ref pd,some<|.ref lk,ai,ai,ai,ai,ai,ai,ai,ai,ai,ai,ai,ai,ai,ai] Y=.ok (some<|.ref Y'.length,loc') (Y'++[.list [.str p.str,.U vs,.bool opn]]))(hK:bg s Y Y')(hs:Y'[s]?=some (aC a' b'))(hv:vs=names.map .str)(hu:fE pb ls p names opn):
  lu pb ls s Y (run tx (k+4) 446 [.ref s,.ref pd,.ref lk] Y):=by
 subst hv;refine Ly _ _ p names opn a' b'<|Ou ?_ ao (hK.trans .push) (ak hs) hu
 rw[dA];apply bf (i:=n8) (R:=(some _,loc')) rfl rfl rfl;exact he
theorem xJ {x y:X}{N:Loc}{b1 b2:Bool}(h1:aV O x N Y=.ok (.bool b1) Y)(h2:aV O y N Y=.ok (.bool b2) Y):aV O (.and [x,y]) N Y=.ok (.bool (b1&&b2)) Y:=by
 cases b1
 ·exact eJ<|kt h1 rfl
 ·exact eJ<|gM h1 rfl<|ip h2
theorem VO {x y:X}{N:Loc}{b1 b2:Bool}(h1:aV O x N Y=.ok (.bool b1) Y)(h2:aV O y N Y=.ok (.bool b2) Y):aV O (.or [x,y]) N Y=.ok (.bool (b1||b2)) Y:=by
 cases b1
 ·exact ic<|f6 h1 rfl<|f0 h2
 ·exact ic<|l8 h1 rfl
theorem lt2 {i:Int}{b:Bool}(h:decide (i<2)=b):cy Y .Lt (.int i) (.int 2)=some b:=by rw[<-h];rfl
end
noncomputable abbrev mL (s pd lk:Nat):Loc:=[some<|.ref s,some<|.ref pd,some<|.ref lk,ai,ai,ai,ai,ai,ai,ai,ai,ai,ai,ai,ai,ai,ai]
section
variable {O:ar} {k:Nat} {Y al ax:af} {p g:Pl} {n:Nm} {s pd lk t:Nat} {pb:Nat->Bool} {ls:List Lk} {a b a' b':Int} {d:Int} {sb:Bool}
theorem vM (pre:∀RF,bZ (run tx (k+3)) 400 (n8.body.drop 9) (oP s pd lk p d g n sb none none) ax=RF->bZ (run tx (k+3)) 400 n8.body (mL s pd lk) Y=RF)(K2:bg s Y ax)(s2:ax[s]?=some (aC a' b'))(vU:ax[pd]?=some (.dict<|ra pb)):
  lu pb ls s Y (run tx (k+4) 446 [.ref s,.ref pd,.ref lk] Y):=by
 have ib:cb ax (.ref pd) (.str aP)=some (.bool<|pb 1):=fh vU (by k_all);cases g with
 |o=>
  cases p with
  |o=>
   have s3:=ak (c':=Cell.list [.U [.str aQ],.U [.str dJ]]) s2;refine mN (lO (k+3) (aN rfl) s3 (eL.list ao ((dl s2<|a9 _).symm:s≠ax.length)<|aN rfl) (aN rfl)<|aN rfl) λi v a4 b4 hv e=>?_;have fin:∀(vs:aG) (names:cY),v=.U vs->vs=names.map .str->fE pb ls .o names true->lu pb ls s Y (run tx (k+4) 446 [.ref s,.ref pd,.ref lk] Y):=λvs names e1 e2 hu=>by
    subst e1;exact iz (pre _<|bP<|bj (aq (I rfl) ag rfl) rfl<|bP<|bL<|fk (aq (I rfl) ag rfl) rfl<|bh<|aa (I rfl)<|aa (aK (aa (I rfl)<|aa (bh<|aa (aS<|aa ag ae)<|aa (aS<|aa ag ae) ae) ae) e)<|aa ag ae) ((K2.trans .push).trans .set) (cW s3 a4 b4) e2 hu
   match i,hv with
   | 0,h=>cases h;exact fin [.str aQ] [aQ] rfl rfl<|.crate _
   | 1,h=>cases h;exact fin [.str dJ] [dJ] rfl rfl .self
   |_+2,h=>cases h
  |a=>exact iz (pre _<|bP<|bj (aq (I rfl) ag rfl) rfl<|bP<|bL<|fU (aq (I rfl) ag rfl) rfl<|bh<|aa (I rfl)<|aa (aS<|aa ag ae)<|aa ag ae) K2 s2 rfl<|.crate _
  |ab=>exact iz (pre _<|bP<|bj (aq (I rfl) ag rfl) rfl<|bP<|bL<|fU (aq (I rfl) ag rfl) rfl<|bh<|aa (I rfl)<|aa (aS<|aa ag ae)<|aa ag ae) K2 s2 rfl<|.crate _
 |a=>exact iz (pre _<|ah (aA (aq (I rfl) ag rfl) rfl ay)<|bP<|bL<|bh<|aa (I rfl)<|aa (I rfl)<|aa (xJ (ic<|l8 (aq (I rfl) ag rfl) rfl)<|aF (I rfl) (I rfl) (fh vU (by k_all):cb ax (.ref pd) (.str dG)=some (.bool<|pb 0))) ae) K2 s2 rfl<|.ga _
 |ab=>
  refine iz (names:=(aQ::Pl.a.parts)++[BR]) (opn:=(false||pb 1)&&pb 1) (pre _<|ah (aA (aq (I rfl) ag rfl) rfl ay)<|bP<|bL<|bh<|aa (I rfl)<|aa (I rfl)<|aa (xJ (VO (aq (I rfl) ag rfl)<|aF (I rfl) ag ib)<|aF (I rfl) (I rfl) ib) ae) K2 s2 rfl ?_;rw[(by cases pb 1<;>rfl:((false||pb 1)&&pb 1)=pb 1)];exact .gab _
theorem tX {l r:aG}(h:l.length+r.length<100):jk Y .Add (.U l) (.U r)=.ok (.U (l++r)) Y:=if_pos<|eB h<|by decide
theorem kE (g:Pl):g.parts.length<3:=by cases g<;>exact aN rfl
theorem KO (pre:∀RF,bZ (run tx (k+3)) 400 (n8.body.drop 7) (oP s pd lk p 5 g n sb none none) al=RF->bZ (run tx (k+3)) 400 n8.body (mL s pd lk) Y=RF)(K1:bg s Y al)(s1:al[s]?=some (aC a' b'))(nK:al[pd]?=some (.dict<|ra pb))(DR:al[lk]?=some (.list<|ls.map Lk.U))(h1:pd≠s)(h2:lk≠s)(hl:ls.length<100)(h0:0<ls.length):
  lu pb ls s Y (run tx (k+4) 446 [.ref s,.ref pd,.ref lk] Y):=by
 have s2:=ak (c':=Cell.list []) s1;have en:=ig (ak (c':=Cell.list []) DR) ao;have en:cy (al++[Cell.list []]) .NotEq (.ref lk) (.ref al.length)=some true:=by
  rw[en];cases ls with
  |nil=>exact absurd h0<|sh _
  |cons _ _=>rfl
 refine mN (lO (k+3) (aN rfl) s2 (eL.list (ak DR) (gb h2)<|by(rw[cu];exact lt_num ‹_› rfl)) (by rw[cu];exact h0)<|by(rw[cu];exact lt_num ‹_› rfl)) λi v a3 b3 hv e3=>?_;rw[fP,Option.map_eq_some_iff] at hv;refine aI hv λl hl1 dZ=>?_;subst dZ;have s3:=cW s2 a3 b3;have K3:bg s Y ((al++[Cell.list []]).set s<|aC a3 b3):=(K1.trans .push).trans .set;have Ww:((al++[Cell.list []]).set s<|aC a3 b3)[pd]?=some (.dict<|ra pb):=bg.set.old _ _ h1<|ak nK
 generalize (al++[Cell.list []]).set s (aC a3 b3)=BS at e3 s3 K3 Ww;have e4:=BC (k:=k+1) (p:=p) (g:=l.place) Ww;refine aM (xI (k:=k+2) (Y:=BS) l.place) λJ e5=>?_;have aa8:=kE l.place;obtain⟨lp,lnm,li,Lw,Wx⟩:=l;dsimp only[Lk.U] at e3 e4 e5 aa8;have hu:fE pb ls p ((aQ::lp.parts)++[uN li]) (fY pb p lp&&Lw):=.link p ⟨lp,lnm,li,Lw,Wx⟩<|fN hl1
 have LJ:(V.str aQ::lp.parts.map V.str)++[V.str<|uN li]=((aQ::lp.parts)++[uN li]).map V.str:=by rw[jc];rfl
 generalize uN li=u at e3 hu LJ;refine iz (loc':=oP s pd lk p 5 g n sb (some<|.U [.str lp.str,.U<|lnm.map .str,.str u,.bool Lw,.bool Wx])<|some<|.bool<|fY pb p lp&&Lw) (pre _<|bP<|bj (eJ<|gM (aq (I rfl) ag rfl) rfl<|ip<|aq (I rfl) (bh ae) en) rfl ?_) (K3.trans<|.push (l:=J)) (cF s3) LJ hu;refine ah (az (aK (aa (I rfl)<|aa (I rfl) ae) e3) aD)<|ah (az (xJ (b1:=fY pb p lp) (b2:=Lw) (aK (aa (I rfl)<|aa (I rfl)<|aa (aF (I rfl) ag rfl) ae) e4)<|aF (I rfl) ag rfl) aD) ?_
 exact bP<|bL<|bh<|aa (I rfl)<|aa (eX (eX (aS<|aa ag ae) (aK (aa (aF (I rfl) ag rfl) ae) e5)<|tX (l:=[.str aQ]) (r:=lp.parts.map .str) (by rw[cu];show 1+_<100;omega)) (aS<|aa (aF (I rfl) ag rfl) ae)<|tX (l:=.str aQ::lp.parts.map .str) (r:=[.str u]) (by rw[dE,cu];show _+1<100;omega))<|aa (I rfl) ae
section
variable (rk:∀RF,bZ (run tx (k+3)) 400 (n8.body.drop 4) (oP s pd lk p d g n (fY pb p g) none none) al=RF->bZ (run tx (k+3)) 400 n8.body (mL s pd lk) Y=RF) (K1:bg s Y al) (s1:al[s]?=some (aC a' b')) (nK:al[pd]?=some (.dict (ra pb)))
include rk K1 s1 nK
theorem VP (e:d=2):lu pb ls s Y (run tx (k+4) 446 [.ref s,.ref pd,.ref lk] Y):=by
 subst e;have hpl:=kE g;have l6:((V.str aQ::g.parts.map V.str).length)<5:=by rw[dE,cu];exact fA ‹_› rfl
 exact iz (rk _<|bP<|bj (aq (I rfl) ag rfl) rfl<|bP<|bL<|bh<|aa (I rfl)<|aa (eX (I rfl) (aS<|aa ag<|aa ag ae)<|tX (by show _+2<100;omega))<|aa (xJ (I rfl)<|aF (I rfl) (aK (aa (I rfl)<|aa ag ae)<|ln g .E)<|fh nK<|rb pb g .E) ae) K1 s1 (by cases g<;>rfl)<|.var p g
theorem VQ (e:d=3):lu pb ls s Y (run tx (k+4) 446 [.ref s,.ref pd,.ref lk] Y):=by
 subst e;exact iz (rk _<|ah (aA (aq (I rfl) ag rfl) rfl ay)<|bP<|bj (aq (I rfl) ag rfl) rfl<|bP<|bL<|bh<|aa (I rfl)<|aa (aS<|aa (I rfl) ae)<|aa (aF (I rfl) (aK (aa (I rfl)<|aa (I rfl) ae)<|ln p n)<|fh nK<|rb pb p n) ae) K1 s1 rfl<|.own p n
omit nK in
theorem VR (e:d=4):lu pb ls s Y (run tx (k+4) 446 [.ref s,.ref pd,.ref lk] Y):=by
 subst e;exact iz (rk _<|ah (aA (aq (I rfl) ag rfl) rfl ay)<|ah (aA (aq (I rfl) ag rfl) rfl ay)<|bP<|bj (aq (I rfl) ag rfl) rfl<|bP<|bL<|bh<|aa (I rfl)<|aa (aS<|aa ag ae)<|aa ag ae) K1 s1 rfl<|.some p
theorem VS (e:d=5)(DR:al[lk]?=some (.list<|ls.map Lk.U))(h1:pd≠s)(h2:lk≠s)(hl:ls.length<100):lu pb ls s Y (run tx (k+4) 446 [.ref s,.ref pd,.ref lk] Y):=by
 subst e;have Wy:∀RF,bZ (run tx (k+3)) 400 (n8.body.drop 7) (oP s pd lk p 5 g n (fY pb p g) none none) al=RF->bZ (run tx (k+3)) 400 n8.body (mL s pd lk) Y=RF:=λRF hx=>
  rk _ (ah (aA (aq (I rfl) ag rfl) rfl ay)<|ah (aA (aq (I rfl) ag rfl) rfl ay)<|ah (aA (aq (I rfl) ag rfl) rfl ay) hx)
 by_cases h0:0<ls.length
 ·exact KO Wy K1 s1 nK DR h1 h2 hl h0
 ·obtain rfl:ls=[]:=qm (by omega);refine vM (ax:=al++[.list []]) (p:=p) (g:=g) (n:=n) (d:=5) (sb:=fY pb p g) (λRF hx=>Wy _ ?_) (K1.trans .push) (ak s1)<|ak nK
  exact ah (aA (eJ<|gM (aq (I rfl) ag rfl) rfl<|ip<|aq (I rfl) (bh ae) (ig (ak DR) ao:cy (al++[Cell.list []]) .NotEq (.ref lk) (.ref al.length)=some false)) rfl ay)<|ah (aA (eJ<|kt (aq (I rfl) ag rfl) rfl) rfl ay) hx
theorem VT (e:d=6):lu pb ls s Y (run tx (k+4) 446 [.ref s,.ref pd,.ref lk] Y):=by
 subst e;have Su:∀RF,bZ (run tx (k+3)) 400 (n8.body.drop 8) (oP s pd lk p 6 g n (fY pb p g) none none) al=RF->bZ (run tx (k+3)) 400 n8.body (mL s pd lk) Y=RF:=λRF hx=>
  rk _ (ah (aA (aq (I rfl) ag rfl) rfl ay)<|ah (aA (aq (I rfl) ag rfl) rfl ay)<|ah (aA (aq (I rfl) ag rfl) rfl ay)<|ah (aA (eJ<|kt (aq (I rfl) ag rfl) rfl) rfl ay) hx)
 cases p with
 |o=>exact vM (λRF hx=>Su _<|ah (aA (eJ<|gM (aq (I rfl) ag rfl) rfl<|ip<|aq (I rfl) ag rfl) rfl ay) hx) K1 s1 nK
 |a=>exact iz (Su _<|bP<|bj (eJ<|gM (aq (I rfl) ag rfl) rfl<|ip<|aq (I rfl) ag rfl) rfl<|bP<|bL<|bh<|aa (I rfl)<|aa (aS<|aa ag ae)<|aa (ic<|l8 (aq (I rfl) ag rfl) rfl) ae) K1 s1 rfl .sup_a
 |ab=>
  exact iz (Su _<|bP<|bj (eJ<|gM (aq (I rfl) ag rfl) rfl<|ip<|aq (I rfl) ag rfl) rfl<|bP<|bL<|bh<|aa (I rfl)<|aa (aS<|aa ag ae)<|aa (VO (aq (I rfl) ag rfl)<|aF (I rfl) ag (fh nK (by k_all):cb al (.ref pd) (.str dG)=some (.bool<|pb 0))) ae) K1 s1 rfl .sup_ab
theorem VU (e:d=7):lu pb ls s Y (run tx (k+4) 446 [.ref s,.ref pd,.ref lk] Y):=by
 subst e;refine vM (ax:=al) (p:=p) (g:=g) (n:=n) (d:=7) (sb:=fY pb p g) (λRF hx=>rk _ ?_) K1 s1 nK;exact ah (aA (aq (I rfl) ag rfl) rfl ay)<|ah (aA (aq (I rfl) ag rfl) rfl ay)<|ah (aA (aq (I rfl) ag rfl) rfl ay)<|ah (aA (eJ<|kt (aq (I rfl) ag rfl) rfl) rfl ay)<|ah (aA (eJ<|kt (aq (I rfl) ag rfl) rfl) rfl ay) hx
end
theorem NX (hs:Y[s]?=some (aC a b))(vU:Y[pd]?=some (.dict<|ra pb))(tB:Y[lk]?=some (.list<|ls.map Lk.U))(h1:pd≠s)(h2:lk≠s)(hl:ls.length<100):lu pb ls s Y (run tx (k+4) 446 [.ref s,.ref pd,.ref lk] Y):=by
 refine LN (NW (k:=k) (lk:=lk) hs vU h1) λrh p d g n a1 b1 zq=>Pw zq λpre K1 s1 d0 d1=>?_;have nK:=K1.old _ _ h1 vU;have DR:=K1.old _ _ h2 tB;by_cases c0:d<2
 ·have ij:=fh (Y:=rh) nK<|rb pb g n
  have hpl:=kE g;have l6:((V.str aQ::g.parts.map V.str).length)<5:=by rw[dE,cu];exact fA ‹_› rfl
  exact iz (names:=(aQ::g.parts)++[n.str]) (pre _<|bP<|bj (aq (I rfl) ag<|lt2<|dP c0) rfl<|bP<|bL<|bh<|aa (I rfl)<|aa (eX (I rfl) (aS<|aa (I rfl) ae)<|tX (by show _+1<100;omega))<|aa (xJ (I rfl)<|aF (I rfl) (aK (aa (I rfl)<|aa (I rfl) ae)<|ln g n) ij) ae) K1 s1 (by rw[jc];rfl)<|.name p g n
 have rk:∀RF,bZ (run tx (k+3)) 400 (n8.body.drop 4) (oP s pd lk p d g n (fY pb p g) none none) rh=RF->bZ (run tx (k+3)) 400 n8.body (mL s pd lk) Y=RF:=λRF hx=>
  pre _ (ah (aA (aq (I rfl) ag<|lt2<|eN c0) rfl ay) hx)
 have hd:=Y1 d0 d1 c0;rcases hd with e | e | e | e | e | e
 ·exact VP rk K1 s1 nK e
 ·exact VQ rk K1 s1 nK e
 ·exact VR rk K1 s1 e
 ·exact VS rk K1 s1 nK e DR h1 h2 hl
 ·exact VT rk K1 s1 nK e
 ·exact VU rk K1 s1 nK e
end
def KP (O:ar)(fr:Loc)(ts qj:List Nat)(qk elt:X)(v:V)(acc:aG)(Y:af):Res (aG):=fq (dv Y ts v fr) λloc'=>(aV O qk loc' Y).bind λvN Y=>fq (cG Y vN) λall2=>dk (λv acc Y=>fq (dv Y qj v loc') λvO=>(aV O elt vO Y).bind λv Y=>lG v acc Y) vN all2 all2 acc Y
abbrev names3:aG:=[.str dQ,.str cx,.str eD]
noncomputable def sP (pb:Nat->Bool):Nat->List Str->ii
 |_,[]=>[]
 |i,n::r=>(n,.bool<|pb i)::sP pb (i+1) r
theorem sQ {pb Xc:Nat->Bool}:∀{l:cY} {i:Nat},(∀j,i<=j->pb j=Xc j)->sP pb i l=sP Xc i l
 | [],_,_=>rfl
 |n::r,i,h=>by rw[sP,sP,h i<|a9 _,sQ λj hj=>h j<|by omega]
noncomputable abbrev gW (s:Nat)(x1 x2 x3 x4 x5:jJ)(lk pd:Nat):Loc:=[some<|.ref s,x1,x2,x3,x4,x5,none,some<|.ref lk,some<|.ref pd,ai,ai,ai,ai,ai,ai]
abbrev Zs (O:ar):V->Loc->af->Res fc:=λv N Y=>(tG O (.l 1) v N Y).bind λN Y=>bZ O 400 [.set (.sub (.l 8)<|.l 1)<|.m .Gt (.call 385 [.l 0,.xi 3])<|.xi 0] N Y
abbrev Pf:List S:=[.set (.U [.l 3,.l 4,.l 5])<|.call 446 [.l 0,.l 8,.l 7],.ex<|.bm (.l 7) .append [.U [.l 3,.l 4,.bin .Add (.xs WC)<|.bi .str [.l 2],.m .Gt (.call 385 [.l 0,.xi 3])<|.xi 0,.l 5]]]
abbrev Pg (O:ar):V->Loc->af->Res fc:=λv N Y=>(tG O (.l 2) v N Y).bind λN Y=>bZ O 400 Pf N Y
section
variable {O:ar} {k:Nat} {Y aw Y' al ax:af} {p g:Pl} {n:Nm} {s pd lk t:Nat} {pb:Nat->Bool} {ls:List Lk} {a b a' b':Int} {x1 x2 x3 x4 x5:jJ} {N:Loc}
theorem KQ {fr:List (Option Nat)}{ts qj:List Nat}{x qk elt:X}{u:V}{all vs:aG}(h:aV O x N Y=.ok u al)(q:cG al u=some all)(k:dk (KP O (frees fr N) ts qj qk elt) u all all [] al=.ok vs ax):
  aV O (.comp2 fr ts x qj qk elt) N Y=.ok (.ref ax.length) (ax++[.list vs]):=aJ h<|cq q<|aJ k rfl
theorem r0 {p:Pl}{acc:aG}(ha:acc.length<100):KP (run tx (k+1)) [none,none,none,none] [1] [2] (.s [.xs dQ,.xs cx,.xs eD]) (.call 404 [.l 1,.l 2]) (.str p.str) acc Y=.ok (((acc++[.str<|jn p .f])++[.str<|jn p .S])++[.str<|jn p .E]) (Y++[.list names3]):=by
 have st:∀(n:Nm) (acc:aG),acc.length<1000->(fq (dv (Y++[Cell.list names3]) [2] (.str n.str) [none,some<|.str p.str,none,none]) λvO=>(aV (run tx (k+1)) (.call 404 [.l 1,.l 2]) vO<|Y++[Cell.list names3]).bind λv Y=>lG v acc Y)=.ok (acc++[.str<|jn p n]) (Y++[.list names3]):=λn acc hl=>by
  show(aV (run tx (k+1)) (.call 404 [.l 1,.l 2]) [none,some<|.str p.str,some<|.str n.str,none]<|Y++[Cell.list names3]).bind _= _;rw[(aK (aa (I rfl)<|aa (I rfl) ae) (ln p n):aV (run tx (k+1)) (.call 404 [.l 1,.l 2]) [none,some<|.str p.str,some<|.str n.str,none] (Y++[.list names3])=.ok (.str<|jn p n) (Y++[.list names3]))];show lG _ _ _= _;unfold lG;rw[if_pos<|by omega]
 have sm:same (Y++[Cell.list names3]) (.ref Y.length) names3=true:=ba ao;refine cq rfl ?_;show(aV (run tx (k+1)) (.s [.xs dQ,.xs cx,.xs eD]) [none,some<|.str p.str,none,none] Y).bind _= _;rw[(bh (aa ag<|aa ag<|aa ag ae):aV (run tx (k+1)) (.s [.xs dQ,.xs cx,.xs eD]) [none,some<|.str p.str,none,none] Y=.ok (.ref Y.length) (Y++[.list names3]))];refine cq (cI (ao)) ?_;show dk _ (.ref Y.length) names3 names3 acc (Y++[Cell.list names3])= _;exact bo (st .f acc<|by omega) sm<|bo (st .S _ (by rw[b0,gQ];omega)) sm<|bo (st .E _ (by rw[b0,b0,gQ,gQ];omega)) sm b8
theorem bg.at {c:Cell}(h:bg s Y al)(ht:Y.length<=t):bg s Y (al.set t c):=⟨by rw[qp];exact h.le,λi c' hi hc=>by
 rw[eA (by have:=(bM.mp hc).1;omega)];exact h.old i c' hi hc⟩
theorem GQ {u:Nat}{all:cY}(h1:pd≠s)(h2:lk≠s)(h3:lk≠pd)(h4:u≠s)(h5:u≠pd)(hd:aw.length<=pd):∀(rest:cY) (i:Nat) {Y:af} {rows:ii} {a b:Int} {x1:jJ},Y[s]?=some (aC a b)->Y[pd]?=some (.dict rows)->Y[u]?=some (.list<|all.map .str)->Y[lk]?=some (.list [])->bg s aw Y->rest.Nodup->(∀n∈rest,aL rows n=none)->rows.length+rest.length<100->
  ∃Y' pb a' b' y1,forL (Zs<|run tx (k+1)) (.ref u) (all.map .str) (rest.map .str) (gW s x1 x2 x3 x4 x5 lk pd) Y=.ok (none,gW s y1 x2 x3 x4 x5 lk pd) Y'/\Y'[s]?=some (aC a' b')/\Y'[pd]?=some (.dict<|rows++sP pb i rest)/\Y'[lk]?=some (.list [])/\bg s aw Y':=by
 intro rest
 induction rest with
 |nil=>
  intro i Y rows a b x1 hs hp hu tB hK _ _ _;exact LR Y (λM=>false) a b x1<|Ou eQ hs (by rw[sP,gp];exact hp) tB hK
 |cons nm rest ih=>
  intro i Y rows a b x1 hs hp hu tB hK tr Ha hlen;rw[dE] at hlen;rw[gY] at tr;refine kg (iZ (k+1) (by omega) (top:=3) hs (by decide)<|by decide) λd a1 b1 d0 d1 e1=>?_;have s1:=cW hs a1 b1;have K1:bg s Y (Y.set s<|aC a1 b1):=.set;have hK1:=hK.trans K1;have p1:=K1.old _ _ h1 hp;have u1:=K1.old _ _ h4 hu;have l1:=K1.old _ _ h2 tB;generalize Y.set s (aC a1 b1)=rh at e1 s1 K1 hK1 p1 u1 l1;obtain⟨Y',Xc,a',b',y1,e,g1,g2,g3,g4⟩:=ih (i+1)
   (by rw[eA h1];exact s1) (ky p1) (by rw[eA<|gb h5];exact u1) (by rw[eA<|gb h3];exact l1) (hK1.at hd:bg s aw (rh.set pd<|.dict<|rows++[(nm,.bool<|decide (0<d))])) tr.2 (λn lR=>by
    rw[pj,Ha n<|.tail _ lR,if_neg];rintro rfl;exact tr.1 lR) (by rw[b0,gQ];omega)
  refine LR Y' (λj=>if j=i then decide (0<d) else Xc j) a' b' y1<|Ou (aZ ?_ (ba (by rw[eA<|gb h5];exact u1)) e) g1 ?_ g3 g4
  ·have:bZ (run tx (k+1)) 400 [.set (.sub (.l 8)<|.l 1)<|.m .Gt (.call 385 [.l 0,.xi 3])<|.xi 0] (gW s (some<|.str nm) x2 x3 x4 x5 lk pd) Y=.ok (none,gW s (some<|.str nm) x2 x3 x4 x5 lk pd) (rh.set pd<|.dict<|rows++[(nm,.bool<|decide (0<d))]):=
    ah (az (aq (aK (aa (I rfl)<|aa ag ae) e1) ag<|gt_int rfl)<|fJ (I rfl) (I rfl)<|i7 p1 (by omega)<|cV<|Ha nm<|.head _) ay
   exact this
  ·rw[g2,sP,if_pos rfl,bQ]
   congr 3
   refine bH _<|sQ λj hj=>?_
   rw[if_neg<|by omega]
theorem fE.more {names:cY}{opn:Bool}{l:Lk}(h:fE pb ls p names opn):fE pb (ls++[l]) p names opn:=by
 induction h with
 |name p g n=>exact .name p g n
 |var p g=>exact .var p g
 |own p n=>exact .own p n
 |some p=>exact .some p
 |link p l hl=>exact .link p l<|jF _ hl
 |sup_a=>exact .sup_a
 |sup_ab=>exact .sup_ab
 |crate p=>exact .crate p
 |self=>exact .self
 |ga p=>exact .ga p
 |gab p=>exact .gab p
theorem fE.len {names:cY}{opn:Bool}(h:fE pb ls p names opn):names.length<100:=by
 induction h with
 |name p g n=>have:=kE g;rw[b0,dE,gQ];omega
 |var p g=>have:=kE g;rw[b0,dE,b0,gQ,gQ];omega
 |link p l hl=>have:=kE l.place;rw[b0,dE,gQ];omega
 |_=>exact aN rfl
theorem NY {Y:af}:∀i,i<6->∃si,vS Y .str [.int<|Int.ofNat i]=.ok (.str si) Y/\jk Y .Add (.str WC) (.str si)=.ok (.str<|uN i) Y
 | 0,_=>⟨_,rfl,by k_all⟩
 | 1,_=>⟨_,rfl,by k_all⟩
 | 2,_=>⟨_,rfl,by k_all⟩
 | 3,_=>⟨_,rfl,by k_all⟩
 | 4,_=>⟨_,rfl,by k_all⟩
 | 5,_=>⟨_,rfl,by k_all⟩
 |n+6,h=>absurd h (by omega)
structure nu (s pd lk:Nat)(pb:Nat->Bool)(aw Y:af)(ls:List Lk):Prop where
 src:∃a b,Y[s]?=some (aC a b)
 pubs:Y[pd]?=some (.dict<|ra pb)
 links:Y[lk]?=some (.list<|ls.map Lk.U)
 keep:bg s aw Y
 ok:∀l∈ls,fE pb ls l.place l.names l.opn
 lt:∀l∈ls,l.i<ls.length
 nd:(ls.map (·.i)).Nodup
theorem GR (h1:pd≠s)(h2:lk≠s)(h3:lk≠pd)(hd:aw.length<=lk)(H:nu s pd lk pb aw Y ls)(hl:ls.length<6):
  ∃Y' l y3 y4 y5,Pg (run tx (k+4)) (.int<|Int.ofNat ls.length) (gW s x1 x2 x3 x4 x5 lk pd) Y=.ok (none,gW s x1 (some<|.int<|Int.ofNat ls.length) y3 y4 y5 lk pd) Y'/\nu s pd lk pb aw Y' (ls++[l]):=by
 refine kf H.src λa b hs=>LN (NX (k:=k) hs H.pubs H.links h1 h2<|by omega) λrh j p names opn a1 b1 zq=>Pw zq λe1 c1 K1 s1 u1=>kg (iZ (k+4) (by omega) (top:=3) s1 (by decide)<|by decide) λd a2 b2 d0 d1 e2=>aI (NY (Y:=rh) ls.length hl) λsi f1 f2=>?_;have K2:bg s Y (rh.set s<|aC a2 b2):=K1.trans .set;have s2:=cW s1 a2 b2;have p2:=K2.old _ _ h1 H.pubs;have l2:=K2.old _ _ h2 H.links;have hK2:=H.keep.trans K2;generalize rh.set s (aC a2 b2)=zo at e2 K2 s2 p2 l2 hK2;refine LR (zo.set lk<|.list<|ls.map Lk.U++[Lk.U ⟨p,names,ls.length,decide (0<d),opn⟩]) ⟨p,names,ls.length,decide (0<d),opn⟩ (some<|.str p.str) (some<|.U<|names.map .str) (some<|.bool opn)<|Sx ?_ ?_
 ·have:bZ (run tx (k+4)) 400 Pf (gW s x1 (some<|.int<|Int.ofNat ls.length) x3 x4 x5 lk pd) Y=.ok (none,gW s x1 (some<|.int<|Int.ofNat ls.length) (some<|.str p.str) (some<|.U<|names.map .str) (some<|.bool opn) lk pd) (zo.set lk<|.list<|ls.map Lk.U++[Lk.U ⟨p,names,ls.length,decide (0<d),opn⟩]):=by
   refine ah (az (aK (aa (I rfl)<|aa (I rfl)<|aa (I rfl) ae) e1)<|ez (cE c1) rfl<|aR aD<|aR aD<|aR aD dg) ?_;exact ah (gR<|jS (I rfl) (gO (K1.old _ _ h2 H.links)<|.inl rfl) (aa (aS<|aa (I rfl)<|aa (I rfl)<|aa (eX ag (cL (aa (I rfl) ae) f1) f2)<|aa (aq (aK (aa (I rfl)<|aa ag ae) e2) ag<|gt_int rfl)<|aa (I rfl) ae) ae)<|append_at l2 (by rw[cu];omega)) ay
  exact this
 ·refine⟨⟨a2,b2,by rw[eA h2];exact s2⟩,by rw[eA h3];exact p2,by rw[jc];exact ky l2,hK2.at hd,λl hl=>?_,λl hl=>?_,?_⟩
  ·refine aY (fb.mp hl) (λhl=>?_) λhl=>?_
   ·exact(H.ok l hl).more
   ·cases cK.mp hl;exact u1.more
  ·rw[b0,gQ];refine aY (fb.mp hl) (λhl=>?_) λhl=>?_
   ·have:=H.lt l hl;omega
   ·cases cK.mp hl;exact Nat.lt_succ_self _
  ·rw[jc,r9];refine⟨H.nd,by simp,λx hx y hy=>?_⟩;refine aI (bT.mp hx) λl hl dZ=>?_;subst dZ;have:=H.lt l hl;simp only[d8,List.map_nil,cK] at hy;omega
theorem BD (h1:pd≠s)(h2:lk≠s)(h3:lk≠pd)(hd:aw.length<=lk){src:V}{all:aG}(nv:∀Y,same Y src all=true):∀(m:Nat) {Y:af} {ls:List Lk} {x2 x3 x4 x5:jJ},nu s pd lk pb aw Y ls->ls.length+m<=6->
  ∃Y' Xd y2 y3 y4 y5,forL (Pg<|run tx (k+4)) src all ((List.range' ls.length m).map λi=>.int<|Int.ofNat i) (gW s x1 x2 x3 x4 x5 lk pd) Y=.ok (none,gW s x1 y2 y3 y4 y5 lk pd) Y'/\nu s pd lk pb aw Y' Xd/\Xd.length<=6:=by
 intro m
 induction m with
 |zero=>
  intro Y ls x2 x3 x4 x5 H hl;exact E8 Y ls x2 x3 x4 x5 eQ H (by omega)
 |succ m ih=>
  intro Y ls x2 x3 x4 x5 H hl;refine LM (GR (k:=k) (x1:=x1) (x2:=x2) (x3:=x3) (x4:=x4) (x5:=x5) h1 h2 h3 hd H<|by omega) λal l y3 y4 y5 zq=>Pv zq λe H1=>?_;refine E6 (ih (x2:=some<|.int<|Int.ofNat ls.length) (x3:=y3) (x4:=y4) (x5:=y5) H1 (by rw[b0,gQ];omega)) λax Xd z2 z3 z4 z5 e' H2 lS=>?_;rw[b0,gQ] at e';refine E8 ax Xd z2 z3 z4 z5 ?_ H2 lS;rw[List.range'_succ,d8];exact aZ e (nv _) e'
theorem KR {l:Lk}{acc:aG}(ha:acc.length<100):iL O [none,none] [1] [.and [.i (.l 1)<|.xi 3,.not<|.i (.l 1)<|.xi 4]] (.l 1) l.U acc Y=.ok (if l.bad then acc++[l.U] else acc) Y:=by
 have e:aV O (.and [.i (.l 1)<|.xi 3,.not<|.i (.l 1)<|.xi 4]) [none,some l.U] Y=.ok (.bool (l.pub&&!l.opn)) Y:=xJ (aF (I rfl) ag rfl)<|lg (aF (I rfl) ag rfl) lK
 have hb:l.bad=(l.pub&&!l.opn):=rfl;rw[<-hb] at e;cases q:l.bad with
 |true=>
  rw[q] at e;exact dC rfl (oF e rfl cH) (I rfl) (by omega)
 |false=>
  rw[q] at e;exact jq rfl<|mE e rfl
theorem KT (tB:Y[lk]?=some (.list<|ls.map Lk.U)):∀(rest:List Lk) {acc:aG},acc.length+rest.length<100->dk (iL O [none,none] [1] [.and [.i (.l 1)<|.xi 3,.not<|.i (.l 1)<|.xi 4]]<|.l 1) (.ref lk) (ls.map Lk.U) (rest.map Lk.U) acc Y=.ok (acc++(rest.filter Lk.bad).map Lk.U) Y:=by
 intro rest
 induction rest with
 |nil=>
  intro acc _;rw[List.filter_nil,List.map_nil,gp];exact b8
 |cons l rest ih=>
  intro acc h;rw[dE] at h;refine bo (KR<|by omega) (ba tB) ?_;rw[ih (by split<;>(try rw[b0,gQ])<;>omega),List.filter_cons]
  split
  ·rw[d8,bQ];rfl
  ·rfl
end
noncomputable abbrev BE (s:Nat):Loc:=[some<|.ref s,ai,ai,ai,ai,ai,ai,ai,ai,ai,ai,ai,ai,ai,ai]
abbrev BF:aG:=(((((((([.str<|jn .o .f]++[.str<|jn .o .S])++[.str<|jn .o .E])++[.str<|jn .a .f])++[.str<|jn .a .S])++[.str<|jn .a .E])++[.str<|jn .ab .f])++[.str<|jn .ab .S])++[.str<|jn .ab .E])
section
variable {O:ar} {k:Nat} {Y aw Y':af} {p:Pl} {n:Nm} {s pd lk t:Nat} {pb:Nat->Bool} {ls:List Lk} {a b:Int} {x1 x2 x3 x4 x5:jJ}
theorem GS (hs:Y[s]?=some (aC a b)):∃Y' ls pb y1 y2 y3 y4 y5,(∀RF,bZ (run tx (k+4)) 400 (HB.body.drop 3) (gW s y1 y2 y3 y4 y5 (Y.length+1) Y.length) Y'=RF->bZ (run tx (k+4)) 400 HB.body (BE s) Y=RF)/\nu s Y.length (Y.length+1) pb Y Y' ls/\ls.length<=6:=by
 have hlen:=nf hs;have n1:Y.length≠s:=by omega
 have n2:Y.length+1≠s:=by omega
 have l1:(Y++[Cell.dict []]).length=Y.length+1:=by rw[b0];rfl
 have d1:(Y++[Cell.dict []]++[Cell.list []])[Y.length]?=some (.dict []):=ak ao;have c1:(Y++[Cell.dict []]++[Cell.list []])[Y.length+1]?=some (.list []):=by rw[<-l1];exact ao
 have s1:(Y++[Cell.dict []]++[Cell.list []])[s]?=some (aC a b):=ak<|ak hs
 have K1:bg s Y (Y++[Cell.dict []]++[Cell.list []]):=bg.push.trans .push;have t0:nO (run tx (k+4)) 400 (.set (.U [.l 8,.l 7])<|.U [.dct [] [],.s []]) (BE s) Y=.ok (none,gW s none none none none none (Y.length+1) Y.length) (Y++[Cell.dict []]++[Cell.list []]):=by
  rw[<-l1];exact az (aS<|aa (l7 (ks:=[]) ae)<|aa (bh ae) ae)<|ez rfl rfl<|aR aD<|aR aD dg
 generalize Y++[Cell.dict []]++[Cell.list []]=rh at d1 c1 s1 K1 t0;have e2:aV (run tx (k+4)) (.comp2 [none,none,none,none] [1] (.c<|.gl [.str z_,.str dG,.str aP]) [2] (.s [.xs dQ,.xs cx,.xs eD])<|.call 404 [.l 1,.l 2]) (gW s none none none none none (Y.length+1) Y.length) (rh++[.list [.str dG,.str aP]])=.ok (.ref (rh++[Cell.list [.str dG,.str aP]]++[Cell.list names3]++[Cell.list names3]++[Cell.list names3]).length) (rh++[Cell.list [.str dG,.str aP]]++[Cell.list names3]++[Cell.list names3]++[Cell.list names3]++[.list BF]):=
  KQ ag rfl (bo (r0 (k:=k+3) (p:=.o) (acc:=[])<|aN rfl) rfl<|bo (r0 (k:=k+3) (p:=.a)<|aN rfl) rfl<|bo (r0 (k:=k+3) (p:=.ab)<|aN rfl) rfl b8)
 have q1:(rh++[Cell.list [.str dG,.str aP]]++[Cell.list names3]++[Cell.list names3]++[Cell.list names3]++[Cell.list BF])[rh.length]?=some (.list [.str dG,.str aP]):=ak<|ak<|ak<|ak ao
 have K2:bg s Y (rh++[Cell.list [.str dG,.str aP]]++[Cell.list names3]++[Cell.list names3]++[Cell.list names3]++[Cell.list BF]):=((((K1.trans .push).trans .push).trans .push).trans .push).trans .push;have s2:(rh++[Cell.list [.str dG,.str aP]]++[Cell.list names3]++[Cell.list names3]++[Cell.list names3]++[Cell.list BF])[s]?=some (aC a b):=ak<|ak<|ak<|ak<|ak s1
 have d2:(rh++[Cell.list [.str dG,.str aP]]++[Cell.list names3]++[Cell.list names3]++[Cell.list names3]++[Cell.list BF])[Y.length]?=some (.dict []):=ak<|ak<|ak<|ak<|ak d1
 have c2:(rh++[Cell.list [.str dG,.str aP]]++[Cell.list names3]++[Cell.list names3]++[Cell.list names3]++[Cell.list BF])[Y.length+1]?=some (.list []):=ak<|ak<|ak<|ak<|ak c1
 have q2:=ao (Y:=rh++[Cell.list [.str dG,.str aP]]++[Cell.list names3]++[Cell.list names3]++[Cell.list names3]) (c:=.list BF);have ex:aV (run tx (k+4)) (.s [.xs dG,.xs aP]) (gW s none none none none none (Y.length+1) Y.length) rh=.ok (.ref rh.length) (rh++[.list [.str dG,.str aP]]):=bh<|aa ag<|aa ag ae
 generalize (rh++[Cell.list [.str dG,.str aP]]++[Cell.list names3]++[Cell.list names3]++[Cell.list names3]).length=j2 at e2 q2;generalize (rh++[Cell.list [.str dG,.str aP]]++[Cell.list names3]++[Cell.list names3]++[Cell.list names3]++[Cell.list BF])=zo at e2 q1 K2 s2 d2 c2 q2;have aa9:jk zo .Add (.ref rh.length) (.ref j2)=.ok (.ref zo.length) (zo++[.list<|NF.map .str]):=by
  show Hy zo _ _= _;exact cq (js q1)<|cq (js q2)<|(if_pos<|aN rfl).trans rfl
 have s3:=ak (c':=Cell.list<|NF.map .str) s2;refine LM (GQ (k:=k+3) (aw:=Y) (x2:=none) (x3:=none) (x4:=none) (x5:=none) (u:=zo.length) (all:=NF) (lk:=Y.length+1) (pd:=Y.length) n1 n2 (by omega) (dl s2<|a9 _) (by have:=K2.le;have:=(bM.mp d2).1;omega) (a9 _) NF 0 (x1:=none) s3 (ak d2) ao (ak c2) (K2.trans .push) (by decide+kernel) (λM M=>rfl)<|aN rfl) λBS pb a3 b3 y1 zq=>Pw zq λe3 s3' d3 c3 K3=>?_;have H3:nu s Y.length (Y.length+1) pb Y BS []:=⟨⟨a3,b3,s3'⟩,d3,c3,K3,(λM h=>nomatch h),(λM h=>nomatch h),jG⟩;refine kg (iZ (k+4) (by omega) (top:=6) s3' (by decide)<|by decide) λd a4 b4 g0 g1 e4=>?_;have H4:nu s Y.length (Y.length+1) pb Y (BS.set s<|aC a4 b4) []:=⟨⟨a4,b4,cW s3' a4 b4⟩,bg.set.old _ _ n1 d3,bg.set.old _ _ n2 c3,K3.trans .set,(λM h=>nomatch h),(λM h=>nomatch h),jG⟩;generalize BS.set s (aC a4 b4)=Pb at e4 H4;have hn:∃m:Nat,1+d=(m:Int)/\m<=6:=⟨(1+d).toNat,by omega,by omega⟩;refine aI hn λm hm hm6=>?_;have hr:cG Pb (.rng 0 (1+d))=some ((List.range' 0 m).map λi=>.int<|Int.ofNat i):=by
  unfold cG;dsimp only;rw[if_pos ⟨by decide,by decide,by omega,by omega⟩,hm,List.range_eq_range']
  congr 1
  rw[show((m:Int) - 0).toNat=m by omega];refine t8 λi M=>?_;rw[Int.zero_add];rfl
 refine E6 (BD (k:=k) (x1:=y1) (x2:=none) (x3:=none) (x4:=none) (x5:=none) (src:=.rng 0 (1+d)) (all:=(List.range' 0 m).map λi=>.int<|Int.ofNat i) n1 n2 (by omega) (kN _) (λM=>rfl) m (ls:=[]) H4 (by rw[List.length_nil];omega)) λET ls z2 z3 z4 z5 e5 H5 hl=>?_;refine WA ET ls pb y1 z2 z3 z4 z5<|LS (λRF hx=>?_) H5 hl
 refine ah t0<|ah (gB (eX ex e2 aa9) (cI ao) e3) ?_
 exact ah (gB (cL (aa (eX ag (aK (aa (I rfl)<|aa ag ae) e4)<|show jk Pb .Add (.int 1) (.int d)=.ok (.int (1+d)) Pb from rfl) ae)<|show vS Pb .range [.int (1+d)]=.ok (.rng 0 (1+d)) Pb from rfl) hr e5) hx
end
section
variable {k:Nat} {Y:af} {s:Nat} {a b:Int}
theorem GT (hs:Y[s]?=some (aC a b)):∃Y' a' b',run tx (k+10) 458 [.ref s] Y=.ok (.bool true) Y'/\bg s Y Y'/\Y'[s]?=some (aC a' b'):=by
 refine SV (GS (k:=k+5) hs) λET ls pb y1 y2 y3 y4 y5 zq=>He zq λpre H hl=>kf H.src λa5 b5 s5=>?_;have gX:iO ls:=⟨hl,λl h=>⟨by have:=H.lt l h;exact d9 ‹_› ‹_›,(H.ok l h).len⟩,H.nd⟩;have G6:dp ET (ET++[Cell.list<|(ls.filter Lk.bad).map Lk.U]++[Cell.list []]):=(dp.refl (Y:=ET)).push.push;have en:=ig (ak (c':=Cell.list [])<|ao (Y:=ET) (c:=.list<|(ls.filter Lk.bad).map Lk.U)) ao;have t3:∀(b:Bool) (w:V),(!((ls.filter Lk.bad).map Lk.U).isEmpty)=b->df b (.xs kR) (.c .none)=X.c w->nO (run tx (k+9)) 400 (.set (.l 6)<|.ite (.m .NotEq (.comp [none,none] [1] (.l 7) [.and [.i (.l 1)<|.xi 3,.not<|.i (.l 1)<|.xi 4]]<|.l 1)<|.s []) (.xs kR)<|.c .none) (gW s y1 y2 y3 y4 y5 (Y.length+1) Y.length) ET=.ok (none,(gW s y1 y2 y3 y4 y5 (Y.length+1) Y.length).set 6<|some w) (ET++[Cell.list<|(ls.filter Lk.bad).map Lk.U]++[Cell.list []]):=λb w hb hw=>by
  rw[hb] at en;refine az (rP (aq (dU (I rfl) (cI H.links)<|KT H.links ls (acc:=[]) (by rw[List.length_nil];omega)) (bh ae) en) lK ?_) aD;rw[hw];exact ag
 generalize (ET++[Cell.list<|(ls.filter Lk.bad).map Lk.U]++[Cell.list []])=NO at G6 t3;clear en;refine sU (NU (k:=k+5) gX NO (G6.old _ _ H.pubs)<|G6.old _ _ H.links) λj Zh e7 G7 M h7=>xe9 (Ki (k:=k+3) gX h7) λWJ A B0 B1 B2 u0 u1 u2 U zq=>He zq λe8 hA H8=>?_;have H8':mh ⟨B0,B1,B2,u0,u1,u2,pb,ls⟩ U Zh WJ A:=H8;refine aM (H8'.iD .o) λR h8=>?_;have m0:=h8.get 0 rfl;rw[hA] at m0;refine aI (By (k:=k+1) H8' gX H.ok) λWL G9 h9=>?_;rw[hA] at h9;have G:=(G6.trans G7).trans G9;have s9:=G.old _ _ s5;have em:∀{r:Res V},run tx (k+9) 359 [.ref (Zh.length+1)] WJ=r->aV (run tx (k+9)) (.bG (.new 367 [.call 453 [.xs z_,.l 1,.l 0]]) Hq []) [some<|.ref (Y.length+1),some<|.ref Y.length,none,none] NO=r:=λhr=>
  bO (vd rfl (aa (aK (aa ag<|aa (I rfl)<|aa (I rfl) ae) e7) ae) e8) (bY m0 (h8.get 1 rfl) rfl rfl) ae hr
 refine zz WL a5 b5 ?_ (H.keep.trans G.keep:bg s Y WL) s9;rw[dA];refine aY h9 (λZt=>?_) λZu=>?_
 ·refine cN Zt λhb e9=>?_;have hf:ls.filter Lk.bad=[]:=List.filter_eq_nil_iff.mpr λl hl=>by rw[hb l hl];exact Bool.false_ne_true
  apply bf (i:=HB) (R:=(some<|.bool true,_)) rfl rfl rfl;refine pre _<|ah (t3 false .none (by rw[hf];rfl) rfl) ?_
  exact bP<|bL<|aq (yF<|em e9) (I rfl)<|by k_all
 ·refine cN Zu λHJ e9=>?_;refine aI HJ λl lS hb=>?_;have hf:(!((ls.filter Lk.bad).map Lk.U).isEmpty)=true:=by
   have hm:l∈ls.filter Lk.bad:=List.mem_filter.mpr ⟨lS,hb⟩;cases q:ls.filter Lk.bad with
   |nil=>rw[q] at hm;cases hm
   |cons _ _=>rfl
  apply bf (i:=HB) (R:=(some<|.bool true,_)) rfl rfl rfl;refine pre _<|ah (t3 true (.str kR) hf rfl) ?_
  exact bP<|bL<|aq (pf (C:=64) (.inl rfl)<|em e9) (I rfl)<|by k_all
end
theorem KU {gx:Gx}(H:nP gx tx):EO (2 * 600):=λY s a b hs=>by
 refine kg (GT (k:=0) hs) λY' a' b' e h1 h2=>zz Y' a' b' ?_ h1 h2;have:=((H.run 10).pr (f:=458) (vs:=[.ref s]) (Y:=Y)).weaken (n':=2 * 600) (by decide) (by decide);rw[e] at this;exact this
abbrev KS (P:Params)(b:Addr)(o:Obj):Frag:=KF P++[(b,o)]
noncomputable def GU:Nat->(List Value->Prop)->Prop
 | 0,Q=>Q []
 |n+1,Q=>∀a,GU n λl=>Q (a::l)
theorem GU.get:∀{n:Nat} {Q:List Value->Prop},GU n Q->∀us,us.length=n->Q us:=by
 intro n
 induction n with
 |zero=>intro Q h us e;rw[qm e];exact h
 |succ n ih=>
  intro Q h us e;cases us with
  |nil=>cases e
  |cons a l=>exact ih (h a) l<|jH e
theorem gE {L X:Frag}{a:Addr}{o:Obj}(h:L.lookup a=some o):(L++X).lookup a=some o:=by
 induction L with
 |nil=>cases h
 |cons p r ih=>
  obtain⟨b,x⟩:=p;rw[sd,kL];rw[kL] at h;cases q:a==b with
  |true=>rw[q] at h;exact h
  |false=>rw[q] at h;exact ih h
theorem lookup_mem {β:Type}{l:List (Nat × β)}{a:Nat}{o:β}(nd:(l.map (·.1)).Nodup)(h:(a,o)∈l):l.lookup a=some o:=by
 induction l with
 |nil=>cases h
 |cons p r ih=>
  obtain⟨b,x⟩:=p;rw[d8,gY] at nd;rw[kL];refine aY (aX.mp h) (λe=>?_) λe=>?_
  ·cases e;rw[kM]
  ·have dS:=beq_eq_false_iff_ne.mpr λq=>nd.1 (by
    have:=cB (f:=λp:Nat × β=>p.1) e;rw[<-show a=b from q];exact this)
   rw[dS];exact ih nd.2 e
theorem EZ {r:FR}:∀{l:List FR},r∈l->(r.a,r.fn)∈E9 l/\(r.a - 1,r.code)∈E9 l:=by
 intro l
 induction l with
 |nil=>intro h;cases h
 |cons x t ih=>
  intro h;rcases aX.mp h with rfl | h
  ·exact⟨.head _,.tail _<|.head _⟩
  ·exact⟨.tail _<|.tail _ (ih h).1,.tail _<|.tail _ (ih h).2⟩
theorem E0:((E9 jz).map (·.1)).Nodup:=by decide+kernel
theorem tq:K=KS w.params z0.b z0.o:=rfl
theorem zg {r:FR}(h:r∈jz):K.lookup r.a=some r.fn:=by rw[tq];exact gE<|gE<|lookup_mem E0 (EZ h).1
theorem r2 {r:FR}(h:r∈jz):K.lookup (r.a - 1)=some r.code:=by rw[tq];exact gE<|gE<|lookup_mem E0 (EZ h).2
noncomputable def FR.pn (r:FR):cY:=r.s.params.args.map (·.arg)
noncomputable def FR.dd (r:FR):CQ:={name:=r.s.name,qual:=r.qual,params:=r.s.params,body:=r.s.body,scope:=r.s.scope,dV:=DT r.d,kV:=.none,doc:=.none,pm:=Ta r.m,cdv:=.ref (r.a - 1),ct:=.none,an:=none,oc:=.type "function",od:=none,osl:=#[],pn:=r.pn}
noncomputable def Zv (ns:Ns)(p:Str × Nat):Bool:=match ns[p.2]? with
 |some (x,k)=>x==p.1&&(k==.local||k==.cell)
 |none=>false
def RP (r:FR)(i:gI):Bool:=
 (r.s.scope.kind==.function&&(!r.s.scope.isCoroutine&&(!r.s.scope.isGenerator&&(decide (r.s.scope.names.map (·.1)).Nodup&&r.s.scope.names.all λp=>p.2 != .free))))&&
 ((i.slots==r.s.scope.names.length&&(decide r.pn.Nodup&&(r.pn.length==i.ps.length&&(r.pn.zip i.ps).all (Zv r.s.scope.names))))&&
 (rx gx i.body (hM.contains r.a) r.s.body r.s.scope.names&&(((r.d==0&&i.dflt.isEmpty)||(r.a==151&&r.d==144)||(r.a==302&&r.d==295))&&r.a - 1 != r.r11)))
def VV (p:Nat × gI):Bool:=match jz.find? λr=>r.a==p.1 with
 |some r=>RP r p.2
 |none=>false
theorem NZ:HE.list.all VV=true:=by k_all
def Ph (r:FR):Prop:=match r.d with
 | 0=>GU r.pn.length λus=>bindArgs r.fd ⟨us,[]⟩=pure (r.pn.zip us)
 |_+1=>∀(s:Shared) (o:Obj) (v:Value) (n:Nat),s.heap.get? r.d=some o->o.data=.seq #[v] n->(GU r.pn.length λus=>BindsTo s r.fd ⟨us,[]⟩<|r.pn.zip us)/\GU (r.pn.length - 1) λus=>BindsTo s r.fd ⟨us,[]⟩<|r.pn.zip (us++[v])
theorem KV:Bk Ph jz:=
 ⟨λM M M M h1 h2=>⟨λM M M=>r7 rfl h1 h2 rfl rfl,λM M=>r7 rfl h1 h2 rfl rfl⟩,
 λM M=>rfl,
 λM M M M M M=>rfl,
 λM M=>rfl,
 λM=>rfl,
 λM M M=>rfl,
 λM M M=>rfl,
 λM M M M=>rfl,
 λM M M M=>rfl,
 λM M M M h1 h2=>⟨λM M M M M M=>r7 rfl h1 h2 rfl rfl,λM M M M M=>r7 rfl h1 h2 rfl rfl⟩,
 λM M M M=>rfl,
 λM M M M=>rfl,
 λM M=>rfl,
 λM=>rfl,
 λM M=>rfl,
 λM M M M=>rfl,
 λM=>rfl,
 λM M=>rfl,
 λM M M=>rfl,
 λM M=>rfl,
 λM M M=>rfl,
 λM M M M M M M=>rfl,
 λM M M M M=>rfl,
 λM M M=>rfl,
 λM M M=>rfl,
 λM M M M=>rfl,
 λM M M M h1 h2=>⟨λM M M M M=>r7 rfl h1 h2 rfl rfl,λM M M M=>r7 rfl h1 h2 rfl rfl⟩,
 λM M M M M M=>rfl,
 λM M M M=>rfl,
 λM M M M M M M=>rfl,
 λM M M M M M M=>rfl,
 λM M M M M M=>rfl,
 λM M M M h1 h2=>⟨λM M M M=>r7 rfl h1 h2 rfl rfl,λM M M=>r7 rfl h1 h2 rfl rfl⟩,
 λM=>rfl,
 λM=>rfl,
 λM M M=>rfl,
 λM M=>rfl,
 λM M=>rfl,
 λM M=>rfl,
 λM M=>rfl,
 λM=>rfl,
 λM=>rfl,
 λM M=>rfl,
 λM M=>rfl,
 λM M M=>rfl,
 λM M M=>rfl,
 λM M M=>rfl,
 λM=>rfl,
 λM=>rfl,
 λM=>rfl,
 rfl,
 λM M M=>rfl,
 λM=>rfl,
 λM=>rfl,
 λM M=>rfl,
 λM=>rfl,
 λM M=>rfl,
 λM=>rfl,
 λM=>rfl,trivial⟩
section
variable {r:FR}
theorem N0 {ns:Ns}{ps:List Nat}:∀{pn:cY},(pn.zip ps).all (Zv ns)=true->∀(j:Nat) (nm:Str) (k:Nat),pn[j]?=some nm->ps[j]?=some k->∃kd,ns[k]?=some (nm,kd)/\(kd=.local∨kd=.cell):=by
 intro pn h j nm k h1 h2;have hb:=gn.mp h _<|fN (List.getElem?_zip_eq_some.mpr ⟨h1,h2⟩:(pn.zip ps)[j]?=some (nm,k))
 unfold Zv at hb;dsimp only at hb;cases q:ns[k]? with
 |none=>rw[q] at hb;cases hb
 |some p=>
  obtain⟨x,kd⟩:=p;rw[q] at hb;have hb:=hb;obtain rfl:x=nm:=eq_of_beq<|b1 hb
  exact bD kd rfl<|(Mc<|b2 hb).imp eq_of_beq eq_of_beq
theorem E1 (h:r∈jz):codeIn K (.ref<|r.a - 1) r.qual=true:=by
 show(match K.lookup (r.a - 1) with
  |some ⟨_,_,.fields vs,_⟩=>(match vs.toList with | _::.str n _::_=>n==r.qual | _=>false)
  |_=>false)=true
 rw[r2 h];exact kM _
theorem qi {a:Nat}{x:Obj}(h:(KF w.params).lookup a=some x):K.lookup a=some x:=by rw[tq];exact gE h
theorem N3:CW gx tx:=λf i hf=>by
 have hm:=BT.HD hf;have hc:=gn.mp NZ _ hm;unfold VV at hc;dsimp only at hc;cases q:jz.find? λr=>r.a==f with
 |none=>rw[q] at hc;cases hc
 |some r=>
  rw[q] at hc;have hc:=hc;have hr:=zx q;have ha:r.a=f:=eq_of_beq<|List.find?_some (p:=λr:FR=>r.a==f) q
  subst ha;have c1:=b1 hc;have c2:=b1<|b2 hc
  have c3:=b2<|b2 hc
  have hlen:=eq_of_beq<|b1<|b2<|b2 c2
  refine bD r.dd ⟨zg hr,E1 hr,eq_of_beq<|b1 c1,nn<|b1<|b2 c1,nn<|b1<|b2<|b2 c1,od<|b1<|b2<|b2<|b2 c1,λp hp=>bne_iff_ne.mp<|gn.mp (b2<|b2<|b2<|b2 c1) p hp,eq_of_beq<|b1 c2,od<|b1<|b2 c2,hlen,N0<|b2<|b2<|b2 c2,b1 c3,?_⟩ ?_
  ·intro s us X h1 h2;have hb:=KV.get r hr;unfold Ph at hb;refine aY (Mc<|b1<|b2 c3) (λh0=>?_) λh0=>?_
   ·refine aY (Mc h0) (λh0=>?_) λh0=>?_
    ·have hd:r.d=0:=eq_of_beq<|b1 h0
     have hi:=isNil<|b2 h0
     rw[hd] at hb;rw[hi,List.length_nil] at h2;refine bD ([]) ?_ (by rw[hi,List.drop_nil];exact .nil);rw[gp];exact BindsTo.of_eq<|hb.get us<|by omega
    ·have hd:r.d=144:=eq_of_beq<|b2 h0
     have hA:r.a=151:=eq_of_beq<|b1 h0
     have hi:i=TY:=aT<|hf.symm.trans (by rw[hA];rfl)
     rw[hd] at hb;refine cN (hb s _ _ _ (X _ _ (qi (x:=sO "tuple" #[.none] 0) (by k_all))) rfl) λg1 g2=>?_;subst hi;have h6:r.pn.length=6:=hlen;have h1:us.length<=6:=h1;have h2:6<=us.length+1:=h2;by_cases h5:us.length=6
     ·exact bD ([]) (by rw[gp];exact g1.get us<|by omega) (by rw[h5];exact .nil)
     ·have h5:us.length=5:=by omega
      exact bD ([.none]) (g2.get us<|by omega) (by rw[h5];exact .cons .none .nil)
   ·have hd:r.d=295:=eq_of_beq<|b2 h0
    have hA:r.a=302:=eq_of_beq<|b1 h0
    have hi:i=Fk:=aT<|hf.symm.trans (by rw[hA];rfl)
    rw[hd] at hb;refine cN (hb s _ _ _ (X _ _ (qi (x:=sO "tuple" #[.int 0 625] 0) (by k_all))) rfl) λg1 g2=>?_;subst hi;have h6:r.pn.length=5:=hlen;have h1:us.length<=5:=h1;have h2:5<=us.length+1:=h2;by_cases h5:us.length=5
    ·exact bD ([]) (by rw[gp];exact g1.get us<|by omega) (by rw[h5];exact .nil)
    ·have h5:us.length=4:=by omega
     exact bD ([.int 0 625]) (g2.get us<|by omega) (by rw[h5];exact .cons (.int 0 625) .nil)
  ·intro hw;have ht:tabOf K r.a=some (r.r11,r.qual++".<locals>."++"<lambda>"):=by
    unfold tabOf;rw[zg hr];show(match K.lookup (r.a - 1) with
     |some ⟨_,_,.fields vs,_⟩=>(match (vs[11]?:Option Value) with
      |some (.ref P)=>some (P,r.qual++".<locals>."++"<lambda>")
      |_=>none)
     |_=>none)= _
    rw[r2 hr];rfl
   exact eT (r.a - 1) r.r11 rfl (λh X=>⟨r.code,r.cs,_,_,_,_,_,_,_,X _ _<|r2 hr,rfl,rfl,rfl,rfl,rfl,rfl,rfl,rfl,bne_iff_ne.mp<|b2<|b2 c3⟩)<|List.mem_filterMap.mpr ⟨r.a,by simpa using hw,ht⟩
end
theorem mem_lookup {α β:Type}[BEq α][LawfulBEq α]:∀{l:List (α × β)} {x:α} {a:β},l.lookup x=some a->(x,a)∈l:=by
 intro l
 induction l with
 |nil=>intro x a h;cases h
 |cons p r ih=>
  intro x a h;obtain⟨y,z⟩:=p;rw[kL] at h;cases q:x==y with
  |true=>rw[q] at h;cases h;rw[show x=y from eq_of_beq q];exact .head _
  |false=>rw[q] at h;exact .tail _<|ih h
section
variable (K:Frag)
noncomputable def KW (C:Nat):Bool:=plainGet K C default&&(hasDictIn K C&&(decide (findIn K (.ref C) "__setattr__"=some (some (.builtin "object.__setattr__")))&&(plainOver K C&&(decide (findIn K (.ref C) "__eq__"=some (some (.builtin "object.__eq__")))&&(decide (findIn K (.ref C) "__ne__"=some (some (.builtin "object.__ne__")))&&(decide (subIn K (.type "str") (.ref C)=some false)&&decide (subIn K (.ref C) (.type "object")=some true)))))))
noncomputable def N4 (p:Nat × Nat):Bool:=decide (findIn K (.ref p.1) "__init__"=some (some (.ref p.2)))&&(decide (typeIn K (.ref p.2)=some (.type "function"))&&(makesIn K p.1&&(keepIn K (.ref p.1)&&KW K p.1)))
noncomputable def N5 (C:Nat)(q:Str × Nat):Bool:=decide (findIn K (.ref C) q.1=some (some (.ref q.2)))&&(decide (typeIn K (.ref q.2)=some (.type "function"))&&keepIn K (.ref q.2))
def VW:Bool:=(yc.all λp=>p.2.all λnm=>decide<|findIn K (.ref p.1) nm=some none)&&((meths.all λp=>p.2.all<|N5 K p.1)&&(zW.all (N4 K)&&((TU.all λp=>decide (nsIn K mainGlobals p.1=some (some<|.ref p.2))&&keepIn K (.ref p.2))&&(OG.all λp=>decide<|nsIn K mainGlobals p.1=some (some<|.ref p.2)))))
def VX (p:Str × Bi):Bool:=decide (nsIn K mainGlobals p.1=some none)&&(decide (bootBuiltins p.1=some (sy p.2))&&decide (p.1≠"__name__"))
noncomputable def VY:Value->Nat
 | .ref a=>a
 |_=>0
noncomputable def N6:Value->Int
 | .int i _=>i
 |_=>0
noncomputable def N7:Value->Str
 | .str s _=>s
 |_=>default
noncomputable def N8:Data->Array Value
 | .seq vs _=>vs
 |_=>#[]
def sR (c:String)(u:Value):Option (Array Value):=match K.lookup (VY u) with
 |some o=>if (u.ctorIdx==10&&(decide (o.cls=.type c)&&o.data.ctorIdx==2))=true then some (N8 o.data) else none
 |none=>none
mutual
noncomputable def N9:V->Value->Bool
 | .none,u=>decide (u=.none)
 | .bool b,u=>decide<|u=.bool b
 | .int i,u=>u.ctorIdx==4&&N6 u==i
 | .str s,u=>u.ctorIdx==6&&N7 u==s
 | .U l,u=>match sR K "tuple" u with
  |some vs=>xK l vs.toList
  |none=>false
 | .gl l,u=>match sR K "list" u with
  |some vs=>xK l vs.toList
  |none=>false
 | .rng _ _,_=>false
 | .ref _,_=>false
noncomputable def xK:List V->List Value->Bool
 | [],us=>us.isEmpty
 |a::r,us=>!us.isEmpty&&(N9 a (us.headD .none)&&xK r us.tail)
end
def KY (p:Str × V):Bool:=match nsIn K mainGlobals p.1 with
 |some (some u)=>N9 K p.2 u
 |_=>false
def KZ:Bool:=VW K&&(TV.all (VX K)&&OH.all (KY K))
end
theorem BH {c:String}{u:Value}{vs:Array Value}(h:sR K c u=some vs):∃a o n,u=.ref a/\K.lookup a=some o/\o.cls=.type c/\o.data=.seq vs n:=by
 unfold sR at h;cases q:K.lookup (VY u) with
 |none=>rw[q] at h;cases h
 |some o=>
  rw[q] at h;have h':(if (u.ctorIdx==10&&(decide (o.cls=.type c)&&o.data.ctorIdx==2))=true then some (N8 o.data) else none)=some vs:=h;clear h;by_cases hc:(u.ctorIdx==10&&(decide (o.cls=.type c)&&o.data.ctorIdx==2))=true
  ·rw[if_pos hc] at h';obtain⟨a,rfl⟩:∃a,u=.ref a:=@Value.ref.elim (λu=>∃a,u=.ref a) u (ix<|b1 hc) λa=>⟨a,rfl⟩;obtain⟨n,hn⟩:∃n,o.data=.seq (N8 o.data) n:=@Data.seq.elim (λd=>∃n,d=.seq (N8 d) n) o.data (ix<|b2<|b2 hc) λvs n=>⟨n,rfl⟩;exact sV a o n rfl q (od<|b1<|b2 hc) (by rw[<-aT h'];exact hn)
  ·rw[if_neg hc] at h';cases h'
theorem Oa (v:V):∀u,N9 K v u=true->bF [] [] u v:=by
 refine @V.rec (λv=>∀u,N9 K v u=true->bF [] [] u v) (λl=>∀us,xK K l us=true->cf [] [] us l) ?none ?bool ?int ?str ?U ?gl ?rng ?ref ?nil ?cons v
 case none=>exact λu h=>by obtain rfl:=od h;exact .none
 case bool=>exact λb u h=>by obtain rfl:=od h;exact .bool b
 case int=>exact λi u h=>@Value.int.elim (λu=>(N6 u==i)=true->bF [] [] u (.int i)) u (ix<|b1<|show(u.ctorIdx==4&&N6 u==i)=true from h) (λj t h=>by obtain rfl:j=i:=eq_of_beq h;exact .int j t)<|b2<|show(u.ctorIdx==4&&N6 u==i)=true from h
 case str=>exact λs u h=>@Value.str.elim (λu=>(N7 u==s)=true->bF [] [] u (.str s)) u (ix<|b1<|show(u.ctorIdx==6&&N7 u==s)=true from h) (λj t h=>by obtain rfl:j=s:=eq_of_beq h;exact .str j t)<|b2<|show(u.ctorIdx==6&&N7 u==s)=true from h
 case U=>
  intro l ih u h;have h':(match sR K "tuple" u with
   |some vs=>xK K l vs.toList
   |none=>false)=true:=h
  clear h;cases q:sR K "tuple" u with
  |none=>rw[q] at h';cases h'
  |some vs=>
   rw[q] at h';refine ud (BH q) λa o n dZ h1 h2 h3=>?_;subst dZ;exact .U (.inr h1) dj h2 h3<|ih _ h'
 case gl=>
  intro l ih u h;have h':(match sR K "list" u with
   |some vs=>xK K l vs.toList
   |none=>false)=true:=h
  clear h;cases q:sR K "list" u with
  |none=>rw[q] at h';cases h'
  |some vs=>
   rw[q] at h';refine ud (BH q) λa o n mu h1 h2 h3=>?_;subst mu;exact .gl h1 h2 h3<|ih _ h'
 case rng=>exact λM M u h=>nomatch h
 case ref=>exact λM u h=>nomatch h
 case nil=>exact λus h=>by rw[isNil h];exact .nil
 case cons=>
  intro a r rj Ld us h;have h:=h;rw[cons_of (b1 h) .none];exact .cons (rj _<|b1<|b2 h)<|Ld _<|b2<|b2 h
theorem RQ {C:Nat}(h:KW K C=true):OwnCls K C:=
 ⟨λM=>b1 h,b1<|b2 h,od<|b1<|b2<|b2 h,b1<|b2<|b2<|b2 h,od<|b1<|b2<|b2<|b2<|b2 h,od<|b1<|b2<|b2<|b2<|b2<|b2 h,od<|b1<|b2<|b2<|b2<|b2<|b2<|b2 h,od<|b2<|b2<|b2<|b2<|b2<|b2<|b2 h⟩
theorem VZ:∀nm m,XX.lookup nm=some m->nm=rF m:=λnm m h=>(show Bk (λp:Str × Bm=>p.1=rF p.2) XX from⟨by k_all,by k_all,by k_all,by k_all,by k_all,by k_all,by k_all,trivial⟩).get _<|mem_lookup h
theorem K0 (h:KZ K=true)(hx:∀C:Nat,(C==52||C==64||C==76)=true->keepIn K (.ref C)=true/\nW K C/\uR C):oZ gx:=by
 have hn:=b1 h;exact{
  attrs:=λC nm e=>by
   have e:((yc.lookup C).getD []).contains nm=true:=e;cases q:yc.lookup C with
   |none=>rw[q] at e;cases e
   |some l=>
    rw[q] at e;exact od<|gn.mp ((gn.mp<|b1 hn) _<|mem_lookup q) nm<|List.contains_iff_mem.mp e
  meths:=λC nm f e=>by
   have e:((meths.lookup C).bind λl=>l.lookup nm)=some f:=e;cases q:meths.lookup C with
   |none=>rw[q] at e;cases e
   |some l=>
    rw[q] at e;have hm:=gn.mp ((gn.mp<|b1<|b2 hn) _<|mem_lookup q) _<|mem_lookup e
    exact⟨od<|b1 hm,od<|b1<|b2 hm,b2<|b2 hm⟩
  zW:=λC f e=>by
   have hi:=(gn.mp<|b1<|b2<|b2 hn) _<|mem_lookup e
   exact⟨od<|b1 hi,od<|b1<|b2 hi,b1<|b2<|b2 hi,b1<|b2<|b2<|b2 hi,RQ<|b2<|b2<|b2<|b2 hi⟩
  val:=λx v e=>by
   have hv:=(gn.mp<|b2<|b2 h) _<|mem_lookup e
   unfold KY at hv;dsimp only at hv;cases q:nsIn K mainGlobals x with
   |none=>rw[q] at hv;cases hv
   |some u=>
    cases u with
    |none=>rw[q] at hv;cases hv
    |some u=>rw[q] at hv;exact bD u q<|Oa v u hv
  fn:=λx f e=>by
   have hf:=(gn.mp<|b1<|b2<|b2<|b2 hn) _<|mem_lookup e
   exact⟨od<|b1 hf,b2 hf⟩
  cls:=λx C e=>od<|(gn.mp<|b2<|b2<|b2<|b2 hn) _<|mem_lookup e
  bi:=λx b e=>by
   have hb:=(gn.mp<|b1<|b2 h) _<|mem_lookup e
   exact⟨od<|b1 hb,od<|b1<|b2 hb,od<|b2<|b2 hb⟩
  bm:=VZ
  exc:=hx}
theorem V0 {P:Params}{b:Addr}{o:Obj}:KZ (KS P b o)=true:=by k_all
section
variable {P:Params} {b:Addr} {o:Obj}
theorem V1:Bk (λp:Addr × Obj=>(KF P).lookup p.1=some p.2) (G1 P):=⟨by k_all,by k_all,by k_all,by k_all,by k_all,by k_all,by k_all,by k_all,by k_all,by k_all,by k_all,by k_all,trivial⟩
theorem Zw {h:Heap}(X:K.In h):(G1 w.params).In h:=λa x e=>X a x (by rw[tq];exact gE<|V1.get _<|mem_lookup e)
noncomputable def BI (K:Frag)(C:Nat):Bool:=decide (findIn K (.ref C) "__init__"=some (some (.ref 36)))&&(decide (findIn K (.ref C) "__setattr__"=some (some (.builtin "object.__setattr__")))&&(decide (findIn K (.ref C) "message"=some none)&&(decide (findIn K (.ref C) "spot"=some none)&&keepIn K (.ref C))))
theorem RR:(BI (KS P b o) 52&&(BI (KS P b o) 64&&BI (KS P b o) 76))=true:=by k_all
theorem zh {C:Nat}{x:Obj}(hl:(KF w.params).lookup C=some x)(hx:∃nm q aax bs D sn sub ab col dd k0 k1 k2 k3 k5,x=excClassObj nm q C aax bs (.ref D::wC) true sn sub ab col dd k0 k1 k2 k3 k5 "Exception.__new__")(h:BI K C=true):nW K C:=by
 obtain⟨nm,q,aax,bs,D,sn,sub,ab,col,dd,k0,k1,k2,k3,k5,rfl⟩:=hx;exact⟨⟨nm,q,aax,bs,D,sn,sub,ab,col,dd,k0,k1,k2,k3,k5,qi hl⟩,od<|b1 h,od<|b1<|b2 h,od<|b1<|b2<|b2 h,od<|b1<|b2<|b2<|b2 h⟩
theorem zi {C:Nat}(hE:nW (G1 w.params) C):uR C:=λB F X T hA hf hk hd h=>Hi B F (Zw X) T hA hf hk hd hE (XF w) h
theorem RT (C:Nat)(hC:(C==52||C==64||C==76)=true):keepIn K (.ref C)=true/\nW K C/\uR C:=by
 have hk:(BI K 52&&(BI K 64&&BI K 76))=true:=by rw[tq];exact RR
 have kp:∀{C:Nat},BI K C=true->keepIn K (.ref C)=true:=λh=>b2<|b2<|b2<|b2 h
 refine aY (Mc hC) (λhC=>?_) λhC=>?_
 ·refine aY (Mc hC) (λhC=>?_) λhC=>?_
  ·obtain rfl:C=52:=eq_of_beq hC;exact⟨kp<|b1 hk,zh (x:=Xy) (by k_all) ⟨_,_,_,_,_,_,_,_,_,_,_,_,_,_,_,rfl⟩<|b1 hk,zi<|LZ w⟩
  ·obtain rfl:C=64:=eq_of_beq hC;exact⟨kp<|b1<|b2 hk,zh (x:=Xz) (by k_all) ⟨_,_,_,_,_,_,_,_,_,_,_,_,_,_,_,rfl⟩<|b1<|b2 hk,zi<|L0 w⟩
 ·obtain rfl:C=76:=eq_of_beq hC;exact⟨kp<|b2<|b2 hk,zh (x:=XA) (by k_all) ⟨_,_,_,_,_,_,_,_,_,_,_,_,_,_,_,rfl⟩<|b2<|b2 hk,zi<|L1 w⟩
noncomputable def K7:FR:=⟨418,34,0,"_law_word",3,0,819,343,1,412,413,414,415,416,823⟩
theorem K8:K7∈jz:=fN (i:=41) rfl
theorem Ob:((gT<|KS P b o).map (·.1)).Nodup:=by
 rw[(by k_all:(gT<|KS P b o).map (·.1)=[455,460,467,512,517,524])];decide
theorem Oc:nsIn (KS P b o) mainGlobals gx.word=some (some<|.ref 418):=by k_all
theorem Zx {x:Str}{v:Value}(h:nsIn (KS w.params z0.b z0.o) mainGlobals x=some (some v)):KtsName K x v:=.inl (by rw[tq];exact h)
theorem GV {x y:Value}{r:Option Bool}(h:exmOne (KS w.params z0.b z0.o) x y=r):exmOne K x y=r:=by rw[tq];exact h
noncomputable def CV:Ef where
 D:=K7.dd
 cn:=_
 p1:=_
 p2:=_
 p3:=_
 p4:=_
 h1:=⟨_,_,_,_,_,_,_⟩
 h2:=⟨_,_,_,_,_,_,_⟩
 h3:=⟨_,_,_,_,_,_,_⟩
 look:=zg K8
 code:=E1 K8
 kind:=rfl
 co:=rfl
 gen:=rfl
 body:=rfl
 nocells:=λM=>rfl
 lk1:=rfl
 lk2:=rfl
 lk3:=rfl
 lk4:=rfl
 bind:=λs v=>BindsTo.of_eq rfl
 dbg:=by decide
 w1:=rfl
 w2:=rfl
 w3:=rfl
 n1:=Zx (by k_all)
 n2:=Zx (by k_all)
 n3:=Zx (by k_all)
 e11:=GV (by k_all)
 e21:=GV (by k_all)
 e22:=GV (by k_all)
 e31:=GV (by k_all)
 e32:=GV (by k_all)
 e33:=GV (by k_all)
theorem Od:keepIn (KS P b o) (.ref 418)=true:=by k_all
theorem Oe:yE gx:=⟨⟨CV⟩,by rw[tq];exact Ob,by rw[tq];exact Oc,by rw[tq];exact Od⟩
theorem wld:nP gx tx:=⟨K0 (by rw[tq];exact V0) RT,Oe,N3⟩
end
section
variable {O:ar} {gx:Gx} {Z:Led} {s:Shared} {base:Heap} {f:Addr} {i:gI} {us:List Value} {vs:aG}
theorem DJ {tx:Text}(H:nP gx tx){k:Nat}(S:hV O (2 * k))(hk:k<650)(hf:tx.fn f=some i)(hl:vs.length=i.ps.length){R:Result->Shared->Prop}{v:V}{Y':af}
  (xQ:K.In base) {p:Program} {loose:cY} {j7:ExcName->Option Value} {mg mb:ly} (T:Top p loose j7 mg mb base) (hb:∀b o,base.get? b=some o->s.heap.get? b=some o) (hs:base.objs.size<=s.heap.objs.size)
  (hZ:∀p∈Z,s.heap.get? p.1=some p.2/\base.get? p.1=none) (Rp:Rep [] Z []) (is:cf [] Z us vs) (e:bk tx O f vs []=.ok v Y')
  (hq:∀u bR Z' h' eS,(∀b o,base.get? b=some o->h'.get? b=some o)->Rep bR Z' Y'->(∀p∈Z',h'.get? p.1=some p.2)->bF bR Z' u v->R (.ok<|.ret u) {s with heap:=h',toks:=eS}):
  codeAny Mo callerA (.call (.ref f) ⟨us,[]⟩) R s:=by
 refine aI (H.defs f i hf) λD X Pm=>?_;have hsz:=hs;have e:fq (tx.fn f) (λi=>if vs.length<=i.ps.length/\i.ps.length<=vs.length+i.dflt.length then fq (jZ i.slots i.ps<|vs++i.dflt.drop (vs.length+i.dflt.length - i.ps.length)) λN=>(bZ O tx.wh i.body N []).bind λr Y=>.ok (r.1.getD .none) Y else .stuck)=.ok v Y':=e;rw[hf] at e;have e:(if vs.length<=i.ps.length/\i.ps.length<=vs.length+i.dflt.length then fq (jZ i.slots i.ps<|vs++i.dflt.drop (vs.length+i.dflt.length - i.ps.length)) λN=>(bZ O tx.wh i.body N []).bind λr Y=>.ok (r.1.getD .none) Y else .stuck)=Res.ok v Y':=e;rw[if_pos ⟨qq hl,hl▸dX _ _⟩,hl,r6,List.drop_length,gp] at e;cases hp:jZ i.slots i.ps vs with
 |none=>rw[hp] at e;cases (show(Res.stuck:Res V)=.ok v Y' from e)
 |some N=>
  rw[hp] at e;have e:=e;have On:=(bc is).trans hl;refine aI (X.bind s us (xQ.keeps hb) (qq On)<|On▸dX _ _) λvals pL iv=>?_;rw[On,r6,List.drop_length] at iv;rw[iv.jO,gp] at pL;have B:Bd X [] Z us vs N:=⟨is,hp⟩;refine codeAny_call_function (by show 1+claimMargin<recursionLimit;decide+kernel) (xQ.keeps hb _ _ X.look) rfl X.co X.gen rfl (codeRec_of (xQ.keeps hb) X.code)<|pL _ _ _ _ ?_
  refine wpAny_newFunctionEnv_cells X.kind (λz hz=>?_) λOi he s' x=>?_
  ·refine aY (X.kn (by rw[<-B.keys];exact cB hz)) (λe=>?_) λe=>?_
   ·exact .inl e
   ·refine aM (d7 D.scope.names (s.heap.objs.size+1) [] e) λca Lj=>?_;exact .inr ⟨bz X.nodup e,by rw[Lj];rfl⟩
  subst he;refine⟨(T.nolimit.keeps hb).keeps x.toInCall.keep,codeAny_func ?_⟩;refine gm x.done λbx tk dZ M=>?_;subst dZ;have iS:=x.toInCall.keep;refine aI (Cl.news (a9 _) λn c hm=>⟨x.cell n c (lookup_of_mem_nodup (cellsFrom_names D.scope.names 0 (s.heap.objs.size+1) [] [] rfl▸gL _ _ _ X.nodup (λM h=>nomatch h) jG) hm),x.above n c hm⟩) λcells NC aav=>?_;have N':News base s.heap.objs.size bx (cells++Z):=λp hp=>by
   refine aY (fb.mp hp) (λhp=>?_) λhp=>?_
   ·refine⟨(NC p hp).1,(NC p hp).2.1,?_⟩;cases q:base.get? p.1 with
    |none=>rfl
    |some o=>have:=hb _ _ q;rw[(NC p hp).2.2] at this;exact fB this
   ·exact⟨iS _ _ (hZ p hp).1,ka<|gq (hZ p hp).1,(hZ p hp).2⟩
  have r5:cells.map (·.1)=(cellsFrom (s.heap.objs.size+1) D.scope.names []).map (·.2):=jD aav;have LF:∀z∈cells.map (·.1),z∉Z.map (·.1):=λz hz h=>by
   rw[r5] at hz;refine aI (bT.mp hz) λpc Oo e1=>aI (bT.mp h) λpz Wm e2=>?_;have h1:=io (L:=s.heap.objs.size) _ _ [] (Nat.lt_succ_self _) (λM h=>nomatch h) pc Oo;have h2:=gq (hZ pz Wm).1;rw[e1] at h1;rw[e2] at h2;exact Nat.lt_asymm h1 h2
  have cnd:(cells.map (·.1)).Nodup:=by rw[r5];exact eM _ _ _ (λM h=>nomatch h) jG
  refine cN (w8 (λp hp=>LF p.1<|cB hp) cnd Rp) λRp' g=>?_;have fin:∀nb,nb / 2<=k+4->(nb % 2=1->Ee D)->nB ⟨O,nb,D.scope.names⟩ tx.wh D.body i.body->wpAny Mo (callerA.deeper<|envOfC D.qual D.scope s.heap.objs.size f D.cdv) (execs D.body<|envOfC D.qual D.scope s.heap.objs.size f D.cdv) (λ(fl:Flow) s'=>R (.ok<|.ret<|IV fl) s')
    (λe s'=>wpAny Mo (callerA.deeper<|envOfC D.qual D.scope s.heap.objs.size f D.cdv) (leaving (envOfC D.qual D.scope s.heap.objs.size f D.cdv) e) (λM ri=>R (.error e) ri) (λe' ri=>R (.error e') ri) s') {s with heap:=bx,toks:=tk}:=λnb hnb hw Ot=>by
   let c:Fx:=⟨base,s.heap.objs.size,envOfC D.qual D.scope s.heap.objs.size f D.cdv,[],callerA.deeper<|envOfC D.qual D.scope s.heap.objs.size f D.cdv,s⟩;let t:Lv:=⟨O,nb,D.scope.names⟩;have lo:=B.lo (t:=t) c (λz oz h=>jF Z h) (λz hz=>dj) g rfl aav;have aax:=X.env (L:=s.heap.objs.size);have dep:1+claimMargin+1+nb / 2+3<recursionLimit:=by
    have:claimMargin=300:=by k_all
    have:recursionLimit=1000:=by k_all
    omega
   have unit:4+3+10 * (nb / 2)+200<cLine:=by
    have:cLine=9900:=by k_all
    omega
   have wy:nb % 2=1->uw c:=λho=>by
    exact cZ (hw ho) λcc P w1 w2 w3=>eT cc P w1 (w2 _ xQ) w3
   have ok:Ok c t (envOfC D.qual D.scope s.heap.objs.size f D.cdv):=
    {inB:=xQ,topB:=⟨_,_,_,_,_,T⟩,hh:=rfl,frames:=rfl,frame:=rfl,fkind:=X.kind,depth:=dep,units:=unit,wordy:=wy,kind:=aax.kind,globals:=aax.globals,builtins:=aax.builtins,eframe:=aax.frame,code:=rfl,qual:=rfl,top:=aax.top,local':=aax.local',cell:=aax.cell}
   let q':St ⟨c,t,envOfC D.qual D.scope s.heap.objs.size f D.cdv,(bindL (envOfC D.qual D.scope s.heap.objs.size f D.cdv).kindOf (D.pn.zip us) λM=>none),N⟩:=
    {b:=base,h:=bx,ρ:=[],Z:=cells++Z,Y:=[],tk:=tk,ok:=ok,below:=⟨callerA,below_caller base⟩,dicts:=λz hz=>(dj hz).elim,fr:=(⟨x.toInCall.ns,λb o e=>iS b o<|hb b o e,hs⟩:Fr base s.heap.objs.size bx (bindL (envOfC D.qual D.scope s.heap.objs.size f D.cdv).kindOf (D.pn.zip us) λM=>none)),news:=N',rep:=Rp',lo:=lo}
   have D':Df q':=⟨⟨rfl,λx h=>bz X.nodup h,X.nodup,eM _ _ _ (λM h=>nomatch h) jG⟩,λz hz=>by
    refine aI (bT.mp hz) λpc Oo e1=>aI (ko aav Oo) λoz z1 z2=>?_;rw[e1] at z1;exact⟨oz,_,jF _ z1,dj,z2⟩⟩
   refine Ot _ q' _ _ rfl D' ?_;have e:((bZ O tx.wh i.body N q'.Y).bind λr Y=>.ok (r.1.getD .none) Y)=Res.ok v Y':=e;show bC q'.bs _ (bZ O tx.wh i.body N q'.Y) _ _;generalize bZ O tx.wh i.body N q'.Y=r at e;cases r with
   |stuck=>cases (show(Res.stuck:Res V)=.ok v Y' from e)
   |exc C al=>cases (show(Res.exc C al:Res V)=.ok v Y' from e)
   |ok fl al=>
    intro m' fw jw a es _ i';injection (e:(Res.ok (fl.1.getD .none) al:Res V)=.ok v Y') with e1 e2
    have i':=i';have fin:∀u,bF jw.ρ jw.Z u v->R (.ok<|.ret u) jw.s:=λu iu=>hq u jw.ρ jw.Z jw.h jw.tk (λb o q=>jw.fr.keep b o (a.turn.other b o q λz=>dj z):∀b o,base.get? b=some o->jw.h.get? b=some o) (by rw[<-e2,<-(show jw.Y=al from es)];exact jw.rep) (λp hp=>(jw.news p hp).1) iu;generalize fl.1=rv at e1 i';cases rv with
    |none=>
     rw[show fw=.next from i'];exact fin .none (by rw[<-e1];exact .none)
    |some nH=>
     refine aI i' λu mu iu=>?_;subst mu;exact fin u (by rw[<-e1];exact iu)
  have xb:=X.body;cases hw:hM.contains f with
  |true=>
   rw[hw] at xb Pm;exact fin (2 * (k+4)+1) (by rw[qT];exact a9 _) (λM=>Pm rfl)<|m6 (rL H.names H.word S) _ _ xb
  |false=>
   rw[hw] at xb;exact fin (2 * k) (by rw[fS];exact dX _ _) m7<|m6 (ld H.names S) _ _ xb
end
theorem RU {gx:Gx}(H:nP gx tx){script:List Int}(hl:script.length<1000):∃O Y',hV O (2 * 600)/\bk tx O 529 [.gl<|script.map .int] []=.ok (.bool true) Y':=by
 have hC:xz (2 * 600):=λY m hm=>(Dx H<|GG hm).weaken (by decide) (by decide);exact aI (GH (by decide)<|RB H (KU H) hC) λO S hO=>aM (Nw<|NE hO hl) λY' e=>jX O Y' S e
theorem K9 {vs:List Value}{l:List Int}(h:IntsAre vs l):cf [] (tabNews nw) vs (l.map .int):=by
 induction h with
 |nil=>exact .nil
 |cons n t _ ih=>exact .cons (.int n t) ih
theorem xL:(gT K).map (·.1)=[455,460,467,512,517,524]:=by
 have h:∀{P:Params} {b:Addr} {o:Obj},(gT<|KS P b o).map (·.1)=[455,460,467,512,517,524]:=λ{P b o}=>by k_all
 rw[tq];exact h
theorem rep0:Rep [] (tabNews nw) [] where
 len:=rfl
 nd:=jG
 ndZ:=by decide
 apart:=λM h=>nomatch h
 big:=λM h=>nomatch h
 cell:=λM M h=>fB h
 tabs:=λt ht=>by
  have hm:t.1∈(gT K).map (·.1):=cB ht;rw[xL] at hm;refine nV (#[]) ?_ dj trivial λpos cv h=>fB h;have:∀x∈[455,460,467,512,517,524],∃q∈nw,q.2=x:=by decide
  exact aI (this _ hm) λq hq e=>bT.mpr ⟨q,hq,by rw[e]⟩
theorem RV:z0.Claim:=λscript vs n base s R p loose j7 mg mb hlen hc Lf hI hk X T hb hs hZ hR=>by
 refine gm (RU wld hlen) λO Y' S e=>DJ wld S (by decide) rfl rfl X T hb hs hZ rep0 (.cons (.gl (hk:K.lookup z0.b=some z0.o) hc Lf<|K9 hI) .nil) e λu bR Z' h' eS keep Rp hZ' iu=>?_;rw[iu.z8];refine hR h' eS keep λq hq=>?_;have hm:q.2∈(gT K).map (·.1):=by
  rw[xL];exact(by decide:∀q∈nw,q.2∈[455,460,467,512,517,524]) q hq
 exact aI (bT.mp hm) λt ht e=>aI (Rp.tabs _ ht) λps h1 M=>e▸⟨ps,hZ' _ h1⟩
section
variable {P:Params} {b:Addr} {o:Obj} {h:Heap}
theorem Of (X:(KF P).In h)(hb:h.get? b=some o):(KS P b o).In h:=λa x e=>by
 cases q:(KF P).lookup a with
 |some y=>
  rw[gE q] at e;cases e;exact X _ _ q
 |none=>
  have e2:(KS P b o).lookup a=[(b,o)].lookup a:=by
   rw[List.lookup_append,q];rfl
  rw[e2,kL] at e;cases hq:a==b with
  |true=>rw[hq] at e;cases e;rw[show a=b from eq_of_beq hq];exact hb
  |false=>rw[hq] at e;cases e
theorem Og (X:(KF P).In h)(hb:h.get? b=some o):(KS P b o).lookup b=some o:=by
 cases q:(KF P).lookup b with
 |some y=>
  have:=X _ _ q;rw[hb] at this;cases this;exact gE q
 |none=>
  rw[List.lookup_append,q];show[(b,o)].lookup b=some o;rw[kL,kM]
theorem Oh (hc:o.cls=.type "list"):noTabs (KS P b o)=true:=by
 have h1:noTabs (KF P)=true:=by k_all
 unfold noTabs at h1⊢;rw[List.all_append,h1];show((match o.cls,o.data with
  | .none,.fields _=>false
  |_,_=>true)&&true)=true
 rw[hc];rfl
end
theorem aai {d:DefRec}{kwd:List (Str × Expr)}(hn:d.name=("law":Str)):WalkO q0 xO (λM M=>True) hook.says LW.row.toRowW d kwd λf vs=>PySem.call f vs:=by
 intro w lY eu mg mb G aav a o pm cd doc dV kV ho hd Lb hD hmg hg args vals as Sq aaa hrd hwl hlo;have hT:=LX aav;have X:=km_in_of aav;have T:=G.T;rw[hn,mg_of X T.g (show nsIn (KF w.params) mainGlobals "law"=some (some (.ref 529)) by k_all)] at hmg;obtain rfl:529=a:=Value.ref.inj<|aT hmg
 clear ho hd Lb hD hmg aav
 wrow_args Sq aaa hrd hwl hlo
 rename List Int=>script;rename eu.heap.IsList _ _=>hL;rename IntsAre _ _=>hI;rename¬_=>hlen;rename Addr=>bb;obtain⟨ol,hb,hc,nn,Lf⟩:=hL;refine enter_call<|kn_post hT (λM M=>rfl) ?_
 refine Fa RV ⟨w,bb,ol⟩ script _ nn (ghostOf eu.heap nw) _ _ _ _ _ _ _ (by omega) hc Lf hI (Og X hb) (ghost_K hT (Of X hb:(⟨w,bb,ol⟩:Wd).K.In eu.heap)<|Oh hc) (ghost_top hT T) (λM M e=>of_hideAll _ e) (qq<|hideAll_size _ _) (λp hp=>?_) λh' eS keep Xb=>?_
 ·refine aI (bT.mp hp) λq hq dZ=>?_;subst dZ;exact⟨(hT q hq).2,hideAll_none _<|cB hq⟩
 ·refine⟨⟨.inl ⟨.bool true,.bool true,[],rfl,λM=>rfl,.bool true,?_,λM=>⟨jG,λM h=>nomatch h⟩⟩,keep,rfl,hg⟩,?_⟩
  ·wrow_post
  ·have at':=λq (hq:q∈nw)=>Xb q hq;exact⟨at' (457,455) (by decide),at' (464,460) (by decide),at' (471,467) (by decide),at' (514,512) (by decide),at' (521,517) (by decide),at' (528,524) (by decide),trivial⟩end
end Mine.Internal
open PySem PySem.W PyProof.Rows
theorem PySem.Challenge.cw_sa0448_01_holds : PySem.Challenge.rw_sa0448_01.Holds :=
  Mine.Internal.aab rfl (Mine.Internal.aai rfl)
