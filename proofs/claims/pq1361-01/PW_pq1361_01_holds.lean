import PyProof.Rows.All
import Wide.All
import OpenK.AllK
import Wide.FinOn
import KE.KNestM
import Lean
import PySem.Challenge.RW_pq1361_01
set_option Elab.async false
set_option maxRecDepth 100000
set_option bootstrap.genMatcherCode false
set_option genSizeOf false
set_option genSizeOfSpec false
set_option linter.all false
set_option tactic.hygienic false
set_option genInjectivity false
open And renaming intro → q9
open Option.some renaming inj → qd
open Option renaming casesOn → qe
open List renaming casesOn → qf
open Bool renaming casesOn → qg
open Bool renaming and_eq_true_iff → qh
open List renaming length_map → qi
open List renaming length_cons → qj
open List renaming length_append → qk
open List renaming mem_cons → ql
open PySem renaming wpAny_bind → qm
open PySem renaming Expr → qo
open PySem renaming eval → qp
open Nat renaming lt_of_lt_of_le → qq
open Nat renaming le_trans → qr
open List renaming getElem?_eq_getElem → qt
open List renaming map_append → qu
open List renaming map_cons → qv
open PySem.Heap renaming get?_push_of_some → qw
open PySem renaming wpAny_pure → qx
open List renaming all_eq_true → qy
open List renaming mem_append → qz
open Nat renaming le_of_lt → j4
open List renaming not_mem_nil → j5
namespace Mine
theorem e02{P Q:Prop}{q:Prop}(h:P∧Q)(f:P->Q->q):q:=by rcases h with ⟨n,o⟩;exact f n o
theorem e03{P Q R:Prop}{q:Prop}(h:P∧Q∧R)(f:P->Q->R->q):q:=by rcases h with ⟨n,o,p⟩;exact f n o p
theorem e04{P Q R S:Prop}{q:Prop}(h:P∧Q∧R∧S)(f:P->Q->R->S->q):q:=by rcases h with ⟨n,o,p,s⟩;exact f n o p s
theorem e11{A:Sort _}{P:A->Prop}{q:Prop}(h:∃a,P a)(f:∀a,P a->q):q:=by rcases h with ⟨a,n⟩;exact f a n
theorem e12{A:Sort _}{P Q:A->Prop}{q:Prop}(h:∃a,P a∧Q a)(f:∀a,P a->Q a->q):q:=by rcases h with ⟨a,n,o⟩;exact f a n o
theorem e13{A:Sort _}{P Q R:A->Prop}{q:Prop}(h:∃a,P a∧Q a∧R a)(f:∀a,P a->Q a->R a->q):q:=by rcases h with ⟨a,n,o,p⟩;exact f a n o p
theorem e14{A:Sort _}{P Q R S:A->Prop}{q:Prop}(h:∃a,P a∧Q a∧R a∧S a)(f:∀a,P a->Q a->R a->S a->q):q:=by rcases h with ⟨a,n,o,p,s⟩;exact f a n o p s
theorem e15{A:Sort _}{P Q R S T:A->Prop}{q:Prop}(h:∃a,P a∧Q a∧R a∧S a∧T a)(f:∀a,P a->Q a->R a->S a->T a->q):q:=by rcases h with ⟨a,n,o,p,s,t⟩;exact f a n o p s t
theorem e21{A:Sort _}{B:Sort _}{P:A->B->Prop}{q:Prop}(h:∃a b,P a b)(f:∀a b,P a b->q):q:=by rcases h with ⟨a,b,n⟩;exact f a b n
theorem e22{A:Sort _}{B:Sort _}{P Q:A->B->Prop}{q:Prop}(h:∃a b,P a b∧Q a b)(f:∀a b,P a b->Q a b->q):q:=by rcases h with ⟨a,b,n,o⟩;exact f a b n o
theorem e23{A:Sort _}{B:Sort _}{P Q R:A->B->Prop}{q:Prop}(h:∃a b,P a b∧Q a b∧R a b)(f:∀a b,P a b->Q a b->R a b->q):q:=by rcases h with ⟨a,b,n,o,p⟩;exact f a b n o p
theorem e24{A:Sort _}{B:Sort _}{P Q R S:A->B->Prop}{q:Prop}(h:∃a b,P a b∧Q a b∧R a b∧S a b)(f:∀a b,P a b->Q a b->R a b->S a b->q):q:=by rcases h with ⟨a,b,n,o,p,s⟩;exact f a b n o p s
theorem e25{A:Sort _}{B:Sort _}{P Q R S T:A->B->Prop}{q:Prop}(h:∃a b,P a b∧Q a b∧R a b∧S a b∧T a b)(f:∀a b,P a b->Q a b->R a b->S a b->T a b->q):q:=by rcases h with ⟨a,b,n,o,p,s,t⟩;exact f a b n o p s t
theorem e26{A:Sort _}{B:Sort _}{P Q R S T U:A->B->Prop}{q:Prop}(h:∃a b,P a b∧Q a b∧R a b∧S a b∧T a b∧U a b)(f:∀a b,P a b->Q a b->R a b->S a b->T a b->U a b->q):q:=by rcases h with ⟨a,b,n,o,p,s,t,u⟩;exact f a b n o p s t u
theorem e31{A:Sort _}{B:Sort _}{C:Sort _}{P:A->B->C->Prop}{q:Prop}(h:∃a b c,P a b c)(f:∀a b c,P a b c->q):q:=by rcases h with ⟨a,b,c,n⟩;exact f a b c n
theorem e32{A:Sort _}{B:Sort _}{C:Sort _}{P Q:A->B->C->Prop}{q:Prop}(h:∃a b c,P a b c∧Q a b c)(f:∀a b c,P a b c->Q a b c->q):q:=by rcases h with ⟨a,b,c,n,o⟩;exact f a b c n o
theorem e33{A:Sort _}{B:Sort _}{C:Sort _}{P Q R:A->B->C->Prop}{q:Prop}(h:∃a b c,P a b c∧Q a b c∧R a b c)(f:∀a b c,P a b c->Q a b c->R a b c->q):q:=by rcases h with ⟨a,b,c,n,o,p⟩;exact f a b c n o p
theorem e34{A:Sort _}{B:Sort _}{C:Sort _}{P Q R S:A->B->C->Prop}{q:Prop}(h:∃a b c,P a b c∧Q a b c∧R a b c∧S a b c)(f:∀a b c,P a b c->Q a b c->R a b c->S a b c->q):q:=by rcases h with ⟨a,b,c,n,o,p,s⟩;exact f a b c n o p s
theorem e35{A:Sort _}{B:Sort _}{C:Sort _}{P Q R S T:A->B->C->Prop}{q:Prop}(h:∃a b c,P a b c∧Q a b c∧R a b c∧S a b c∧T a b c)(f:∀a b c,P a b c->Q a b c->R a b c->S a b c->T a b c->q):q:=by rcases h with ⟨a,b,c,n,o,p,s,t⟩;exact f a b c n o p s t
theorem e36{A:Sort _}{B:Sort _}{C:Sort _}{P Q R S T U:A->B->C->Prop}{q:Prop}(h:∃a b c,P a b c∧Q a b c∧R a b c∧S a b c∧T a b c∧U a b c)(f:∀a b c,P a b c->Q a b c->R a b c->S a b c->T a b c->U a b c->q):q:=by rcases h with ⟨a,b,c,n,o,p,s,t,u⟩;exact f a b c n o p s t u
theorem e41{A:Sort _}{B:Sort _}{C:Sort _}{D:Sort _}{P:A->B->C->D->Prop}{q:Prop}(h:∃a b c d,P a b c d)(f:∀a b c d,P a b c d->q):q:=by rcases h with ⟨a,b,c,d,n⟩;exact f a b c d n
theorem e42{A:Sort _}{B:Sort _}{C:Sort _}{D:Sort _}{P Q:A->B->C->D->Prop}{q:Prop}(h:∃a b c d,P a b c d∧Q a b c d)(f:∀a b c d,P a b c d->Q a b c d->q):q:=by rcases h with ⟨a,b,c,d,n,o⟩;exact f a b c d n o
theorem e43{A:Sort _}{B:Sort _}{C:Sort _}{D:Sort _}{P Q R:A->B->C->D->Prop}{q:Prop}(h:∃a b c d,P a b c d∧Q a b c d∧R a b c d)(f:∀a b c d,P a b c d->Q a b c d->R a b c d->q):q:=by rcases h with ⟨a,b,c,d,n,o,p⟩;exact f a b c d n o p
theorem e44{A:Sort _}{B:Sort _}{C:Sort _}{D:Sort _}{P Q R S:A->B->C->D->Prop}{q:Prop}(h:∃a b c d,P a b c d∧Q a b c d∧R a b c d∧S a b c d)(f:∀a b c d,P a b c d->Q a b c d->R a b c d->S a b c d->q):q:=by rcases h with ⟨a,b,c,d,n,o,p,s⟩;exact f a b c d n o p s
theorem e45{A:Sort _}{B:Sort _}{C:Sort _}{D:Sort _}{P Q R S T:A->B->C->D->Prop}{q:Prop}(h:∃a b c d,P a b c d∧Q a b c d∧R a b c d∧S a b c d∧T a b c d)(f:∀a b c d,P a b c d->Q a b c d->R a b c d->S a b c d->T a b c d->q):q:=by rcases h with ⟨a,b,c,d,n,o,p,s,t⟩;exact f a b c d n o p s t
theorem e51{A:Sort _}{B:Sort _}{C:Sort _}{D:Sort _}{E:Sort _}{P:A->B->C->D->E->Prop}{q:Prop}(h:∃a b c d e,P a b c d e)(f:∀a b c d e,P a b c d e->q):q:=by rcases h with ⟨a,b,c,d,e,n⟩;exact f a b c d e n
theorem e53{A:Sort _}{B:Sort _}{C:Sort _}{D:Sort _}{E:Sort _}{P Q R:A->B->C->D->E->Prop}{q:Prop}(h:∃a b c d e,P a b c d e∧Q a b c d e∧R a b c d e)(f:∀a b c d e,P a b c d e->Q a b c d e->R a b c d e->q):q:=by rcases h with ⟨a,b,c,d,e,n,o,p⟩;exact f a b c d e n o p
theorem e54{A:Sort _}{B:Sort _}{C:Sort _}{D:Sort _}{E:Sort _}{P Q R S:A->B->C->D->E->Prop}{q:Prop}(h:∃a b c d e,P a b c d e∧Q a b c d e∧R a b c d e∧S a b c d e)(f:∀a b c d e,P a b c d e->Q a b c d e->R a b c d e->S a b c d e->q):q:=by rcases h with ⟨a,b,c,d,e,n,o,p,s⟩;exact f a b c d e n o p s
theorem j6{α:Type}{a:α}(h:none=some a):False:=nomatch h
theorem leK{a k m:Nat}(h:a≤k)(e:Nat.ble k m=true):a≤m:=qr h (Nat.le_of_ble_eq_true e)
theorem fi{a b k l m:Nat}(h:a≤k)(h2:b≤l)(e:Nat.ble (k+l) m=true):a+b≤m:=leK (Nat.add_le_add h h2) e
theorem qko{a b c k l n m:Nat}(h:a≤k)(h2:b≤l)(h3:c≤n)(e:Nat.ble (k+l+n) m=true):a+b+c≤m:=leK (Nat.add_le_add (Nat.add_le_add h h2) h3) e
theorem leC{a c k m:Nat}(h:a≤k)(e:Nat.ble (k+c) m=true):a+c≤m:=leK (Nat.add_le_add_right h c) e
theorem leD{a c k m:Nat}(h:a≤k)(e:Nat.ble (c+k) m=true):c+a≤m:=leK (Nat.add_le_add_left h c) e
theorem ltK{a k m:Nat}(h:a≤k)(e:Nat.ble (k+1) m=true):a<m:=qq (Nat.lt_succ_of_le h) (Nat.le_of_ble_eq_true e)
theorem ltD{a c k m:Nat}(h:a≤k)(e:Nat.ble (c+k+1) m=true):c+a<m:=ltK (Nat.add_le_add_left h c) e
theorem ltL{a k m:Nat}(h:a<k)(e:Nat.ble k m=true):a<m:=qq h (Nat.le_of_ble_eq_true e)
theorem ltSL{a c k m:Nat}(h:a+c<k)(e:Nat.ble k (m+c)=true):a<m:=Nat.lt_of_add_lt_add_right (ltL h e)
theorem leI{a k m:Nat}(h:a≤k)(e:Nat.ble k m=true):(a:Int)≤(m:Int):=Int.ofNat_le.mpr (leK h e)
@[elab_as_elim] theorem rwg{α:Sort _}{a b:α}{motive:α->Prop}(h:a=b)(k:motive b):motive a:=h▸k
@[elab_as_elim] theorem rwl{α:Sort _}{a b:α}{motive:α->Prop}(h:b=a)(k:motive b):motive a:=h▸k
theorem i03{P Q R:Prop}(n:P)(o:Q)(p:R):P∧Q∧R:=⟨n,o,p⟩
theorem i04{P Q R S:Prop}(n:P)(o:Q)(p:R)(s:S):P∧Q∧R∧S:=⟨n,o,p,s⟩
theorem i12{A:Sort _}{P Q:A->Prop}(a:A)(n:P a)(o:Q a):∃a,P a∧Q a:=⟨a,n,o⟩
theorem i13{A:Sort _}{P Q R:A->Prop}(a:A)(n:P a)(o:Q a)(p:R a):∃a,P a∧Q a∧R a:=⟨a,n,o,p⟩
theorem i14{A:Sort _}{P Q R S:A->Prop}(a:A)(n:P a)(o:Q a)(p:R a)(s:S a):∃a,P a∧Q a∧R a∧S a:=⟨a,n,o,p,s⟩
theorem i15{A:Sort _}{P Q R S T:A->Prop}(a:A)(n:P a)(o:Q a)(p:R a)(s:S a)(t:T a):∃a,P a∧Q a∧R a∧S a∧T a:=⟨a,n,o,p,s,t⟩
theorem i21{A:Sort _}{B:Sort _}{P:A->B->Prop}(a:A)(b:B)(n:P a b):∃a b,P a b:=⟨a,b,n⟩
theorem i22{A:Sort _}{B:Sort _}{P Q:A->B->Prop}(a:A)(b:B)(n:P a b)(o:Q a b):∃a b,P a b∧Q a b:=⟨a,b,n,o⟩
theorem i23{A:Sort _}{B:Sort _}{P Q R:A->B->Prop}(a:A)(b:B)(n:P a b)(o:Q a b)(p:R a b):∃a b,P a b∧Q a b∧R a b:=⟨a,b,n,o,p⟩
theorem i24{A:Sort _}{B:Sort _}{P Q R S:A->B->Prop}(a:A)(b:B)(n:P a b)(o:Q a b)(p:R a b)(s:S a b):∃a b,P a b∧Q a b∧R a b∧S a b:=⟨a,b,n,o,p,s⟩
theorem i25{A:Sort _}{B:Sort _}{P Q R S T:A->B->Prop}(a:A)(b:B)(n:P a b)(o:Q a b)(p:R a b)(s:S a b)(t:T a b):∃a b,P a b∧Q a b∧R a b∧S a b∧T a b:=⟨a,b,n,o,p,s,t⟩
theorem i26{A:Sort _}{B:Sort _}{P Q R S T U:A->B->Prop}(a:A)(b:B)(n:P a b)(o:Q a b)(p:R a b)(s:S a b)(t:T a b)(u:U a b):∃a b,P a b∧Q a b∧R a b∧S a b∧T a b∧U a b:=⟨a,b,n,o,p,s,t,u⟩
theorem i28{A:Sort _}{B:Sort _}{P Q R S T U V W:A->B->Prop}(a:A)(b:B)(n:P a b)(o:Q a b)(p:R a b)(s:S a b)(t:T a b)(u:U a b)(v:V a b)(w:W a b):∃a b,P a b∧Q a b∧R a b∧S a b∧T a b∧U a b∧V a b∧W a b:=⟨a,b,n,o,p,s,t,u,v,w⟩
theorem i31{A:Sort _}{B:Sort _}{C:Sort _}{P:A->B->C->Prop}(a:A)(b:B)(c:C)(n:P a b c):∃a b c,P a b c:=⟨a,b,c,n⟩
theorem i32{A:Sort _}{B:Sort _}{C:Sort _}{P Q:A->B->C->Prop}(a:A)(b:B)(c:C)(n:P a b c)(o:Q a b c):∃a b c,P a b c∧Q a b c:=⟨a,b,c,n,o⟩
theorem i33{A:Sort _}{B:Sort _}{C:Sort _}{P Q R:A->B->C->Prop}(a:A)(b:B)(c:C)(n:P a b c)(o:Q a b c)(p:R a b c):∃a b c,P a b c∧Q a b c∧R a b c:=⟨a,b,c,n,o,p⟩
theorem i34{A:Sort _}{B:Sort _}{C:Sort _}{P Q R S:A->B->C->Prop}(a:A)(b:B)(c:C)(n:P a b c)(o:Q a b c)(p:R a b c)(s:S a b c):∃a b c,P a b c∧Q a b c∧R a b c∧S a b c:=⟨a,b,c,n,o,p,s⟩
theorem i35{A:Sort _}{B:Sort _}{C:Sort _}{P Q R S T:A->B->C->Prop}(a:A)(b:B)(c:C)(n:P a b c)(o:Q a b c)(p:R a b c)(s:S a b c)(t:T a b c):∃a b c,P a b c∧Q a b c∧R a b c∧S a b c∧T a b c:=⟨a,b,c,n,o,p,s,t⟩
theorem i36{A:Sort _}{B:Sort _}{C:Sort _}{P Q R S T U:A->B->C->Prop}(a:A)(b:B)(c:C)(n:P a b c)(o:Q a b c)(p:R a b c)(s:S a b c)(t:T a b c)(u:U a b c):∃a b c,P a b c∧Q a b c∧R a b c∧S a b c∧T a b c∧U a b c:=⟨a,b,c,n,o,p,s,t,u⟩
theorem i41{A:Sort _}{B:Sort _}{C:Sort _}{D:Sort _}{P:A->B->C->D->Prop}(a:A)(b:B)(c:C)(d:D)(n:P a b c d):∃a b c d,P a b c d:=⟨a,b,c,d,n⟩
theorem i42{A:Sort _}{B:Sort _}{C:Sort _}{D:Sort _}{P Q:A->B->C->D->Prop}(a:A)(b:B)(c:C)(d:D)(n:P a b c d)(o:Q a b c d):∃a b c d,P a b c d∧Q a b c d:=⟨a,b,c,d,n,o⟩
theorem i43{A:Sort _}{B:Sort _}{C:Sort _}{D:Sort _}{P Q R:A->B->C->D->Prop}(a:A)(b:B)(c:C)(d:D)(n:P a b c d)(o:Q a b c d)(p:R a b c d):∃a b c d,P a b c d∧Q a b c d∧R a b c d:=⟨a,b,c,d,n,o,p⟩
theorem i44{A:Sort _}{B:Sort _}{C:Sort _}{D:Sort _}{P Q R S:A->B->C->D->Prop}(a:A)(b:B)(c:C)(d:D)(n:P a b c d)(o:Q a b c d)(p:R a b c d)(s:S a b c d):∃a b c d,P a b c d∧Q a b c d∧R a b c d∧S a b c d:=⟨a,b,c,d,n,o,p,s⟩
theorem i45{A:Sort _}{B:Sort _}{C:Sort _}{D:Sort _}{P Q R S T:A->B->C->D->Prop}(a:A)(b:B)(c:C)(d:D)(n:P a b c d)(o:Q a b c d)(p:R a b c d)(s:S a b c d)(t:T a b c d):∃a b c d,P a b c d∧Q a b c d∧R a b c d∧S a b c d∧T a b c d:=⟨a,b,c,d,n,o,p,s,t⟩
theorem i51{A:Sort _}{B:Sort _}{C:Sort _}{D:Sort _}{E:Sort _}{P:A->B->C->D->E->Prop}(a:A)(b:B)(c:C)(d:D)(e:E)(n:P a b c d e):∃a b c d e,P a b c d e:=⟨a,b,c,d,e,n⟩
theorem i53{A:Sort _}{B:Sort _}{C:Sort _}{D:Sort _}{E:Sort _}{P Q R:A->B->C->D->E->Prop}(a:A)(b:B)(c:C)(d:D)(e:E)(n:P a b c d e)(o:Q a b c d e)(p:R a b c d e):∃a b c d e,P a b c d e∧Q a b c d e∧R a b c d e:=⟨a,b,c,d,e,n,o,p⟩
theorem i54{A:Sort _}{B:Sort _}{C:Sort _}{D:Sort _}{E:Sort _}{P Q R S:A->B->C->D->E->Prop}(a:A)(b:B)(c:C)(d:D)(e:E)(n:P a b c d e)(o:Q a b c d e)(p:R a b c d e)(s:S a b c d e):∃a b c d e,P a b c d e∧Q a b c d e∧R a b c d e∧S a b c d e:=⟨a,b,c,d,e,n,o,p,s⟩
theorem i55{A:Sort _}{B:Sort _}{C:Sort _}{D:Sort _}{E:Sort _}{P Q R S T:A->B->C->D->E->Prop}(a:A)(b:B)(c:C)(d:D)(e:E)(n:P a b c d e)(o:Q a b c d e)(p:R a b c d e)(s:S a b c d e)(t:T a b c d e):∃a b c d e,P a b c d e∧Q a b c d e∧R a b c d e∧S a b c d e∧T a b c d e:=⟨a,b,c,d,e,n,o,p,s,t⟩
theorem e09{P Q R S T U V W X:Prop}{q:Prop}(h:P∧Q∧R∧S∧T∧U∧V∧W∧X)(f:P->Q->R->S->T->U->V->W->X->q):q:=by rcases h with ⟨n,o,p,s,t,u,v,w,x⟩;exact f n o p s t u v w x
theorem e61{A:Sort _}{B:Sort _}{C:Sort _}{D:Sort _}{E:Sort _}{F:Sort _}{P:A->B->C->D->E->F->Prop}{q:Prop}(h:∃a b c d e g,P a b c d e g)(f:∀a b c d e g,P a b c d e g->q):q:=by rcases h with ⟨a,b,c,d,e,g,n⟩;exact f a b c d e g n
theorem e94{A:Sort _}{B:Sort _}{C:Sort _}{D:Sort _}{E:Sort _}{F:Sort _}{G:Sort _}{H:Sort _}{I:Sort _}{P Q R S:A->B->C->D->E->F->G->H->I->Prop}{q:Prop}(h:∃a b c d e g i j k,P a b c d e g i j k∧Q a b c d e g i j k∧R a b c d e g i j k∧S a b c d e g i j k)(f:∀a b c d e g i j k,P a b c d e g i j k->Q a b c d e g i j k->R a b c d e g i j k->S a b c d e g i j k->q):q:=by rcases h with ⟨a,b,c,d,e,g,i,j,k,n,o,p,s⟩;exact f a b c d e g i j k n o p s
theorem qda{α1:Sort _}{α2:Sort _}{α3:Sort _}{α4:Sort _}{α5:Sort _}{α6:Sort _}{α7:Sort _}{α8:Sort _}{α9:Sort _}{α10:Sort _}{p1:α1->α2->α3->α4->α5->α6->α7->α8->α9->α10->Prop}{q:Prop}(h:∃x1 x2 x3 x4 x5 x6 x7 x8 x9 x10,p1 x1 x2 x3 x4 x5 x6 x7 x8 x9 x10)(f:∀x1 x2 x3 x4 x5 x6 x7 x8 x9 x10,p1 x1 x2 x3 x4 x5 x6 x7 x8 x9 x10->q):q:=by rcases h with ⟨x1,x2,x3,x4,x5,x6,x7,x8,x9,x10,h1⟩;exact f x1 x2 x3 x4 x5 x6 x7 x8 x9 x10 h1
theorem i61{A B C D E F:Sort _}{P:A->B->C->D->E->F->Prop}(a:A)(b:B)(c:C)(d:D)(e:E)(g:F)(n:P a b c d e g):∃a b c d e g,P a b c d e g:=⟨a,b,c,d,e,g,n⟩
theorem a1{a b c:Nat}(h:a+(b+1)≤c):a+1+b≤c:=by omega
theorem a2{a b c:Nat}(h:a+(b+1)<c):a+1+b<c:=by omega
theorem a3{a b c:Nat}(h:a≤b+1+c):a≤b+(c+1):=by omega
theorem a4{a b c:Nat}(h:a+(b+1)=c):a<c:=by omega
theorem a5{a b c:Nat}(h:a+(b+1)=c):a+1+b=c:=by omega
theorem a6{a b:Nat}(h:a≤0+b):a≤b:=by omega
theorem a7{a i m:Nat}(h:i<0+a)(k:a≤m):i<m:=by omega
theorem a8{a:Nat}(h:0<a):a=a-1+1:=by omega
theorem a9{a b:Nat}(h:0=a-b):a≤b:=by omega
theorem b1{a b c m:Nat}(h:a≤b)(k:b≤c)(e:Nat.ble c m=true):a≤m:=leK (qr h k) e
theorem b2{a b c m:Nat}(h:a<b)(k:b≤c)(e:Nat.ble c m=true):a<m:=ltL (qq h k) e
theorem b3{a b c m:Nat}(h:a≤b)(k:b≤c)(e:Nat.ble (c+1) m=true):a<m:=ltK (qr h k) e
theorem b4{a c m:Nat}(h:a<c)(e:Nat.ble c (m+1)=true):a≤m:=Nat.le_of_lt_succ (ltL h e)
theorem b5{a b c m:Nat}(h:a+(b+1)≤c)(e:Nat.ble c m=true):a<m:=leK (qr (Nat.succ_le_succ (Nat.le_add_right a b)) h) e
theorem b6{a b c:Nat}(h:a+(b+1)<c):a+b<c:=by omega
theorem b7{a b c:Nat}(h:a+(b+1)≤c):a+b≤c:=by omega
theorem c1{a b:Nat}(h:a+1=b+1):a=b:=by omega
theorem c2{a b c d:Nat}(h:a+1=b)(k:b≤c)(l:c≤d+1):a≤d:=by omega
theorem c3{a b c:Nat}(h:a≤b)(k:b<c):a+0<c:=by omega
theorem c4{a b c:Nat}(h:a≤b+0)(k:b+1≤c+0)(l:c≤a):False:=by omega
theorem c5{a b:Nat}(h:a≤b):0+a≤b+1:=by omega
theorem c6{a b:Nat}(h:a≤b):1+a≤b+1:=by omega
theorem c7{a b c:Nat}(h:a+1≤b+(c+1)):a+1≤b+1+c:=by omega
theorem c8{a b c d m:Nat}(h:a≤c)(k:b≤d)(e:Nat.ble (c+d+1) m=true):a+b<m:=ltK (Nat.add_le_add h k) e
theorem d1{a k n m c:Nat}(h:a+k*(n+1)≤m)(e:Nat.ble c k=true):a+c+k*n≤m:=by have:=Nat.le_of_ble_eq_true e;rw[Nat.mul_add] at h;omega
theorem d2{a b k f:Nat}(e:a+k=b):a+k*(f+1)=b+k*f:=by rw[Nat.mul_add,←e];omega
theorem d3{a b k f:Nat}(e:a+k=b+1):a+k*(f+1)=b+k*f+1:=by rw[Nat.mul_add];omega
end Mine
section
open PySem
namespace Mine
inductive T where
 | none
 | bool (b:Bool)
 | int (i:Int)
 | str (s:Str)
 | list (xs:List T)
 | tup (xs:List T)
 | dict (es:List (Str×T))
 | idict (es:List (Int×T))
 | inst (C:Str) (fs:List (Str×T))
 | glob (n:Str)
 | clo (fs:List (Str×T))
 | sh (i:Nat)
 deriving Inhabited
inductive F where
 | val (t:T)
 | dict (es:List (Str×T))
inductive Ent where
 | val (t:T)
 | list (xs:List T)
 | dict (es:List (Str×T))
 | inst (C:Str) (fs:List (Str×F))
inductive SO where
 | list (xs:List T)
 | inst (C:Str) (fs:List (Str×F))
  | tab
noncomputable def F.fz:F->T
 | .val t=>t
 | .dict es=>.dict es
noncomputable def Ent.fz:Ent->T
 | .val t=>t
 | .list xs=>.list xs
 | .dict es=>.dict es
 | .inst C fs=>.inst C (fs.map fun p=>(p.1,p.2.fz))
noncomputable def toF:Ent->F
 | .dict es=>.dict es
 | r=>.val r.fz
noncomputable abbrev Loc:=List (Str×Option Ent)
inductive Fl where
 | next
 | ret (r:Ent)
inductive Ans where
 | call (r:Ent) (sg:List SO)
 | loop (fl:Fl) (env:Loc) (sg:List SO)
 | comp (ts:List T) (env:Loc) (sg:List SO)
 | b (b:Bool)
 | t (t:T)
 | e (r:Ent)
 | l (xs:List T)
 | s (x:Str)
 | k (ks:List (Str×Int))
structure St where
 env:Loc
 sg:List SO
 as:List Ans
noncomputable def Ans.b?:Ans->Option Bool
 | .b x=>some x
 | _=>none
noncomputable def Ans.t?:Ans->Option T
 | .t x=>some x
 | _=>none
noncomputable def Ans.e?:Ans->Option Ent
 | .e x=>some x
 | _=>none
noncomputable def Ans.l?:Ans->Option (List T)
 | .l x=>some x
 | _=>none
noncomputable def Ans.s?:Ans->Option Str
 | .s x=>some x
 | _=>none
noncomputable def Ans.k?:Ans->Option (List (Str×Int))
 | .k x=>some x
 | _=>none
structure wy where
 args:Arguments
 params:List Str
 defaults:List T
 body:List Stmt
 scope:Scope
noncomputable def LIM:Nat:=4000
noncomputable def gw:Nat:=100000
noncomputable def jk{α:Type}(x:Option α)(K:α->Prop):Prop:=match x with
 | some a=>K a
 | none=>False
noncomputable def gd(b:Bool)(X:Prop):Prop:=match b with
 | true=>X
 | false=>False
noncomputable def ob(b:Bool)(X:Prop):Prop:=b=true∧X
noncomputable def orP{α:Type}(x:Option α)(K:α->Prop)(Y:Prop):Prop:=match x with
 | some a=>K a
 | none=>Y
noncomputable def cnd(b:Bool)(X Y:Prop):Prop:=match b with
 | true=>X
 | false=>Y
noncomputable def ask{α:Type}(get:Ans->Option α)(x:Option α)(st:St)(K:α->St->Prop):Prop:=match st.as with
 | []=>jk x fun y=>K y st
 | a::as=>match get a with
  | some y=>x=some y∧K y ⟨st.env,st.sg,as⟩
  | none=>jk x fun y=>K y st
noncomputable def opt{α β:Type}(x:Option α)(k:α->Option β):Option β:=match x with
 | some a=>k a
 | none=>none
noncomputable def grd{β:Type}(b:Bool)(x:Option β):Option β:=match b with
 | true=>x
 | false=>none
noncomputable def orr{α β:Type}(x:Option α)(k:α->Option β)(y:Option β):Option β:=match x with
 | some a=>k a
 | none=>y
noncomputable def Ent.val?:Ent->Option T
 | .val t=>some t
 | _=>none
noncomputable def T.int?:T->Option Int
 | .int i=>some i
 | _=>Option.none
noncomputable def T.str?:T->Option Str
 | .str x=>some x
 | _=>Option.none
noncomputable def T.bool?:T->Option Bool
 | .bool b=>some b
 | _=>Option.none
noncomputable def T.list?:T->Option (List T)
 | .list xs=>some xs
 | _=>Option.none
noncomputable def Ent.list?:Ent->Option (List T)
 | .list xs=>some xs
 | _=>none
noncomputable def Ent.dict?:Ent->Option (List (Str×T))
 | .dict es=>some es
 | _=>none
noncomputable def SO.list?:SO->Option (List T)
 | .list xs=>some xs
 | _=>none
structure In where
 C:Str
 fs:List (Str×F)
noncomputable def SO.inst?:SO->Option In
 | .inst C fs=>some ⟨C,fs⟩
 | _=>none
noncomputable def F.dict?:F->Option (List (Str×T))
 | .dict es=>some es
 | _=>none
noncomputable def Ent.inst?:Ent->Bool
 | .inst _ _=>true
 | _=>false
noncomputable def F.int?:F->Option Int
 | .val (.int i)=>some i
 | _=>none
noncomputable def fc{α:Type}:List α->Option α
 | [a]=>some a
 | _=>none
noncomputable def pj{α:Type}:List α->Option (α×α)
 | [a,b]=>some (a,b)
 | _=>none
noncomputable def zh:Expr->Option Str
 | .Name x _=>some x
 | _=>none
noncomputable def T.tup?:T->Option (List T)
 | .tup xs=>some xs
 | _=>Option.none
noncomputable def T.sh?:T->Option Nat
 | .sh i=>some i
 | _=>Option.none
noncomputable def T.clo?:T->Option (List (Str×T))
 | .clo cap=>some cap
 | _=>Option.none
noncomputable def qaj{α:Type}:List α->Option α
 | a::r=>orr (pj r) (fun z_=>some a) none
 | []=>none
structure Cl where
 f:Expr
 as:List Expr
 p:Pos
noncomputable def li:Expr->Option Cl
 | .Call f as ks p=>grd ks.isEmpty (some ⟨f,as,p⟩)
 | _=>none
structure At_ where
 o:Expr
 a:Str
 p:Pos
noncomputable def yk:Expr->Option At_
 | .Attribute o a p=>some ⟨o,a,p⟩
 | _=>none
noncomputable def qjl:Expr->Option Const
 | .Constant c _ _=>some c
 | _=>none
noncomputable def q2x:Option NameKind->Bool
 | some .globalImplicit=>true
 | _=>false
noncomputable def Fl.next?:Fl->Bool
 | .next=>true
 | .ret _=>false
noncomputable def dget{α:Type}[DecidableEq α](k:α):List (α×T)->Option T
 | []=>none
 | (a,v)::r=>if a=k then some v else dget k r
noncomputable def dput{α:Type}[DecidableEq α](k:α)(v:T):List (α×T)->List (α×T)
 | []=>[(k,v)]
 | (a,u)::r=>if a=k then (a,v)::r else (a,u)::dput k v r
noncomputable def fget(f:Str):List (Str×T)->Option T
 | []=>none
 | (a,v)::r=>if a=f then some v else fget f r
noncomputable def ffget(f:Str):List (Str×F)->Option F
 | []=>none
 | (a,v)::r=>if a=f then some v else ffget f r
noncomputable def vy(f:Str)(v:F):List (Str×F)->List (Str×F)
 | []=>[(f,v)]
 | (a,u)::r=>if a=f then (a,v)::r else (a,u)::vy f v r
noncomputable def jn(x:Str):Loc->Option Ent
 | []=>none
 | (a,v)::r=>if a=x then v else jn x r
noncomputable def v0(x:Str)(v:Ent):Loc->Loc
 | []=>[(x,some v)]
 | (a,u)::r=>if a=x then (a,some v)::r else (a,u)::v0 x v r
noncomputable def eh(x:Str):Loc->Loc
 | []=>[]
 | (a,u)::r=>if a=x then (a,none)::eh x r else (a,u)::eh x r
noncomputable def q6s:T->Option Bool
 | .none=>some true
 | .str _=>some false
 | .int _=>some false
 | _=>none
noncomputable def qap(x:Str):T->Option Bool
 | .str y=>some (decide (x=y))
 | .none=>some false
 | _=>none
noncomputable def teq:Nat->T->T->Option Bool
 | 0,_,_=>Option.none
 | n+1,a,b=>match a with
  | .none=>q6s b
  | .bool x=>opt b.bool? fun y=>some (x==y)
  | .int x=>opt b.int? fun y=>some (decide (x=y))
  | .str x=>qap x b
  | .list xs=>opt b.list? fun ys=>cond (decide (xs.length=ys.length)) (go n xs ys) (some false)
  | .tup xs=>opt b.tup? fun ys=>grd (decide (xs.length=ys.length)) (go n xs ys)
  | _=>none
where
 go (n:Nat):List T->List T->Option Bool
  | [],ys=>match ys with
   | []=>some true
   | _=>none
  | x::xs,ys=>match ys with
   | y::ys=>opt (teq n x y) fun b=>grd b (go n xs ys)
   | []=>none
noncomputable def qh8:T->Option Bool
 | .none=>some false
 | .bool b=>some b
 | _=>none
noncomputable def T.isNone:T->Bool
 | .none=>true
 | _=>false
noncomputable def q0z(x:Str):List T->Option Bool
 | []=>some false
 | t::r=>opt t.str? fun y=>opt (q0z x r) fun b=>some (decide (y=x) || b)
noncomputable def idx(xs:List T)(i:Int):Option T:=
 cond (decide (0≤i)) (grd (decide (i<1000000)) xs[i.toNat]?) (grd (decide (-1000000≤i)&&decide (0≤i+xs.length)) xs[(i+xs.length).toNat]?)
noncomputable def zu(c k:T):Option T:=match c with
 | .list xs=>opt k.int? (idx xs)
 | .tup xs=>opt k.int? (idx xs)
 | .dict es=>opt k.str? fun y=>dget y es
 | .idict es=>opt k.int? fun i=>dget i es
 | _=>none
noncomputable def rng(n:Int):List T:=(List.range n.toNat).map fun(i:Nat)=>.int (i:Int)
noncomputable def q4l(t:T):Option (Str×Int):=opt t.tup? fun xs=>opt (pj xs) fun p=>opt p.1.str? fun x=>opt p.2.int? fun i=>some (x,i)
noncomputable def fb:List T->Option (List (Str×Int))
 | []=>some []
 | t::r=>opt (q4l t) fun p=>opt (fb r) fun l=>some (p::l)
noncomputable def s9(i:Int):Option Str:=grd (decide (0≤i)&&decide (i<100000)) (some (Str.ofString (toString i)))
noncomputable def qhe:T->Option Str
 | .int i=>grd (decide (i=5)) (some "[5]")
 | .str x=>grd (decide (x=("q":Str))) (some "['q']")
 | _=>none
noncomputable def qhd (p:T×T):Option Str:=opt p.1.int? fun i=>opt p.2.int? fun j=>grd (decide (i=0)&&decide (j=0)) (some "[0, 0]")
noncomputable def qhc (xs:List T):Option Str:=cond xs.isEmpty (some "[]") (orr (fc xs) qhe (opt (pj xs) qhd))
noncomputable def s8:T->Option Str
 | .int i=>s9 i
 | .list xs=>qhc xs
 | .str x=>some x
 | _=>none
noncomputable def ny(x:Str):Option Str:=
 if x="A" then some "a" else if x="B" then some "b" else if x="C" then some "c" else if x="D" then some "d" else none
noncomputable def splitTab:List (Str×List Str):=[("integer [5]",["integer","[5]"]),("character ['q']",["character","['q']"]),("none",["none"]),("double []",["double","[]"]),("character []",["character","[]"]),("list []",["list","[]"]),("logical [0, 0]",["logical","[0,","0]"])]
noncomputable def q45(x:Str):Option (List T):=opt (splitTab.lookup x) fun l=>some (l.map .str)
noncomputable def b9:List T->Option Str
 | []=>some ""
 | t::r=>opt t.str? fun x=>cond r.isEmpty (some x) (opt (b9 r) fun y=>some (x++("\n":Str)++y))
noncomputable def qed(x y:Str):Option T:=grd (decide (x.length+y.length≤gw)) (some (.str (x++y)))
noncomputable def q3s(xs ys:List T):Option (List T):=grd (decide (xs.length+ys.length≤LIM)) (some (xs++ys))
noncomputable def me:Const->Option T
 | .none=>some .none
 | .bool b=>some (.bool b)
 | .int i=>some (.int i)
 | .str s=>some (.str s)
 | _=>none
noncomputable def qlj(a b:T):Option Ent:=match a with
 | .int i=>opt b.int? fun j=>some (.val (.int (i+j)))
 | .str x=>opt b.str? fun y=>opt (qed x y) fun t=>some (.val t)
 | .list xs=>opt b.list? fun ys=>opt (q3s xs ys) fun l=>some (.list l)
 | .tup xs=>opt b.tup? fun ys=>grd (!xs.isEmpty&&!ys.isEmpty) (opt (q3s xs ys) fun l=>some (.val (.tup l)))
 | _=>none
noncomputable def qcf(f:Int->Int->Option Int)(a b:T):Option Ent:=opt a.int? fun i=>opt b.int? fun j=>opt (f i j) fun k=>some (.val (.int k))
noncomputable def small(j:Int):Bool:=decide (0<j)&&decide (j<1000000)
noncomputable def qkj(a b:T):Option Ent:=opt a.list? fun xs=>opt (fc xs) fun x=>opt b.int? fun k=>grd (decide (0≤k)&&decide (k≤LIM)) (some (.list (List.replicate k.toNat x)))
noncomputable def aq(op:Operator)(a b:T):Option Ent:=match op with
 | .Add=>qlj a b
 | .Sub=>qcf (fun i j=>some (i-j)) a b
 | .Mod=>qcf (fun i j=>grd (small j) (some (Int.fmod i j))) a b
 | .FloorDiv=>qcf (fun i j=>grd (small j) (some (Int.fdiv i j))) a b
 | .Mult=>qkj a b
 | _=>none
noncomputable def inT(k:T)(c:T):Option Bool:=opt k.str? fun x=>match c with
 | .list xs=>q0z x xs
 | .tup xs=>q0z x xs
 | .dict es=>some (dget x es).isSome
 | _=>none
noncomputable def qlb(f:Int->Int->Bool)(a b:T):Option Bool:=opt a.int? fun i=>opt b.int? fun j=>some (f i j)
noncomputable def noT(x:Option Bool):Option Bool:=opt x fun b=>some (!b)
noncomputable def uu(op:CmpOp)(a b:T):Option Bool:=match op with
 | .Eq=>teq 40 a b
 | .NotEq=>noT (teq 40 a b)
 | .Lt=>qlb (fun i j=>decide (i<j)) a b
 | .Gt=>qlb (fun i j=>decide (i>j)) a b
 | .Is=>grd b.isNone (some a.isNone)
 | .IsNot=>grd b.isNone (some (!a.isNone))
 | .In=>inT a b
 | .NotIn=>noT (inT a b)
 | _=>none
noncomputable def fj:T->Option (List T)
 | .list xs=>some xs
 | .dict es=>grd (decide (es.map (·.1)).Nodup) (some (es.map fun p=>.str p.1))
 | _=>none
noncomputable def wa(xs:List T)(lo up st:Option T):Option (List T):=grd (decide (xs.length≤LIM)) (orr lo
 (fun l=>grd (up.isNone&&st.isNone) (opt l.int? fun l=>grd (decide (0≤l)) (some (xs.drop l.toNat))))
 (orr up (fun u=>grd st.isNone (opt u.int? fun u=>grd (decide (0≤u)) (some (xs.take u.toNat)))) (opt st fun s=>opt s.int? fun s=>grd (decide (s=-1)) (some xs.reverse))))
noncomputable def mainBody:List Stmt:=PySem.Challenge.pw_pq1361_01.main.body
noncomputable def cu(i:Nat):Stmt:=mainBody.getD i (.Pass default)
noncomputable def qgd:Stmt->Option wy
 | .FunctionDef _ a b _ _ _ sc _ _ _=>some ⟨a,a.args.map (·.arg),a.defaults.filterMap fun e=>match e with
   | .Constant c _ _=>me c
   | _=>none,b,sc⟩
 | _=>none
noncomputable def qiu:Stmt->Nat->Option wy
 | .ClassDef _ _ _ b _ _ _ _ _ _ _,j=>qgd (b.getD j (.Pass default))
 | _,_=>none
noncomputable def fdAt(i:Nat):Option Nat->Option wy
 | none=>qgd (cu i)
 | some j=>qiu (cu i) j
noncomputable def fnTab:List (Str×Nat×Option Nat):=[
 (("get_attr":Str),2,none),
 (("dim_of":Str),3,none),
 (("class_attr":Str),4,none),
 (("language_class":Str),5,none),
 (("shape_class":Str),6,none),
 (("plain_class":Str),7,none),
 (("implicit_class":Str),8,none),
 (("class_of":Str),9,none),
 (("data_kinds":Str),19,none),
 (("basic_names":Str),20,none),
 (("basic_parents":Str),21,none),
 (("check_slots":Str),23,none),
 (("value_classes":Str),24,none),
 (("class_supers":Str),25,none),
 (("is_of":Str),26,none),
 (("null":Str),40,none),
 (("integer":Str),41,none),
 (("character":Str),42,none),
 (("flag":Str),43,none),
 (("symbol":Str),45,none),
 (("call_of":Str),46,none),
 (("share":Str),48,none),
 (("s4_state":Str),51,none),
 (("quoted":Str),52,none),
 (("empty_matrix":Str),54,none),
 (("default_value":Str),55,none),
 (("prototype_value":Str),56,none),
 (("make_prototype":Str),57,none),
 (("slot_faults":Str),58,none),
 (("told_faults":Str),59,none),
 (("validity_faults":Str),60,none),
 (("faults_text":Str),61,none),
 (("validate":Str),62,none),
 (("_law_shells":Str),87,none),
 (("_law_shell":Str),88,none),
 (("_law_world":Str),89,none),
 (("_law_chain":Str),90,none),
 (("_law_slots":Str),91,none),
 (("_law_start":Str),92,none),
 (("_law_object":Str),93,none),
 (("_law_shown":Str),94,none),
 (("_law_class":Str),95,none),
 (("_law_fits":Str),96,none),
 (("_law_says":Str),97,none),
 (("_law_teller":Str),98,none),
 (("law":Str),99,none)]
noncomputable def mfTab:List (Str×Nat×Option Nat):=[
 (("S4Class.__init__":Str),18,some 0),
 (("ClassTable.__init__":Str),22,some 0),
 (("ClassTable.define":Str),22,some 1),
 (("ClassTable.get":Str),22,some 3),
 (("ClassTable.basic":Str),22,some 4),
 (("ClassTable.known":Str),22,some 5),
 (("ClassTable.parents":Str),22,some 6),
 (("ClassTable.supers":Str),22,some 7),
 (("ClassTable.distance":Str),22,some 8),
 (("ClassTable.slots_of":Str),22,some 9),
 (("MethodTable.__init__":Str),28,some 0),
 (("Null.__init__":Str),30,some 0),
 (("Vector.__init__":Str),31,some 0),
 (("Symbol.__init__":Str),32,some 0),
 (("Call.__init__":Str),33,some 0),
 (("Builtin.__init__":Str),35,some 0),
 (("Environment.__init__":Str),36,some 0),
 (("S4Object.__init__":Str),39,some 0),
 (("S4State.__init__":Str),50,some 0),
 (("Evaluator.__init__":Str),84,some 0),
 (("Evaluator.new_env":Str),84,some 1),
 (("Evaluator.call_builtin":Str),84,some 20),
 (("Evaluator.call_value":Str),84,some 25),
 (("Evaluator.signal_error":Str),84,some 4),
 (("RError.__init__":Str),13,some 0)]
noncomputable def ji{α:Type}(x:Str):List (Str×α)->Option α
 | []=>none
 | (a,v)::r=>if a=x then some v else ji x r
noncomputable def wx(f:Str):Option wy:=((ji f fnTab).or (ji f mfTab)).bind fun p=>fdAt p.1 p.2
noncomputable def methTab:List (Str×List (Str×Str)):=[
 ("S4Class",[("__init__","S4Class.__init__")]),
 ("ClassTable",[("__init__","ClassTable.__init__"),("define","ClassTable.define"),("get","ClassTable.get"),("basic","ClassTable.basic"),("known","ClassTable.known"),("parents","ClassTable.parents"),("supers","ClassTable.supers"),("distance","ClassTable.distance"),("slots_of","ClassTable.slots_of")]),
 ("MethodTable",[("__init__","MethodTable.__init__")]),
 ("Null",[("__init__","Null.__init__")]),
 ("Vector",[("__init__","Vector.__init__")]),
 ("Symbol",[("__init__","Symbol.__init__")]),
 ("Call",[("__init__","Call.__init__")]),
 ("Builtin",[("__init__","Builtin.__init__")]),
 ("Environment",[("__init__","Environment.__init__")]),
 ("S4Object",[("__init__","S4Object.__init__")]),
 ("S4State",[("__init__","S4State.__init__")]),
 ("Evaluator",[("__init__","Evaluator.__init__"),("new_env","Evaluator.new_env"),("call_builtin","Evaluator.call_builtin"),("call_value","Evaluator.call_value")])]
noncomputable def te(C m:Str):Option Str:=(ji C methTab).bind (ji m)
noncomputable def qgu:List Str:=["len","list","dict","min","str","isinstance","range","reversed"]
noncomputable def tellDef:Option wy:=match cu 98 with
 | .FunctionDef _ _ (st::_) _ _ _ _ _ _ _=>qgd st
 | _=>none
noncomputable def bindArgs:List Str->List T->List T->Option (List (Str×T))
 | ps,[],ds=>grd (decide (ps.length≤ds.length)) (some (ps.zip (ds.drop (ds.length-ps.length))))
 | ps,a::as,ds=>match ps with
  | p::ps=>opt (bindArgs ps as ds) fun l=>some ((p,a)::l)
  | []=>none
noncomputable def jc(sc:Scope)(x:Str):Option NameKind:=sc.names.lookup x
noncomputable def z8:Option NameKind->Bool
 | some .local=>true
 | some .cell=>true
 | some .free=>true
 | _=>false
noncomputable def u5:Option NameKind->Bool
 | some .local=>true
 | some .cell=>true
 | _=>false
noncomputable def se (sc:Scope) (x:Str):Bool:=decide (x="heard") || (decide (x="shells")&&(sc.names.lookup ("interp":Str)).isSome)
noncomputable def yt (C:Str):Bool:=decide (C="Evaluator") || decide (C="ClassTable") || decide (C="S4State")
noncomputable def F.ent:F->Ent
 | .val t=>.val t
 | .dict es=>.dict es
noncomputable def q3e(i:Nat):SO->Option T
 | .list xs=>some (.list xs)
 | .inst _ _=>some (.sh i)
 | _=>none
noncomputable def qdg(sg:List SO)(t:T):Option T:=orr t.sh? (fun i=>opt sg[i]? (q3e i)) (some t)
noncomputable def q1j(sg:List SO):Ent->Option T
 | .val t=>qdg sg t
 | .list xs=>some (.list xs)
 | .dict es=>some (.dict es)
 | .inst _ _=>none
noncomputable def qj4(sg:List SO)(f:Str):T->Option Ent
 | .inst _ fs=>grd (!decide (f="shared")) (opt (fget f fs) fun t=>some (.val t))
 | .sh i=>opt sg[i]? fun o=>opt o.inst? fun q=>opt (ffget f q.fs) fun u=>some u.ent
 | _=>none
noncomputable def cf(sg:List SO)(f:Str):Ent->Option Ent
 | .val t=>qj4 sg f t
 | .inst _ fs=>opt (ffget f fs) fun u=>some u.ent
 | _=>none
noncomputable def md(x:Str)(env:Loc):Loc:=match jn x env with
 | some e=>v0 x (.val e.fz) env
 | none=>env
noncomputable def xl(sc:Scope):List Str:=sc.names.filterMap fun p=>if p.2 = .free then some p.1 else none
noncomputable def gm(xs:List Str)(env:Loc):Loc:=xs.foldl (fun e x=>md x e) env
noncomputable def zb(xs:List Str)(env:Loc):Option (List (Str×T)):=match xs with
 | []=>some []
 | x::r=>opt (jn x env) fun u=>opt u.val? fun t=>opt (zb r env) fun l=>some ((x,t)::l)
noncomputable def ofT(l:List (Str×T)):Loc:=l.map fun p=>(p.1,some (.val p.2))
noncomputable def qk5(sc:Scope)(l:Loc):Loc:=sc.names.filterMap fun p=>cond (u5 (some p.2)&&(l.lookup p.1).isNone) (some (p.1,none)) none
noncomputable def frame(sc:Scope)(l:Loc):Loc:=l++qk5 sc l
noncomputable def my:List Expr->Option (List Str)
 | []=>some []
 | e::r=>opt (zh e) fun x=>opt (my r) fun l=>some (x::l)
noncomputable def pt:List Str->List T->Loc->Option Loc
 | [],ts,env=>grd ts.isEmpty (some env)
 | x::xs,ts,env=>match ts with
  | t::ts=>pt xs ts (v0 x (.val t) env)
  | []=>none
noncomputable def q0g(sc:Scope)(target:Expr)(t:T)(env:Loc):Option Loc:=match target with
 | .Name x _=>grd (u5 (jc sc x)) (some (v0 x (.val t) env))
 | .Tuple es _ _=>opt (my es) fun xs=>opt t.tup? fun ts=>grd (xs.all fun x=>u5 (jc sc x)) (pt xs ts env)
 | _=>none
noncomputable def ba:BoolOp->Bool->Bool
 | .And,b=>!b
 | .Or,b=>b
noncomputable def shown:T->Option Str
 | .str x=>some x
 | .int i=>s8 (.int i)
 | _=>none
noncomputable def qde:Const->Option Str
 | .str x=>some x
 | _=>none
noncomputable def qbg(t:T):Option (Str×T):=opt t.tup? fun xs=>opt (pj xs) fun p=>opt p.1.str? fun k=>some (k,p.2)
noncomputable def vf:List T->Option (List (Str×T))
 | []=>some []
 | t::r=>opt (qbg t) fun p=>opt (vf r) fun l=>some (p::l)
noncomputable def xu{α:Type}[DecidableEq α](l:List (α×T)):List (α×T):=l.foldl (fun d p=>dput p.1 p.2 d) []
noncomputable def bx:List (T×T)->Option (List (Str×T))
 | []=>some []
 | p::r=>opt p.1.str? fun k=>opt (bx r) fun l=>some ((k,p.2)::l)
noncomputable def u6:List (T×T)->Option (List (Int×T))
 | []=>some []
 | p::r=>opt p.1.int? fun k=>opt (u6 r) fun l=>some ((k,p.2)::l)
noncomputable def qcg:Option Expr->Bool
 | some (.Constant (.int _) _ _)=>true
 | _=>false
noncomputable def sm0 (m x:Str):Option Ent:=grd (decide (m="lower")) (opt (ny x) fun y=>some (.val (.str y)))
noncomputable def sm1(m x:Str)(t:T):Option Ent:=match t with
 | .str y=>grd (decide (m="split")&&decide (y=" ")) (opt (q45 x) fun l=>some (.list l))
 | .list xs=>grd (decide (m="join")&&decide (x="\n")) (opt (b9 xs) fun y=>grd (decide (y.length≤gw)) (some (.val (.str y))))
 | _=>none
noncomputable def uj(m x:Str)(args:List T):Option Ent:=cond args.isEmpty (sm0 m x) (opt (fc args) (sm1 m x))
noncomputable def af (m:Str) (es:List (Str×T)) (args:List T):Option T:=grd (decide (m="get")) (orr (fc args) (fun t=>opt t.str? fun k=>some ((dget k es).getD .none)) (opt (pj args) fun p=>opt p.1.str? fun k=>some ((dget k es).getD p.2)))
noncomputable def yj (f:Str) (xs:List T):Option Ent:=grd (decide (xs.length≤LIM)) (cond (decide (f="len")) (some (.val (.int xs.length))) (cond (decide (f="list")) (some (.list xs)) (opt (vf xs) fun l=>some (.dict (xu l)))))
noncomputable def ze(f:Str)(args:List T):Option Ent:=
 cond (decide (f="len") || decide (f="list") || decide (f="dict")) (opt (fc args) fun t=>opt t.list? (yj f))
 (cond (decide (f="min")) (opt (pj args) fun p=>opt p.1.int? fun i=>opt p.2.int? fun j=>some (.val (.int (if j<i then j else i))))
 (grd (decide (f="str")) (opt (fc args) fun t=>opt (s8 t) fun x=>some (.val (.str x)))))
noncomputable def isA(x:T)(C:Str):Option Bool:=match x with
 | .inst D _=>grd (decide (C="Vector")) (some (decide (D=C)))
 | .list _=>grd (decide (C="list")) (some true)
 | .str _=>grd (decide (C="list")) (some false)
 | _=>none
noncomputable def fieldNames:List Str:=[("kind":Str),("items":Str),("attrs":Str),("shared":Str),("loose":Str),("name":Str),("slots":Str),("contains":Str),("validity":Str),("virtual":Str),("prototype":Str),("classes":Str),("unions":Str),("generics":Str),("tags":Str),("code":Str),("special":Str),("fn":Str),("group":Str),("number":Str),("parent":Str),("frame":Str),("locked":Str),("locks":Str),("methods":Str),("older":Str),("limit":Str),("most_frames":Str),("steps":Str),("next_number":Str),("base":Str),("globals":Str),("frames":Str),("out":Str),("warnings":Str),("handlers":Str),("restarts":Str),("targets":Str),("visible":Str),("current":Str),("dispatcher":Str),("signaller":Str),("warner":Str),("deparser":Str),("s4":Str)]
noncomputable def xc:Expr->Bool
 | .Starred _ _=>false
 | _=>true
noncomputable def quiet:Expr->Bool
 | .Name _ _=>true
 | .Constant _ _ _=>true
 | .List es _=>es.isEmpty
 | _=>false
noncomputable def tu:Expr->Bool
 | .Name _ _=>true
 | _=>false
noncomputable def qc3(x:Str):Expr->Bool
 | .Name y _=>decide (y≠x)
 | .Constant _ _ _=>true
 | .Attribute o _ _=>tu o
 | _=>false
noncomputable def zj(e:Expr):Ent->Bool
 | .val t=>t.sh?.isSome
 | _=>!tu e
noncomputable def zr:Expr->Bool
 | .Call (.Name f _) [] [] _=>!decide (f="super")
 | _=>true
noncomputable def yd:Expr->Bool
 | .Attribute _ _ _=>true
 | _=>false
noncomputable def qkp:Expr->Bool
 | .Tuple _ _ _=>true
 | _=>false
noncomputable def qdi(sc sc2:Scope):Bool:=decide (sc2.kind = .function)&&decide ((sc2.names.map (·.1)).Nodup)&&sc2.names.all (fun p=>!decide (p.2 = .cell)) &&
 (xl sc2).all (fun x=>decide (jc sc x=some .cell) || decide (jc sc x=some .free))&&decide (jc sc2 "__debug__"=none)&&decide (jc sc2 "#"=none)&&decide (jc sc2 "__classdict__"=none)
noncomputable def la(sc:Scope):Scope:={ sc with names:=sc.names.map fun p=>(p.1,if p.2 = .cell then .free else p.2) }
noncomputable def isFn(x:Str):Bool:=(ji x fnTab).isSome
noncomputable def q7f(x:Str):Bool:=(ji x methTab).isSome
structure Calls where
 callF:Str->List T->List SO->Ent->List SO->Prop
 callClo:List (Str×T)->List T->List SO->Ent->List SO->Prop
 makeC:Str->List T->List SO->Ent->List SO->Prop
structure Fns where
 C:Calls
 peek:Scope->Expr->St->(Ent->St->Prop)->Prop
 peekC:Scope->Expr->St->(T->Bool->St->Prop)->Prop
 evalT:Scope->Expr->St->(T->St->Prop)->Prop
 eval:Scope->Expr->St->(Ent->St->Prop)->Prop
 evOpt:Scope->Option Expr->St->(Option T->St->Prop)->Prop
 compG:Scope->List Comprehension->Expr->St->(List T->St->Prop)->Prop
 iterS:Scope->Expr->St->(List T->St->Prop)->Prop
 test:Scope->Expr->St->(Bool->St->Prop)->Prop
 exec:Scope->Stmt->St->(Fl->St->Prop)->Prop
noncomputable def Calls.bot:Calls:=⟨fun z_ z_ z_ z_ z_=>False,fun z_ z_ z_ z_ z_=>False,fun z_ z_ z_ z_ z_=>False⟩
noncomputable def Fns.bot(C:Calls):Fns:=⟨C,fun z_ z_ z_ z_=>False,fun z_ z_ z_ z_=>False,fun z_ z_ z_ z_=>False,fun z_ z_ z_ z_=>False,fun z_ z_ z_ z_=>False,fun z_ z_ z_ z_ z_=>False,fun z_ z_ z_ z_=>False,fun z_ z_ z_ z_=>False,fun z_ z_ z_ z_=>False⟩
noncomputable def wb(f:Stmt->St->(Fl->St->Prop)->Prop):List Stmt->St->(Fl->St->Prop)->Prop
 | [],st,Q=>Q .next st
 | a::r,st,Q=>f a st fun fl st1=>match fl with
  | .next=>wb f r st1 Q
  | .ret v=>Q (.ret v) st1
structure Ended{α:Type}(a a':α)(env env':Loc)(sg sg':List SO)(as:List Ans):Prop where
 as:as=[]
 a:a'=a
 env:env'=env
 sg:sg'=sg
noncomputable def wq{α:Type}(X:St->(α->St->Prop)->Prop)(env:Loc)(sg:List SO)(a:α)(env':Loc)(sg':List SO):Prop:=
 ∃as,X ⟨env,sg,as⟩ fun a' st=>Ended a a' env' st.env sg' st.sg st.as
inductive LoopR(X:T->St->(Fl->St->Prop)->Prop):List T->Loc->List SO->Fl->Loc->List SO->Prop
 | nil {env:Loc} {sg:List SO}:LoopR X [] env sg .next env sg
 | next {a:T} {r:List T} {env env1 env2:Loc} {sg sg1 sg2:List SO} {fl:Fl}:wq (X a) env sg .next env1 sg1->LoopR X r env1 sg1 fl env2 sg2->LoopR X (a::r) env sg fl env2 sg2
 | ret {a:T} {r:List T} {env env1:Loc} {sg sg1:List SO} {v:Ent}:wq (X a) env sg (.ret v) env1 sg1->LoopR X (a::r) env sg (.ret v) env1 sg1
inductive WhileR(Y:St->(Bool->St->Prop)->Prop)(X:St->(Fl->St->Prop)->Prop):Loc->List SO->Fl->Loc->List SO->Prop
 | done {env env1:Loc} {sg sg1:List SO}:wq Y env sg false env1 sg1->WhileR Y X env sg .next env1 sg1
 | next {env env1 env2 env3:Loc} {sg sg1 sg2 sg3:List SO} {fl:Fl}:wq Y env sg true env1 sg1->wq X env1 sg1 .next env2 sg2->WhileR Y X env2 sg2 fl env3 sg3->WhileR Y X env sg fl env3 sg3
 | ret {env env1 env2:Loc} {sg sg1 sg2:List SO} {v:Ent}:wq Y env sg true env1 sg1->wq X env1 sg1 (.ret v) env2 sg2->WhileR Y X env sg (.ret v) env2 sg2
inductive CompR(X:T->St->(List T->St->Prop)->Prop):List T->Loc->List SO->List T->Loc->List SO->Prop
 | nil {env:Loc} {sg:List SO}:CompR X [] env sg [] env sg
 | cons {a:T} {r:List T} {env env1 env2:Loc} {sg sg1 sg2:List SO} {xs ys:List T}:wq (X a) env sg xs env1 sg1->CompR X r env1 sg1 ys env2 sg2->CompR X (a::r) env sg (xs++ys) env2 sg2
noncomputable def yh(X:Ent->List SO->Prop)(st:St)(Q:Ent->St->Prop):Prop:=match st.as with
 | .call r sg::as=>X r sg∧Q r ⟨st.env,sg,as⟩
 | _=>False
noncomputable def q62(X:Fl->Loc->List SO->Prop)(st:St)(Q:Fl->St->Prop):Prop:=match st.as with
 | .loop fl env sg::as=>X fl env sg∧Q fl ⟨env,sg,as⟩
 | _=>False
noncomputable def ac(X:List T->Loc->List SO->Prop)(st:St)(Q:List T->Loc->List SO->List Ans->Prop):Prop:=match st.as with
 | .comp ts env sg::as=>X ts env sg∧Q ts env sg as
 | _=>False
noncomputable def evL(f:Expr->St->(T->St->Prop)->Prop):List Expr->St->(List T->St->Prop)->Prop
 | [],st,Q=>Q [] st
 | e::r,st,Q=>f e st fun t st1=>evL f r st1 fun ts st2=>Q (t::ts) st2
noncomputable def bg(f:Expr->St->(T->St->Prop)->Prop):List (Option Expr)->List Expr->St->(List (T×T)->St->Prop)->Prop
 | [],vs,st,Q=>gd vs.isEmpty (Q [] st)
 | k::ks,vs,st,Q=>match vs with
  | v::vs=>jk k fun k=>f k st fun a st1=>f v st1 fun b st2=>bg f ks vs st2 fun l st3=>Q ((a,b)::l) st3
  | []=>False
noncomputable def rx(f:Expr->St->(Bool->St->Prop)->Prop)(op:BoolOp):List Expr->St->(Bool->St->Prop)->Prop
 | [],st,Q=>Q (!ba op true) st
 | e::r,st,Q=>f e st fun b st1=>cnd (ba op b) (Q b st1) (rx f op r st1 Q)
noncomputable def mz(f:Expr->St->(T->St->Prop)->Prop)(e:Expr)(st:St)(Q:Str->St->Prop):Prop:=match e with
 | .Constant c _ _=>jk (qde c) fun x=>Q x st
 | .FormattedValue e c sp _=>gd (decide (c=-1)&&sp.isNone) (f e st fun t st1=>ask Ans.s? (shown t) st1 Q)
 | _=>False
noncomputable def zt(f:Expr->St->(T->St->Prop)->Prop):List Expr->St->(Str->St->Prop)->Prop
 | [],st,Q=>Q "" st
 | e::r,st,Q=>mz f e st fun x st1=>zt f r st1 fun y st2=>Q (x++y) st2
section
variable (f:Fns)(sc:Scope)
noncomputable def pw(x:Str)(e:Expr)(st:St)(Q:Ent->St->Prop):Prop:=cnd (z8 (jc sc x)) (jk (jn x st.env) fun r=>Q r st) (f.evalT sc e st fun t=>Q (.val t))
noncomputable def sr(v:Expr)(a:Str)(st:St)(Q:Ent->St->Prop):Prop:=gd (zr v) (f.peek sc v st fun r st1=>jk (cf st1.sg a r) fun r'=>Q r' st1)
noncomputable def uw(e:Expr)(st:St)(Q:Ent->St->Prop):Prop:=orP (zh e) (fun x=>pw f sc x e st Q) (orP (yk e) (fun q=>sr f sc q.o q.a st Q) (f.evalT sc e st fun t=>Q (.val t)))
noncomputable def sv(e:Expr)(st:St)(Q:T->Bool->St->Prop):Prop:=f.peek sc e st fun r st1=>jk (q1j st1.sg r) fun t=>Q t (zj e r) st1
noncomputable def rz(x:Str)(st:St)(Q:T->St->Prop):Prop:=cnd (q2x (jc sc x)) (gd (isFn x || q7f x) (Q (.glob x) st))
 (gd (z8 (jc sc x)) (jk (jn x st.env) fun r=>Q r.fz ⟨v0 x (.val r.fz) st.env,st.sg,st.as⟩))
noncomputable def fk(e:Expr)(st:St)(Q:T->St->Prop):Prop:=orP (zh e) (fun x=>rz sc x st Q) (f.eval sc e st fun r=>Q r.fz)
structure Sl where
 lo:Option Expr
 up:Option Expr
 st:Option Expr
noncomputable def q4a:Expr->Option Sl
 | .Slice lo up st _=>some ⟨lo,up,st⟩
 | _=>none
noncomputable def q7n(c:T)(q:Sl)(st:St)(Q:Ent->St->Prop):Prop:=f.evOpt sc q.lo st fun a st2=>f.evOpt sc q.up st2 fun b st3=>f.evOpt sc q.st st3 fun d st4=>
 jk c.list? fun xs=>ask Ans.l? (wa xs a b d) st4 fun ys=>Q (.list ys)
noncomputable def qd4(c:T)(k:Expr)(st:St)(Q:Ent->St->Prop):Prop:=f.evalT sc k st fun i st2=>ask Ans.t? (zu c i) st2 fun t=>Q (.val t)
noncomputable def qd3(v k:Expr)(st:St)(Q:Ent->St->Prop):Prop:=f.peekC sc v st fun c sh st1=>orP (q4a k) (fun q=>gd (!sh) (q7n f sc c q st1 Q)) (gd (!sh || quiet k) (qd4 f sc c k st1 Q))
noncomputable def qd5(op:Operator)(l r:Expr)(st:St)(Q:Ent->St->Prop):Prop:=f.evalT sc l st fun a st1=>f.evalT sc r st1 fun b st2=>ask Ans.e? (aq op a b) st2 Q
noncomputable def unT(op:UnaryOp)(t:T):Option T:=match op with
 | .USub=>opt t.int? fun i=>some (.int (-i))
 | .Not=>opt t.bool? fun b=>some (.bool (!b))
 | _=>none
noncomputable def qjb(op:UnaryOp)(x:Expr)(st:St)(Q:Ent->St->Prop):Prop:=f.evalT sc x st fun t st1=>jk (unT op t) fun u=>Q (.val u) st1
noncomputable def qjm(op:CmpOp)(l r:Expr)(st:St)(Q:Bool->St->Prop):Prop:=f.peekC sc l st fun a sa st1=>gd (!sa || quiet r) (f.peekC sc r st1 fun b z_ st2=>ask Ans.b? (uu op a b) st2 Q)
noncomputable def iz(l:Expr)(ops:List CmpOp)(rs:List Expr)(st:St)(Q:Bool->St->Prop):Prop:=jk (fc ops) fun op=>jk (fc rs) fun r=>qjm f sc op l r st Q
noncomputable def q5w(op:BoolOp)(es:List Expr)(st:St)(Q:Ent->St->Prop):Prop:=jk (pj es) fun p=>f.evalT sc p.1 st fun t st1=>jk t.bool? fun b=>
 cnd (ba op b) (Q (.val (.bool b)) st1) (f.evalT sc p.2 st1 fun t=>Q (.val t))
noncomputable def qjc(t a b:Expr)(st:St)(Q:Ent->St->Prop):Prop:=f.test sc t st fun q st1=>cnd q (f.eval sc a st1 Q) (f.eval sc b st1 Q)
noncomputable def iy(mk:List T->Ent)(es:List Expr)(st:St)(Q:Ent->St->Prop):Prop:=evL (f.evalT sc) es st fun ts st1=>gd (decide (ts.length≤LIM)) (Q (mk ts) st1)
noncomputable def q5u(ks:List (Option Expr))(vs:List Expr)(st:St)(Q:Ent->St->Prop):Prop:=gd (decide (vs.length≤15)&&(ks.all Option.isSome&&decide (ks.length=vs.length))) (bg (f.evalT sc) ks vs st fun l st1=>
 cnd (ks.any qcg) (jk (u6 l) fun l'=>Q (.val (.idict (xu l'))) st1) (jk (bx l) fun l'=>Q (.dict (xu l')) st1))
noncomputable def q5t(ps:List Expr)(st:St)(Q:Ent->St->Prop):Prop:=zt (f.evalT sc) ps st fun x st1=>ob (decide (x.length≤gw)) (Q (.val (.str x)) st1)
noncomputable def dh(e:Expr)(st:St)(Q:List T->St->Prop):Prop:=cnd (yd e) (f.evalT sc e st fun t st1=>ask Ans.l? (fj t) st1 Q) (f.iterS sc e st Q)
structure Gen where
 tg:Expr
 it:Expr
 more:List Comprehension
noncomputable def q9b(gens:List Comprehension):Option Gen:=match gens with
 | g::more=>grd (g.ifs.isEmpty&&decide (g.is_async=0)) (some ⟨g.target,g.iter,more⟩)
 | []=>none
noncomputable def gu(q:Gen)(elt:Expr)(t:T)(s:St)(Q:List T->St->Prop):Prop:=jk (q0g sc q.tg t s.env) fun env'=>f.compG sc q.more elt ⟨env',s.sg,s.as⟩ Q
noncomputable def oy(elt:Expr)(gens:List Comprehension)(sc2:Scope)(st:St)(Q:Ent->St->Prop):Prop:=jk (q9b gens) fun q=>gd (qdi sc sc2) (dh f sc q.it st fun items st1=>
 jk (zb (xl sc2) (gm (xl sc2) st1.env)) fun cap=>ac (CompR (gu f sc2 q elt) items (frame sc2 (ofT cap)) st1.sg) st1 fun ts z_ sg as=>
  ob (decide (ts.length≤LIM)) (Q (.list ts) ⟨gm (xl sc2) st1.env,sg,as⟩))
noncomputable def qlf(g:Str)(as:List Expr)(st:St)(Q:Ent->St->Prop):Prop:=evL (f.evalT sc) as st fun ts st1=>yh (f.C.callF g ts st1.sg) st1 Q
noncomputable def qht(g:Str)(as:List Expr)(st:St)(Q:Ent->St->Prop):Prop:=evL (f.evalT sc) as st fun ts st1=>yh (f.C.makeC g ts st1.sg) st1 Q
structure Isi where
 a:Expr
 C:Str
noncomputable def isi?(as:List Expr):Option Isi:=opt (pj as) fun p=>opt (zh p.2) fun C=>some ⟨p.1,C⟩
noncomputable def qhs(as:List Expr)(st:St)(Q:Ent->St->Prop):Prop:=jk (isi? as) fun q=>f.peekC sc q.a st fun x z_ st1=>gd (q2x (jc sc q.C)) (jk (isA x q.C) fun b=>Q (.val (.bool b)) st1)
noncomputable def qhu(g:Str)(a:Expr)(st:St)(Q:Ent->St->Prop):Prop:=f.peekC sc a st fun x z_ st1=>ask Ans.e? (ze g [x]) st1 Q
noncomputable def qjo(g:Str)(as:List Expr)(st:St)(Q:Ent->St->Prop):Prop:=evL (f.evalT sc) as st fun ts st1=>ask Ans.e? (ze g ts) st1 Q
noncomputable def q6c (g:Str) (as:List Expr) (st:St) (Q:Ent→St→Prop):Prop:=gd (q2x (jc sc g)) (cnd (isFn g) (qlf f sc g as st Q) (cnd (q7f g) (qht f sc g as st Q) (cnd (decide (g="isinstance")) (qhs f sc as st Q)
 (orP (fc as) (fun a=>qhu f sc g a st Q) (gd (decide (g="min")) (qjo f sc g as st Q))))))
inductive Recv where
 | str (x:Str)
 | inst (C:Str) (fs:List (Str×T))
 | shi (i:Nat) (q:In)
 | shl (i:Nat) (xs:List T)
 | dict (es:List (Str×T))
 | no
noncomputable def qhg(i:Nat):Option SO->Recv
 | some (.inst C fs)=>.shi i ⟨C,fs⟩
 | some (.list xs)=>.shl i xs
 | _=>.no
noncomputable def qkb(sg:List SO):T->Recv
 | .str x=>.str x
 | .inst C fs=>.inst C fs
 | .dict es=>.dict es
 | .sh i=>qhg i sg[i]?
 | _=>.no
noncomputable def qkc(sg:List SO):Ent->Recv
 | .val t=>qkb sg t
 | .dict es=>.dict es
 | _=>.no
noncomputable def qhq(m x:Str)(as:List Expr)(st:St)(Q:Ent->St->Prop):Prop:=evL (f.evalT sc) as st fun ts st2=>ask Ans.e? (uj m x ts) st2 Q
noncomputable def q68(m C:Str)(fs:List (Str×T))(as:List Expr)(st:St)(Q:Ent->St->Prop):Prop:=evL (f.evalT sc) as st fun ts st2=>
 orP (fget m fs) (fun t=>jk t.clo? fun cap=>gd (!decide (m="shared")) (yh (f.C.callClo cap ts st2.sg) st2 Q))
  (jk (te C m) fun g=>yh (f.C.callF g (.inst C fs::ts) st2.sg) st2 Q)
noncomputable def qlc(m:Str)(i:Nat)(q:In)(as:List Expr)(st:St)(Q:Ent->St->Prop):Prop:=gd (ffget m q.fs).isNone (jk (te q.C m) fun g=>evL (f.evalT sc) as st fun ts st2=>yh (f.C.callF g (.sh i::ts) st2.sg) st2 Q)
noncomputable def qhr (m:Str) (i:Nat) (xs:List T) (as:List Expr) (st:St) (Q:Ent→St→Prop):Prop:=gd (as.isEmpty&&decide (m="pop")) (ob (decide (xs.length≤LIM)) (ask Ans.t? xs.getLast? st fun t st1=>Q (.val t) ⟨st1.env,st1.sg.set i (.list xs.dropLast),st1.as⟩))
noncomputable def qdn(m:Str)(shd:Bool)(es:List (Str×T))(as:List Expr)(st:St)(Q:Ent->St->Prop):Prop:=gd (!shd || as.all quiet) (evL (f.evalT sc) as st fun ts st2=>ask Ans.t? (af m es ts) st2 fun t=>Q (.val t))
noncomputable def q67(v:Expr)(rv:Ent)(m:Str)(as:List Expr)(st:St)(Q:Ent->St->Prop):Recv->Prop
 | .str x=>qhq f sc m x as st Q
 | .inst C fs=>q68 f sc m C fs as st Q
 | .shi i q=>qlc f sc m i q as st Q
 | .shl i xs=>qhr m i xs as st Q
 | .dict es=>qdn f sc m (zj v rv) es as st Q
 | .no=>False
noncomputable def q69(v:Expr)(m:Str)(ap cp:Pos)(as:List Expr)(st:St)(Q:Ent->St->Prop):Prop:=gd (zr v&&(ap.endLine==cp.line)&&decide (as.length<30)) (f.peek sc v st fun rv st1=>q67 f sc v rv m as st1 Q (qkc st1.sg rv))
noncomputable def q5v(g:Expr)(as:List Expr)(cp:Pos)(st:St)(Q:Ent->St->Prop):Prop:=match g with
 | .Name g _=>q6c f sc g as st Q
 | .Attribute v m ap=>q69 f sc v m ap cp as st Q
 | _=>False
noncomputable def ix(e:Expr)(st:St)(Q:Ent->St->Prop):Prop:=match e with
 | .Constant c _ _=>jk (me c) fun t=>Q (.val t) st
 | .Name _ _=>f.evalT sc e st fun t=>Q (.val t)
 | .Attribute _ _ _=>f.peek sc e st fun r st1=>jk r.val? fun t=>Q (.val t) st1
 | .Subscript v k _=>qd3 f sc v k st Q
 | .BinOp l op r _=>qd5 f sc op l r st Q
 | .UnaryOp op x _=>qjb f sc op x st Q
 | .Compare l ops rs _=>iz f sc l ops rs st fun q=>Q (.val (.bool q))
 | .BoolOp op es _=>q5w f sc op es st Q
 | .IfExp t a b _=>qjc f sc t a b st Q
 | .List es _=>iy f sc .list es st Q
 | .Tuple es _ _=>iy f sc (fun ts=>.val (.tup ts)) es st Q
 | .Dict ks vs _=>q5u f sc ks vs st Q
 | .JoinedStr ps _=>q5t f sc ps st Q
 | .ListComp elt gens sc2 _=>oy f sc elt gens sc2 st Q
 | .Call g as ks cp=>gd (ks.isEmpty&&as.all xc) (q5v f sc g as cp st Q)
 | _=>False
noncomputable def q5s(e:Option Expr)(st:St)(Q:Option T->St->Prop):Prop:=orP e (fun e=>f.evalT sc e st fun t=>Q (some t)) (Q none st)
noncomputable def q66(gens:List Comprehension)(elt:Expr)(st:St)(Q:List T->St->Prop):Prop:=cnd gens.isEmpty (f.evalT sc elt st fun t=>Q [t])
 (jk (q9b gens) fun q=>dh f sc q.it st fun items st1=>ac (CompR (gu f sc q elt) items st1.env st1.sg) st1 fun ts env sg as=>Q ts ⟨env,sg,as⟩)
structure Rng where
 g:Str
 a:Expr
noncomputable def qf7 (sc:Scope) (e:Expr):Option Rng:=opt (li e) fun q=>opt (zh q.f) fun g=>opt (fc q.as) fun a=>grd (q2x (jc sc g)&&(decide (g="range") || decide (g="reversed"))) (some ⟨g,a⟩)
noncomputable def qc7 (q:Rng) (st:St) (Q:List T→St→Prop):Prop:=f.evalT sc q.a st fun t st1=>cnd (decide (q.g="range")) (jk t.int? fun k=>ob (decide (0≤k)&&decide (k≤LIM)) (Q (rng k) st1)) (jk t.list? fun xs=>Q xs.reverse st1)
noncomputable def q0u:Ent->Option (List T)
 | .val t=>fj t
 | .dict es=>grd es.isEmpty (some [])
 | _=>none
noncomputable def r7(e:Expr)(st:St)(Q:List T->St->Prop):Prop:=orP (qf7 sc e) (fun q=>qc7 f sc q st Q) (cnd (yd e) (f.peek sc e st fun r st1=>ask Ans.l? (q0u r) st1 Q) (f.evalT sc e st fun t st1=>ask Ans.l? (fj t) st1 Q))
noncomputable def qkq:UnaryOp->Bool
 | .Not=>true
 | _=>false
noncomputable def q6r(e:Expr)(st:St)(Q:Bool->St->Prop):Prop:=f.evalT sc e st fun t st1=>ask Ans.b? (qh8 t) st1 Q
inductive Tk:Expr->Type where
 | cmp (l:Expr) (ops:List CmpOp) (rs:List Expr) (p:Pos):Tk (.Compare l ops rs p)
 | bool (op:BoolOp) (es:List Expr) (p:Pos):Tk (.BoolOp op es p)
 | un (op:UnaryOp) (x:Expr) (p:Pos):Tk (.UnaryOp op x p)
 | ifx (t a b:Expr) (p:Pos):Tk (.IfExp t a b p)
 | val (e:Expr):Tk e
noncomputable def tk:(e:Expr)->Tk e
 | .Compare l ops rs p=>.cmp l ops rs p
 | .BoolOp op es p=>.bool op es p
 | .UnaryOp op x p=>.un op x p
 | .IfExp t a b p=>.ifx t a b p
 | e=>.val e
noncomputable def qha(st:St)(Q:Bool->St->Prop){e:Expr}(k:Tk e):Prop:=match k with
 | .cmp l ops rs _=>iz f sc l ops rs st Q
 | .bool op es _=>rx (f.test sc) op es st Q
 | .un op x p=>cnd (qkq op) (f.test sc x st fun b=>Q (!b)) (q6r f sc (.UnaryOp op x p) st Q)
 | .ifx _ _ _ _=>False
 | .val e=>q6r f sc e st Q
noncomputable def qh9(e:Expr)(st:St)(Q:Bool->St->Prop):Prop:=qha f sc st Q (tk e)
noncomputable def Fl.ret?:Fl->Option Ent
 | .ret r=>some r
 | .next=>none
noncomputable def Fl.r:Fl->Ent
 | .ret r=>r
 | .next=>.val .none
noncomputable def SO.tab?:SO->Bool
 | .tab=>true
 | _=>false
noncomputable def f9(sg:List SO)(i:Nat):Bool:=match sg[i]? with
 | some o=>o.tab?
 | none=>false
structure Done(r r':Ent)(sg sg':List SO)(as:List Ans):Prop where
 as:as=[]
 r:r'=r
 sg:sg'=sg
noncomputable def qhx(fd:wy)(l:List (Str×T))(sg:List SO)(as:List Ans)(Q:Ent->St->Prop):Prop:=wb (f.exec fd.scope) fd.body ⟨frame fd.scope (ofT l),sg,as⟩ fun fl st=>Q fl.r st
noncomputable def al(fd:wy)(l:List (Str×T))(sg:List SO)(as:List Ans)(Q:Ent->St->Prop):Prop:=gd (f9 sg 0) (jk tellDef fun td=>jk (zb (xl td.scope) (ofT l)) fun cap=>
 f.exec (la fd.scope) (fd.body.getD 1 (.Pass default)) ⟨v0 "_law_tell" (.val (.clo cap)) (frame fd.scope (ofT l)),sg,as⟩ fun fl st=>jk fl.ret? fun r=>Q r st)
structure Isof where
 a:T
 v:T
 nm:Str
noncomputable def qhj(ts:List T):Option Isof:=match ts with
 | a::r=>opt (pj r) fun p=>opt p.2.str? fun nm=>some ⟨a,p.1,nm⟩
 | []=>none
noncomputable def q3m (ts:List T) (sg:List SO) (as:List Ans) (Q:Ent→St→Prop):Prop:=jk (qhj ts) fun q=>jk (wx "class_supers") fun d=>jk (bindArgs d.params [q.a,q.v] d.defaults) fun l=>
 wb (f.exec d.scope) (d.body.take 5) ⟨frame d.scope (ofT l),sg,as⟩ fun fl st=>gd (fl.next?&&f9 st.sg 1) (jk (jn "rows" st.env) fun e=>jk e.list? fun xs=>ask Ans.k? (fb xs) st fun ks st1=>
  ob (decide (0<ks.length)&&decide (ks.length<64)) (Q (.val (.bool (decide (q.nm="ANY") || ks.any fun p=>decide (p.1=q.nm)))) st1))
noncomputable def qhv(g:Str)(ts:List T)(sg:List SO)(as:List Ans)(Q:Ent->St->Prop):Prop:=jk (wx g) fun fd=>jk (bindArgs fd.params ts fd.defaults) fun l=>
 cnd (decide (g="_law_teller")) (al f fd l sg as Q) (cnd (decide (g="is_of")) (q3m f ts sg as Q) (qhx f fd l sg as Q))
noncomputable def aj(cap:List (Str×T))(ts:List T)(sg:List SO)(as:List Ans)(Q:Ent->St->Prop):Prop:=jk tellDef fun fd=>jk (bindArgs fd.params ts fd.defaults) fun l=>
 wb (f.exec fd.scope) fd.body ⟨frame fd.scope (ofT (l++cap)),sg,as⟩ fun fl st=>jk fl.ret? fun r=>Q r st
noncomputable def qlh(C:Str)(fd:wy)(self:Str)(ps:List Str)(ts:List T)(sg:List SO)(as:List Ans)(Q:Ent->St->Prop):Prop:=jk (bindArgs ps ts fd.defaults) fun l=>cnd (yt C)
 (wb (f.exec fd.scope) fd.body ⟨frame fd.scope ((self,some (.val (.sh sg.length)))::ofT l),sg++[.inst C []],as⟩ fun fl st=>gd fl.next? (Q (.val (.sh sg.length)) st))
 (wb (f.exec fd.scope) fd.body ⟨frame fd.scope ((self,some (.inst C []))::ofT l),sg,as⟩ fun fl st=>gd fl.next? (jk (jn self st.env) fun r=>gd r.inst? (Q r st)))
noncomputable def qbr (C:Str) (ts:List T) (sg:List SO) (as:List Ans) (Q:Ent→St→Prop):Prop:=jk (te C "__init__") fun g=>jk (wx g) fun fd=>match fd.params with
 | self::ps=>qlh f C fd self ps ts sg as Q
 | []=>False
noncomputable def qkg:Ent->Bool
 | .list _=>true
 | .dict _=>true
 | _=>false
noncomputable def qfe(sc:Scope)(st:St)(e:Expr):Option (Str×Ent):=opt (zh e) fun x=>grd (z8 (jc sc x)) (opt (jn x st.env) fun r=>grd (qkg r) (some (x,r)))
noncomputable def Ent.handed:Ent->Ent
 | .inst C fs=>.val (Ent.fz (.inst C fs))
 | r=>r
noncomputable def qhn(v:Option Expr)(st:St)(Q:Fl->St->Prop):Prop:=orP v (fun e=>orP (qfe sc st e) (fun p=>Q (.ret p.2) ⟨eh p.1 st.env,st.sg,st.as⟩) (f.eval sc e st fun r=>Q (.ret r.handed))) (Q (.ret (.val .none)) st)
noncomputable def qky(t:Expr)(b o:List Stmt)(st:St)(Q:Fl->St->Prop):Prop:=f.test sc t st fun q st1=>wb (f.exec sc) (cond q b o) st1 Q
noncomputable def q7m(t:Expr)(b o:List Stmt)(st:St)(Q:Fl->St->Prop):Prop:=gd o.isEmpty (q62 (WhileR (f.test sc t) (wb (f.exec sc) b) st.env st.sg) st Q)
noncomputable def d8(tg:Expr)(b:List Stmt)(t:T)(s:St)(Q:Fl->St->Prop):Prop:=jk (q0g sc tg t s.env) fun env'=>wb (f.exec sc) b ⟨env',s.sg,s.as⟩ Q
noncomputable def qho(tg it:Expr)(b o:List Stmt)(st:St)(Q:Fl->St->Prop):Prop:=gd o.isEmpty (f.iterS sc it st fun items st1=>q62 (LoopR (d8 f sc tg b) items st1.env st1.sg) st1 Q)
noncomputable def i7(x:Str)(r:Ent)(st:St):St:=match r with
 | .list xs=>⟨v0 x (.val (.sh st.sg.length)) st.env,st.sg++[.list xs],st.as⟩
 | r=>⟨v0 x r st.env,st.sg,st.as⟩
noncomputable def putName(sc:Scope)(x:Str)(r:Ent)(st:St):St:=match se sc x with
 | true=>i7 x r st
 | false=>⟨v0 x r st.env,st.sg,st.as⟩
noncomputable def q6j(x:Str)(e:Expr)(st:St)(Q:Fl->St->Prop):Prop:=gd (u5 (jc sc x)) (f.eval sc e st fun r st1=>Q .next (putName sc x r st1))
noncomputable def qhy(tg e:Expr)(st:St)(Q:Fl->St->Prop):Prop:=gd (!qkp e) (f.evalT sc e st fun t st1=>jk (q0g sc tg t st1.env) fun env'=>Q .next ⟨env',st1.sg,st1.as⟩)
inductive Tg where
 | own (q:In)
 | sh (i:Nat) (q:In)
noncomputable def Tg.q:Tg->In
 | .own q=>q
 | .sh _ q=>q
noncomputable def tgSh(sg:List SO)(i:Nat):Option Tg:=opt sg[i]? fun o=>opt o.inst? fun q=>some (.sh i q)
noncomputable def tgE(sg:List SO):Ent->Option Tg
 | .inst C fs=>some (.own ⟨C,fs⟩)
 | .val t=>opt t.sh? (tgSh sg)
 | _=>none
noncomputable def qal(x:Str)(st:St):Option Tg:=opt (jn x st.env) (tgE st.sg)
noncomputable def q6z(x:Str)(fs:List (Str×F))(st:St):Tg->St
 | .own q=>⟨v0 x (.inst q.C fs) st.env,st.sg,st.as⟩
 | .sh i q=>⟨st.env,st.sg.set i (.inst q.C fs),st.as⟩
noncomputable def ce(a:Str):Ent->Bool
 | .val (.inst _ fs)=>decide (a="shared")&&(fget a fs).isSome&&decide (fs.length≤100)
 | _=>false
noncomputable def setAttr(a x:Str)(r:Ent)(st:St)(Q:St->Prop):Prop:=orP (qal x st) (fun q=>gd (decide (q.q.fs.length≤100)) (Q (q6z x (vy a (toF r) q.q.fs) st q))) (jk (jn x st.env) fun u=>gd (ce a u) (Q st))
noncomputable def q6k(x a:Str)(e:Expr)(st:St)(Q:Fl->St->Prop):Prop:=gd (fieldNames.contains a&&z8 (jc sc x)) (f.eval sc e st fun r st1=>setAttr a x r st1 (Q .next))
noncomputable def okD(es:List (Str×T)):Bool:=decide (es.length<LIM)&&decide (es.map (·.1)).Nodup
noncomputable def qip(x:Str)(st:St):Option (List (Str×T)):=opt (jn x st.env) Ent.dict?
noncomputable def qec(d:Str)(k e:Expr)(st:St)(Q:Fl->St->Prop):Prop:=gd (z8 (jc sc d)) (f.evalT sc e st fun t st1=>jk (qip d st1) fun z_=>f.evalT sc k st1 fun kt st2=>jk kt.str? fun y=>
 jk (qip d st2) fun es=>ob (okD es) (Q .next ⟨v0 d (.dict (dput y t es)) st2.env,st2.sg,st2.as⟩))
noncomputable def rm(x a:Str)(k e:Expr)(st:St)(Q:Fl->St->Prop):Prop:=gd (z8 (jc sc x)&&qc3 x k) (f.evalT sc e st fun t st1=>jk (qal x st1) fun q=>jk (ffget a q.q.fs) fun u=>jk u.dict? fun es=>
 f.evalT sc k st1 fun kt st2=>jk kt.str? fun y=>ob (okD es) (gd (decide (q.q.fs.map (·.1)).Nodup) (Q .next (q6z x (vy a (.dict (dput y t es)) q.q.fs) st2 q))))
noncomputable def iw(tg e:Expr)(st:St)(Q:Fl->St->Prop):Prop:=match tg with
 | .Name x _=>q6j f sc x e st Q
 | .Tuple _ _ _=>qhy f sc tg e st Q
 | .Attribute o a _=>jk (zh o) fun x=>q6k f sc x a e st Q
 | .Subscript d k _=>orP (zh d) (fun d=>qec f sc d k e st Q) (jk (yk d) fun q=>jk (zh q.o) fun x=>rm f sc x q.a k e st Q)
 | _=>False
noncomputable def qea(x:Str)(op:Operator)(e:Expr)(st:St)(Q:Fl->St->Prop):Prop:=gd (u5 (jc sc x)) (jk (jn x st.env) fun u=>jk u.val? fun t=>jk t.int? fun i=>f.evalT sc e st fun t' st1=>jk t'.int? fun j=>
 jk (aq op (.int i) (.int j)) fun r=>Q .next ⟨v0 x r st1.env,st1.sg,st1.as⟩)
noncomputable def qkn(e:Expr):Option Int:=opt (qjl e) fun c=>match c with
 | .int i=>some i
 | _=>none
noncomputable def qhk:Operator->Bool
 | .Add=>true
 | _=>false
noncomputable def qij(x:Str)(st:St):Option Nat:=opt (jn x st.env) fun u=>opt u.val? T.sh?
noncomputable def q6i(x a:Str)(op:Operator)(e:Expr)(st:St)(Q:Fl->St->Prop):Prop:=gd (z8 (jc sc x)&&(qhk op&&fieldNames.contains a)) (jk (qij x st) fun i=>jk st.sg[i]? fun o=>jk o.inst? fun q=>jk (ffget a q.fs) fun u=>jk u.int? fun k=>jk (qkn e) fun j=>
 gd (decide (q.fs.length≤100)) (Q .next ⟨st.env,st.sg.set i (.inst q.C (vy a (.val (.int (k+j))) q.fs)),st.as⟩))
noncomputable def qkz(tg:Expr)(op:Operator)(e:Expr)(st:St)(Q:Fl->St->Prop):Prop:=match tg with
 | .Name x _=>qea f sc x op e st Q
 | .Attribute o a _=>jk (zh o) fun x=>q6i sc x a op e st Q
 | _=>False
noncomputable def Ent.none?:Ent->Bool
 | .val t=>t.isNone
 | _=>false
noncomputable def q14(e:Expr)(st:St)(Q:Fl->St->Prop):Prop:=f.eval sc e st fun r st1=>gd r.none? (Q .next st1)
inductive Lst where
 | own (xs:List T)
 | sh (i:Nat) (xs:List T)
noncomputable def qkl(sg:List SO)(i:Nat):Option Lst:=opt sg[i]? fun o=>opt o.list? fun xs=>some (.sh i xs)
noncomputable def lstE(sg:List SO):Ent->Option Lst
 | .list xs=>some (.own xs)
 | .val t=>opt t.sh? (qkl sg)
 | _=>none
noncomputable def q2o(x:Str)(st:St):Option Lst:=opt (jn x st.env) (lstE st.sg)
noncomputable def Lst.xs:Lst->List T
 | .own xs=>xs
 | .sh _ xs=>xs
noncomputable def qhz(x:Str)(t:T)(st:St):Lst->St
 | .own xs=>⟨v0 x (.list (xs++[t])) st.env,st.sg,st.as⟩
 | .sh i xs=>⟨st.env,st.sg.set i (.list (xs++[t])),st.as⟩
noncomputable def q36 (x m:Str) (as:List Expr) (st:St) (Q:Fl→St→Prop):Prop:=gd (decide (m="append")) (jk (fc as) fun e=>f.evalT sc e st fun t st1=>jk (q2o x st1) fun l=>ob (decide (l.xs.length<LIM)) (Q .next (qhz x t st1 l)))
structure Mth where
 x:Str
 m:Str
 ap:Pos
 as:List Expr
 cp:Pos
noncomputable def qit(e:Expr):Option Mth:=opt (li e) fun q=>opt (yk q.f) fun r=>opt (zh r.o) fun x=>some ⟨x,r.a,r.p,q.as,q.p⟩
noncomputable def q0v(e:Expr):Bool:=(opt (li e) fun q=>zh q.f).isSome
noncomputable def q5k(e:Expr)(st:St)(Q:Fl->St->Prop):Prop:=orP (qit e) (fun q=>gd (z8 (jc sc q.x)&&(q.ap.endLine==q.cp.line)) (cnd (q2o q.x st).isSome (q36 f sc q.x q.m q.as st Q) (gd (qij q.x st).isSome (q14 f sc e st Q)))) (gd (q0v e) (q14 f sc e st Q))
noncomputable def Fl.fz:Fl->Fl
 | .ret r=>.ret (.val r.fz)
 | .next=>.next
noncomputable def qcy(b o fin:List Stmt)(st:St)(Q:Fl->St->Prop):Prop:=gd (o.isEmpty&&!fin.isEmpty) (wb (f.exec sc) b st fun fl st1=>wb (f.exec sc) fin st1 fun fl2 st2=>gd fl2.next? (Q fl.fz st2))
noncomputable def qcv(s:Stmt)(st:St)(Q:Fl->St->Prop):Prop:=match s with
 | .Pass _=>Q .next st
 | .Return v _=>qhn f sc v st Q
 | .If t b o _=>qky f sc t b o st Q
 | .While t b o _=>q7m f sc t b o st Q
 | .For tg it b o _=>qho f sc tg it b o st Q
 | .Assign tgs e _=>jk (fc tgs) fun tg=>iw f sc tg e st Q
 | .AugAssign tg op e _=>qkz f sc tg op e st Q
 | .Expr e _=>q5k f sc e st Q
 | .Try b _ o fin _=>qcy f sc b o fin st Q
 | _=>False
end
noncomputable def Fns.step(f:Fns):Fns:=⟨f.C,uw f,sv f,fk f,ix f,q5s f,q66 f,r7 f,qh9 f,qcv f⟩
noncomputable def vz(C:Calls)(n:Nat):Fns:=Nat.rec (Fns.bot C) (fun z_ f=>f.step) n
noncomputable def KE:Nat:=30
noncomputable def Calls.step(C:Calls):Calls:=⟨fun g ts sg r sg'=>∃as,qhv (vz C KE) g ts sg as fun r' st=>Done r r' sg' st.sg st.as,
 fun cap ts sg r sg'=>∃as,aj (vz C KE) cap ts sg as fun r' st=>Done r r' sg' st.sg st.as,
 fun g ts sg r sg'=>∃as,qbr (vz C KE) g ts sg as fun r' st=>Done r r' sg' st.sg st.as⟩
noncomputable def q0c(n:Nat):Calls:=Nat.rec Calls.bot (fun z_ C=>C.step) n
structure If_ where
 t:Expr
 b:List Stmt
 o:List Stmt
noncomputable def if?:Stmt->Option If_
 | .If t b o _=>some ⟨t,b,o⟩
 | _=>none
noncomputable def qhm:Stmt->Option Expr
 | .Expr e _=>some e
 | _=>none
noncomputable def qim:Stmt->Option Expr
 | .Raise (some e) none _=>some e
 | _=>none
structure Try_ where
 b:List Stmt
 hs:List ExceptHandler
 o:List Stmt
 fin:List Stmt
noncomputable def try?:Stmt->Option Try_
 | .Try b hs o fin _=>some ⟨b,hs,o,fin⟩
 | _=>none
noncomputable def q71(b:List Stmt):Option Cl:=opt (fc b) fun s=>opt (qim s) fun e=>opt (li e) fun q=>opt (zh q.f) fun z_=>some q
section
variable (f:Fns)
noncomputable def q6y (ts:List T) (sg:List SO) (as:List Ans) (Q:Str→List SO→List Ans→Prop):Prop:=jk (wx "Evaluator.signal_error") fun sd=>jk (bindArgs sd.params ts sd.defaults) fun l=>
 wb (f.exec sd.scope) (sd.body.take 1) ⟨frame sd.scope (ofT l),sg,as⟩ fun fl st=>gd fl.next? (jk (q71 (sd.body.drop 1)) fun q=>evL (f.evalT sd.scope) q.as st fun ts st1=>jk (qaj ts) fun t=>jk t.str? fun x=>Q x st1.sg st1.as)
structure Vt where
 t:Expr
 v:Expr
 as:List Expr
noncomputable def vt?(b:List Stmt):Option Vt:=opt (fc b) fun s=>opt (if? s) fun i=>grd i.o.isEmpty (opt (fc i.b) fun s=>opt (qhm s) fun e=>opt (li e) fun q=>opt (yk q.f) fun r=>some ⟨i.t,r.o,q.as⟩)
noncomputable def qcz (sg:List SO) (r:Ent):Option Nat:=opt r.val? fun t=>opt t.sh? fun i=>opt sg[i]? fun o=>opt o.inst? fun q=>grd (decide (q.C="Evaluator")&&(ffget "signal_error" q.fs).isNone) (some i)
noncomputable def q6p(sc:Scope)(q:Vt)(st:St)(Q:Str->List SO->List Ans->Prop):Prop:=f.peek sc q.v st fun r st2=>jk (qcz st2.sg r) fun i=>evL (f.evalT sc) q.as st2 fun us st3=>
 q6y f (.sh i::us) st3.sg st3.as Q
noncomputable def eu (ts:List T) (sg:List SO) (as:List Ans) (Q:Option Str→List SO→List Ans→Prop):Prop:=jk (wx "validate") fun fd=>jk (bindArgs fd.params ts fd.defaults) fun l=>
 wb (f.exec fd.scope) (fd.body.take 2) ⟨frame fd.scope (ofT l),sg,as⟩ fun fl st=>gd fl.next? (jk (vt? (fd.body.drop 2)) fun q=>f.test fd.scope q.t st fun b st1=>cnd b (q6p f fd.scope q st1 fun x=>Q (some x)) (Q none st1.sg st1.as))
noncomputable def qah(b:List Stmt):Option Cl:=match b with
 | s::_=>opt (try? s) fun t=>opt (fc t.b) fun s=>opt (qhm s) fun e=>opt (li e) fun q=>opt (zh q.f) fun z_=>some q
 | []=>none
noncomputable def qj1 (x:Option Str) (st:St) (sg:List SO) (as:List Ans) (Q:St→Prop):Prop:=orP x (fun x=>gd (jn "error" st.env).isNone (Q ⟨v0 "message" (.val (.str x)) st.env,sg,as⟩)) (Q ⟨st.env,sg,as⟩)
noncomputable def qaf(fd:wy)(st:St)(Q:St->Prop):Prop:=jk (qah (fd.body.drop 18)) fun q=>evL (f.evalT fd.scope) q.as st fun ts st1=>eu f ts st1.sg st1.as fun x sg as=>qj1 x st1 sg as Q
noncomputable def qiy:Option wy:=wx "law"
noncomputable def qk6(sg:List SO)(X:Prop):Prop:=gd (f9 sg 0&&f9 sg 1) X
noncomputable def q4j(script:List Int)(as:List Ans)(Q:Ent->Prop):Prop:=jk qiy fun fd=>
 wb (f.exec fd.scope) (fd.body.take 18) ⟨frame fd.scope [("script",some (.val (.list (script.map .int))))],[.tab,.tab],as⟩ fun fl st=>match fl with
  | .ret r=>qk6 st.sg (Q r)
  | .next=>qaf f fd st fun st1=>wb (f.exec fd.scope) (fd.body.drop 19) st1 fun fl st2=>qk6 st2.sg (jk fl.ret? Q)
end
end Mine
end
section
open PySem PySem.W PyProof.Rows PySem.Calls
namespace Mine
inductive Part where
 | main
 | dict
 | fld (f:Str)
 deriving DecidableEq
inductive Kd where
 | still
 | froz
 | fdict
 | shr (i:Nat) (p:Part)
 | mine (o:Str) (p:Part)
 | frm
 | cel (x:Str)
 deriving DecidableEq
theorem jb{a b:Kd}(h:(decide (a=b))=false):a≠b:=of_decide_eq_false h
noncomputable abbrev Gh:=Addr->Option (Kd×Obj)
inductive All2{α β:Type}(R:α->β->Prop):List α->List β->Prop where
 | nil:All2 R [] []
 | cons {a b as bs}:R a b->All2 R as bs->All2 R (a::as) (b::bs)
theorem All2.nil_inv{α β:Type}{R:α->β->Prop}{bs:List β}(h:All2 R [] bs):bs=[]:=by cases h;rfl
theorem All2.cons_inv{α β:Type}{R:α->β->Prop}{a:α}{as:List α}{bs:List β}(h:All2 R (a::as) bs):∃b bs',bs=b::bs'∧R a b∧All2 R as bs':=by cases h with | cons r q=>exact i23 _ _ rfl r q
theorem All2.comp{α β γ:Type}{R:α->β->Prop}{R':β->γ->Prop}{T:α->γ->Prop}(k:∀a b c,R a b->R' b c->T a c){as:List α}{bs:List β}{cs:List γ}(h:All2 R as bs):All2 R' bs cs->All2 T as cs:=by
 induction h generalizing cs with
 | nil=>intro q;refine rwg q.nil_inv ?_;exact .nil
 | cons a _ ih=>intro q;refine e23 q.cons_inv fun c cs' zz=>?_;subst zz;intro b q;exact .cons (k _ _ _ a b) (ih q)
theorem All2.imp{α β:Type}{R R':α->β->Prop}(k:∀a b,R a b->R' a b){as:List α}{bs:List β}(h:All2 R as bs):All2 R' as bs:=by
 induction h with
 | nil=>exact .nil
 | cons a _ ih=>exact .cons (k _ _ a) ih
theorem All2.refl{α:Type}{R:α->α->Prop}(k:∀a,R a a)(as:List α):All2 R as as:=by
 induction as with
 | nil=>exact .nil
 | cons a as ih=>exact .cons (k a) ih
theorem All2.len{α β:Type}{R:α->β->Prop}{as:List α}{bs:List β}(h:All2 R as bs):as.length=bs.length:=by
 induction h with
 | nil=>rfl
 | cons _ _ ih=>exact congrArg (·+1) ih
noncomputable def EntLike (e e':DictEntry):Prop:=e'.hash=e.hash∧e'.key=e.key∧(e.key.isStr "shared"=false→e'.val=e.val)
theorem EntLike.refl(e:DictEntry):EntLike e e:=i03 rfl rfl (fun z_=>rfl)
theorem EntLike.trans(a b c:DictEntry)(h:EntLike a b)(k:EntLike b c):EntLike a c:=i03 (k.1.trans h.1) (k.2.1.trans h.2.1) (fun e=>(k.2.2 (h.2.1▸e)).trans (h.2.2 e))
noncomputable def Like(o o':Obj):Prop:=o'=o∨∃(es es':List DictEntry) (n:Nat),o=dictOf es n∧o'=dictOf es' n∧All2 EntLike es es'
theorem Like.refl(o:Obj):Like o o:=.inl rfl
theorem yi{es fs:List DictEntry}{n m:Nat}(e:dictOf es n=dictOf fs m):es=fs∧n=m:=by
 have:=congrArg Obj.data e
 simpa using this
theorem Like.trans{a b c:Obj}(h:Like a b)(k:Like b c):Like a c:=by
 rcases h with rfl | ⟨es,es',n,rfl,rfl,hh⟩
 ·exact k
 ·rcases k with rfl | ⟨fs,fs',m,e1,rfl,kk⟩
  ·exact .inr (i33 es es' n rfl rfl hh)
  ·refine e02 (yi e1) fun zz0 zz1=>?_;subst zz0;subst zz1
   exact .inr (i33 es fs' n rfl rfl (All2.comp EntLike.trans hh kk))
noncomputable def Lk(k:Kd)(o o':Obj):Prop:=match k with
 | .fdict=>Like o o'
 | _=>o'=o
theorem Lk.refl(k:Kd)(o:Obj):Lk k o o:=by rcases k with ⟨⟩ <;> first | rfl | exact Like.refl o
noncomputable def Fits(g:Gh)(h:Heap):Prop:=∀a k o,g a=some (k,o)->∃o',h.get? a=some o'∧Lk k o o'
theorem Fits.exact{g:Gh}{h:Heap}(H:Fits g h){a:Addr}{k:Kd}{o:Obj}(e:g a=some (k,o))(hk:k ≠ .fdict):h.get? a=some o:=by
 refine e12 (H a k o e) fun o' h1 h2=>?_
 rcases k with ⟨⟩ <;> first | exact absurd rfl hk | (cases h2;exact h1)
theorem Fits.no{g:Gh}{h:Heap}(H:Fits g h){a:Addr}(e:h.get? a=none):g a=none:=by
 induction q:g a using qe with
 | none=>rfl
 | some p=>obtain⟨o',h1,_⟩:=H a p.1 p.2 q;rw[e] at h1;exact(j6 h1).elim
theorem u7(h:Heap):h.get? h.objs.size=none:=by
 induction q:h.get? h.objs.size using qe with
 | none=>rfl
 | some o=>exact absurd (Heap.lt_size q) (Nat.lt_irrefl _)
theorem Fits.new{g:Gh}{h:Heap}(H:Fits g h):g h.objs.size=none:=H.no (u7 h)
noncomputable def jp(g:Gh)(a:Addr)(k:Kd)(o:Obj):Gh:=fun b=>if b=a then some (k,o) else g b
theorem jf{g:Gh}{a:Addr}{k:Kd}{o:Obj}:jp g a k o a=some (k,o):=if_pos rfl
theorem je{g:Gh}{a b:Addr}{k:Kd}{o:Obj}(h:b≠a):jp g a k o b=g b:=if_neg h
theorem Fits.push{g:Gh}{h:Heap}(H:Fits g h)(k:Kd){o:Obj}(hf:o.isFreed=false):Fits (jp g h.objs.size k o) (h.push o):=by
 intro a k' o' e
 by_cases q:a=h.objs.size
 ·subst q;rw[jf] at e;replace e:=qd e;cases e;exact i12 o (Heap.get?_push_size _ hf) (Lk.refl _ _)
 ·rw[je q] at e
  refine e12 (H a k' o' e) fun x h1 h2=>?_
  exact i12 x (qw _ h1) h2
theorem Fits.upd{g:Gh}{h h':Heap}(H:Fits g h){a:Addr}(k:Kd){o:Obj}(hs:Heap.SameBut a h h')(ho:h'.get? a=some o):Fits (jp g a k o) h':=by
 intro b k' o' e
 by_cases q:b=a
 ·subst q;rw[jf] at e;replace e:=qd e;cases e;exact i12 o ho (Lk.refl _ _)
 ·rw[je q] at e
  refine e12 (H b k' o' e) fun x h1 h2=>?_
  exact i12 x ((hs.2 b q).trans h1) h2
noncomputable def OList(o:Obj)(vs:List Value):Prop:=∃n,o=listOf vs.toArray n
noncomputable def OTup (o:Obj) (vs:List Value):Prop:=∃n,o={ cls:=.type "tuple",data:=.seq vs.toArray n }
noncomputable def kq(o:Obj)(es:List DictEntry):Prop:=∃n,o=dictOf es n
theorem OList.at{o:Obj}{vs:List Value}(H:OList o vs){h:Heap}{a:Addr}(e:h.get? a=some o):h.IsList a vs.toArray:=by
 refine e11 H fun n zz1=>?_;clear H;subst zz1;exact i13 _ e rfl ⟨n,rfl⟩
theorem OTup.at{o:Obj}{vs:List Value}(H:OTup o vs){h:Heap}{a:Addr}(e:h.get? a=some o):IsTup h a vs.toArray:=by
 refine e11 H fun n zz1=>?_;clear H;subst zz1;exact i13 _ e rfl ⟨n,rfl⟩
noncomputable def fAddrs:List (Str×Addr):=[
 (("get_attr":Str),28),
 (("dim_of":Str),35),
 (("class_attr":Str),42),
 (("language_class":Str),49),
 (("shape_class":Str),56),
 (("plain_class":Str),63),
 (("implicit_class":Str),70),
 (("class_of":Str),77),
 (("data_kinds":Str),213),
 (("basic_names":Str),220),
 (("basic_parents":Str),227),
 (("check_slots":Str),318),
 (("value_classes":Str),325),
 (("class_supers":Str),332),
 (("is_of":Str),339),
 (("null":Str),644),
 (("integer":Str),651),
 (("character":Str),658),
 (("flag":Str),665),
 (("symbol":Str),679),
 (("call_of":Str),686),
 (("share":Str),700),
 (("s4_state":Str),728),
 (("quoted":Str),735),
 (("empty_matrix":Str),749),
 (("default_value":Str),756),
 (("prototype_value":Str),763),
 (("make_prototype":Str),770),
 (("slot_faults":Str),777),
 (("told_faults":Str),782),
 (("validity_faults":Str),789),
 (("faults_text":Str),794),
 (("validate":Str),801),
 (("_law_shells":Str),1208),
 (("_law_shell":Str),1215),
 (("_law_world":Str),1222),
 (("_law_chain":Str),1229),
 (("_law_slots":Str),1234),
 (("_law_start":Str),1241),
 (("_law_object":Str),1248),
 (("_law_shown":Str),1253),
 (("_law_class":Str),1260),
 (("_law_fits":Str),1267),
 (("_law_says":Str),1274),
 (("_law_teller":Str),1281),
 (("law":Str),1286)]
noncomputable def mAddrs:List (Str×Addr):=[
 (("S4Class.__init__":Str),199),
 (("ClassTable.__init__":Str),241),
 (("ClassTable.define":Str),248),
 (("ClassTable.get":Str),262),
 (("ClassTable.basic":Str),269),
 (("ClassTable.known":Str),276),
 (("ClassTable.parents":Str),283),
 (("ClassTable.supers":Str),290),
 (("ClassTable.distance":Str),297),
 (("ClassTable.slots_of":Str),304),
 (("MethodTable.__init__":Str),353),
 (("Null.__init__":Str),430),
 (("Vector.__init__":Str),452),
 (("Symbol.__init__":Str),480),
 (("Call.__init__":Str),502),
 (("Builtin.__init__":Str),545),
 (("Environment.__init__":Str),567),
 (("S4Object.__init__":Str),630),
 (("S4State.__init__":Str),714),
 (("Evaluator.__init__":Str),999),
 (("Evaluator.new_env":Str),1006),
 (("Evaluator.call_builtin":Str),1143),
 (("Evaluator.call_value":Str),1180),
 (("Evaluator.signal_error":Str),1028),
 (("RError.__init__":Str),123)]
noncomputable def cAddrs:List (Str×Addr):=[
 (("S4Class":Str),202),
 (("ClassTable":Str),307),
 (("MethodTable":Str),412),
 (("Null":Str),433),
 (("Vector":Str),462),
 (("Symbol":Str),483),
 (("Call":Str),505),
 (("Builtin":Str),548),
 (("Environment":Str),570),
 (("S4Object":Str),633),
 (("S4State":Str),717),
 (("Evaluator":Str),1190)]
noncomputable def w8(f:Str):Option Addr:=(ji f fAddrs).or (ji f mAddrs)
noncomputable def gAddr(n:Str):Option Addr:=(ji n fAddrs).or (ji n cAddrs)
noncomputable def KeyS(w:World)(e:DictEntry)(x:Str):Prop:=(∃t,e.key = .str x t)∧e.hash=hashStr w x
noncomputable def qlu(e:DictEntry)(i:Int):Prop:=(∃t,e.key = .int i t)∧e.hash=hashInt i
noncomputable def q6t:Pos:=match cu 98 with
 | .FunctionDef _ _ (.FunctionDef _ _ _ _ _ _ _ _ _ p::_) _ _ _ _ _ _ _=>p
 | _=>default
noncomputable def q55:Pos:=match qgd (cu 25) with
 | some d=>(match d.body with
  | [_,_,_,_,_,.Expr (.Call _ _ [⟨_,.Lambda _ _ _ p,_⟩] _) _,_,_]=>p
  | _=>default)
 | _=>default
noncomputable def vp(i:Nat):Addr:=if i=0 then 1276 else 327
noncomputable def k8 (i:Nat):Str:=if i=0 then "_law_teller.<locals>._law_tell" else "class_supers.<locals>.<lambda>"
noncomputable def zn(i:Nat):Pos:=if i=0 then q6t else q55
structure qjx(fd:FuncData)(cd:Addr):Prop where
 scope:∃d,tellDef=some d∧fd.body = .stmts d.body∧fd.scope=d.scope∧fd.params=d.args
 globals:fd.globals=mainGlobals
 builtins:fd.builtins=builtinsNs
 defaults:fd.defaults = .none
 kwdefaults:fd.kwdefaults = .none
 code:fd.code = .ref cd
 qual:fd.qualname=k8 0
noncomputable def aw(o:Obj)(q:Str):Prop:=∃vs t,o.data = .fields vs∧vs[1]? = some (.str q t)
mutual
inductive Rep(w:World)(g:Gh):Value->T->Prop
 | none:Rep w g .none .none
 | bool (b:Bool):Rep w g (.bool b) (.bool b)
 | int (i:Int) (t:Tok):Rep w g (.int i t) (.int i)
 | str (x:Str) (t:Tok):Rep w g (.str x t) (.str x)
 | list {a:Addr} {o:Obj} {vs:List Value} {xs:List T}:g a=some (.froz,o)->OList o vs->RepL w g vs xs->Rep w g (.ref a) (.list xs)
 | tup {a:Addr} {o:Obj} {vs:List Value} {xs:List T}:g a=some (.froz,o)->OTup o vs->RepL w g vs xs->Rep w g (.ref a) (.tup xs)
 | dict {a:Addr} {o:Obj} {en:List DictEntry} {es:List (Str×T)}:g a=some (.froz,o)->kq o en->RepD w g en es->Rep w g (.ref a) (.dict es)
 | idict {a:Addr} {o:Obj} {en:List DictEntry} {es:List (Int×T)}:g a=some (.froz,o)->kq o en->RepI w g en es->Rep w g (.ref a) (.idict es)
 | inst {a C dx:Addr} {o:Obj} {cn:Str} {en:List DictEntry} {fs:List (Str×T)}:ji cn cAddrs=some C->g a=some (.froz,instObj C dx)->g dx=some (.fdict,o)->kq o en->RepF w g en fs->Rep w g (.ref a) (.inst cn fs)
 | glob {n:Str} {a:Addr}:gAddr n=some a->Rep w g (.ref a) (.glob n)
 | clo {a cd:Addr} {o oc:Obj} {fd:FuncData} {cap:List (Str×T)}:g a=some (.froz,o)->o.data = .func fd->qjx fd cd->g cd=some (.froz,oc)->aw oc fd.qualname->cap.map (·.1)=xl fd.scope->RepC w g fd.closure cap->Rep w g (.ref a) (.clo cap)
 | sh {a:Addr} {i:Nat} {o:Obj}:g a=some (.shr i .main,o)->Rep w g (.ref a) (.sh i)
inductive RepL(w:World)(g:Gh):List Value->List T->Prop
 | nil:RepL w g [] []
 | cons {v:Value} {t:T} {vs:List Value} {ts:List T}:Rep w g v t->RepL w g vs ts->RepL w g (v::vs) (t::ts)
inductive RepD(w:World)(g:Gh):List DictEntry->List (Str×T)->Prop
 | nil:RepD w g [] []
 | cons {e:DictEntry} {k:Str} {t:T} {en:List DictEntry} {es:List (Str×T)}:KeyS w e k->Rep w g e.val t->RepD w g en es->RepD w g (e::en) ((k,t)::es)
inductive RepI(w:World)(g:Gh):List DictEntry->List (Int×T)->Prop
 | nil:RepI w g [] []
 | cons {e:DictEntry} {k:Int} {t:T} {en:List DictEntry} {es:List (Int×T)}:qlu e k->Rep w g e.val t->RepI w g en es->RepI w g (e::en) ((k,t)::es)
inductive RepF(w:World)(g:Gh):List DictEntry->List (Str×T)->Prop
 | nil:RepF w g [] []
 | cons {e:DictEntry} {f:Str} {t:T} {en:List DictEntry} {fs:List (Str×T)}:fieldNames.contains f=true→KeyS w e f→(f≠"shared"→Rep w g e.val t)→RepF w g en fs→RepF w g (e::en) ((f,t)::fs)
inductive RepC(w:World)(g:Gh):List (Str×Addr)->List (Str×T)->Prop
 | nil {cs:List (Str×Addr)}:RepC w g cs []
 | cons {x:Str} {c:Addr} {o:Obj} {v:Value} {t:T} {cs:List (Str×Addr)} {cap:List (Str×T)}:cs.lookup x=some c->g c=some (.froz,o)->o.data = .cell (some v)->Rep w g v t->RepC w g cs cap->RepC w g cs ((x,t)::cap)
end
theorem RepL.ind{w:World}{g:Gh}{m:List Value->List T->Prop}(nil:m [] [])(cons:∀{v:Value}{t:T}{vs:List Value}{ts:List T},Rep w g v t->RepL w g vs ts->m vs ts->m (v::vs) (t::ts)){a:List Value}{b:List T}(h:RepL w g a b):m a b:=by
 refine RepL.rec (motive_1:=fun z_ z_ z_=>True) (motive_2:=fun a b z_=>m a b) (motive_3:=fun z_ z_ z_=>True) (motive_4:=fun z_ z_ z_=>True) (motive_5:=fun z_ z_ z_=>True) (motive_6:=fun z_ z_ z_=>True) ?_ ?_ ?_ ?_ ?_ ?_ ?_ ?_ ?_ ?_ ?_ ?_ ?_ ?_ ?_ ?_ ?_ ?_ ?_ ?_ ?_ ?_ h
 all_goals first | exact nil | exact fun h r z_ ih=>cons h r ih | (intros;trivial)
theorem RepD.ind{w:World}{g:Gh}{m:List DictEntry->List (Str×T)->Prop}(nil:m [] [])(cons:∀{e:DictEntry}{k:Str}{t:T}{en:List DictEntry}{es:List (Str×T)},KeyS w e k->Rep w g e.val t->RepD w g en es->m en es->m (e::en) ((k,t)::es)){a:List DictEntry}{b:List (Str×T)}(h:RepD w g a b):m a b:=by
 refine RepD.rec (motive_1:=fun z_ z_ z_=>True) (motive_2:=fun z_ z_ z_=>True) (motive_3:=fun a b z_=>m a b) (motive_4:=fun z_ z_ z_=>True) (motive_5:=fun z_ z_ z_=>True) (motive_6:=fun z_ z_ z_=>True) ?_ ?_ ?_ ?_ ?_ ?_ ?_ ?_ ?_ ?_ ?_ ?_ ?_ ?_ ?_ ?_ ?_ ?_ ?_ ?_ ?_ ?_ h
 all_goals first | exact nil | exact fun h r k z_ ih=>cons h r k ih | (intros;trivial)
theorem RepI.ind{w:World}{g:Gh}{m:List DictEntry->List (Int×T)->Prop}(nil:m [] [])(cons:∀{e:DictEntry}{k:Int}{t:T}{en:List DictEntry}{es:List (Int×T)},qlu e k->Rep w g e.val t->RepI w g en es->m en es->m (e::en) ((k,t)::es)){a:List DictEntry}{b:List (Int×T)}(h:RepI w g a b):m a b:=by
 refine RepI.rec (motive_1:=fun z_ z_ z_=>True) (motive_2:=fun z_ z_ z_=>True) (motive_3:=fun z_ z_ z_=>True) (motive_4:=fun a b z_=>m a b) (motive_5:=fun z_ z_ z_=>True) (motive_6:=fun z_ z_ z_=>True) ?_ ?_ ?_ ?_ ?_ ?_ ?_ ?_ ?_ ?_ ?_ ?_ ?_ ?_ ?_ ?_ ?_ ?_ ?_ ?_ ?_ ?_ h
 all_goals first | exact nil | exact fun h r k z_ ih=>cons h r k ih | (intros;trivial)
theorem RepF.ind {w:World} {g:Gh} {m:List DictEntry→List (Str×T)→Prop} (nil:m [] []) (cons:∀{e:DictEntry} {f:Str} {t:T} {en:List DictEntry} {fs:List (Str×T)},fieldNames.contains f=true→KeyS w e f→(f≠"shared"→Rep w g e.val t)→RepF w g en fs→m en fs→m (e::en) ((f,t)::fs)) {a:List DictEntry} {b:List (Str×T)} (h:RepF w g a b):m a b:=by
 refine RepF.rec (motive_1:=fun z_ z_ z_=>True) (motive_2:=fun z_ z_ z_=>True) (motive_3:=fun z_ z_ z_=>True) (motive_4:=fun z_ z_ z_=>True) (motive_5:=fun a b z_=>m a b) (motive_6:=fun z_ z_ z_=>True) ?_ ?_ ?_ ?_ ?_ ?_ ?_ ?_ ?_ ?_ ?_ ?_ ?_ ?_ ?_ ?_ ?_ ?_ ?_ ?_ ?_ ?_ h
 all_goals first | exact nil | exact fun z h r k z_ ih=>cons z h r k ih | (intros;trivial)
theorem RepC.ind{w:World}{g:Gh}{m:List (Str×Addr)->List (Str×T)->Prop}(nil:∀{cs},m cs [])(cons:∀{x:Str}{c:Addr}{o:Obj}{v:Value}{t:T}{cs:List (Str×Addr)}{cap:List (Str×T)},cs.lookup x=some c->g c=some (.froz,o)->o.data = .cell (some v)->Rep w g v t->RepC w g cs cap->m cs cap->m cs ((x,t)::cap)){a:List (Str×Addr)}{b:List (Str×T)}(h:RepC w g a b):m a b:=by
 refine RepC.rec (motive_1:=fun z_ z_ z_=>True) (motive_2:=fun z_ z_ z_=>True) (motive_3:=fun z_ z_ z_=>True) (motive_4:=fun z_ z_ z_=>True) (motive_5:=fun z_ z_ z_=>True) (motive_6:=fun a b z_=>m a b) ?_ ?_ ?_ ?_ ?_ ?_ ?_ ?_ ?_ ?_ ?_ ?_ ?_ ?_ ?_ ?_ ?_ ?_ ?_ ?_ ?_ ?_ h
 all_goals first | exact nil | exact fun a b c h r z_ ih=>cons a b c h r ih | (intros;trivial)
structure Mono(g g':Gh):Prop where
 froz:∀a o,g a=some (.froz,o)->g' a=some (.froz,o)
 fdict:∀a o,g a=some (.fdict,o)->g' a=some (.fdict,o)
 shr:∀a i p o,g a=some (.shr i p,o)->∃o',g' a=some (.shr i p,o')
theorem Mono.refl(g:Gh):Mono g g:=⟨fun z_ z_ h=>h,fun z_ z_ h=>h,fun z_ z_ z_ o h=>⟨o,h⟩⟩
theorem Mono.trans{a b c:Gh}(h:Mono a b)(k:Mono b c):Mono a c:=⟨fun x o e=>k.froz x o (h.froz x o e),fun x o e=>k.fdict x o (h.fdict x o e),fun x i p o e=>let ⟨_,e'⟩:=h.shr x i p o e;k.shr x i p _ e'⟩
section
variable {w:World}{g g':Gh}
theorem Rep.mono(m:Mono g g'){a:Value}{b:T}(h:Rep w g a b):Rep w g' a b:=
 Rep.rec (motive_1:=fun a b z_=>Rep w g' a b) (motive_2:=fun a b z_=>RepL w g' a b) (motive_3:=fun a b z_=>RepD w g' a b) (motive_4:=fun a b z_=>RepI w g' a b) (motive_5:=fun a b z_=>RepF w g' a b) (motive_6:=fun a b z_=>RepC w g' a b) Rep.none Rep.bool Rep.int Rep.str (fun h o z_ r=>.list (m.froz _ _ h) o r) (fun h o z_ r=>.tup (m.froz _ _ h) o r) (fun h o z_ r=>.dict (m.froz _ _ h) o r) (fun h o z_ r=>.idict (m.froz _ _ h) o r) (fun c h k o z_ r=>.inst c (m.froz _ _ h) (m.fdict _ _ k) o r) Rep.glob (fun h o f k q z z_ r=>.clo (m.froz _ _ h) o f (m.froz _ _ k) q z r) (fun h=>let ⟨_,e⟩:=m.shr _ _ _ _ h;.sh e) .nil (fun z_ z_ h r=>.cons h r) .nil (fun k z_ z_ h r=>.cons k h r) .nil (fun k z_ z_ h r=>.cons k h r) .nil (fun z k z_ z_ h r=>.cons z k h r) .nil (fun l k o z_ z_ h r=>.cons l (m.froz _ _ k) o h r) h
theorem RepL.mono(m:Mono g g'){a:List Value}{b:List T}(h:RepL w g a b):RepL w g' a b:=
 RepL.rec (motive_1:=fun a b z_=>Rep w g' a b) (motive_2:=fun a b z_=>RepL w g' a b) (motive_3:=fun a b z_=>RepD w g' a b) (motive_4:=fun a b z_=>RepI w g' a b) (motive_5:=fun a b z_=>RepF w g' a b) (motive_6:=fun a b z_=>RepC w g' a b) Rep.none Rep.bool Rep.int Rep.str (fun h o z_ r=>.list (m.froz _ _ h) o r) (fun h o z_ r=>.tup (m.froz _ _ h) o r) (fun h o z_ r=>.dict (m.froz _ _ h) o r) (fun h o z_ r=>.idict (m.froz _ _ h) o r) (fun c h k o z_ r=>.inst c (m.froz _ _ h) (m.fdict _ _ k) o r) Rep.glob (fun h o f k q z z_ r=>.clo (m.froz _ _ h) o f (m.froz _ _ k) q z r) (fun h=>let ⟨_,e⟩:=m.shr _ _ _ _ h;.sh e) .nil (fun z_ z_ h r=>.cons h r) .nil (fun k z_ z_ h r=>.cons k h r) .nil (fun k z_ z_ h r=>.cons k h r) .nil (fun z k z_ z_ h r=>.cons z k h r) .nil (fun l k o z_ z_ h r=>.cons l (m.froz _ _ k) o h r) h
theorem RepD.mono(m:Mono g g'){a:List DictEntry}{b:List (Str×T)}(h:RepD w g a b):RepD w g' a b:=
 RepD.rec (motive_1:=fun a b z_=>Rep w g' a b) (motive_2:=fun a b z_=>RepL w g' a b) (motive_3:=fun a b z_=>RepD w g' a b) (motive_4:=fun a b z_=>RepI w g' a b) (motive_5:=fun a b z_=>RepF w g' a b) (motive_6:=fun a b z_=>RepC w g' a b) Rep.none Rep.bool Rep.int Rep.str (fun h o z_ r=>.list (m.froz _ _ h) o r) (fun h o z_ r=>.tup (m.froz _ _ h) o r) (fun h o z_ r=>.dict (m.froz _ _ h) o r) (fun h o z_ r=>.idict (m.froz _ _ h) o r) (fun c h k o z_ r=>.inst c (m.froz _ _ h) (m.fdict _ _ k) o r) Rep.glob (fun h o f k q z z_ r=>.clo (m.froz _ _ h) o f (m.froz _ _ k) q z r) (fun h=>let ⟨_,e⟩:=m.shr _ _ _ _ h;.sh e) .nil (fun z_ z_ h r=>.cons h r) .nil (fun k z_ z_ h r=>.cons k h r) .nil (fun k z_ z_ h r=>.cons k h r) .nil (fun z k z_ z_ h r=>.cons z k h r) .nil (fun l k o z_ z_ h r=>.cons l (m.froz _ _ k) o h r) h
theorem RepI.mono(m:Mono g g'){a:List DictEntry}{b:List (Int×T)}(h:RepI w g a b):RepI w g' a b:=
 RepI.rec (motive_1:=fun a b z_=>Rep w g' a b) (motive_2:=fun a b z_=>RepL w g' a b) (motive_3:=fun a b z_=>RepD w g' a b) (motive_4:=fun a b z_=>RepI w g' a b) (motive_5:=fun a b z_=>RepF w g' a b) (motive_6:=fun a b z_=>RepC w g' a b) Rep.none Rep.bool Rep.int Rep.str (fun h o z_ r=>.list (m.froz _ _ h) o r) (fun h o z_ r=>.tup (m.froz _ _ h) o r) (fun h o z_ r=>.dict (m.froz _ _ h) o r) (fun h o z_ r=>.idict (m.froz _ _ h) o r) (fun c h k o z_ r=>.inst c (m.froz _ _ h) (m.fdict _ _ k) o r) Rep.glob (fun h o f k q z z_ r=>.clo (m.froz _ _ h) o f (m.froz _ _ k) q z r) (fun h=>let ⟨_,e⟩:=m.shr _ _ _ _ h;.sh e) .nil (fun z_ z_ h r=>.cons h r) .nil (fun k z_ z_ h r=>.cons k h r) .nil (fun k z_ z_ h r=>.cons k h r) .nil (fun z k z_ z_ h r=>.cons z k h r) .nil (fun l k o z_ z_ h r=>.cons l (m.froz _ _ k) o h r) h
theorem RepF.mono(m:Mono g g'){a:List DictEntry}{b:List (Str×T)}(h:RepF w g a b):RepF w g' a b:=
 RepF.rec (motive_1:=fun a b z_=>Rep w g' a b) (motive_2:=fun a b z_=>RepL w g' a b) (motive_3:=fun a b z_=>RepD w g' a b) (motive_4:=fun a b z_=>RepI w g' a b) (motive_5:=fun a b z_=>RepF w g' a b) (motive_6:=fun a b z_=>RepC w g' a b) Rep.none Rep.bool Rep.int Rep.str (fun h o z_ r=>.list (m.froz _ _ h) o r) (fun h o z_ r=>.tup (m.froz _ _ h) o r) (fun h o z_ r=>.dict (m.froz _ _ h) o r) (fun h o z_ r=>.idict (m.froz _ _ h) o r) (fun c h k o z_ r=>.inst c (m.froz _ _ h) (m.fdict _ _ k) o r) Rep.glob (fun h o f k q z z_ r=>.clo (m.froz _ _ h) o f (m.froz _ _ k) q z r) (fun h=>let ⟨_,e⟩:=m.shr _ _ _ _ h;.sh e) .nil (fun z_ z_ h r=>.cons h r) .nil (fun k z_ z_ h r=>.cons k h r) .nil (fun k z_ z_ h r=>.cons k h r) .nil (fun z k z_ z_ h r=>.cons z k h r) .nil (fun l k o z_ z_ h r=>.cons l (m.froz _ _ k) o h r) h
theorem RepC.mono(m:Mono g g'){a:List (Str×Addr)}{b:List (Str×T)}(h:RepC w g a b):RepC w g' a b:=
 RepC.rec (motive_1:=fun a b z_=>Rep w g' a b) (motive_2:=fun a b z_=>RepL w g' a b) (motive_3:=fun a b z_=>RepD w g' a b) (motive_4:=fun a b z_=>RepI w g' a b) (motive_5:=fun a b z_=>RepF w g' a b) (motive_6:=fun a b z_=>RepC w g' a b) Rep.none Rep.bool Rep.int Rep.str (fun h o z_ r=>.list (m.froz _ _ h) o r) (fun h o z_ r=>.tup (m.froz _ _ h) o r) (fun h o z_ r=>.dict (m.froz _ _ h) o r) (fun h o z_ r=>.idict (m.froz _ _ h) o r) (fun c h k o z_ r=>.inst c (m.froz _ _ h) (m.fdict _ _ k) o r) Rep.glob (fun h o f k q z z_ r=>.clo (m.froz _ _ h) o f (m.froz _ _ k) q z r) (fun h=>let ⟨_,e⟩:=m.shr _ _ _ _ h;.sh e) .nil (fun z_ z_ h r=>.cons h r) .nil (fun k z_ z_ h r=>.cons k h r) .nil (fun k z_ z_ h r=>.cons k h r) .nil (fun z k z_ z_ h r=>.cons z k h r) .nil (fun l k o z_ z_ h r=>.cons l (m.froz _ _ k) o h r) h
end
structure Reach(f:Fns):Prop where
 T:∀{sc e st Q},f.evalT sc e st Q->∃t st',Q t st'
 R:∀{sc e st Q},f.eval sc e st Q->∃t st',Q t st'
 P:∀{sc e st Q},f.peek sc e st Q->∃t st',Q t st'
 C:∀{sc e st Q},f.peekC sc e st Q->∃t sh st',Q t sh st'
 O:∀{sc e st Q},f.evOpt sc e st Q->∃t st',Q t st'
 G:∀{sc gs e st Q},f.compG sc gs e st Q->∃t st',Q t st'
 I:∀{sc e st Q},f.iterS sc e st Q->∃t st',Q t st'
 B:∀{sc e st Q},f.test sc e st Q->∃t st',Q t st'
theorem xq{α:Type}{get:Ans->Option α}{x:Option α}{st:St}{K:α->St->Prop}(h:ask get x st K):∃y st',x=some y∧K y st':=by
 obtain⟨env,sg,as⟩:=st
 have nat:∀{as'},(jk x fun y=>K y ⟨env,sg,as'⟩)->∃y st',x=some y∧K y st':=fun h=>by
  induction x using qe with
  | none=>exact h.elim
  | some y=>exact i22 y _ rfl h
 induction as using qf with
 | nil=>exact nat h
 | cons a r=>
  have h:(match get a with
   | some y=>x=some y∧K y ⟨env,sg,r⟩
   | none=>jk x fun y=>K y ⟨env,sg,a::r⟩):=h
  induction q:get a using qe with
  | none=>rw[q] at h;exact nat h
  | some y=>rw[q] at h;exact i22 y _ h.1 h.2
theorem jo{α:Type}{x:Option α}{K:α->Prop}(h:jk x K):∃y,x=some y∧K y:=by
 induction x using qe with
 | none=>exact h.elim
 | some y=>exact i12 y rfl h
theorem xg{b:Bool}{X:Prop}(h:gd b X):X:=by
 induction b using qg with
 | false=>exact h.elim
 | true=>exact h
theorem xw{b:Bool}{X Y:Prop}(h:cnd b X Y):X∨Y:=by
 induction b using qg with
 | false=>exact .inr h
 | true=>exact .inl h
theorem vi{α:Type}{x:Option α}{K:α->Prop}{Y:Prop}(h:orP x K Y):(∃a,x=some a∧K a)∨Y:=by
 induction x using qe with
 | none=>exact .inr h
 | some a=>exact .inl (i12 a rfl h)
theorem bh{X:Ent->List SO->Prop}{st:St}{Q:Ent->St->Prop}(h:yh X st Q):∃r st',Q r st':=by
 obtain⟨env,sg,as⟩:=st
 induction as using qf with
 | nil=>exact h.elim
 | cons a r=>induction a using Ans.casesOn with
  | call r' sg'=>exact i21 r' _ h.2
  | _=>exact h.elim
theorem db{X:List T->Loc->List SO->Prop}{st:St}{Q:List T->Loc->List SO->List Ans->Prop}(h:ac X st Q):∃ts env sg as,Q ts env sg as:=by
 obtain⟨env,sg,as⟩:=st
 induction as using qf with
 | nil=>exact h.elim
 | cons a r=>induction a using Ans.casesOn with
  | comp ts e' sg'=>exact i41 ts e' sg' r h.2
  | _=>exact h.elim
section
variable {f:Fns}{sc:Scope}
theorem km(H:Reach f):∀{es:List qo}{st:St}{Q:List T->St->Prop},evL (f.evalT sc) es st Q->∃ts st',Q ts st':=by
 intro es
 induction es with
 | nil=>
  intro st Q h
  exact i21 _ _ h
 | cons e es ih=>
  intro st Q h
  have h:f.evalT sc e st (fun t st1=>evL (f.evalT sc) es st1 fun ts st2=>Q (t::ts) st2):=h
  refine e21 (H.T h) fun t st1 h1=>?_
  refine e21 (ih h1) fun ts st2 h2=>?_
  exact i21 _ _ h2
theorem pc(H:Reach f):∀{ks:List (Option qo)}{vs:List qo}{st:St}{Q:List (T×T)->St->Prop},bg (f.evalT sc) ks vs st Q->∃l st',Q l st'
 | [],vs,st,Q,h=>i21 _ _ (xg h)
 | k::ks,[],st,Q,h=>h.elim
 | k::ks,v::vs,st,Q,h=>by
  obtain⟨k',_,h1⟩:=jo (by exact h:jk k (fun k=>f.evalT sc k st fun a st1=>f.evalT sc v st1 fun b st2=>bg (f.evalT sc) ks vs st2 fun l st3=>Q ((a,b)::l) st3))
  obtain⟨_,_,h2⟩:=H.T h1
  obtain⟨_,_,h3⟩:=H.T h2
  obtain⟨_,_,h4⟩:=pc H h3
  exact i21 _ _ h4
theorem tl(H:Reach f){e:qo}{st:St}{Q:Str->St->Prop}(h:mz (f.evalT sc) e st Q):∃x st',Q x st':=by
 induction e using Expr.casesOn with
 | Constant c k p=>obtain⟨x,_,h1⟩:=jo (by exact h:jk (qde c) (fun x=>Q x st));exact i21 _ _ h1
 | FormattedValue e c sp p=>
  obtain⟨_,_,h1⟩:=H.T (xg (by exact h:gd (decide (c=-1)&&sp.isNone) (f.evalT sc e st fun t st1=>ask Ans.s? (shown t) st1 Q)))
  obtain⟨_,_,_,h2⟩:=xq h1
  exact i21 _ _ h2
 | _=>exact h.elim
theorem bp(H:Reach f):∀{es:List qo}{st:St}{Q:Str->St->Prop},zt (f.evalT sc) es st Q->∃x st',Q x st':=by
 intro es
 induction es with
 | nil=>
  intro st Q h
  exact i21 _ _ h
 | cons e es ih=>
  intro st Q h
  obtain⟨_,_,h1⟩:=tl H (by exact h:mz (f.evalT sc) e st (fun x st1=>zt (f.evalT sc) es st1 fun y st2=>Q (x++y) st2))
  obtain⟨_,_,h2⟩:=ih h1
  exact i21 _ _ h2
theorem q21(H:Reach f){op:BoolOp}:∀{es:List qo}{st:St}{Q:Bool->St->Prop},rx (f.test sc) op es st Q->∃b st',Q b st':=by
 intro es
 induction es with
 | nil=>
  intro st Q h
  exact i21 _ _ h
 | cons e es ih=>
  intro st Q h
  refine e21 (H.B (by exact h:f.test sc e st (fun b st1=>cnd (ba op b) (Q b st1) (rx (f.test sc) op es st1 Q)))) fun b st1 h1=>?_
  rcases xw h1 with h2 | h2
  ·exact i21 _ _ h2
  ·exact ih h2
theorem lg(H:Reach f){e:qo}{st:St}{Q:List T->St->Prop}(h:dh f sc e st Q):∃b st',Q b st':=by
 rcases xw h with h | h
 ·obtain⟨_,_,h1⟩:=H.T h
  obtain⟨_,_,_,h2⟩:=xq h1
  exact i21 _ _ h2
 ·exact H.I h
theorem q0a(H:Reach f){l:qo}{ops:List CmpOp}{rs:List qo}{st:St}{Q:Bool->St->Prop}(h:iz f sc l ops rs st Q):∃b st',Q b st':=by
 obtain⟨_,_,h1⟩:=jo h
 obtain⟨_,_,h2⟩:=jo h1
 obtain⟨_,_,_,h3⟩:=H.C h2
 obtain⟨_,_,_,h4⟩:=H.C (xg h3)
 obtain⟨_,_,_,h5⟩:=xq h4
 exact i21 _ _ h5
theorem ue(H:Reach f){X:List T->List SO->Ent->List SO->Prop}{as:List qo}{st:St}{Q:Ent->St->Prop}(h:evL (f.evalT sc) as st fun ts st2=>yh (X ts st2.sg) st2 Q):∃r st',Q r st':=by
 obtain⟨_,_,h1⟩:=km H h
 exact bh h1
theorem mi(H:Reach f){α:Type}{get:Ans->Option α}{X:List T->Option α}{as:List qo}{st:St}{Q:α->St->Prop}(h:evL (f.evalT sc) as st fun ts st2=>ask get (X ts) st2 Q):∃r st',Q r st':=by
 obtain⟨_,_,h1⟩:=km H h
 obtain⟨_,_,_,h2⟩:=xq h1
 exact i21 _ _ h2
theorem q4u(H:Reach f){g:Str}{as:List qo}{st:St}{Q:Ent->St->Prop}(h:q6c f sc g as st Q):∃r st',Q r st':=by
 rcases xw (xg h) with h | h
 ·exact ue H h
 ·rcases xw h with h | h
  ·exact ue H h
  ·rcases xw h with h | h
   ·obtain⟨_,_,h1⟩:=jo h
    obtain⟨_,_,_,h2⟩:=H.C h1
    obtain⟨_,_,h3⟩:=jo (xg h2)
    exact i21 _ _ h3
   ·rcases vi h with ⟨_,_,h⟩ | h
    ·obtain⟨_,_,_,h2⟩:=H.C h
     obtain⟨_,_,_,h3⟩:=xq h2
     exact i21 _ _ h3
    ·exact mi H (xg h)
theorem q4o(H:Reach f){v:qo}{rv:Ent}{m:Str}{as:List qo}{st:St}{Q:Ent->St->Prop}{rc:Recv}(h:q67 f sc v rv m as st Q rc):∃r st',Q r st':=by
 induction rc using Recv.casesOn with
 | str x=>exact mi H h
 | inst C fs=>
  obtain⟨_,_,h1⟩:=km H h
  rcases vi h1 with ⟨_,_,h2⟩ | h2
  ·obtain⟨_,_,h3⟩:=jo h2
   exact bh (xg h3)
  ·obtain⟨_,_,h3⟩:=jo h2
   exact bh h3
 | shi i q=>
  obtain⟨_,_,h1⟩:=jo (xg h)
  exact ue H h1
 | shl i xs=>
  obtain⟨_,_,_,h1⟩:=xq (xg h).2
  exact i21 _ _ h1
 | dict es=>obtain⟨_,_,h1⟩:=mi H (xg h);exact i21 _ _ h1
 | no=>exact h.elim
theorem q5l(H:Reach f){e:qo}{st:St}{Q:Ent->St->Prop}(h:ix f sc e st Q):∃r st',Q r st':=by
 induction e using Expr.casesOn with
 | Constant c k p=>obtain⟨_,_,h1⟩:=jo (by exact h:jk (me c) (fun t=>Q (.val t) st));exact i21 _ _ h1
 | Name x p=>obtain⟨_,_,h1⟩:=H.T (by exact h:f.evalT sc (.Name x p) st (fun t=>Q (.val t)));exact i21 _ _ h1
 | Attribute v a p=>
  obtain⟨_,_,h1⟩:=H.P (by exact h:f.peek sc (.Attribute v a p) st (fun r st1=>jk r.val? fun t=>Q (.val t) st1))
  obtain⟨_,_,h2⟩:=jo h1
  exact i21 _ _ h2
 | Subscript v k p=>
  obtain⟨_,_,_,h1⟩:=H.C (by exact h:qd3 f sc v k st Q)
  rcases vi h1 with ⟨_,_,h2⟩ | h2
  ·obtain⟨_,_,h3⟩:=H.O (xg h2)
   obtain⟨_,_,h4⟩:=H.O h3
   obtain⟨_,_,h5⟩:=H.O h4
   obtain⟨_,_,h6⟩:=jo h5
   obtain⟨_,_,_,h7⟩:=xq h6
   exact i21 _ _ h7
  ·obtain⟨_,_,h3⟩:=H.T (xg h2)
   obtain⟨_,_,_,h4⟩:=xq h3
   exact i21 _ _ h4
 | BinOp l op r p=>
  obtain⟨_,_,h1⟩:=H.T (by exact h:qd5 f sc op l r st Q)
  obtain⟨_,_,h2⟩:=H.T h1
  obtain⟨_,_,_,h3⟩:=xq h2
  exact i21 _ _ h3
 | UnaryOp op x p=>
  obtain⟨_,_,h1⟩:=H.T (by exact h:qjb f sc op x st Q)
  obtain⟨_,_,h2⟩:=jo h1
  exact i21 _ _ h2
 | Compare l ops rs p=>
  obtain⟨_,_,h1⟩:=q0a H (by exact h:iz f sc l ops rs st (fun q=>Q (.val (.bool q))))
  exact i21 _ _ h1
 | BoolOp op es p=>
  obtain⟨_,_,h1⟩:=jo (by exact h:q5w f sc op es st Q)
  obtain⟨_,_,h2⟩:=H.T h1
  obtain⟨_,_,h3⟩:=jo h2
  rcases xw h3 with h4 | h4
  ·exact i21 _ _ h4
  ·obtain⟨_,_,h5⟩:=H.T h4;exact i21 _ _ h5
 | IfExp t a b p=>
  obtain⟨_,_,h1⟩:=H.B (by exact h:qjc f sc t a b st Q)
  rcases xw h1 with h2 | h2
  ·exact H.R h2
  ·exact H.R h2
 | List es p=>obtain⟨_,_,h1⟩:=km H (by exact h:iy f sc .list es st Q);exact i21 _ _ (xg h1)
 | Tuple es c p=>obtain⟨_,_,h1⟩:=km H (by exact h:iy f sc (fun ts=>.val (.tup ts)) es st Q);exact i21 _ _ (xg h1)
 | Dict ks vs p=>
  obtain⟨_,_,h1⟩:=pc H (xg (by exact h:q5u f sc ks vs st Q))
  rcases xw h1 with h2 | h2
  ·obtain⟨_,_,h3⟩:=jo h2;exact i21 _ _ h3
  ·obtain⟨_,_,h3⟩:=jo h2;exact i21 _ _ h3
 | JoinedStr ps p=>obtain⟨_,_,h1⟩:=bp H (by exact h:q5t f sc ps st Q);exact i21 _ _ h1.2
 | ListComp elt gens sc2 p=>
  obtain⟨_,_,h1⟩:=jo (by exact h:oy f sc elt gens sc2 st Q)
  obtain⟨_,_,h2⟩:=lg H (xg h1)
  obtain⟨_,_,h3⟩:=jo h2
  obtain⟨_,_,_,_,h4⟩:=db h3
  exact i21 _ _ h4.2
 | Call g as ks p=>
  have h:=xg (by exact h:gd (ks.isEmpty&&as.all xc) (q5v f sc g as p st Q))
  induction g using Expr.casesOn with
  | Name g gp=>exact q4u H h
  | Attribute v m ap=>
   obtain⟨_,_,h1⟩:=H.P (xg (by exact h:q69 f sc v m ap p as st Q))
   exact q4o H h1
  | _=>exact h.elim
 | _=>exact h.elim
theorem Reach.step(H:Reach f):Reach f.step where
 T {sc e st Q} h:=by
  rcases vi (by exact h:fk f sc e st Q) with ⟨x,_,h⟩ | h
  ·rcases xw (by exact h:rz sc x st Q) with h | h
   ·exact i21 _ _ (xg h)
   ·obtain⟨_,_,h1⟩:=jo (xg h);exact i21 _ _ h1
  ·obtain⟨_,_,h1⟩:=H.R h;exact i21 _ _ h1
 R h:=q5l H h
 P {sc e st Q} h:=by
  have t:(f.evalT sc e st fun t=>Q (.val t))->∃t st',Q t st':=fun h=>by obtain⟨_,_,h1⟩:=H.T h;exact i21 _ _ h1
  rcases vi (by exact h:uw f sc e st Q) with ⟨x,_,h⟩ | h
  ·rcases xw (by exact h:pw f sc x e st Q) with h | h
   ·obtain⟨_,_,h1⟩:=jo h;exact i21 _ _ h1
   ·exact t h
  ·rcases vi h with ⟨x,_,h⟩ | h
   ·obtain⟨_,_,h1⟩:=H.P (xg h)
    obtain⟨_,_,h2⟩:=jo h1
    exact i21 _ _ h2
   ·exact t h
 C {sc e st Q} h:=by
  obtain⟨_,_,h1⟩:=H.P (by exact h:sv f sc e st Q)
  obtain⟨_,_,h2⟩:=jo h1
  exact i31 _ _ _ h2
 O {sc e st Q} h:=by
  rcases vi (by exact h:q5s f sc e st Q) with ⟨_,_,h⟩ | h
  ·obtain⟨_,_,h1⟩:=H.T h;exact i21 _ _ h1
  ·exact i21 _ _ h
 G {sc gs e st Q} h:=by
  rcases xw (by exact h:q66 f sc gs e st Q) with h | h
  ·obtain⟨_,_,h1⟩:=H.T h;exact i21 _ _ h1
  ·obtain⟨_,_,h1⟩:=jo h
   obtain⟨_,_,h2⟩:=lg H h1
   obtain⟨_,_,_,_,h3⟩:=db h2
   exact i21 _ _ h3
 I {sc e st Q} h:=by
  rcases vi (by exact h:r7 f sc e st Q) with ⟨q,_,h⟩ | h
  ·obtain⟨_,_,h1⟩:=H.T (by exact h:qc7 f sc q st Q)
   rcases xw h1 with h2 | h2
   ·obtain⟨_,_,h3⟩:=jo h2;exact i21 _ _ h3.2
   ·obtain⟨_,_,h3⟩:=jo h2;exact i21 _ _ h3
  ·rcases xw h with h | h
   ·obtain⟨_,_,h1⟩:=H.P h
    obtain⟨_,_,_,h2⟩:=xq h1
    exact i21 _ _ h2
   ·obtain⟨_,_,h1⟩:=H.T h
    obtain⟨_,_,_,h2⟩:=xq h1
    exact i21 _ _ h2
 B {sc e st Q} h:=by
  have v:∀{e},q6r f sc e st Q->∃b st',Q b st':=fun h=>by
   obtain⟨_,_,h1⟩:=H.T h
   obtain⟨_,_,_,h2⟩:=xq h1
   exact i21 _ _ h2
  have h:qha f sc st Q (tk e):=h
  generalize tk e=k at h
  cases k with
  | cmp l ops rs p=>exact q0a H h
  | bool op es p=>exact q21 H h
  | un op x p=>
   rcases xw h with h | h
   ·obtain⟨_,_,h1⟩:=H.B h;exact i21 _ _ h1
   ·exact v h
  | ifx=>exact h.elim
  | val=>exact v h
end
inductive RepFF(w:World)(g:Gh)(kd:Part->Kd):List DictEntry->List (Str×F)->Prop
 | nil:RepFF w g kd [] []
 | val {e:DictEntry} {f:Str} {t:T} {en:List DictEntry} {fs:List (Str×F)}:fieldNames.contains f=true->KeyS w e f->Rep w g e.val t->RepFF w g kd en fs->RepFF w g kd (e::en) ((f,.val t)::fs)
 | dict {e:DictEntry} {f:Str} {b:Addr} {o:Obj} {en':List DictEntry} {es:List (Str×T)} {en:List DictEntry} {fs:List (Str×F)}:fieldNames.contains f=true->KeyS w e f->e.val = .ref b->g b=some (kd (.fld f),o)->kq o en'->RepD w g en' es ->
   RepFF w g kd en fs->RepFF w g kd (e::en) ((f,.dict es)::fs)
noncomputable def InstR(w:World)(g:Gh)(kd:Part->Kd)(a:Addr)(cn:Str)(fs:List (Str×F)):Prop:=
 ∃C dx o en,ji cn cAddrs=some C∧g a=some (kd .main,instObj C dx)∧g dx=some (kd .dict,o)∧kq o en∧RepFF w g kd en fs
noncomputable def EntR(w:World)(g:Gh)(kd:Part->Kd)(v:Value):Ent->Prop
 | .val t=>Rep w g v t
 | .list xs=>∃a o vs,v = .ref a∧g a=some (kd .main,o)∧OList o vs∧RepL w g vs xs
 | .dict es=>∃a o en,v = .ref a∧g a=some (kd .main,o)∧kq o en∧RepD w g en es
 | .inst cn fs=>∃a,v = .ref a∧InstR w g kd a cn fs
noncomputable def SOR(w:World)(g:Gh)(i:Nat)(a:Addr):SO->Prop
 | .list xs=>∃o vs,g a=some (.shr i .main,o)∧OList o vs∧RepL w g vs xs
 | .inst cn fs=>InstR w g (.shr i) a cn fs
 | .tab=>a=vp i∧∃o,g a=some (.shr i .main,o)∧(o=tabObj #[]∨∃b oc,o=tabObj #[rawInt (zn i).line,rawInt (zn i).col,.ref b]∧g b=some (.froz,oc)∧aw oc (k8 i))
structure Sig(w:World)(g:Gh)(sg:List SO):Prop where
 at_:∀i so,sg[i]? = some so->∃a,SOR w g i a so
 one:∀i a a' o o',g a=some (.shr i .main,o)->g a'=some (.shr i .main,o')->a=a'
 lt:∀i p a o,g a=some (.shr i p,o)->i<sg.length
noncomputable def qdq (K:Frag) (a:Addr):Bool:=makesIn K a&&plainGet K a ""&&plainOver K a&&hasDictIn K a&&(findIn K (.ref a) "__setattr__"==some (some (.builtin "object.__setattr__"))) &&
 fieldNames.all fun f=>findIn K (.ref a) f==some none&&takerIn K a f==some none
noncomputable def qhl(K:Frag)(p:Str×Addr):Bool:=nsIn K mainGlobals p.1==some (some (.ref p.2))
noncomputable def qbo(K:Frag)(C:Str)(m:Str×Str):Bool:=match ji C cAddrs,w8 m.2 with
 | some a,some f=>findIn K (.ref a) m.1==some (some (.ref f))&&_root_.PySem.W.isFn K (.ref f)&&specialIn K (.ref f) "__get__"==some (some (.builtin "function.__get__"))
 | _,_=>false
set_option genInjectivity true in
structure FView where
 globals:Addr
 closure:List (Str×Addr)
 builtins:Addr
 body:FuncBody
 scope:Scope
 params:Arguments
 coded:Bool
 kwd:Value
 dflt:List T
noncomputable def qhh:Value->T
 | .none=>.none
 | .bool b=>.bool b
 | .int i _=>.int i
 | .str x _=>.str x
 | _=>.tup []
noncomputable def q63(K:Frag):Value->List T
 | .ref t=>match K.lookup t with
  | some ⟨.type "tuple",none,.seq vs _,_⟩=>vs.toList.map qhh
  | _=>[.tup [],.tup [],.tup []]
 | .none=>[]
 | _=>[.tup [],.tup [],.tup []]
noncomputable def n7(K:Frag)(a:Addr):Option FView:=match K.lookup a with
 | some ⟨_,_,.func fd,_⟩=>some ⟨fd.globals,fd.closure,fd.builtins,fd.body,fd.scope,fd.params,codeIn K fd.code fd.qualname,fd.kwdefaults,q63 K fd.defaults⟩
 | _=>none
noncomputable def cq(d:wy):FView:=⟨mainGlobals,[],builtinsNs,.stmts d.body,d.scope,d.args,true,.none,d.defaults⟩
noncomputable def blt:List (Str×Value):=[("len",.builtin "len"),("list",.type "list"),("dict",.type "dict"),("min",.builtin "min"),("str",.type "str"),("isinstance",.builtin "isinstance"),("range",.type "range"),("reversed",.type "reversed")]
noncomputable def q3y:Addr:=(ji "Vector" cAddrs).getD 0
noncomputable def qh7 (K:Frag) (p:Str×Addr):Bool:=decide (p.1="Vector") || (kin_not K p.2 q3y&&plainGet K p.2 "__class__"&&hasDictIn K p.2&&findIn K (.ref p.2) "__class__"==some (some (.builtin "object.__class__"))&&mroIn K p.2 (.type "object")==some true)
noncomputable def qi6 (K:Frag):Bool:=isIn K (.ref q3y) q3y&&specialIn K (.builtin "object.__class__") "__get__"==some (some (.builtin "getset_descriptor.__get__"))&&takesIn K (.builtin "object.__class__")==some true&&cAddrs.all (qh7 K)
noncomputable def q1k(K:Frag)(a cd:Addr)(q:Str):Bool:=match K.lookup a with
 | some ⟨_,_,.func fd,_⟩=>decide (fd.qualname=q)&&fd.code == .ref cd
 | _=>false
noncomputable def excMro:List Value:=[.ref 126,.ref 87,.type "Exception",.type "BaseException",.type "object"]
noncomputable def excFields:List Str:=["message","call","condition"]
noncomputable def qcw(cd:ClassData):Bool:=cd.hasDict&&(cd.mro==excMro&&(!cd.hasDel&&cd.ns==125))
noncomputable def qbd(K:Frag):Bool:=match K.lookup 126 with
 | some ⟨ty,_,.cls cd,sl⟩=>ty == .type "type"&&(qcw cd&&(sl.size==6&&sl[4]? == some (some (.builtin "Exception.__new__"))))
 | _=>false
noncomputable def qbp (K:Frag):List Bool:=[nsIn K mainGlobals "__builtins__"==some (some (.ref 4)),q1k K 1281 1280 "_law_teller",codeHdIn K 1280 (vp 0),codeHdIn K 331 (vp 1),q1k K 332 331 "class_supers",qbd K,tailIn K (excMro.drop 2) (excMro.drop 1),(clsIn K 126).any qcw,
 findIn K (.ref 126) "__setattr__"==some (some (.builtin "object.__setattr__")),excFields.all fun f=>findIn K (.ref 126) f==some none,nsIn K mainGlobals "RError"==some (some (.ref 126)),keepIn K (.ref 126),findIn K (.ref 126) "__init__"==some (some (.ref 123)),_root_.PySem.W.isFn K (.ref 123),
 findIn K (.ref 1190) "signal_error"==some (some (.ref 1028)),_root_.PySem.W.isFn K (.ref 1028),keepIn K (.ref 1028),findIn K (.ref 126) "__getattribute__"==some (some (.builtin "BaseException.__getattribute__")),findIn K (.ref 126) "__getattr__"==some none,hasDictIn K 126]
structure KFacts(K:Frag):Prop where
 more:(qbp K).all id=true
 vec:qi6 K=true
 cls:(cAddrs.all fun c=>qdq K c.2)=true
 glb:((fAddrs++cAddrs).all fun p=>qhl K p)=true
 mth:(methTab.all fun c=>c.2.all fun m=>qbo K c.1 m)=true
 fn:(fAddrs++mAddrs).map (fun p=>n7 K p.2)=(fAddrs++mAddrs).map (fun p=>(wx p.1).map cq)
 blt:(blt.all fun p=>nsIn K mainGlobals p.1==some none&&bootBuiltins p.1==some p.2)=true
 keep:((fAddrs++mAddrs++cAddrs).all fun p=>keepIn K (.ref p.2))=true
theorem KFacts.at{K:Frag}(H:KFacts K)(i:Nat){b:Bool}(h:(qbp K)[i]? = some b):b=true:=qy.mp H.more b (List.mem_of_getElem? h)
theorem qid:fnTab.map (·.1)=fAddrs.map (·.1):=by kernel_rfl
theorem t_mf:mfTab.map (·.1)=mAddrs.map (·.1):=by kernel_rfl
theorem t_cl:methTab.map (·.1)=cAddrs.map (·.1):=by kernel_rfl
structure CC where
 prog:Program
 w:World
 base:Heap
 gens:Array GenState
 os:OsState
 K:Frag
 kf:KFacts K
structure Gd(c:CC)(h:Heap):Prop where
 X:c.K.In h
 g:∃mg,h.Ns mainGlobals mg
 b:∃mb,h.Ns builtinsNs mb∧∀x:Str,x≠"__name__"→mb x=bootBuiltins x
 nolimit:h.NoLimit
 nodigits:∃mc,h.Ns cStatics mc∧mc "sys.int_max_str_digits"=none
 sysm:∃o,h.get? sysModules=some o
 bm:∃o,h.get? 4=some o∧o.cls = .type "module"∧o.dict=some builtinsNs∧o.data = .plain
theorem Gd.keeps{c:CC}{h h':Heap}(G:Gd c h)(k:∀b o,h.get? b=some o->h'.get? b=some o):Gd c h':=
 ⟨G.X.keeps k,let ⟨mg,e⟩:=G.g;⟨mg,e.keeps k⟩,let ⟨mb,e,f⟩:=G.b;(i12 mb (e.keeps k) f),G.nolimit.keeps k,let ⟨mc,e,f⟩:=G.nodigits;(i12 mc (e.keeps k) f),let ⟨o,e⟩:=G.sysm;⟨o,k _ _ e⟩,e12 G.bm fun o e r=>(i12 o (k _ _ e) r)⟩
structure Hp(c:CC)(g:Gh)(sg:List SO)(s:Shared):Prop where
 fits:Fits g s.heap
 gd:Gd c c.base
 base:∀a o,c.base.get? a=some o->g a=some (.still,o)
 sig:Sig c.w g sg
 gens:s.gens=c.gens
 os:s.os=c.os
section
variable {c:CC}{g:Gh}{sg:List SO}{s:Shared}
theorem Hp.keep(H:Hp c g sg s):∀a o,c.base.get? a=some o->s.heap.get? a=some o:=fun a o e=>H.fits.exact (H.base a o e) (jb rfl)
theorem Hp.here(H:Hp c g sg s):Gd c s.heap:=H.gd.keeps H.keep
theorem Hp.X(H:Hp c g sg s):c.K.In s.heap:=H.here.X
theorem Hp.notSys(H:Hp c g sg s){a:Addr}{k:Kd}{o:Obj}(e:g a=some (k,o))(hk:k ≠ .still):(a==sysModules)=false:=by
 refine e11 H.gd.sysm fun o' q=>?_
 have q:=H.base _ _ q
 refine beq_eq_false_iff_ne.mpr fun z=>?_
 (replace e:=z▸e;replace e:=q▸e);replace e:=qd e;cases e;exact hk rfl
end
noncomputable def NsO(o:Obj)(m:Str->Option Value):Prop:=∃es ep,o.data = .dict es ep∧StrKeys es∧∀name,nsFind es name=m name
theorem NsO.at{o:Obj}{m:Str->Option Value}(H:NsO o m){h:Heap}{a:Addr}(e:h.get? a=some o):h.Ns a m:=e21 H fun es ep r=>(i32 o es ep e r)
theorem gz{h:Heap}{a:Addr}{m:Str->Option Value}(H:h.Ns a m):∃o,h.get? a=some o∧NsO o m:=e32 H fun o es ep e r=>(i12 o e (i21 es ep r))
structure Fr' where
 sc:Scope
 E:Env
structure FrS(F:Fr'):Prop where
 kind:F.E.scope.kind = .function
 glob:F.E.globals=mainGlobals
 blt:F.E.builtins=builtinsNs
 dbg:jc F.sc "__debug__"=none
 hsh:jc F.sc "#"=none
 cdict:jc F.sc "__classdict__"=none
 names:∀x k,jc F.sc x=some k->∃k',F.E.kindOf x=some k'∧(k'=k∨(k = .free∧k' = .cell))
structure qac(w:World)(g:Gh)(F:Fr')(env:Loc)(x:Str)(c:Addr)(k:Kd)(o:Obj)(ov:Option Value):Prop where
 cell:F.E.cells.lookup x=some c
 at_:g c=some (k,o)
 data:o.data = .cell ov
 kd:k = .cel x∨k = .still∨k = .froz
 own:jc F.sc x≠some .free->k = .cel x
 ent:∀e,jn x env=some e->∃v,ov=some v∧EntR w g (.mine x) v e∧(k ≠ .cel x->∃t,e = .val t)
structure qlr(w:World)(g:Gh)(F:Fr')(env:Loc)(o:Obj)(m:Str->Option Value):Prop where
 at_:g F.E.locals=some (.frm,o)
 ns:NsO o m
 ent:∀x e,jn x env=some e->F.E.kindOf x=some .local->∃v,m x=some v∧EntR w g (.mine x) v e
structure FrR(w:World)(g:Gh)(F:Fr')(env:Loc):Prop where
 tmp:jn "#" env=none
 loc:∃o m,qlr w g F env o m
 cel:∀x,(F.E.kindOf x=some .cell∨F.E.kindOf x=some .free)->∃c k o ov,qac w g F env x c k o ov
structure Inv(c:CC)(F:Fr')(g:Gh)(st:St)(s:Shared):Prop extends Hp c g st.sg s where
 fs:FrS F
 fr:FrR c.w g F st.env
structure Room(A:Around)(n:Nat):Prop where
 handled:A.handled=none
 depth:A.depth+5*n≤900
 units:A.units+60*n≤9000
 guards:A.guards=some []
noncomputable def fzk:Part->Kd
 | .dict=>.fdict
 | _=>.froz
structure StepE(g g':Gh):Prop where
 still:∀a o,g a=some (.still,o)->g' a=some (.still,o)
 froz:∀a o,g a=some (.froz,o)->g' a=some (.froz,o)
 fdict:∀a o,g a=some (.fdict,o)->g' a=some (.fdict,o)
 shr:∀a i p o,g a=some (.shr i p,o)->∃o',g' a=some (.shr i p,o')
 frm:∀a o,g a=some (.frm,o)->g' a=some (.frm,o)
 cel:∀a x o,g a=some (.cel x,o)->g' a=some (.cel x,o)
 mine:∀a (x:Str) p o,x≠"#"→g a=some (.mine x p,o)→g' a=some (.mine x p,o)∨g' a=some (fzk p,o)
theorem StepE.refl(g:Gh):StepE g g:=⟨fun z_ z_ h=>h,fun z_ z_ h=>h,fun z_ z_ h=>h,fun z_ z_ z_ o h=>⟨o,h⟩,fun z_ z_ h=>h,fun z_ z_ z_ h=>h,fun z_ z_ z_ z_ z_ h=>.inl h⟩
theorem StepE.trans{a b c:Gh}(h:StepE a b)(k:StepE b c):StepE a c:=⟨fun x o e=>k.still x o (h.still x o e),fun x o e=>k.froz x o (h.froz x o e),fun x o e=>k.fdict x o (h.fdict x o e),
 fun x i p o e=>let ⟨_,e'⟩:=h.shr x i p o e;k.shr x i p _ e',fun x o e=>k.frm x o (h.frm x o e),fun x y o e=>k.cel x y o (h.cel x y o e),fun x y p o n e=>by
  rcases h.mine x y p o n e with q | q
  ·exact k.mine x y p o n q
  ·rcases p with ⟨⟩ <;> first | exact .inr (k.froz x o q) | exact .inr (k.fdict x o q)⟩
theorem StepE.mono{g g':Gh}(h:StepE g g'):Mono g g':=⟨h.froz,h.fdict,h.shr⟩
structure StepS(g g':Gh):Prop where
 still:∀a o,g a=some (.still,o)->g' a=some (.still,o)
 froz:∀a o,g a=some (.froz,o)->g' a=some (.froz,o)
 fdict:∀a o,g a=some (.fdict,o)->g' a=some (.fdict,o)
 shr:∀a i p o,g a=some (.shr i p,o)->∃o',g' a=some (.shr i p,o')
theorem StepS.refl(g:Gh):StepS g g:=⟨fun z_ z_ h=>h,fun z_ z_ h=>h,fun z_ z_ h=>h,fun z_ z_ z_ o h=>⟨o,h⟩⟩
theorem StepS.trans{a b c:Gh}(h:StepS a b)(k:StepS b c):StepS a c:=⟨fun x o e=>k.still x o (h.still x o e),fun x o e=>k.froz x o (h.froz x o e),fun x o e=>k.fdict x o (h.fdict x o e),
 fun x i p o e=>let ⟨_,e'⟩:=h.shr x i p o e;k.shr x i p _ e'⟩
theorem StepE.s{g g':Gh}(h:StepE g g'):StepS g g':=⟨h.still,h.froz,h.fdict,h.shr⟩
theorem StepS.mono{g g':Gh}(h:StepS g g'):Mono g g':=⟨h.froz,h.fdict,h.shr⟩
structure QStep(g g':Gh):Prop extends StepE g g' where
 shrx:∀a i p o,g a=some (.shr i p,o)->g' a=some (.shr i p,o)
noncomputable def LookK (sh:Bool) (k:Kd):Prop:=k = .froz∨(∃(x:Str) (p:Part),x≠"#"∧p ≠ .dict∧k = .mine x p)∨(sh=true∧∃i p,k = .shr i p)
theorem LookK.up{sh:Bool}{k:Kd}(h:LookK sh k):LookK true k:=h.imp id (Or.imp id fun z=>⟨rfl,z.2⟩)
theorem LookK.nf{sh:Bool}{k:Kd}(h:LookK sh k):k ≠ .fdict∧k ≠ .still:=by rcases h with rfl | ⟨x,p,_,_,rfl⟩ | ⟨_,i,p,rfl⟩ <;> exact⟨(jb rfl),(jb rfl)⟩
noncomputable def CRep(w:World)(g:Gh)(v:Value)(sh:Bool):T->Prop
 | .list xs=>∃a k o vs,v = .ref a∧g a=some (k,o)∧LookK sh k∧OList o vs∧RepL w g vs xs
 | .dict es=>∃a k o en,v = .ref a∧g a=some (k,o)∧LookK sh k∧kq o en∧RepD w g en es
 | t=>Rep w g v t
noncomputable def PeekR(w:World)(g:Gh)(v:Value)(sh:Bool)(r:Ent):Prop:=∃kd:Part->Kd,(∀p,kd p ≠ .fdict∧kd p ≠ .still)∧(∀p,p ≠ .dict->LookK sh (kd p))∧EntR w g kd v r
inductive wl(w:World)(g:Gh):Value->List T->Prop
 | rep {v:Value} {t:T} {items:List T}:Rep w g v t->fj t=some items->wl w g v items
 | range {a:Addr} {k:Int} {t u v:Tok}:g a=some (.still,{ cls:=.type "range",data:=.fields #[.int 0 t,.int k u,.int 1 v] })→0≤k→k≤LIM→wl w g (.ref a) (rng k)
 | rev {a l:Addr} {o:Obj} {vs:List Value} {xs:List T}:g a=some (.mine "#" .main,{ cls:=.type "list_reverseiterator",data:=.fields #[.ref l,rawInt ((vs.length:Int)-1)] })→g l=some (.froz,o)→OList o vs→RepL w g vs xs→wl w g (.ref a) xs.reverse
noncomputable abbrev no:Value->Shared->Prop:=fun z_ z_=>False
structure KeepF(g g':Gh):Prop where
 keep:∀a k o,g a=some (k,o)→(∀p,k ≠ .mine "#" p)→(∀i p,k ≠ .shr i p)→g' a=some (k,o)
 shr:∀a i p o,g a=some (.shr i p,o)->∃o',g' a=some (.shr i p,o')
noncomputable def CSince(acc:Addr)(g0 g:Gh):Prop:=∀a k o,a≠acc->g0 a=some (k,o)->(k = .still∨k = .froz∨k = .fdict->g a=some (k,o))∧∀i p,k = .shr i p->∃o',g a=some (k,o')
noncomputable def AccR(c:CC)(g:Gh)(acc:Addr)(xs:List T):Prop:=c.base.get? acc=none∧∃o vs,g acc=some (.still,o)∧OList o vs∧RepL c.w g vs xs
noncomputable def w7(e:qo)(gens:List PySem.Comprehension)(elt:qo)(d:Nat)(acc:Value)(env:Env):Sem Unit:=match gens[d+1]? with
 | some g'=>do
  let x ←qp g'.iter env
  standAt g'.iter.pos
  let x ←if g'.is_async != 0 then foldedIterable g'.iter x else foldedSetIterable g'.iter env x
  let _ ←runOwn (.compStart e (d+1) (←holding [x] (if g'.is_async != 0 then asyncIter x else pyIter x)) acc env) env
 | none=>do let _ ←call (.builtin "list.append") [acc,←qp elt env]
structure Cx where
 c:CC
 A:Around
noncomputable abbrev WP{α:Type}(W:Cx)(t:Sem α)(K:α->Shared->Prop)(s:Shared):Prop:=wpAny (model W.c.prog W.c.w) W.A t K no s
noncomputable abbrev KR (W:Cx) (F:Fr') (g:Gh) (Q:Ent→St→Prop) (K:Value→Shared→Prop):Prop:=∀v s' g' r st',Inv W.c F g' st' s'→StepE g g'→EntR W.c.w g' (.mine "#") v r→Q r st'→K v s'
noncomputable abbrev KT(W:Cx)(F:Fr')(g:Gh)(Q:T->St->Prop)(K:Value->Shared->Prop):Prop:=∀v s' g' t st',Inv W.c F g' st' s'->StepE g g'->Rep W.c.w g' v t->Q t st'->K v s'
noncomputable abbrev KP(W:Cx)(F:Fr')(e:qo)(g:Gh)(Q:Ent->St->Prop)(K:Value->Shared->Prop):Prop:=∀v s' g' r st',Inv W.c F g' st' s'->StepE g g'->PeekR W.c.w g' v (zj e r) r->Q r st'->K v s'
noncomputable abbrev KC(W:Cx)(F:Fr')(g:Gh)(Q:T->Bool->St->Prop)(K:Value->Shared->Prop):Prop:=∀v s' g' t sh st',Inv W.c F g' st' s'->StepE g g'->CRep W.c.w g' v sh t->Q t sh st'->K v s'
noncomputable abbrev KB(W:Cx)(F:Fr')(g:Gh)(Q:Bool->St->Prop)(K:Bool->Shared->Prop):Prop:=∀b s' g' st',Inv W.c F g' st' s'->StepE g g'->Q b st'->K b s'
noncomputable def OptR(w:World)(g:Gh)(v:Value):Option T->Prop
 | none=>v = .none
 | some t=>Rep w g v t
noncomputable abbrev KO(W:Cx)(F:Fr')(g:Gh)(Q:Option T->St->Prop)(K:Value->Shared->Prop):Prop:=∀v s' g' t st',Inv W.c F g' st' s'->StepE g g'->OptR W.c.w g' v t->Q t st'->K v s'
noncomputable abbrev KI(W:Cx)(F:Fr')(e:qo)(g:Gh)(Q:List T->St->Prop)(K:Value->Shared->Prop):Prop:=∀v s' g' items st',Inv W.c F g' st' s'->StepE g g'->(wl W.c.w g' v items∨(yd e=true∧items=[]∧CRep W.c.w g' v true (.dict [])))->Q items st'->K v s'
inductive FlR(w:World)(g:Gh):Flow->Fl->Prop
 | next:FlR w g .next .next
 | ret {v:Value} {r:Ent}:EntR w g (.mine "#") v r→FlR w g (.ret v) (.ret r)
noncomputable abbrev KS(W:Cx)(F:Fr')(g:Gh)(Q:Fl->St->Prop)(K:Flow->Shared->Prop):Prop:=∀f s' g' fl st',Inv W.c F g' st' s'->StepS g g'->FlR W.c.w g' f fl->Q fl st'->K f s'
inductive lj(c:CC)(g:Gh)(sg:List SO)(r:Ent):Result->Shared->Prop
 | mk {v:Value} {s:Shared} {g':Gh}:Hp c g' sg s→KeepF g g'→EntR c.w g' (.mine "#") v r→lj c g sg r (.ok (.ret v)) s
structure qk2(c:CC)(C:Calls)(A:Around):Prop where
 callF:∀{f ts sg r sg'},C.callF f ts sg r sg'->∀{g s a vs},Hp c g sg s->w8 f=some a->RepL c.w g vs ts->codeAny (model c.prog c.w) A (.call (.ref a) ⟨vs,[]⟩) (lj c g sg' r) s
 makeC:∀{f ts sg r sg'},C.makeC f ts sg r sg'->∀{g s a vs},Hp c g sg s->ji f cAddrs=some a->RepL c.w g vs ts->codeAny (model c.prog c.w) A (.call (.ref a) ⟨vs,[]⟩) (lj c g sg' r) s
 callClo:∀{cap ts sg r sg'},C.callClo cap ts sg r sg'->∀{g s f vs},Hp c g sg s->Rep c.w g f (.clo cap)->RepL c.w g vs ts->codeAny (model c.prog c.w) A (.call f ⟨vs,[]⟩) (lj c g sg' r) s
noncomputable abbrev KRq (W:Cx) (F:Fr') (g:Gh) (Q:Ent→St→Prop) (K:Value→Shared→Prop):Prop:=∀v s' g' r st',Inv W.c F g' st' s'→QStep g g'→EntR W.c.w g' (.mine "#") v r→Q r st'→K v s'
noncomputable abbrev KTq(W:Cx)(F:Fr')(g:Gh)(Q:T->St->Prop)(K:Value->Shared->Prop):Prop:=∀v s' g' t st',Inv W.c F g' st' s'->QStep g g'->Rep W.c.w g' v t->Q t st'->K v s'
noncomputable abbrev KPq(W:Cx)(F:Fr')(e:qo)(g:Gh)(Q:Ent->St->Prop)(K:Value->Shared->Prop):Prop:=∀v s' g' r st',Inv W.c F g' st' s'->QStep g g'->PeekR W.c.w g' v (zj e r) r->Q r st'->K v s'
noncomputable abbrev KCq(W:Cx)(F:Fr')(g:Gh)(Q:T->Bool->St->Prop)(K:Value->Shared->Prop):Prop:=∀v s' g' t sh st',Inv W.c F g' st' s'->QStep g g'->CRep W.c.w g' v sh t->Q t sh st'->K v s'
structure StepK(x:Str)(g g':Gh)(st st':St):Prop extends QStep g g' where
 own:∀a p o,g a=some (.mine x p,o)->g' a=some (.mine x p,o)
 env:jn x st'.env=jn x st.env
 sg:st'.sg=st.sg
noncomputable def ay(sc:Scope)(x:Str)(e:qo):Bool:=qc3 x e || match e with
 | .Name y _=>!z8 (jc sc y)
 | _=>false
noncomputable abbrev KTk(W:Cx)(F:Fr')(x:Str)(g:Gh)(st:St)(Q:T->St->Prop)(K:Value->Shared->Prop):Prop:=∀v s' g' t st',Inv W.c F g' st' s'->StepK x g g' st st'->Rep W.c.w g' v t->Q t st'->K v s'
noncomputable abbrev KRk (W:Cx) (F:Fr') (x:Str) (g:Gh) (st:St) (Q:Ent→St→Prop) (K:Value→Shared→Prop):Prop:=∀v s' g' r st',Inv W.c F g' st' s'→StepK x g g' st st'→EntR W.c.w g' (.mine "#") v r→Q r st'→K v s'
noncomputable abbrev KPk(W:Cx)(F:Fr')(x:Str)(e:qo)(g:Gh)(st:St)(Q:Ent->St->Prop)(K:Value->Shared->Prop):Prop:=∀v s' g' r st',Inv W.c F g' st' s'->StepK x g g' st st'->PeekR W.c.w g' v (zj e r) r->Q r st'->K v s'
noncomputable def okE:qo->Bool
 | .Constant _ _ _=>true
 | .Name _ _=>true
 | .Attribute _ _ _=>true
 | .Subscript _ _ _=>true
 | .BinOp _ _ _ _=>true
 | .UnaryOp _ _ _=>true
 | .Compare _ _ _ _=>true
 | .BoolOp _ _ _=>true
 | .IfExp _ _ _ _=>true
 | .List _ _=>true
 | .Tuple _ _ _=>true
 | .Dict _ _ _=>true
 | .JoinedStr _ _=>true
 | .ListComp _ _ _ _=>true
 | .Call _ _ _ _=>true
 | _=>false
structure Snd(W:Cx)(f:Fns):Prop where
 re:Reach f
 okT:∀{sc e st Q},f.evalT sc e st Q->okE e=true
 okR:∀{sc e st Q},f.eval sc e st Q->okE e=true
 okP:∀{sc e st Q},f.peek sc e st Q->okE e=true
 okC:∀{sc e st Q},f.peekC sc e st Q->okE e=true
 okI:∀{sc e st Q},f.iterS sc e st Q->okE e=true
 qT:∀{F:Fr'}{e st Q},quiet e=true->f.evalT F.sc e st Q->∀{g s K},Inv W.c F g st s->KTq W F g Q K->WP W (qp e F.E) K s
 qR:∀{F:Fr'}{e st Q},quiet e=true->f.eval F.sc e st Q->∀{g s K},Inv W.c F g st s->KRq W F g Q K->WP W (qp e F.E) K s
 qP:∀{F:Fr'}{e st Q},quiet e=true->f.peek F.sc e st Q->∀{g s K},Inv W.c F g st s->KPq W F e g Q K->WP W (qp e F.E) K s
 kT:∀{F:Fr'} {x e st Q},ay F.sc x e=true→x≠"#"→f.evalT F.sc e st Q→∀{g s K},Inv W.c F g st s→KTk W F x g st Q K→WP W (qp e F.E) K s
 kR:∀{F:Fr'} {x e st Q},ay F.sc x e=true→x≠"#"→f.eval F.sc e st Q→∀{g s K},Inv W.c F g st s→KRk W F x g st Q K→WP W (qp e F.E) K s
 kP:∀{F:Fr'} {x e st Q},(ay F.sc x e || tu e)=true→x≠"#"→f.peek F.sc e st Q→∀{g s K},Inv W.c F g st s→KPk W F x e g st Q K→WP W (qp e F.E) K s
 qC:∀{F:Fr'}{e st Q},quiet e=true->f.peekC F.sc e st Q->∀{g s K},Inv W.c F g st s->KCq W F g Q K->WP W (qp e F.E) K s
 C:qk2 W.c f.C W.A
 R:Room W.A 1
 evalT:∀{F:Fr'}{e st Q},f.evalT F.sc e st Q->∀{g s K},Inv W.c F g st s->KT W F g Q K->WP W (qp e F.E) K s
 eval:∀{F:Fr'}{e st Q},f.eval F.sc e st Q->∀{g s K},Inv W.c F g st s->KR W F g Q K->WP W (qp e F.E) K s
 peek:∀{F:Fr'}{e st Q},f.peek F.sc e st Q->∀{g s K},Inv W.c F g st s->KP W F e g Q K->WP W (qp e F.E) K s
 peekC:∀{F:Fr'}{e st Q},f.peekC F.sc e st Q->∀{g s K},Inv W.c F g st s->KC W F g Q K->WP W (qp e F.E) K s
 test:∀{F:Fr'}{e st Q},f.test F.sc e st Q->∀{g s K},Inv W.c F g st s->KB W F g Q K->WP W (PySem.isTrue e F.E (qp e F.E)) K s
 evOpt:∀{F:Fr'}{e st Q},f.evOpt F.sc e st Q->∀{g s K},Inv W.c F g st s->KO W F g Q K->WP W (PySem.evalPart e F.E) K s
 iterS:∀{F:Fr'}{e st Q},f.iterS F.sc e st Q->∀{g s K},Inv W.c F g st s->KI W F e g Q K->WP W (qp e F.E) K s
 compG:∀{F:Fr'}{more elt st Q},f.compG F.sc more elt st Q->∀{gens:List PySem.Comprehension}{d scope pos},gens.drop (d+1)=more->∀{g s acc xs K},Inv W.c F g st s->AccR W.c g acc xs->(∀ts st',Q ts st'->xs.length+ts.length≤LIM) ->
  (∀s' g' ts st',Inv W.c F g' st' s'->CSince acc g g'->AccR W.c g' acc (xs++ts)->Q ts st'->K () s')->WP W (w7 (.ListComp elt gens scope pos) gens elt d (.ref acc) F.E) K s
 comp:∀{F:Fr'}{elt gens sc2 pos st Q},f.eval F.sc (.ListComp elt gens sc2 pos) st Q->∀{g s},Inv W.c F g st s->∀{u:Value->Sem Unit}{K:Shared->Prop},
  (∀v s1 g1 C oC m r st',Inv W.c F g1 st' s1→StepE g g1→EntR W.c.w g1 (.mine "#") v r→Q r st'→g1 C=some (.still,oC)→NsO oC m→W.c.base.get? C=none→(∀k o,g C=some (k,o)→∃p,k = .mine "#" p) →
   WP W (u v) (fun z_ s2=>∃m,s2.heap.Ns C m∧∀h',Heap.SameBut C s2.heap h'->K { s2 with heap:=h' }) s1) ->
  WP W (evalThenUse (.ListComp elt gens sc2 pos) F.E u) (fun z_ s'=>K s') s
 exec:∀{F:Fr'}{e st Q},f.exec F.sc e st Q->∀{g s K},Inv W.c F g st s->KS W F g Q K->WP W (PySem.exec e F.E) K s
end Mine
end
section
open PySem PySem.W PyProof.Rows
set_option maxHeartbeats 0
namespace Mine
noncomputable def q4i(p:Program)(w:World)(n₀:Nat)(ann:Option Value):Nat->SharedT->Thread->Option SharedT
 | 0,_,_=>none
 | n+1,s,t=>match through t with
  | true=>some s
  | false=>match PySem.W.Fast.tw6613529449190102663 n₀ ann t with
   | false=>none
   | true=>match PySem.W.Fast.tw10156331382660048174 (PySem.W.Fast.tw11892475500146522536 PySem.W.Fast.tw14364793385576792824) p w s t with
    | some (s',t')=>q4i p w n₀ ann n s' t'
    | none=>none
theorem q8c{p:Program}{w:World}{n₀:Nat}{ann:Option Value}:∀(n:Nat)(s:SharedT)(t:Thread)(s':SharedT),q4i p w n₀ ann n s t=some s'->topRun treeTable p w n₀ ann n s.abs t=some s'.abs:=by
 intro n
 induction n with
 | zero=>
  intro _ _ _ h
  simp[q4i] at h
 | succ n ih=>
  intro s t s' h
  unfold q4i at h
  unfold topRun
  (replace h:=(Eq.symm PySem.W.Fast.te6613529449190102663)▸h;replace h:=(Eq.symm PySem.W.Fast.te10156331382660048174)▸h;replace h:=(Eq.symm PySem.W.Fast.te11892475500146522536)▸h;replace h:=(Eq.symm PySem.W.Fast.te14364793385576792824)▸h)
  induction ht:through t using qg with
  | true=>replace h:=ht▸h;replace h:=qd h;cases h;rfl
  | false=>
   replace h:=ht▸h
   induction hk:stepOk n₀ ann t using qg with
   | false=>replace h:=hk▸h;cases h
   | true=>
    replace h:=hk▸h
    induction hs:stepT (denote treeTable) p w s t using qe with
    | none=>replace h:=hs▸h;cases h
    | some r=>
     obtain⟨s₂,t₂⟩:=r
     replace h:=hs▸h
     refine rwg (stepT_spec hs) ?_
     exact ih s₂ t₂ s' h
noncomputable def q1z:Nat->List Obj->BT->BT
 | _,[],T=>T
 | i,o::l,T=>q1z (i+1) l (T.ins i o)
noncomputable def q0h(w:World)(os:OsState):SharedT:=⟨q1z 0 (boot_heap w.params).objs.toList .nil,11,(boot_heap w.params).life,#[],boot_drawn,boot_toks,os⟩
theorem q42(w:World)(os:OsState):(q0h w os).abs=⟨boot_heap w.params,#[],boot_drawn,boot_toks,os⟩:=by kernel_rfl
section
variable {p q:Program}{loose:List Str}{Xt:Shared->Bool}{α:Type}{Yf:Shared->α}{Ya:World->α}{N M:Nat}{g0:Bool}
theorem q2s(e:opening p=plainProg p.main.scope.names)(hN:Nat.ble 600 N=true)(f:∀s,fenceModules? p s=some s)(le:Nat.ble M N=true)
  (size:∀w:World,((boot_heap w.params).isNs mainGlobals,(boot_heap w.params).objs.size,(boot_heap w.params).nsMap mainGlobals "__annotations__")=(true,11,some (.ref 6)))
  (run:∀(w:World)(os:OsState),(q4i p w 11 (some (.ref 6)) M (q0h w os) (topStub p)).map (fun s=>(staticsOk (importedModules p.main.body) (boot_heap w.params) s.abs.heap&&namesBound p s.abs.heap&&gensDone s.abs&&laidKept (boot_heap w.params) s.abs.heap,
    openSeen q loose (importedModules p.main.body) Xt g0 s.abs))=some (true,openGood q loose))
  (look:∀(w:World)(os:OsState)(s:SharedT),q4i p w 11 (some (.ref 6)) M (q0h w os) (topStub p)=some s->Yf s.abs=Ya w):LeftO p q loose Xt Yf Ya N g0:=fun w=>by
 obtain⟨⟨h,gs,d,k,os⟩,e1,e'⟩:=Option.map_eq_some_iff.mp (boot_open e hN f w)
 obtain⟨rfl,rfl,rfl,rfl⟩:h=boot_heap w.params∧gs=#[]∧d=boot_drawn∧k=boot_toks:=by simpa using e'
 obtain⟨z1,z2,z3⟩:_∧_∧_:=by simpa only [Prod.mk.injEq] using size w
 obtain⟨sT,r1,r2⟩:=Option.map_eq_some_iff.mp (run w os)
 obtain⟨l1,l2⟩:_∧_:=by exact Prod.mk.inj (r2)
 have l3:=look w os sT r1
 have r:=q8c _ _ _ _ r1
 rw[q42] at r
 have r:=topRun_mono (N-M) _ _ _ _ r
 replace r:=(show M+(N-M)=N by have:=Nat.le_of_ble_eq_true le;lia)▸r
 have t:topFrom treeTable p w N ⟨boot_heap w.params,#[],boot_drawn,boot_toks,os⟩=some sT.abs:=by
  unfold topFrom
  dsimp only
  refine rwg z1<|rwg z2<|rwg z3<|rwg r ?_
  refine(?_:(match staticsOk (importedModules p.main.body) (boot_heap w.params) sT.abs.heap&&namesBound p sT.abs.heap&&gensDone sT.abs&&laidKept (boot_heap w.params) sT.abs.heap with | true=>_ | false=>_)=_)
  exact rwg l1 rfl
 unfold openEnds
 refine rwg e1 ?_
 refine(?_:((topFrom treeTable p w N ⟨boot_heap w.params,#[],boot_drawn,boot_toks,os⟩).map _)=_)
 refine rwg t ?_
 refine(?_:some _=some _)
 (rewrite[←l2];exact rwl l3 rfl)
end
end Mine
end
section
open PySem PySem.W PyProof.Rows PySem.Calls PySem.SeqAt
set_option maxHeartbeats 0
namespace Mine
noncomputable abbrev lawRow:RowW:=PySem.Challenge.rw_pq1361_01.row.toRowW
noncomputable abbrev pwL:Program:=PySem.Challenge.pw_pq1361_01
noncomputable def bn:Program:={ pwL with main:={ pwL.main with body:=[pwL.main.body.getD 99 (.Pass default)] } }
noncomputable def th:List Str:=(pwL.main.body.flatMap bindsAtTop).filter fun x=>!decide (x=("law":Str))
noncomputable def q7e:List Addr:=[3,126,125,87,86]++cAddrs.flatMap (fun p=>[p.2,p.2-1])++(fAddrs++mAddrs).flatMap (fun p=>[p.2,p.2-1])++[445,495,560,992,1173]
noncomputable def q5b(s:SharedT)(a:Addr):Option Obj:=match Nat.blt a s.n with
 | true=>(s.tree.get a).bind alive
 | false=>none
theorem d6{s:SharedT}{a:Addr}{o:Obj}(e:q5b s a=some o):s.abs.heap.get? a=some o:=by
 unfold q5b at e
 induction q:Nat.blt a s.n using qg with
 | false=>replace e:=q▸e;exact(j6 e).elim
 | true=>
  replace e:=q▸e
  obtain⟨x,h1,h2⟩:=Option.bind_eq_some_iff.mp e
  exact(abs_get (Nat.blt_eq.mp q) h1).trans h2
noncomputable def om(s:SharedT)(as:List Addr):Frag:=as.filterMap fun a=>(q5b s a).map fun o=>(a,o)
theorem qga{s:SharedT}{as:List Addr}:(om s as).In s.abs.heap:=fun a o e=>by
 obtain⟨b,_,e2⟩:=List.mem_filterMap.mp (mem_of_lookupK e)
 refine e12 (Option.map_eq_some_iff.mp e2) fun x h1 h2=>?_
 cases h2;exact d6 h1
noncomputable def qc4(K:Frag):List Bool:=[(qbp K).all id,qi6 K,cAddrs.all fun c=>qdq K c.2,(fAddrs++cAddrs).all fun p=>qhl K p,methTab.all fun c=>c.2.all fun m=>qbo K c.1 m,blt.all fun p=>nsIn K mainGlobals p.1==some none&&bootBuiltins p.1==some p.2,(fAddrs++mAddrs++cAddrs).all fun p=>keepIn K (.ref p.2),
 K.all fun p=>p.2.cls != .type "list"&&(p.1 != 1276&&p.1 != 327)]
structure Look where
 ok:Bool
 fn:List (Option FView)
 t0:Option Obj
 t1:Option Obj
 sysm:Bool
 bm:Option (Value×Option Addr×Data)
noncomputable def qbu(s:SharedT):Look:=⟨(qc4 (om s q7e)).all id,(fAddrs++mAddrs).map fun p=>n7 (om s q7e) p.2,q5b s 1276,q5b s 327,(q5b s sysModules).isSome,(q5b s 4).map fun o=>(o.cls,o.dict,o.data)⟩
noncomputable def q2q:Look:=⟨true,(fAddrs++mAddrs).map fun p=>(wx p.1).map cq,some (tabObj #[]),some (tabObj #[]),true,some (.type "module",some builtinsNs,.plain)⟩
theorem qex (w:World):((boot_heap w.params).isNs mainGlobals,(boot_heap w.params).objs.size,(boot_heap w.params).nsMap mainGlobals "__annotations__")=(true,11,some (.ref 6)):=by kernel_rfl
theorem q4s:opening pwL=plainProg pwL.main.scope.names:=by kernel_rfl
theorem q33(s:Shared):fenceModules? pwL s=some s:=by kernel_rfl
noncomputable def qak(w:World)(os:OsState):Option SharedT:=q4i pwL w 11 (some (.ref 6)) 9300 (q0h w os) (topStub pwL)
theorem qf4(w:World)(os:OsState):((qak w os).map fun s=>(staticsOk (importedModules pwL.main.body) (boot_heap w.params) s.abs.heap&&namesBound pwL s.abs.heap&&gensDone s.abs&&laidKept (boot_heap w.params) s.abs.heap,
    openSeen bn th (importedModules pwL.main.body) (fun s=>xlAt bn [] s&&recOk [] s) true s.abs))=some (true,openGood bn th):=by kernel_rfl
theorem qba(w:World)(os:OsState):((qak w os).map qbu)=some q2q:=by kernel_rfl
end Mine
end
section
open PySem
namespace Mine
theorem qcu{P Q:Prop}(h:Q)(e:P=Q):P:=e.mpr h
noncomputable def subs:Stmt->List Stmt
 | .For _ _ b o _=>b++o
 | .While _ b o _=>b++o
 | .If _ b o _=>b++o
 | .Try b _ _ fin _=>b++fin
 | _=>[]
noncomputable def nt:List Stmt->List Nat->Stmt
 | _,[]=>.Pass default
 | L,i::r=>match r with
  | []=>L.getD i (.Pass default)
  | _=>nt (subs (L.getD i (.Pass default))) r
noncomputable def an(g:Str):List Stmt:=match wx g with
 | some d=>d.body
 | none=>[]
noncomputable def qik(g:Str):Scope:=match wx g with
 | some d=>d.scope
 | none=>default
noncomputable def jx(C:Calls)(g:Str)(p:List Nat):T->St->(Fl->St->Prop)->Prop:=match nt (an g) p with
 | .For tg _ b _ _=>d8 (vz C (KE-p.length)) (qik g) tg b
 | _=>fun z_ z_ z_=>False
noncomputable def whT(C:Calls)(g:Str)(p:List Nat):St->(Bool->St->Prop)->Prop:=match nt (an g) p with
 | .While t _ _ _=>(vz C (KE-p.length)).test (qik g) t
 | _=>fun z_ z_=>False
noncomputable def whB(C:Calls)(g:Str)(p:List Nat):St->(Fl->St->Prop)->Prop:=match nt (an g) p with
 | .While _ b _ _=>wb ((vz C (KE-p.length)).exec (qik g)) b
 | _=>fun z_ z_=>False
structure Cmp where
 elt:Expr
 gens:List Comprehension
 sc:Scope
noncomputable def qdm:Nat->Expr->Option Cmp
 | 0,_=>none
 | n+1,e=>match e with
  | .ListComp elt gens sc _=>some ⟨elt,gens,sc⟩
  | .BinOp l _ r _=>(qdm n l).or (qdm n r)
  | .Call _ as _ _=>as.findSome? (qdm n)
  | _=>none
noncomputable def ql9:Stmt->Option Cmp
 | .Return (some e) _=>qdm 9 e
 | .Assign _ e _=>qdm 9 e
 | _=>none
noncomputable def lh(C:Calls)(n:Nat)(g:Str)(p:List Nat):T->St->(List T->St->Prop)->Prop:=match ql9 (nt (an g) p) with
 | some q=>match q9b q.gens with
  | some w=>gu (vz C n) q.sc w q.elt
  | none=>fun z_ z_ z_=>False
 | none=>fun z_ z_ z_=>False
noncomputable def qla(C:Calls)(n:Nat)(g:Str)(p:List Nat):T->St->(List T->St->Prop)->Prop:=match ql9 (nt (an g) p) with
 | some q=>match q9b (q.gens.drop 1) with
  | some w=>gu (vz C n) q.sc w q.elt
  | none=>fun z_ z_ z_=>False
 | none=>fun z_ z_ z_=>False
theorem u4{X:T->St->(Fl->St->Prop)->Prop}{σ:Type}{env:σ->Loc}{sg:σ->List SO}{ok:List T->σ->Prop}:
  ∀(l:List T)(s:σ),ok l s->(∀s a r,ok (a::r) s->∃s',ok r s'∧wq (X a) (env s) (sg s) .next (env s') (sg s'))->∃s',ok [] s'∧LoopR X l (env s) (sg s) .next (env s') (sg s'):=by
 intro l
 induction l with
 | nil=>
  intro s h _
  exact i12 s h .nil
 | cons a r ih=>
  intro s h k
  refine e12 (k s a r h) fun s1 h1 e1=>?_
  refine e12 (ih s1 h1 k) fun s2 h2 e2=>?_
  exact i12 s2 h2 (.next e1 e2)
section
variable {C:Calls}{g:Str}{ts:List T}{sg sg':List SO}{r:Ent}{P:Prop}
theorem j8(as:List Ans)(h:Done r r sg' sg' []->P)(e:(qhv (vz C KE) g ts sg as fun r' st=>Done r r' sg' st.sg st.as)=P):C.step.callF g ts sg r sg':=⟨as,e.mpr (h ⟨rfl,rfl,rfl⟩)⟩
theorem wc(as:List Ans)(h:Done r r sg' sg' []->P)(e:(qbr (vz C KE) g ts sg as fun r' st=>Done r r' sg' st.sg st.as)=P):C.step.makeC g ts sg r sg':=⟨as,e.mpr (h ⟨rfl,rfl,rfl⟩)⟩
theorem q7p{cap:List (Str×T)}(as:List Ans)(h:Done r r sg' sg' []->P)(e:(aj (vz C KE) cap ts sg as fun r' st=>Done r r' sg' st.sg st.as)=P):C.step.callClo cap ts sg r sg':=⟨as,e.mpr (h ⟨rfl,rfl,rfl⟩)⟩
theorem jg{α:Type}{X:St->(α->St->Prop)->Prop}{a:α}{env env':Loc}(as:List Ans)(h:Ended a a env' env' sg' sg' []->P)(e:(X ⟨env,sg,as⟩ fun a' st=>Ended a a' env' st.env sg' st.sg st.as)=P):wq X env sg a env' sg':=⟨as,e.mpr (h ⟨rfl,rfl,rfl,rfl⟩)⟩
end
theorem tt:true=true:=rfl
noncomputable abbrev vI(i:Int):Option Ent:=some (.val (.int i))
noncomputable abbrev vS(x:Str):Option Ent:=some (.val (.str x))
noncomputable abbrev vT(t:T):Option Ent:=some (.val t)
noncomputable def sg0:List SO:=[.tab,.tab]
noncomputable def Ints(l:List T):Prop:=∀t∈l,∃i,t = .int i
theorem Ints.snoc{l:List T}(h:Ints l)(i:Int):Ints (l++[.int i]):=fun t ht=>by
 rcases qz.mp ht with ht | ht
 ·exact h t ht
 ·exact⟨i,List.mem_singleton.mp ht⟩
noncomputable def lb (s:T) (fin:List T) (c w l e:Option Ent):Loc:=[("script",vT s),("shells",some (.list fin)),("cell",c),("whole_cell",w),("lap",l),("end_at",e)]
theorem zk{l:List T}(h:l.length<3000):decide (l.length<LIM)=true:=decide_eq_true (Nat.lt_trans h (by decide))
theorem q8b(C:Calls)(s:T)(fin:List T)(w i:Int)(c l e:Option Ent)(h:fin.length<3000)(q:Ints fin):
  ∃fin' w',Ints fin'∧fin'.length≤fin.length+1∧wq (jx C "_law_shells" [1,3] (.int i)) (lb s fin c (vI w) l e) sg0 .next (lb s fin' c (vI w') (vI i) e) sg0:=by
 induction hb:decide (w.fdiv 81>0) using qg with
 | false=>exact i23 fin (w.fdiv 81) q (by exact Nat.le_succ _) (jg [.b false] (fun t=>q9 (congrArg some hb) t) (by kernel_rfl))
 | true=>exact i23 (fin++[.int ((w.fdiv 81).fmod 81)]) (w.fdiv 81) (q.snoc _) (by simp) (jg [.b true] (fun t=>q9 (congrArg some hb) (q9 (zk h) t)) (by kernel_rfl))
structure ShS where
 fin:List T
 c:Option Ent
 w:Option Ent
 l:Option Ent
noncomputable def ShS.env(s:T)(x:ShS):Loc:=lb s x.fin x.c x.w x.l none
structure ShI where
 fin:List T
 w:Int
 l:Option Ent
theorem q4h(C:Calls)(s:T)(x:ShS)(i:Int)(r:List T)(h:x.fin.length+15*(r.length+1)<3000)(q:Ints x.fin):
  ∃x':ShS,(Ints x'.fin∧x'.fin.length+15*r.length<3000)∧wq (jx C "_law_shells" [1] (.int i)) (x.env s) sg0 .next (x'.env s) sg0:=by
 have key:∀w:Int,∃y:ShI,(Ints y.fin∧y.fin.length+0≤x.fin.length+15)∧LoopR (jx C "_law_shells" [1,3]) (rng 14) (lb s (x.fin++[.int (w.fmod 81)]) (vI i) (vI w) x.l none) sg0 .next (lb s y.fin (vI i) (vI y.w) y.l none) sg0:=fun w=>
  u4 (env:=fun y:ShI=>lb s y.fin (vI i) (vI y.w) y.l none) (sg:=fun z_=>sg0) (ok:=fun l y=>(∀t∈l,∃i,t = .int i)∧Ints y.fin∧y.fin.length+l.length≤x.fin.length+15) (rng 14) ⟨x.fin++[.int (w.fmod 81)],w,x.l⟩ ⟨fun t ht=>by
   obtain⟨i,_,e⟩:=List.mem_map.mp ht;exact⟨i,e.symm⟩,q.snoc _,by simp[rng]⟩ (fun y a r ⟨k1,k2,k3⟩=>by
   obtain⟨j,rfl⟩:=k1 a (.head _)
   rw[qj] at k3
   refine e23 (q8b C s y.fin y.w j (vI i) y.l none (by lia) k2) fun f' w' j1 j2 j3=>?_
   exact i12 ⟨f',w',vI j⟩ (i03 (fun t ht=>k1 t (.tail _ ht)) j1 (by refine(?_:f'.length+_≤_);lia)) j3) |>.imp fun y z=>⟨⟨z.1.2.1,z.1.2.2⟩,z.2⟩
 induction hb:decide (i<0) using qg with
 | false=>
  refine e12 (key i) fun y zz1 y3=>?_;refine e02 zz1 fun y1 y2=>?_;clear zz1
  exact i12 ⟨y.fin,vI i,vI y.w,y.l⟩ ⟨y1,by refine(?_:y.fin.length+_<_);exact Nat.lt_of_le_of_lt (qr (Nat.add_le_add_right y2 _) (Nat.le_of_eq (Nat.add_right_comm _ 15 _))) h⟩ (jg [.b false,.loop .next (lb s y.fin (vI i) (vI y.w) y.l none) sg0] (fun t=>q9 (congrArg some hb) (q9 (zk (by exact Nat.lt_of_add_right_lt h:x.fin.length<3000)) (q9 tt (q9 y3 t)))) (by kernel_rfl))
 | true=>
  refine e12 (key (31-i)) fun y zz=>?_;refine e02 zz fun y1 y2=>?_;clear zz;intro y3
  exact i12 ⟨y.fin,vI i,vI y.w,y.l⟩ ⟨y1,by refine(?_:y.fin.length+_<_);exact Nat.lt_of_le_of_lt (qr (Nat.add_le_add_right y2 _) (Nat.le_of_eq (Nat.add_right_comm _ 15 _))) h⟩ (jg [.b true,.loop .next (lb s y.fin (vI i) (vI y.w) y.l none) sg0] (fun t=>q9 (congrArg some hb) (q9 (zk (by exact Nat.lt_of_add_right_lt h:x.fin.length<3000)) (q9 tt (q9 y3 t)))) (by kernel_rfl))
theorem pn{xs:List T}(n:Int)(h:xs.length≤LIM)(hn:0≤n):wa xs none (some (.int n)) none=some (xs.take n.toNat):=by
 unfold wa;refine rwg (decide_eq_true h) ?_;refine(?_:(grd (decide (0≤n)) (some (xs.take n.toNat)))=_);refine rwg (decide_eq_true hn) ?_;rfl
theorem i6{xs:List T}(h:xs.length≤LIM):wa xs none none (some (.int (-1)))=some xs.reverse:=by
 unfold wa;refine rwg (decide_eq_true h) ?_;rfl
theorem fh {xs:List T} (h:xs.length≤LIM):ze "len" [.list xs]=some (.val (.int xs.length)):=by
 refine(?_:yj "len" xs=_)
 unfold yj;refine rwg (decide_eq_true h) ?_;rfl
theorem q8a (C:Calls) (xs:List Int) (h:xs.length≤63):∃fin,Ints fin∧fin.length≤140∧C.step.callF "_law_shells" [.list (xs.map .int)] sg0 (.list fin) sg0:=by
 have hl:(xs.map T.int).length≤LIM:=by refine rwg (qi _) ?_;exact qr h (by decide)
 obtain⟨y,⟨⟨y1,y2⟩,_⟩,y3⟩:=u4 (X:=jx C "_law_shells" [1]) (env:=ShS.env (.list (xs.map .int))) (sg:=fun z_=>sg0) (ok:=fun l x=>(Ints x.fin∧x.fin.length+15*l.length<3000)∧Ints l)
  ((xs.map T.int).take 36) ⟨[],none,none,none⟩ ⟨⟨fun z_ h=>(nomatch h),by refine(?_:0+15*_<_);refine rwg List.length_take ?_;lia⟩,fun t ht=>by
   obtain⟨i,_,e⟩:=List.mem_map.mp (List.mem_of_mem_take ht);exact⟨i,e.symm⟩⟩ (fun x a r ⟨⟨k1,k2⟩,k3⟩=>by
   refine e11 (k3 a (.head _)) fun j zz1=>?_;subst zz1
   replace k2:=qj▸k2
   obtain⟨x',z1,z2⟩:=q4h C _ x j r k2 k1
   exact i12 x' ⟨z1,fun t ht=>k3 t (.tail _ ht)⟩ z2)
 have yl:y.fin.length≤LIM:=qr (by have:y.fin.length+15*0<3000:=y2;exact b4 this rfl:y.fin.length≤3000) (by decide)
 generalize hm:(if (140:Int)<y.fin.length then (140:Int) else (y.fin.length:Int))=m
 have hm0:0≤m∧m≤140:=by subst hm;split <;> lia
 refine i13 (y.fin.take m.toNat).reverse (fun t ht=>y1 t (List.mem_of_mem_take (List.mem_reverse.mp ht))) (by refine rwg List.length_reverse<|rwg List.length_take ?_;lia) ?_
 exact j8 [.l ((xs.map T.int).take 36),.loop .next (y.env (.list (xs.map .int))) sg0,.e (.val (.int y.fin.length)),.e (.val (.int m)),.l (y.fin.take m.toNat),.l (y.fin.take m.toNat).reverse]
  (fun t=>q9 (pn 36 hl (by decide)) (q9 y3 (q9 (fh yl) (q9 (by(refine rwl hm ?_;rfl):ze "min" [.int y.fin.length,.int 140]=some (.val (.int m))) (q9 (pn m yl hm0.1)
   (q9 (i6 (xs:=y.fin.take m.toNat) (by refine rwg List.length_take ?_;exact qr (Nat.min_le_right _ _) yl)) t)))))) (by kernel_rfl)
structure Cls where
 above:List Str
 slots:List (Str×Str)
 protos:List (Str×Int)
 says:Int
noncomputable def jz(p:Str×Str):T:=.tup [.str p.1,.str p.2]
noncomputable def zq(q:Str×Int):Str×T:=(q.1,.int q.2)
noncomputable def Cls.t (c:Cls):T:=.dict [("above",.list (c.above.map .str)),("slots",.list (c.slots.map jz)),("protos",.dict (c.protos.map zq)),("says",.int c.says)]
noncomputable abbrev Wd:=List (Str×Cls)
noncomputable def vd(w:Wd):List (Str×T):=w.map fun p=>(p.1,p.2.t)
noncomputable def allNames:List Str:=["A","B","C","D"]
noncomputable def lv (n:Str):List Str:=["numeric","character","list","matrix",n,"A"]
noncomputable def q4y (n:Str):Str:=(ny n).getD ""
noncomputable def zo(n:Str)(j:Nat):Str:=q4y n++Str.ofString (toString (j:Int))
noncomputable def zm(n:Str):Nat->List Str->List (Str×Str)
 | _,[]=>[]
 | j,k::r=>(zo n j,k)::zm n (j+1) r
structure dz(pre:List Str)(n:Str)(c:Cls):Prop where
 name:n∈allNames
 above:∀p∈c.above,p∈pre
 nodup:c.above.Nodup
 slots:∃ks:List Str,ks.length≤3∧(∀k∈ks,k∈lv n)∧c.slots=zm n 0 ks
 protos:(∀q∈c.protos,q.1∈c.slots.map (·.1)∧(q.2=0∨q.2=1))∧(c.protos.map (·.1)).Nodup
 says:0≤c.says∧c.says<5
noncomputable def WOk:List Str->Wd->Prop
 | _,[]=>True
 | pre,(n,c)::r=>dz pre n c∧WOk (pre++[n]) r
theorem WOk.snoc{n:Str}{c:Cls}:∀{w:Wd}{pre:List Str},WOk pre w->dz (pre++w.map (·.1)) n c->WOk pre (w++[(n,c)]):=by
 intro w
 induction w with
 | nil=>
  intro pre _ h
  exact⟨by simpa using h,trivial⟩
 | cons zz r ih=>
  obtain⟨m,d⟩:=zz
  intro pre k h
  exact⟨k.1,ih k.2 (by simpa using h)⟩
theorem b8(n k:Str):∀(ks:List Str)(j:Nat),zm n j (ks++[k])=zm n j ks++[(zo n (j+ks.length),k)]:=by
 intro ks
 induction ks with
 | nil=>
  intro j
  exact rfl
 | cons a r ih=>
  intro j
  refine(?_:(zo n j,a)::zm n (j+1) (r++[k])=_)
  (refine rwg (ih (j+1))<|rwg qj ?_;rewrite[show j+1+r.length=j+(r.length+1) by exact Nat.add_right_comm j 1 _]);rfl
theorem yx(n:Str):∀(ks:List Str)(j:Nat),(zm n j ks).length=ks.length:=by
 intro ks
 induction ks with
 | nil=>
  intro _
  exact rfl
 | cons _ r ih=>
  intro j
  exact congrArg (·+1) (ih (j+1))
theorem yw{n x:Str}:∀{ks:List Str}{j:Nat},x∈(zm n j ks).map (·.1)->∃i,j≤i∧i<j+ks.length∧x=zo n i:=by
 intro ks
 induction ks with
 | nil=>
  intro _ h
  exact nomatch h
 | cons a r ih=>
  intro j h
  rcases ql.mp h with rfl | h
  ·exact i13 j (Nat.le_refl _) (by refine rwg qj ?_;exact Nat.lt_add_of_pos_right (Nat.succ_pos _)) rfl
  ·refine e13 (ih h) fun i h1 h2 h3=>?_
   exact i13 i (by exact Nat.le_of_succ_le h1) (by refine rwg qj ?_;exact Nat.add_right_comm j 1 _▸h2) h3
theorem mv:∀n∈allNames,∀m∈allNames,∀i,i<3->∀j,j<3->zo n i=zo m j->n=m∧i=j:=by decide +kernel
theorem q2u{xs:List T}{i:Int}{t:T}(h0:0≤i)(h1:i<1000000)(h:xs[i.toNat]? = some t):zu (.list xs) (.int i)=some t:=by
 refine(?_:idx xs i=_)
 simp only [idx];refine rwg (decide_eq_true h0)<|rwg (decide_eq_true h1) ?_;exact h
theorem oh(x:Str):∀l:List Str,q0z x (l.map .str)=some (decide (x∈l)):=by
 intro l
 induction l with
 | nil=>
  exact rfl
 | cons a r ih=>
  refine(?_:opt (q0z x (r.map .str)) (fun b=>some (decide (a=x) || b))=_)
  refine rwg (ih) ?_
  refine(?_:some (decide (a=x) || decide (x∈r))=_)
  congr 1
  by_cases h:a=x
  ·subst h;simp
  ·simp[h,Ne.symm h]
theorem uo(x:Str)(l:List Str):uu .In (.str x) (.list (l.map .str))=some (decide (x∈l)):=oh x l
theorem t8(x:Str)(l:List Str):uu .NotIn (.str x) (.list (l.map .str))=some (!decide (x∈l)):=by
 refine(?_:noT (q0z x (l.map .str))=_);refine rwg (oh _ _) ?_;rfl
theorem yg{k:Str}{v:T}:∀{es:List (Str×T)},k∉es.map (·.1)->dput k v es=es++[(k,v)]:=by
 intro es
 induction es with
 | nil=>
  intro _
  exact rfl
 | cons zz r ih=>
  obtain⟨a,u⟩:=zz
  intro h
  dsimp only [dput]
  refine rwg (if_neg (fun e=>h (by rw[qv,e];exact .head _)))<|rwg (ih fun q=>h (.tail _ q)) ?_;rfl
theorem fe{es:List (Str×T)}(h:es.length<1000)(n:(es.map (·.1)).Nodup):okD es=true:=by
 unfold okD;refine rwg (decide_eq_true (Nat.lt_trans h (by decide)))<|rwg (decide_eq_true n) ?_;rfl
noncomputable def jw(j m:Nat):List T:=(List.range' j m).map fun(i:Nat)=>.int (i:Int)
theorem y8(m:Nat):rng (m:Int)=jw 0 m:=by dsimp only [rng,jw];exact rwg (Int.toNat_natCast _)<|rwg List.range_eq_range' rfl
theorem mw{j m:Nat}{a:T}{r:List T}(h:a::r=jw j m):∃m',m=m'+1∧a = .int (j:Int)∧r=jw (j+1) m':=by
 induction m using Nat.casesOn with
 | zero=>exact nomatch h
 | succ m'=>exact i13 m' rfl (by unfold jw at h;rw[List.range'_succ] at h;exact(List.cons.inj h).1) (by unfold jw at h;rw[List.range'_succ] at h;exact(List.cons.inj h).2)
noncomputable def sgW(xs:List T):List SO:=[.tab,.tab,.list xs]
noncomputable def q3w (C:Calls):Prop:=∀(xs:List T) (m:Int),Ints xs→xs.length≤LIM→0<m→m<1000000→∃r xs',Ints xs'∧xs'.length≤LIM∧0≤r∧r<m∧C.callF "_law_shell" [.sh 2,.int m] (sgW xs) (.val (.int r)) (sgW xs')
theorem qb3(C:Calls):q3w C.step:=fun xs m q hl h0 h1=>by
 induction hb:decide (xs.length=0) using qg with
 | true=>
  obtain rfl:=List.eq_nil_of_length_eq_zero (of_decide_eq_true hb)
  exact i25 0 [] (fun z_ h=>(nomatch h)) hl (Int.le_refl _) h0 (j8 [] (fun t=>t) (by kernel_rfl))
 | false=>
  have hn:xs≠[]:=fun e=>by replace hb:=e▸hb;exact Bool.noConfusion hb
  refine e11 (q _ (List.getLast_mem hn)) fun i hi=>?_
  have hm:aq .Mod (.int i) (.int m)=some (.val (.int (i.fmod m))):=by
   refine(?_:qcf (fun i j=>grd (small j) (some (Int.fmod i j))) (.int i) (.int m)=_)
   refine(?_:opt (grd (small m) (some (Int.fmod i m))) _=_)
   refine rwg (small.eq_1 _) ?_;refine rwg (decide_eq_true h0)<|rwg (decide_eq_true h1) ?_;rfl
  have hc:uu .NotEq (.list xs) (.list [])=some true:=by
   refine(?_:noT (opt (some []) fun ys=>cond (decide (xs.length=ys.length)) (teq.go 39 xs ys) (some false))=_)
   refine(?_:noT (cond (decide (xs.length=0)) (teq.go 39 xs []) (some false))=_)
   refine rwg hb ?_;rfl
  exact⟨i.fmod m,xs.dropLast,fun t ht=>q t (List.dropLast_subset xs ht),by refine rwg List.length_dropLast ?_;exact qr (Nat.sub_le _ _) hl,Int.fmod_nonneg_of_pos _ h0,Int.fmod_lt_of_pos _ h0,
   j8 [.b true,.t (.int i),.e (.val (.int (i.fmod m)))] (fun t=>q9 hc (q9 (decide_eq_true hl) (q9 ((List.getLast?_eq_some_getLast hn).trans (congrArg some hi)) (q9 hm t)))) (by kernel_rfl)⟩
noncomputable def qje(names:List T)(world:List (Str×T))(at_ name above lap parent slots protos slot kinds:Option Ent):Loc:=
 [("shells",vT (.sh 2)),("names",some (.list names)),("world",some (.dict world)),("at",at_),("name",name),("above",above),("lap",lap),("parent",parent),("slots",slots),("protos",protos),("slot",slot),("kinds",kinds)]
structure W1 where
 xs:List T
 ab:List T
 lap:Option Ent
 par:Option Ent
structure qju(pre:List Str)(n:Nat)(s:W1)(ab:List Str):Prop where
 xs:Ints s.xs
 len:s.xs.length≤LIM
 hab:s.ab=ab.map .str
 sub:∀p∈ab,p∈pre
 nd:ab.Nodup
 n:ab.length+n≤4
structure W1E where
 names:List Str
 world:List (Str×T)
 at_:Nat
 name:Str
 sl:Option Ent
 pr:Option Ent
 slot:Option Ent
 kinds:Option Ent
noncomputable def W1E.env(e:W1E)(s:W1):Loc:=qje (e.names.map .str) e.world (vI e.at_) (vS e.name) (some (.list s.ab)) s.lap s.par e.sl e.pr e.slot e.kinds
theorem py(l:List Str)(i:Nat)(h:i<l.length)(hi:i<1000000):zu (.list (l.map .str)) (.int (i:Int))=some (.str l[i]):=by
 refine q2u (Int.natCast_nonneg i) (by exact leI hi rfl) ?_
 refine rwg (Int.toNat_natCast _)<|rwg List.getElem?_map<|rwg (qt h) ?_;rfl
theorem q7w{C:Calls}(D:q3w C)(e:W1E)(s:W1)(ab:List Str)(lap:Int)(n:Nat)(hp:e.at_<100)(hn:e.at_≤e.names.length)(h:qju (e.names.take e.at_) (n+1) s ab):
  ∃s' ab',qju (e.names.take e.at_) n s' ab'∧wq (jx C "_law_world" [2,2] (.int lap)) (e.env s) (sgW s.xs) .next (e.env s') (sgW s'.xs):=by
 induction hb:decide ((e.at_:Int)>0) using qg with
 | false=>exact i22 ⟨s.xs,s.ab,vI lap,s.par⟩ ab ⟨h.xs,h.len,h.hab,h.sub,h.nd,by have:=h.n;exact b7 this⟩ (jg [.b false] (fun t=>q9 (congrArg some hb) t) (by kernel_rfl))
 | true=>
  refine e25 (D s.xs e.at_ h.xs h.len (of_decide_eq_true hb) (by exact leI hp rfl)) fun r xs' q1 q2 q3 q4 q5=>?_
  have hr:r.toNat<e.names.length:=by lia
  have hi:zu (.list (e.names.map .str)) (.int r)=some (.str e.names[r.toNat]):=by
   have:=py e.names r.toNat hr (by lia);rwa [Int.toNat_of_nonneg q3] at this
  have hc:=t8 e.names[r.toNat] ab
  rw[←h.hab] at hc
  induction hd:decide (e.names[r.toNat]∈ab) using qg with
  | true=>
   rw[hd] at hc
   exact⟨⟨xs',s.ab,vI lap,vS e.names[r.toNat]⟩,ab,⟨q1,q2,h.hab,h.sub,h.nd,by have:=h.n;exact b7 this⟩,jg [.b true,.call (.val (.int r)) (sgW xs'),.t (.str e.names[r.toNat]),.b false]
    (fun t=>q9 (congrArg some hb) (q9 q5 (q9 hi (q9 hc t)))) (by kernel_rfl)⟩
  | false=>
   rw[hd] at hc
   have hl:s.ab.length<3000:=by refine rwg h.hab<|rwg (qi _) ?_;have:=h.n;exact b5 this rfl
   refine⟨⟨xs',s.ab++[.str e.names[r.toNat]],vI lap,vS e.names[r.toNat]⟩,ab++[e.names[r.toNat]],⟨q1,q2,?_,?_,?_,by refine rwg qk ?_;exact(by have:=h.n;exact a1 this:ab.length+1+n≤4)⟩,jg [.b true,.call (.val (.int r)) (sgW xs'),.t (.str e.names[r.toNat]),.b true]
    (fun t=>q9 (congrArg some hb) (q9 q5 (q9 hi (q9 hc (q9 (zk hl) t))))) (by kernel_rfl)⟩
   ·refine(?_:s.ab++_=_);refine rwg h.hab<|rwg qu ?_;rfl
   ·intro p hp'
    rcases qz.mp hp' with hp' | hp'
    ·exact h.sub p hp'
    ·refine rwg (List.mem_singleton.mp hp') ?_
     exact List.mem_take_iff_getElem.mpr ⟨r.toNat,by lia,rfl⟩
   ·rw[List.nodup_append]
    exact i03 h.nd (by simp) (fun a ha b hb'=>by refine rwg (List.mem_singleton.mp hb') ?_;intro z;rw[z] at ha;exact of_decide_eq_false hd ha)
structure W2 where
 xs:List T
 lap:Option Ent
 sl:List T
 pr:List (Str×T)
 slot:Option Ent
 kinds:Option Ent
structure qjt(n:Str)(s:W2)(ks:List Str)(pr:List (Str×Int)):Prop where
 xs:Ints s.xs
 len:s.xs.length≤LIM
 sl:s.sl=(zm n 0 ks).map jz
 hpr:s.pr=pr.map zq
 hks:∀k∈ks,k∈lv n
 sub:∀q∈pr,q.1∈(zm n 0 ks).map (·.1)∧(q.2=0∨q.2=1)
 nd:(pr.map (·.1)).Nodup
 pl:pr.length≤ks.length
structure W2E where
 names:List Str
 world:List (Str×T)
 at_:Option Ent
 name:Str
 ab:Option Ent
 par:Option Ent
noncomputable def W2E.env (e:W2E) (s:W2):Loc:=qje (("A":Str)::e.names |>.map .str) e.world e.at_ (vS e.name) e.ab s.lap e.par (some (.list s.sl)) (some (.dict s.pr)) s.slot s.kinds
theorem y5 {P:Str→Prop} (a:P "A") (b:P "B") (c:P "C") (d:P "D"):∀n∈allNames,P n:=fun n h=>by
 rcases ql.mp h with rfl | h
 ·exact a
 rcases ql.mp h with rfl | h
 ·exact b
 rcases ql.mp h with rfl | h
 ·exact c
 rcases ql.mp h with rfl | h
 ·exact d
 ·cases h
theorem qbt {n:Str} (h:n∈allNames):uj "lower" n []=some (.val (.str (q4y n))):=
 y5 (P:=fun n=>uj "lower" n []=some (.val (.str (q4y n)))) (by kernel_rfl) (by kernel_rfl) (by kernel_rfl) (by kernel_rfl) n h
theorem qat (i:Int):ze "str" [.int i]=opt (s9 i) fun x=>some (.val (.str x)):=by kernel_rfl
theorem qig {j:Nat} (h:j<100):ze "str" [.int (j:Int)]=some (.val (.str (Str.ofString (toString (j:Int))))):=by
 refine rwg (qat _) ?_
 unfold s9;rw[decide_eq_true (Int.natCast_nonneg j),decide_eq_true (by exact leI h rfl:(j:Int)<100000)];rfl
theorem q48:∀n∈allNames,∀j:Nat,j<3->decide ((q4y n).length+(Str.ofString (toString (j:Int))).length≤gw)=true:=by decide +kernel
theorem qfx {n:Str} {r:Int} (h0:0≤r) (h1:r<6):∃k∈lv n,zu (.list [.str "numeric",.str "character",.str "list",.str "matrix",.str n,.str "A"]) (.int r)=some (.str k):=by
 have:r=0∨r=1∨r=2∨r=3∨r=4∨r=5:=by lia
 rcases this with rfl | rfl | rfl | rfl | rfl | rfl
 ·exact i12 _ (.head _) rfl
 ·exact i12 _ (.tail _ (.head _)) rfl
 ·exact i12 _ (.tail _ (.tail _ (.head _))) rfl
 ·exact i12 _ (.tail _ (.tail _ (.tail _ (.head _)))) rfl
 ·exact i12 _ (.tail _ (.tail _ (.tail _ (.tail _ (.head _))))) rfl
 ·exact i12 _ (.tail _ (.tail _ (.tail _ (.tail _ (.tail _ (.head _)))))) rfl
theorem q7v{C:Calls}(D:q3w C)(e:W2E)(hnm:e.name∈allNames)(s:W2)(ks:List Str)(pr:List (Str×Int))(hk:ks.length<3)(h:qjt e.name s ks pr):
  ∃s' k pr',qjt e.name s' (ks++[k]) pr'∧wq (jx C "_law_world" [2,5] (.int (ks.length:Int))) (e.env s) (sgW s.xs) .next (e.env s') (sgW s'.xs):=by
 refine e25 (D s.xs 6 h.xs h.len (by decide) (by decide)) fun r1 x1 a1 a2 a3 a4 a5=>?_
 refine e12 (qfx (n:=e.name) a3 a4) fun k k1 k2=>?_
 refine e25 (D x1 3 a1 a2 (by decide) (by decide)) fun r2 x2 b1 b2 b3 b4 b5=>?_
 refine e25 (D x2 2 b1 b2 (by decide) (by decide)) fun r3 x3 c1 c2 c3 c4 c5=>?_
 have z1:=qbt hnm
 have z2:=qig (j:=ks.length) (by exact leK hk rfl)
 have z3:aq .Add (.str (q4y e.name)) (.str (Str.ofString (toString (ks.length:Int))))=some (.val (.str (zo e.name ks.length))):=by
  refine(?_:opt (qed _ _) _=_)
  unfold qed;refine rwg (q48 _ hnm _ hk) ?_;rfl
 have hl:s.sl.length<3000:=by refine rwg h.sl<|rwg (qi _)<|rwg (yx _ _ _) ?_;exact ltL hk rfl
 have hs:s.sl++[.tup [.str (zo e.name ks.length),.str k]]=(zm e.name 0 (ks++[k])).map jz:=by(rewrite[b8];refine rwg qu<|rwg h.sl<|rwg (Nat.zero_add _) ?_);rfl
 have hsub:∀q∈pr,q.1∈(zm e.name 0 (ks++[k])).map (·.1)∧(q.2=0∨q.2=1):=fun q hq=>⟨by(rewrite[b8];refine rwg qu ?_);exact List.mem_append_left _ (h.sub q hq).1,(h.sub q hq).2⟩
 have hks:∀k'∈ks++[k],k'∈lv e.name:=fun k' hk'=>by
  rcases qz.mp hk' with q | q
  ·exact h.hks _ q
  ·refine rwg (List.mem_singleton.mp q) ?_;exact k1
 let kd:Ent:=.list [.str "numeric",.str "character",.str "list",.str "matrix",.str e.name,.str "A"]
 induction hb:decide (r2=2) using qg with
 | false=>exact⟨⟨x2,vI ks.length,s.sl++[.tup [.str (zo e.name ks.length),.str k]],s.pr,vS (zo e.name ks.length),some kd⟩,k,pr,⟨b1,b2,hs,h.hpr,hks,hsub,h.nd,by refine rwg qk ?_;have:=h.pl;exact qr this (Nat.le_succ _)⟩,
   jg [.e (.val (.str (q4y e.name))),.e (.val (.str (Str.ofString (toString (ks.length:Int))))),.e (.val (.str (zo e.name ks.length))),.call (.val (.int r1)) (sgW x1),.t (.str k),.call (.val (.int r2)) (sgW x2),.b false]
    (fun t=>q9 z1 (q9 z2 (q9 z3 (q9 a5 (q9 k2 (q9 (zk hl) (q9 b5 (q9 (congrArg some hb) t)))))))) (by kernel_rfl)⟩
 | true=>
  have hnew:zo e.name ks.length∉pr.map (·.1):=fun hm=>by
   refine e12 (List.mem_map.mp hm) fun q q1 q2=>?_
   refine e13 (yw (h.sub q q1).1) fun i i1 i2 i3=>?_
   rw[q2] at i3
   have:=(mv _ hnm _ hnm _ hk i (by lia) i3).2
   lia
  have hkeys:s.pr.map (·.1)=pr.map (·.1):=by refine rwg h.hpr<|rwg List.map_map ?_;rfl
  have hok:okD s.pr=true:=fe (by refine rwg h.hpr<|rwg (qi _) ?_;have:=h.pl;lia) (by refine rwg hkeys ?_;exact h.nd)
  refine⟨⟨x3,vI ks.length,s.sl++[.tup [.str (zo e.name ks.length),.str k]],dput (zo e.name ks.length) (.int r3) s.pr,vS (zo e.name ks.length),some kd⟩,k,pr++[(zo e.name ks.length,r3)],⟨c1,c2,hs,?_,hks,?_,?_,by refine rwg qk<|rwg qk ?_;exact Nat.add_le_add_right h.pl 1⟩,
   jg [.e (.val (.str (q4y e.name))),.e (.val (.str (Str.ofString (toString (ks.length:Int))))),.e (.val (.str (zo e.name ks.length))),.call (.val (.int r1)) (sgW x1),.t (.str k),.call (.val (.int r2)) (sgW x2),.b true,.call (.val (.int r3)) (sgW x3)]
    (fun t=>q9 z1 (q9 z2 (q9 z3 (q9 a5 (q9 k2 (q9 (zk hl) (q9 b5 (q9 (congrArg some hb) (q9 c5 (q9 hok t)))))))))) (by kernel_rfl)⟩
  ·refine(?_:dput _ _ s.pr=_)
   refine rwg (yg (by rw[hkeys];exact hnew))<|rwg h.hpr<|rwg qu ?_;rfl
  ·intro q hq
   rcases qz.mp hq with hq | hq
   ·exact hsub q hq
   ·refine rwg (List.mem_singleton.mp hq) ?_
    refine⟨?_,by refine(?_:r3=0∨r3=1);lia⟩
    (rewrite[b8];refine rwg (Nat.zero_add _)<|rwg qu ?_);exact List.mem_append_right _ (.head _)
  ·(refine rwg qu ?_;rewrite[List.nodup_append])
   exact i03 h.nd (by simp) (fun a ha b hb'=>by refine rwg (List.mem_singleton.mp hb') ?_;intro z;rw[z] at ha;exact hnew ha)
structure W3 where
 xs:List T
 world:List (Str×T)
 at_:Option Ent
 name:Option Ent
 above:Option Ent
 lap:Option Ent
 par:Option Ent
 slots:Option Ent
 protos:Option Ent
 slot:Option Ent
 kinds:Option Ent
noncomputable def W3.env(ns:List Str)(s:W3):Loc:=qje (ns.map .str) s.world s.at_ s.name s.above s.lap s.par s.slots s.protos s.slot s.kinds
structure qjs(ns:List Str)(s:W3)(w:Wd):Prop where
 xs:Ints s.xs
 len:s.xs.length≤LIM
 hw:s.world=vd w
 ok:WOk [] w
 keys:w.map (·.1)=ns.take w.length
theorem q0j{r:Int}(h:0≤r):∃n:Nat,r=n:=⟨r.toNat,(Int.toNat_of_nonneg h).symm⟩
theorem q0k(j m:Nat):Ints (jw j m):=fun t ht=>by
 obtain⟨i,_,e⟩:=List.mem_map.mp ht;exact⟨i,e.symm⟩
theorem yu(j m:Nat):(jw j m).length=m:=by unfold jw;exact rwg (qi _)<|rwg List.length_range' rfl
theorem q3x {C:Calls} (D:q3w C) (ns:List Str) (hns:ns.length≤4) (hA:∃r,ns=("A":Str)::r) (nd:ns.Nodup) (hall:∀n∈ns,n∈allNames) (s:W3) (w:Wd) (hi:w.length<ns.length) (h:qjs ns s w) :
  ∃s' p,qjs ns s' (w++[p])∧wq (jx C "_law_world" [2] (.int (w.length:Int))) (s.env ns) (sgW s.xs) .next (s'.env ns) (sgW s'.xs):=by
 refine e11 hA fun nr zz1=>?_;clear hA;subst zz1
 have hnm:(("A":Str)::nr)[w.length]∈allNames:=hall _ (List.getElem_mem hi)
 refine e25 (D s.xs 3 h.xs h.len (by decide) (by decide)) fun r1 x1 a1 a2 a3 a4 a5=>?_
 refine e11 (q0j a3) fun n1 zz1=>?_;subst zz1
 have a6:n1<3:=Int.ofNat_lt.mp a4
 have hw4:=qr (j4 hi) hns
 let e1:W1E:=⟨("A":Str)::nr,s.world,w.length,(("A":Str)::nr)[w.length],s.slots,s.protos,s.slot,s.kinds⟩
 obtain⟨s1,⟨ab,b1,_⟩,b2⟩:=u4 (X:=jx C "_law_world" [2,2]) (env:=e1.env) (sg:=fun s=>sgW s.xs) (ok:=fun l s=>∃ab,qju ((("A":Str)::nr).take w.length) l.length s ab∧Ints l) (jw 0 n1) ⟨x1,[],s.lap,s.par⟩
  (i12 [] ⟨a1,a2,rfl,fun z_ h=>(nomatch h),.nil,(by refine rwg (yu _ _) ?_;exact leD (c:=0) (j4 a6) rfl)⟩ (q0k _ _)) (fun s a r ⟨ab,k1,k2⟩=>by
   refine e11 (k2 a (.head _)) fun i zz1=>?_;subst zz1
   refine e22 (q7w D e1 s ab i r.length (ltK hw4 rfl) (j4 hi) k1) fun s' ab' z1 z2=>?_
   exact i12 s' (i12 ab' z1 (fun t ht=>k2 t (.tail _ ht))) z2)
 refine e25 (D s1.xs 4 b1.xs b1.len (by decide) (by decide)) fun r2 x2 c1 c2 c3 c4 c5=>?_
 refine e11 (q0j c3) fun n2 zz1=>?_;subst zz1
 have c6:n2<4:=Int.ofNat_lt.mp c4
 let e2:W2E:=⟨nr,s.world,vI w.length,(("A":Str)::nr)[w.length],some (.list s1.ab),s1.par⟩
 obtain⟨s2,⟨ks,pr,m',d1,d2,d3⟩,d4⟩:=u4 (X:=jx C "_law_world" [2,5]) (env:=e2.env) (sg:=fun s=>sgW s.xs) (ok:=fun l s=>∃ks pr m',qjt e2.name s ks pr∧ks.length+m'=n2∧l=jw ks.length m') (jw 0 n2) ⟨x2,s1.lap,[],[],s.slot,s.kinds⟩
  (i33 [] [] n2 ⟨c1,c2,rfl,rfl,fun z_ h=>(nomatch h),fun z_ h=>(nomatch h),.nil,Nat.le_refl 0⟩ (Nat.zero_add _) rfl) (fun s a r ⟨ks,pr,m',k1,k2,k3⟩=>by
   refine e13 (mw k3) fun m'' zz1 zz2 k4=>?_;subst zz1;subst zz2
   refine e32 (q7v D e2 hnm s ks pr (by lia) k1) fun s' k pr' z1 z2=>?_
   exact i12 s' (i33 (ks++[k]) pr' m'' z1 (by refine rwg qk ?_;simp;lia) (by refine rwg k4<|rwg qk ?_;rfl)) z2)
 refine e25 (D s2.xs 5 d1.xs d1.len (by decide) (by decide)) fun r3 x3 f1 f2 f3 f4 f5=>?_
 have hkeys:s.world.map (·.1)=(("A":Str)::nr).take w.length:=by refine rwl h.keys<|rwg h.hw ?_;skip;refine rwg List.map_map ?_;rfl
 have hnew:(("A":Str)::nr)[w.length]∉s.world.map (·.1):=by
  refine rwg hkeys ?_;intro hm
  obtain⟨j,j1,j2⟩:=List.mem_take_iff_getElem.mp hm
  have:=(List.getElem_inj (i:=j) (j:=w.length) (h₀:=by lia) (h₁:=hi) nd).mp j2
  lia
 have hok:okD s.world=true:=fe (by refine rwg h.hw ?_;skip;refine rwg (qi _) ?_;exact ltK hw4 rfl) (by refine rwg hkeys ?_;exact List.Sublist.nodup (List.take_sublist _ _) nd)
 let c:Cls:=⟨ab,zm (("A":Str)::nr)[w.length] 0 ks,pr,r3⟩
 have hc:T.dict [("above",.list s1.ab),("slots",.list s2.sl),("protos",.dict s2.pr),("says",.int r3)]=c.t:=by refine rwg b1.hab<|rwg d1.sl<|rwg d1.hpr ?_;rfl
 let s3:W3:=⟨x3,dput (("A":Str)::nr)[w.length] (.dict [("above",.list s1.ab),("slots",.list s2.sl),("protos",.dict s2.pr),("says",.int r3)]) s.world,vI w.length,vS (("A":Str)::nr)[w.length],vT (.list s1.ab),s2.lap,s1.par,vT (.list s2.sl),vT (.dict s2.pr),s2.slot,s2.kinds⟩
 refine⟨s3,((("A":Str)::nr)[w.length],c),⟨f1,f2,?_,?_,?_⟩,
  jg [.t (.str (("A":Str)::nr)[w.length]),.call (.val (.int n1)) (sgW x1),.loop .next (e1.env s1) (sgW s1.xs),.call (.val (.int n2)) (sgW x2),.loop .next (e2.env s2) (sgW s2.xs),.call (.val (.int r3)) (sgW x3)]
   (fun t=>q9 (py _ w.length hi (by exact ltK hw4 rfl)) (q9 a5 (q9 (by(refine rwg (decide_eq_true a3)<|rwg (decide_eq_true (leI (m:=LIM) (j4 a6) rfl)) ?_;rfl):(decide (0≤(n1:Int))&&decide ((n1:Int)≤LIM))=true) (q9 (y8 n1▸b2)
    (q9 c5 (q9 (by(refine rwg (decide_eq_true c3)<|rwg (decide_eq_true (leI (m:=LIM) (j4 c6) rfl)) ?_;rfl):(decide (0≤(n2:Int))&&decide ((n2:Int)≤LIM))=true) (q9 (y8 n2▸d4) (q9 f5 (q9 hok t))))))))) (by kernel_rfl)⟩
 ·refine(?_:dput _ _ s.world=_)
  refine rwg (yg hnew)<|rwg hc<|rwg h.hw ?_;unfold vd;refine rwg qu ?_;rfl
 ·refine h.ok.snoc ⟨hnm,fun p hp=>?_,b1.nd,(i13 ks (Nat.le_of_lt_succ (Nat.lt_of_le_of_lt (d2▸Nat.le_add_right _ _) c6)) d1.hks rfl),⟨d1.sub,d1.nd⟩,f3,f4⟩
  refine rwg h.keys ?_;exact b1.sub p hp
 ·refine rwg qu<|rwg h.keys<|rwg qk ?_
  refine(?_:_++[(("A":Str)::nr)[w.length]]=List.take (w.length+1) _)
  refine rwg List.take_add_one<|rwg (qt hi) ?_;rfl
theorem qae{C:Calls}(D:q3w C)(xs:List T)(q:Ints xs)(hl:xs.length≤LIM):
  ∃w xs',WOk [] w∧0<w.length∧w.length≤4∧w.map (·.1)=allNames.take w.length∧Ints xs'∧C.step.callF "_law_world" [.sh 2] (sgW xs) (.val (.tup [.list (w.map fun p=>.str p.1),.dict (vd w)])) (sgW xs'):=by
 refine e25 (D xs 4 q hl (by decide) (by decide)) fun r x1 a1 a2 a3 a4 a5=>?_
 refine e11 (q0j a3) fun k zz1=>?_;subst zz1
 have hk:k<4:=by exact Int.ofNat_lt.mp a4
 let ns:List Str:=allNames.take (k+1)
 have hns:ns.length=k+1:=by refine(?_:(List.take _ _).length=_);refine rwg List.length_take ?_;exact Nat.min_eq_left (by refine(?_:k+1≤4);exact Nat.succ_le_of_lt hk)
 have hA:∃r,ns=("A":Str)::r:=⟨_,rfl⟩
 have nd:ns.Nodup:=List.Sublist.nodup (List.take_sublist _ _) (by decide +kernel)
 obtain⟨s,⟨w,b1,b3⟩,b4⟩:=u4 (X:=jx C "_law_world" [2]) (env:=W3.env ns) (sg:=fun s=>sgW s.xs) (ok:=fun l s=>∃w,qjs ns s w∧w.length+l.length=k+1∧l=jw w.length l.length) (jw 0 (k+1)) ⟨x1,[],none,none,none,none,none,none,none,none,none⟩
  (i13 [] ⟨a1,a2,rfl,trivial,rfl⟩ (by refine rwg (yu _ _) ?_;exact Nat.zero_add _) (by refine rwg (yu _ _) ?_;rfl)) (fun s a r ⟨w,k1,k2,k3⟩=>by
   refine e13 (mw k3) fun m m1 zz2 m2=>?_;subst zz2
   rw[qj] at k2 m1
   refine e22 (q3x D ns (by lia) hA nd (fun n hn=>List.mem_of_mem_take hn) s w (by lia) k1) fun s' p z1 z2=>?_
   exact i12 s' (i13 (w++[p]) z1 (by refine rwg qk ?_;simp;lia) (by refine rwg qk<|rwg m2<|rwg (yu _ _) ?_;rfl)) z2)
 have hw:w.length=k+1:=by simpa using b3.1
 refine i26 w s.xs b1.ok (by exact hw▸Nat.succ_pos _) (by exact hw▸hk) ?_ b1.xs ?_
 ·exact rwg b1.keys<|rwg hw<|rwg List.take_take<|rwg (Nat.min_self _) rfl
 have e1:w.map (fun p=>T.str p.1)=ns.map .str:=by
  exact rwg (show w.map (fun p=>T.str p.1)=(w.map (·.1)).map .str by rw[List.map_map];rfl)<|rwg b1.keys<|rwg hw<|rwg List.take_take<|rwg (Nat.min_self _) rfl
 refine rwg e1<|rwl b1.hw ?_
 have e2:wa [.str "A",.str "B",.str "C",.str "D"] none (some (.int (1+k))) none=some (ns.map .str):=by
  refine rwg (pn (1+k) (by decide) (by lia))<|rwg (show (1+(k:Int)).toNat=k+1 by lia) ?_
  refine(?_:some (List.take _ (allNames.map T.str))=_)
  exact rwl List.map_take rfl
 have e3:((ns.map T.str).length:Int)=((k+1:Nat):Int):=by exact rwg (qi _)<|rwg hns rfl
 exact j8 [.call (.val (.int k)) (sgW x1),.l (ns.map .str),.e (.val (.int (ns.map T.str).length)),.loop .next (s.env ns) (sgW s.xs)]
  (fun t=>q9 a5 (q9 e2 (q9 (fh (xs:=ns.map T.str) (by refine rwg (qi _)<|rwg hns ?_;refine(?_:k+1≤4000);exact leK hk rfl)) (q9 (by(refine rwg e3 ?_;refine rwg (decide_eq_true (Int.natCast_nonneg _))<|rwg (decide_eq_true (by show ((k+1:Nat):Int)≤4000;exact leI hk rfl)) ?_;rfl):(decide (0≤((ns.map T.str).length:Int))&&decide (((ns.map T.str).length:Int)≤LIM))=true)
   (q9 (by(refine rwg e3<|rwg (y8 _) ?_;exact b4):LoopR (jx C "_law_world" [2]) (rng ((ns.map T.str).length:Int)) (W3.env ns ⟨x1,[],none,none,none,none,none,none,none,none,none⟩) (sgW x1) .next (s.env ns) (sgW s.xs)) t))))) (by kernel_rfl)
noncomputable def zd(c:List Str):List Str->List Str
 | []=>c
 | p::r=>zd (if p∈c then c else c++[p]) r
noncomputable def bfs(par:Str->List Str):Nat->Nat->List Str->List Str
 | 0,_,c=>c
 | f+1,i,c=>match c[i]? with
  | some n=>bfs par f (i+1) (zd c (par n))
  | none=>c
structure In1(U c:List Str):Prop where
 nd:c.Nodup
 sub:∀x∈c,x∈U
theorem In1.add{U c:List Str}(h:In1 U c){p:Str}(hp:p∈U):In1 U (if p∈c then c else c++[p]):=by
 by_cases k:p∈c
 ·refine rwg (if_pos k) ?_;exact h
 ·refine rwg (if_neg k) ?_
  refine⟨?_,fun x hx=>?_⟩
  ·rw[List.nodup_append]
   exact i03 h.nd (by simp) (fun a ha b hb=>by refine rwg (List.mem_singleton.mp hb) ?_;intro z;rw[z] at ha;exact k ha)
  ·rcases qz.mp hx with q | q
   ·exact h.sub x q
   ·refine rwg (List.mem_singleton.mp q) ?_;exact hp
theorem In1.adds{U:List Str}:∀{ps c:List Str},In1 U c->(∀p∈ps,p∈U)->In1 U (zd c ps)
 | [],_,h,_=>h
 | p::r,_,h,k=>In1.adds (ps:=r) (h.add (k p (.head _))) fun q hq=>k q (.tail _ hq)
theorem In1.walk{U:List Str}{par:Str->List Str}(k:∀n∈U,∀p∈par n,p∈U):∀{f i:Nat}{c:List Str},In1 U c->In1 U (bfs par f i c):=by
 intro f
 induction f with
 | zero=>
  intro _ _ h
  exact h
 | succ f ih=>
  intro i c h
  dsimp only [bfs]
  induction q:c[i]? using qe with
  | none=>exact h
  | some n=>exact ih (h.adds (k n (h.sub n (List.mem_of_getElem? q))))
theorem vj{U:List Str}:∀{c:List Str},c.Nodup->(∀x∈c,x∈U)->c.length≤U.length
 | [],_,_=>Nat.zero_le _
 | a::r,h,k=>by
  have h':=List.nodup_cons.mp h
  have hr:∀x∈r,x∈U.erase a:=fun x hx=>(List.mem_erase_of_ne (fun e=>h'.1 (by refine rwl e ?_;exact hx))).mpr (k x (.tail _ hx))
  have:=vj h'.2 hr
  rw[List.length_erase_of_mem (k a (.head _))] at this
  have:0<U.length:=List.length_pos_of_mem (k a (.head _))
  refine rwg qj ?_;exact Nat.succ_le_of_lt (Nat.lt_of_le_of_lt ‹r.length≤_› (Nat.sub_lt this Nat.one_pos))
theorem In1.len{U c:List Str}(h:In1 U c):c.length≤U.length:=vj h.nd h.sub
theorem bk(c:List Str):∀ps:List Str,∃r,zd c ps=c++r
 | []=>⟨[],(List.append_nil c).symm⟩
 | p::ps=>by
  refine(?_:∃r,zd (if p∈c then c else c++[p]) ps=_)
  by_cases k:p∈c
  ·refine rwg (if_pos k) ?_;exact bk c ps
  ·refine rwg (if_neg k) ?_;refine e11 (bk (c++[p]) ps) fun r e=>?_;exact⟨p::r,by refine rwg e<|rwg (List.append_assoc _ _ _) ?_;rfl⟩
theorem q7q(par:Str->List Str):∀(f i:Nat)(c:List Str),∃r,bfs par f i c=c++r:=by
 intro f
 induction f with
 | zero=>
  intro _ c
  exact⟨[],(List.append_nil c).symm⟩
 | succ f ih=>
  intro i c
  refine rwg (bfs.eq_2 _ _ _ _) ?_
  induction c[i]? using qe with
  | none=>exact⟨[],(List.append_nil c).symm⟩
  | some n=>obtain⟨r,e⟩:=bk c (par n);obtain⟨q,e'⟩:=ih (i+1) (zd c (par n));exact⟨r++q,by refine(?_:bfs par f (i+1) (zd c (par n))=_);exact rwg e'<|rwg e<|rwg (List.append_assoc _ _ _) rfl⟩
theorem qa8{U:List Str}{par par':Str->List Str}(k:∀n∈U,∀p∈par n,p∈U)(e:∀n∈U,par n=par' n):∀{f i:Nat}{c:List Str},In1 U c->bfs par f i c=bfs par' f i c:=by
 intro f
 induction f with
 | zero=>
  intro _ _ _
  exact rfl
 | succ f ih=>
  intro i c h
  dsimp only [bfs]
  induction q:c[i]? using qe with
  | none=>rfl
  | some n=>
   have hn:=h.sub n (List.mem_of_getElem? q)
   refine(?_:bfs par f (i+1) (zd c (par n))=bfs par' f (i+1) (zd c (par' n)))
   refine rwl (e n hn) ?_
   exact ih (h.adds (k n hn))
noncomputable def basicTab:List (Str×List Str):=[("numeric",["vector"]),("vector",[]),("character",["vector"]),("list",["vector"]),("matrix",["array"]),("array",["vector"]),("logical",["vector"]),("integer",["numeric"]),("NULL",[])]
noncomputable def z9(n:Str):Wd->Option Cls
 | []=>none
 | (m,c)::r=>if m=n then some c else z9 n r
noncomputable def wm(w:Wd)(n:Str):List Str:=match z9 n w with
 | some c=>c.above
 | none=>(ji n basicTab).getD []
noncomputable def vo(w:Wd):List Str:=w.map (·.1)++basicTab.map (·.1)
noncomputable def chain(w:Wd)(n:Str):List Str:=bfs (wm w) 20 0 [n]
theorem zw{n:Str}{c:Cls}:∀{w:Wd},z9 n w=some c->(n,c)∈w:=by
 intro w
 induction w with
 | nil=>
  intro za0
  exact(j6 za0).elim
 | cons zz r ih=>
  obtain⟨m,d⟩:=zz
  intro h
  replace h:(if m=n then some d else z9 n r)=_:=h
  by_cases k:m=n
  ·rw[if_pos k] at h;replace h:=qd h;cases h;refine rwg k ?_;exact .head _
  ·rw[if_neg k] at h;exact .tail _ (ih h)
theorem wh{n:Str}:∀{w:Wd},n∉w.map (·.1)->z9 n w=none:=by
 intro w
 induction w with
 | nil=>
  intro _
  exact rfl
 | cons zz r ih=>
  obtain⟨m,d⟩:=zz
  intro h
  dsimp only [z9]
  refine rwg (if_neg fun e=>h (by rw[qv,e];exact .head _)) ?_
  exact ih fun q=>h (.tail _ q)
theorem xj{n:Str}:∀{w:Wd},n∈w.map (·.1)->∃c,z9 n w=some c:=by
 intro w
 induction w with
 | nil=>
  intro za0
  exact absurd za0 j5
 | cons zz r ih=>
  obtain⟨m,d⟩:=zz
  intro h
  dsimp only [z9]
  by_cases k:m=n
  ·refine rwg (if_pos k) ?_;exact⟨_,rfl⟩
  ·refine rwg (if_neg k) ?_
   rcases ql.mp h with q | q
   ·exact absurd q.symm k
   ·exact ih q
theorem WOk.cls{n:Str}{c:Cls}:∀{w:Wd}{pre:List Str},WOk pre w->(n,c)∈w->∃pre',dz pre' n c∧∀x∈pre',x∈pre++w.map (·.1):=by
 intro w
 induction w with
 | nil=>
  intro za0 za1 za2
  exact absurd za2 j5
 | cons zz r ih=>
  obtain⟨m,d⟩:=zz
  intro pre h k
  rcases ql.mp k with k | k
  ·cases k;exact i12 pre h.1 (fun x hx=>List.mem_append_left _ hx)
  ·refine e12 (ih h.2 k) fun pre' h1 h2=>?_
   exact i12 pre' h1 (fun x hx=>by have:=h2 x hx;rwa [List.append_assoc] at this)
structure Wk(w:Wd):Prop where
 ok:WOk [] w
 keys:w.map (·.1)=allNames.take w.length
 len:w.length≤4
theorem Wk.all{w:Wd}(k:Wk w):∀x∈w.map (·.1),x∈allNames:=fun x h=>by rw[k.keys] at h;exact List.mem_of_mem_take h
theorem Wk.nd{w:Wd}(k:Wk w):(w.map (·.1)).Nodup:=by refine rwg k.keys ?_;exact List.Sublist.nodup (List.take_sublist _ _) (by decide +kernel)
theorem Wk.above{w:Wd}(k:Wk w){n:Str}{c:Cls}(h:z9 n w=some c):∀p∈c.above,p∈w.map (·.1):=fun p hp=>by
 refine e12 (k.ok.cls (zw h)) fun pre h1 h2=>?_
 exact h2 p (h1.above p hp)
theorem dm:∀n∈basicTab.map (·.1),∀p∈(ji n basicTab).getD [],p∈basicTab.map (·.1):=by decide +kernel
theorem dl:∀n∈allNames,n∉basicTab.map (·.1):=by decide +kernel
theorem Wk.closed{w:Wd}(k:Wk w):∀n∈vo w,∀p∈wm w n,p∈vo w:=fun n hn p hp=>by
 unfold wm at hp
 induction q:z9 n w using qe with
 | some c=>replace hp:=q▸hp;exact List.mem_append_left _ (k.above q p hp)
 | none=>
  replace hp:=q▸hp
  refine List.mem_append_right _ (dm n ?_ p hp)
  rcases qz.mp hn with hn | hn
  ·refine e11 (xj hn) fun c e=>?_;rw[e] at q;exact nomatch q
  ·exact hn
theorem Wk.univLen{w:Wd}(k:Wk w):(vo w).length≤13:=by
 simp only [vo];refine rwg qk<|rwg (qi _) ?_;have:=k.len;refine(?_:_+9≤_);exact leC this rfl
theorem uh {w:Wd} (k:Wk w):("ANY":Str)∉vo w:=fun h=>by
 rcases qz.mp h with h | h
 ·exact(by decide +kernel:("ANY":Str)∉allNames) (k.all _ h)
 ·exact(by decide +kernel:("ANY":Str)∉basicTab.map (·.1)) h
theorem fq{U:List Str}{n:Str}(h:n∈U):In1 U [n]:=⟨by simp,fun x hx=>by refine rwg (List.mem_singleton.mp hx) ?_;exact h⟩
theorem Wk.chain{w:Wd}(k:Wk w){n:Str}(h:n∈vo w):In1 (vo w) (chain w n):=In1.walk k.closed (fq h)
theorem Wk.chainC{w:Wd}(k:Wk w){n:Str}(h:n∈w.map (·.1)):In1 (w.map (·.1)) (Mine.chain w n):=In1.walk (fun m hm p hp=>by
 refine e11 (xj hm) fun c e=>?_
 unfold wm at hp;rw[e] at hp;exact k.above e p hp) (fq h)
theorem mf(w:Wd)(n:Str):∃r,chain w n=n::r:=by obtain⟨r,e⟩:=q7q (wm w) 20 0 [n];exact⟨r,e⟩
theorem ko{α:Type}[DecidableEq α](x:α):∀es:List (α×T),(dget x es).isSome=decide (x∈es.map (·.1))
 | []=>rfl
 | (a,v)::r=>by
  refine(?_:(if a=x then some v else dget x r).isSome=_)
  by_cases k:a=x
  ·subst k;refine rwg (if_pos rfl) ?_;simp
  ·refine rwg (if_neg k)<|rwg (ko x r) ?_;simp[Ne.symm k]
theorem rh{α:Type}[DecidableEq α](x:α)(v:T):∀es:List (α×T),(dput x v es).map (·.1)=if x∈es.map (·.1) then es.map (·.1) else es.map (·.1)++[x]:=by
 intro es
 induction es with
 | nil=>
  exact rfl
 | cons zz r ih=>
  obtain⟨a,u⟩:=zz
  refine(?_:(if a=x then (a,v)::r else (a,u)::dput x v r).map (·.1)=_)
  by_cases k:a=x
  ·subst k;refine rwg (if_pos rfl) ?_;simp
  ·refine rwg (if_neg k)<|rwg qv<|rwg (ih) ?_
   by_cases q:x∈r.map (·.1)
   ·refine rwg (if_pos q)<|rwg (if_pos (by exact .tail _ q:x∈((a,u)::r).map (·.1))) ?_;rfl
   ·rw[if_neg q,if_neg (show x∉((a,u)::r).map (·.1) from fun h=>by
     rcases ql.mp h with h | h
     ·exact k h.symm
     ·exact q h)];rfl
noncomputable def f8 (kind:Str) (items:List T) (attrs:T):T:=.inst "Vector" [("kind",.str kind),("items",.list items),("attrs",attrs),("shared",.bool false),("loose",.bool false)]
noncomputable def xo (q:Str×Int):Str×T:=(q.1,if q.2=0 then f8 "integer" [.int 5] .none else f8 "character" [.str "q"] .none)
noncomputable def yq (n:Str) (s:Int):T:=if s=0 then .none else .inst "Builtin" [("kind",.str "builtin"),("name",.str (("_law_tell":Str)++n)),("special",.bool false),("fn",.clo [("heard",.sh 6),("name",.str n),("says",.int s)]),("group",.str ""),("attrs",.none)]
noncomputable def qdr (n:Str) (c:Cls):List (Str×T):=[("name",.str n),("slots",.list (c.slots.map jz)),("contains",.list (c.above.map .str)),("validity",yq n c.says),("virtual",.bool false),("prototype",.dict (c.protos.map xo))]
noncomputable def k9 (n:Str) (c:Cls):T:=.inst "S4Class" (qdr n c)
noncomputable def j7(w:Wd):List (Str×T):=w.map fun p=>(p.1,k9 p.1 p.2)
noncomputable def br (n:Int) (p:T):T:=.inst "Environment" [("kind",.str "environment"),("number",.int n),("parent",p),("attrs",.none),("frame",.dict []),("locked",.bool false),("locks",.dict [])]
noncomputable def ut (s4:T):List (Str×F):=[("limit",.val (.int 100)),("most_frames",.val (.int 40)),("steps",.val (.int 0)),("next_number",.val (.int 2)),("base",.val (br 0 .none)),("globals",.val (br 1 (br 0 .none))),
 ("frames",.val (.list [])),("out",.val (.list [])),("warnings",.val (.list [])),("handlers",.val (.list [])),("restarts",.val (.list [])),("targets",.val (.int 0)),("visible",.val (.bool true)),("current",.val .none),("dispatcher",.val .none),
 ("signaller",.val .none),("warner",.val .none),("deparser",.val .none),("s4",.val s4)]
noncomputable def st4:SO:=.inst "S4State" [("classes",.val (.sh 5)),("methods",.val (.inst "MethodTable" [("generics",.dict [])])),("older",.val .none)]
noncomputable def ctS (es:List (Str×T)):SO:=.inst "ClassTable" [("classes",.dict es),("unions",.dict [])]
noncomputable def SG (xs:List T) (es:List (Str×T)) (hd:List T):List SO:=[.tab,.tab,.list xs,.inst "Evaluator" (ut (.sh 4)),st4,ctS es,.list hd]
theorem dc(n:Str):∀w:Wd,dget n (j7 w)=(z9 n w).map (k9 n):=by
 intro w
 induction w with
 | nil=>
  exact rfl
 | cons zz r ih=>
  obtain⟨m,c⟩:=zz
  refine(?_:(if m=n then some (k9 m c) else dget n (j7 r))=(if m=n then some c else z9 n r).map _)
  by_cases k:m=n
  ·refine rwg (if_pos k)<|rwg (if_pos k)<|rwg k ?_;rfl
  ·refine rwg (if_neg k)<|rwg (if_neg k) ?_;exact ih
theorem q2t(w:Wd):(j7 w).map (·.1)=w.map (·.1):=by unfold j7;refine rwg List.map_map ?_;rfl
theorem ca(n:Str)(w:Wd):(dget n (j7 w)).isSome=(z9 n w).isSome:=by exact rwg (dc _ _)<|rwg Option.isSome_map rfl
theorem qld{c:Cls}{pre:List Str}{n:Str}(h:dz pre n c)(hp:pre.length≤100):c.above.length≤100:=qr (vj h.nodup h.above) hp
theorem qd7 (C:Calls) (n:Int) (p:T) (sg:List SO):C.step.makeC "Environment" [.int n,p] sg (.inst "Environment" [("kind",.val (.str "environment")),("number",.val (.int n)),("parent",.val p),("attrs",.val .none),("frame",.dict []),("locked",.val (.bool false)),("locks",.dict [])]) sg:=wc [] (fun t=>t) (by kernel_rfl)
theorem qkk (C:Calls) (sg:List SO):C.step.makeC "MethodTable" [] sg (.inst "MethodTable" [("generics",.dict [])]) sg:=wc [] (fun t=>t) (by kernel_rfl)
noncomputable def ev4 (n:Int):List (Str×F):=[("limit",.val (.int 100)),("most_frames",.val (.int 40)),("steps",.val (.int 0)),("next_number",.val (.int n))]
noncomputable def ev5 (n:Int):List (Str×F):=[("limit",.val (.int 100)),("most_frames",.val (.int 40)),("steps",.val (.int 0)),("next_number",.val (.int n)),("base",.val (br 0 .none))]
noncomputable def ql2 (n:Int) (p:T):Ent:=.inst "Environment" [("kind",.val (.str "environment")),("number",.val (.int n)),("parent",.val p),("attrs",.val .none),("frame",.dict []),("locked",.val (.bool false)),("locks",.dict [])]
theorem qfi (C:Calls) (xs:List T):C.step.step.callF "Evaluator.new_env" [.sh 3,.none] (sgW xs++[.inst "Evaluator" (ev4 0)]) (.val (br 0 .none)) (sgW xs++[.inst "Evaluator" (ev4 1)]):=
 j8 [.call (ql2 0 .none) (sgW xs++[.inst "Evaluator" (ev4 0)])] (fun t=>q9 (qd7 C 0 .none (sgW xs++[.inst "Evaluator" (ev4 0)])) t) (by kernel_rfl)
theorem qfh (C:Calls) (xs:List T):C.step.step.callF "Evaluator.new_env" [.sh 3,br 0 .none] (sgW xs++[.inst "Evaluator" (ev5 1)]) (.val (br 1 (br 0 .none))) (sgW xs++[.inst "Evaluator" (ev5 2)]):=
 j8 [.call (ql2 1 (br 0 .none)) (sgW xs++[.inst "Evaluator" (ev5 1)])] (fun t=>q9 (qd7 C 1 (br 0 .none) (sgW xs++[.inst "Evaluator" (ev5 1)])) t) (by kernel_rfl)
theorem qgg (C:Calls) (xs:List T):C.step.step.step.makeC "Evaluator" [.int 100] (sgW xs) (.val (.sh 3)) (sgW xs++[.inst "Evaluator" (ut .none)]):=
 wc [.call (.val (br 0 .none)) (sgW xs++[.inst "Evaluator" (ev4 1)]),.call (.val (br 1 (br 0 .none))) (sgW xs++[.inst "Evaluator" (ev5 2)])] (fun t=>q9 (qfi C xs) (q9 (qfh C xs) t)) (by kernel_rfl)
theorem ql6 (C:Calls) (xs:List T) (o o':SO):C.step.makeC "ClassTable" [] (sgW xs++[o,o']) (.val (.sh 5)) (sgW xs++[o,o',ctS []]):=wc [] (fun t=>t) (by kernel_rfl)
theorem qka (C:Calls) (xs:List T):C.step.step.makeC "S4State" [] (sgW xs++[.inst "Evaluator" (ut .none)]) (.val (.sh 4)) (sgW xs++[.inst "Evaluator" (ut .none),st4,ctS []]):=
 wc [.call (.val (.sh 5)) (sgW xs++[.inst "Evaluator" (ut .none),.inst "S4State" [],ctS []]),.call (.inst "MethodTable" [("generics",.dict [])]) (sgW xs++[.inst "Evaluator" (ut .none),.inst "S4State" [("classes",.val (.sh 5))],ctS []])]
  (fun t=>q9 (ql6 C xs (.inst "Evaluator" (ut .none)) (.inst "S4State" [])) (q9 (qkk C (sgW xs++[.inst "Evaluator" (ut .none),.inst "S4State" [("classes",.val (.sh 5))],ctS []])) t)) (by kernel_rfl)
theorem q85 (C:Calls) (xs:List T):C.step.step.step.callF "s4_state" [.sh 3] (sgW xs++[.inst "Evaluator" (ut .none)]) (.val (.sh 4)) (sgW xs++[.inst "Evaluator" (ut (.sh 4)),st4,ctS []]):=
 j8 [.call (.val (.sh 4)) (sgW xs++[.inst "Evaluator" (ut .none),st4,ctS []])] (fun t=>q9 (qka C xs) t) (by kernel_rfl)
section
variable (C:Calls)(xs:List T)(es:List (Str×T))(hd:List T)
theorem qau:C.step.callF "s4_state" [.sh 3] (SG xs es hd) (.val (.sh 4)) (SG xs es hd):=j8 [] (fun t=>t) (by kernel_rfl)
theorem ph (k:Str) (l:List T) (sg:List SO):C.step.makeC "Vector" [.str k,.list l] sg (.inst "Vector" [("kind",.val (.str k)),("items",.val (.list l)),("attrs",.val .none),("shared",.val (.bool false)),("loose",.val (.bool false))]) sg:=wc [] (fun t=>t) (by kernel_rfl)
noncomputable def qle (n:Str) (s:Int):T:=.clo [("heard",.sh 6),("name",.str n),("says",.int s)]
theorem q6g (n:Str) (t:T) (sg:List SO):C.step.makeC "Builtin" [.str n,.bool false,t,.str ""] sg (.inst "Builtin" [("kind",.val (.str "builtin")),("name",.val (.str n)),("special",.val (.bool false)),("fn",.val t),("group",.val (.str "")),("attrs",.val .none)]) sg:=wc [] (fun t=>t) (by kernel_rfl)
theorem qaq:∀n∈allNames,aq .Add (.str "_law_tell") (.str n)=some (.val (.str (("_law_tell":Str)++n))):=y5 (by kernel_rfl) (by kernel_rfl) (by kernel_rfl) (by kernel_rfl)
theorem q82 (n:Str) (hn:n∈allNames) (s:Int) (hs:s≠0):C.step.step.callF "_law_teller" [.sh 6,.str n,.int s] (SG xs es hd) (.val (yq n s)) (SG xs es hd):=by
 unfold yq;refine rwg (if_neg hs) ?_
 exact j8 [.e (.val (.str (("_law_tell":Str)++n))),.call (.inst "Builtin" [("kind",.val (.str "builtin")),("name",.val (.str (("_law_tell":Str)++n))),("special",.val (.bool false)),("fn",.val (qle n s)),("group",.val (.str "")),("attrs",.val .none)]) (SG xs es hd)]
  (fun t=>q9 (qaq n hn) (q9 (q6g C (("_law_tell":Str)++n) (qle n s) (SG xs es hd)) t)) (by kernel_rfl)
theorem qds (n:Str) (c:Cls) (sg:List SO):C.step.makeC "S4Class" [.str n,.list (c.slots.map jz),.list (c.above.map .str),yq n c.says,.bool false,.dict (c.protos.map xo)] sg
  (.inst "S4Class" [("name",.val (.str n)),("slots",.val (.list (c.slots.map jz))),("contains",.val (.list (c.above.map .str))),("validity",.val (yq n c.says)),("virtual",.val (.bool false)),("prototype",.val (.dict (c.protos.map xo)))]) sg:=wc [] (fun t=>t) (by kernel_rfl)
theorem q60 {P:Str→Prop} (a:P "numeric") (b:P "vector") (c:P "character") (d:P "list") (e:P "matrix") (f:P "array") (g:P "logical") (h:P "integer") (i:P "NULL"):∀n∈basicTab.map (·.1),P n:=fun n hn=>by
 rcases ql.mp hn with rfl | hn
 ·exact a
 rcases ql.mp hn with rfl | hn
 ·exact b
 rcases ql.mp hn with rfl | hn
 ·exact c
 rcases ql.mp hn with rfl | hn
 ·exact d
 rcases ql.mp hn with rfl | hn
 ·exact e
 rcases ql.mp hn with rfl | hn
 ·exact f
 rcases ql.mp hn with rfl | hn
 ·exact g
 rcases ql.mp hn with rfl | hn
 ·exact h
 rcases ql.mp hn with rfl | hn
 ·exact i
 ·cases hn
theorem qgv (sg:List SO):∀n∈basicTab.map (·.1),C.step.callF "basic_parents" [.str n] sg (.list (((ji n basicTab).getD []).map .str)) sg:=
 q60 (j8 [] (fun t=>t) (by kernel_rfl)) (j8 [] (fun t=>t) (by kernel_rfl)) (j8 [] (fun t=>t) (by kernel_rfl)) (j8 [] (fun t=>t) (by kernel_rfl)) (j8 [] (fun t=>t) (by kernel_rfl)) (j8 [] (fun t=>t) (by kernel_rfl))
  (j8 [] (fun t=>t) (by kernel_rfl)) (j8 [] (fun t=>t) (by kernel_rfl)) (j8 [] (fun t=>t) (by kernel_rfl))
noncomputable def dkinds:List Str:=["logical","integer","double","numeric","character","list","expression","function"]
noncomputable def bnames:List Str:=dkinds++([("NULL":Str),"ANY","missing","vector","matrix","array","environment","language","name","call","{","if","for","while","(","<-","=","formula","factor","data.frame","oldClass","pairlist"]:List Str)
theorem ri (sg:List SO):C.step.callF "data_kinds" [] sg (.val (.tup (dkinds.map .str))) sg:=j8 [] (fun t=>t) (by kernel_rfl)
theorem qa7 (sg:List SO):C.step.step.callF "basic_names" [] sg (.val (.tup (bnames.map .str))) sg:=j8 [.call (.val (.tup (dkinds.map .str))) sg] (fun t=>q9 (ri C sg) t) (by kernel_rfl)
theorem qck(x:Str)(l:List Str):uu .In (.str x) (.tup (l.map .str))=some (decide (x∈l)):=oh x l
theorem qe8 (n:Str) (hn:n∈basicTab.map (·.1)) (sg:List SO):C.step.step.step.callF "ClassTable.basic" [.sh 5,.str n] sg (.val (.bool true)) sg:=
 j8 [.call (.val (.tup (bnames.map .str))) sg,.b true] (fun t=>q9 (qa7 C sg) (q9 ((qck n bnames).trans (congrArg some (decide_eq_true ((by decide +kernel:∀n∈basicTab.map (·.1),n∈bnames) n hn)))) t)) (by kernel_rfl)
noncomputable def q9m (n:Str) (found:List T):Loc:=[("self",vT (.sh 5)),("name",vS n),("found",some (.list found)),("union",none)]
noncomputable def dw (C:Calls) (w:Wd):Prop:=∀xs hd,∀n∈vo w,C.callF "ClassTable.parents" [.sh 5,.str n] (SG xs (j7 w) hd) (.list ((wm w n).map .str)) (SG xs (j7 w) hd)
theorem gy{w:Wd}(k:Wk w):dw C.step.step.step.step w:=fun xs hd n hn=>by
 induction q:z9 n w using qe with
 | some c=>
  have hb:(dget n (j7 w)).isSome=true:=by refine rwg (ca _ _)<|rwg q ?_;rfl
  have hi:zu (.dict (j7 w)) (.str n)=some (k9 n c):=by refine(?_:dget n (j7 w)=_);refine rwg (dc _ _)<|rwg q ?_;rfl
  have hp:wm w n=c.above:=by unfold wm;exact rwg q rfl
  refine e12 (k.ok.cls (zw q)) fun pre h1 h2=>?_
  have hl:(c.above.map T.str).length≤LIM:=by
   refine rwg (qi _) ?_
   have:=vj h1.nodup fun x hx=>h2 x (h1.above x hx)
   rw[List.nil_append,qi] at this
   have:=k.len
   refine(?_:_≤4000);exact b1 ‹c.above.length≤_› this rfl
  have hs:ze "list" [.list (c.above.map .str)]=some (.list (c.above.map .str)):=by
   refine(?_:yj "list" _=_)
   unfold yj;refine rwg (decide_eq_true hl) ?_;rfl
  refine rwg hp ?_
  exact j8 [.b true,.t (k9 n c),.e (.list (c.above.map .str)),.loop .next (q9m n (c.above.map .str)) (SG xs (j7 w) hd)]
   (fun t=>q9 (congrArg some hb) (q9 hi (q9 hs (q9 (LoopR.nil:LoopR (jx C.step.step.step "ClassTable.parents" [2]) [] (q9m n (c.above.map .str)) (SG xs (j7 w) hd) .next (q9m n (c.above.map .str)) (SG xs (j7 w) hd)) t)))) (by kernel_rfl)
 | none=>
  have hb:(dget n (j7 w)).isSome=false:=by refine rwg (ca _ _)<|rwg q ?_;rfl
  have hp:wm w n=(ji n basicTab).getD []:=by unfold wm;exact rwg q rfl
  have hn':n∈basicTab.map (·.1):=by
   rcases qz.mp hn with h | h
   ·refine e11 (xj h) fun c e=>?_;rw[e] at q;cases q
   ·exact h
  refine rwg hp ?_
  exact j8 [.b false,.call (.val (.bool true)) (SG xs (j7 w) hd),.call (.list (((ji n basicTab).getD []).map .str)) (SG xs (j7 w) hd),.loop .next (q9m n (((ji n basicTab).getD []).map .str)) (SG xs (j7 w) hd)]
   (fun t=>q9 (congrArg some hb) (q9 (qe8 C n hn' (SG xs (j7 w) hd)) (q9 (qgv C.step.step (SG xs (j7 w) hd) n hn') (q9 (LoopR.nil:LoopR (jx C.step.step.step "ClassTable.parents" [2]) [] (q9m n (((ji n basicTab).getD []).map .str)) (SG xs (j7 w) hd) .next (q9m n (((ji n basicTab).getD []).map .str)) (SG xs (j7 w) hd)) t)))) (by kernel_rfl)
end
noncomputable def xb(p:Str×Int):T:=.tup [.str p.1,.int p.2]
noncomputable def q19(n:Str)(rows:List T)(seen:List (Str×T))(at_:Int)(one steps par:Option Ent):Loc:=
 [("self",vT (.sh 5)),("name",vS n),("rows",some (.list rows)),("seen",some (.dict seen)),("at",vI at_),("one",one),("steps",steps),("parent",par)]
structure Seen(seen:List (Str×T))(c:List Str):Prop where
 keys:∀x,x∈seen.map (·.1)↔x∈c∨x="ANY"
 nd:(seen.map (·.1)).Nodup
 len:seen.length≤c.length+1
theorem Seen.put{seen:List (Str×T)}{c:List Str}(h:Seen seen c){x:Str}(v:T)(hx:x∉seen.map (·.1)):Seen (dput x v seen) (c++[x]):=by
 have e:=rh x v seen
 rw[if_neg hx] at e
 refine⟨fun y=>?_,?_,?_⟩
 ·(refine rwg e ?_;rewrite[qz,qz,h.keys y,List.mem_singleton])
  constructor
  ·rintro((q | q) | q)
   ·exact .inl (.inl q)
   ·exact .inr q
   ·exact .inl (.inr q)
  ·rintro((q | q) | q)
   ·exact .inl (.inl q)
   ·exact .inr q
   ·exact .inl (.inr q)
 ·(refine rwg e ?_;rewrite[List.nodup_append])
  exact i03 h.nd (by simp) (fun a ha b hb=>by refine rwg (List.mem_singleton.mp hb) ?_;intro z;rw[z] at ha;exact hx ha)
 ·have:=congrArg List.length e
  rw[qi,qk,qi] at this
  refine rwg this<|rwg qk ?_;have:=h.len;simp;exact this
structure S1 where
 rows:List T
 seen:List (Str×T)
 par:Option Ent
structure qaa(U:List Str)(s:S1)(rows:List (Str×Int)):Prop where
 hr:s.rows=rows.map xb
 hs:Seen s.seen (rows.map (·.1))
 hin:In1 U (rows.map (·.1))
theorem q84 (C:Calls) (U:List Str) (hU:("ANY":Str)∉U∧U.length≤20) (n:Str) (at_:Int) (one:Str) (st:Int) (sg:List SO) (s:S1) (rows:List (Str×Int)) (x:Str) (hx:x∈U) (h:qaa U s rows) :
  ∃s' rows',qaa U s' rows'∧rows'.map (·.1)=(if x∈rows.map (·.1) then rows.map (·.1) else rows.map (·.1)++[x])∧wq (jx C "ClassTable.supers" [3,2] (.str x)) (q19 n s.rows s.seen at_ (vS one) (vI st) s.par) sg .next (q19 n s'.rows s'.seen at_ (vS one) (vI st) s'.par) sg:=by
 have hany:x≠"ANY":=fun e=>hU.1 (e▸hx)
 have hk:x∈s.seen.map (·.1)↔x∈rows.map (·.1):=(h.hs.keys x).trans ⟨fun q=>q.resolve_right hany,.inl⟩
 by_cases k:x∈rows.map (·.1)
 ·have hb:(!(dget x s.seen).isSome)=false:=by refine rwg (ko _ _)<|rwg (decide_eq_true (hk.mpr k)) ?_;rfl
  exact i23 ⟨s.rows,s.seen,vS x⟩ rows ⟨h.hr,h.hs,h.hin⟩ (if_pos k).symm (jg [.b false] (fun t=>q9 (congrArg some hb) t) (by kernel_rfl))
 ·have hb:(!(dget x s.seen).isSome)=true:=by refine rwg (ko _ _)<|rwg (decide_eq_false (fun q=>k (hk.mp q))) ?_;rfl
  have hl:=h.hin.len
  rw[qi] at hl
  have hsl:=h.hs.len
  rw[qi] at hsl
  have hin':=h.hin.add hx
  rw[if_neg k] at hin'
  have hm:(rows++[(x,st+1)]).map (·.1)=rows.map (·.1)++[x]:=by refine rwg qu ?_;rfl
  exact⟨⟨s.rows++[xb (x,st+1)],dput x (.bool true) s.seen,vS x⟩,rows++[(x,st+1)],⟨by refine(?_:s.rows++_=_);refine rwg h.hr<|rwg qu ?_;rfl,by refine rwg hm ?_;exact h.hs.put _ fun q=>k (hk.mp q),by refine rwg hm ?_;exact hin'⟩,by exact rwg (if_neg k)<|rwg hm rfl,
   jg [.b true] (fun t=>q9 (congrArg some hb) (q9 (fe (by exact ltK (qr hsl (Nat.succ_le_succ (qr hl hU.2))) rfl) h.hs.nd) (q9 (zk (by refine rwg h.hr<|rwg (qi _) ?_;exact b3 hl hU.2 rfl:s.rows.length<3000)) t))) (by kernel_rfl)⟩
theorem q25 (C:Calls) (U:List Str) (hU:("ANY":Str)∉U∧U.length≤20) (n:Str) (at_:Int) (one:Str) (st:Int) (sg:List SO):∀(ps:List Str) (s:S1) (rows:List (Str×Int)),(∀p∈ps,p∈U)→qaa U s rows →
  ∃s' rows',qaa U s' rows'∧rows'.map (·.1)=zd (rows.map (·.1)) ps∧LoopR (jx C "ClassTable.supers" [3,2]) (ps.map .str) (q19 n s.rows s.seen at_ (vS one) (vI st) s.par) sg .next (q19 n s'.rows s'.seen at_ (vS one) (vI st) s'.par) sg:=by
 intro ps
 induction ps with
 | nil=>
  intro s rows _ h
  exact i23 s rows h rfl .nil
 | cons p ps ih=>
  intro s rows hp h
  refine e23 (q84 C U hU n at_ one st sg s rows p (hp p (.head _)) h) fun s1 r1 h1 e1 l1=>?_
  refine e23 (ih s1 r1 (fun q hq=>hp q (.tail _ hq)) h1) fun s2 r2 h2 e2 l2=>?_
  exact i23 s2 r2 h2 (by refine rwg e2<|rwg e1 ?_;rfl) (.next l1 l2)
theorem ro(c ps:List Str):c.length≤(zd c ps).length:=by obtain⟨r,e⟩:=bk c ps;refine rwg e<|rwg qk ?_;exact Nat.le_add_right _ _
theorem qbb(rows:List (Str×Int))(i:Nat)(h:i<rows.length)(hi:i<1000000):zu (.list (rows.map xb)) (.int (i:Int))=some (xb rows[i]):=by
 refine q2u (Int.natCast_nonneg i) (by exact leI hi rfl) ?_
 refine rwg (Int.toNat_natCast _)<|rwg List.getElem?_map<|rwg (qt h) ?_;rfl
theorem q0f{C:Calls}{w:Wd}(k:Wk w)(P:dw C w)(n:Str)(xs hd:List T):∀(f i:Nat)(s:S1)(rows:List (Str×Int))(one steps:Option Ent),qaa (vo w) s rows->i≤rows.length->(vo w).length+1≤i+f ->
  ∃s' rows' i' one' steps',qaa (vo w) s' rows'∧rows'.map (·.1)=bfs (wm w) f i (rows.map (·.1)) ∧
   WhileR (whT C "ClassTable.supers" [3]) (whB C "ClassTable.supers" [3]) (q19 n s.rows s.seen (i:Int) one steps s.par) (SG xs (j7 w) hd) .next (q19 n s'.rows s'.seen i' one' steps' s'.par) (SG xs (j7 w) hd):=by
 intro f
 induction f with
 | zero=>
  intro i s rows one steps h hi hf
  have:=h.hin.len
  rw[qi] at this
  exact(Nat.not_succ_le_self _ (qr hf (qr hi this))).elim
 | succ f ih=>
  intro i s rows one steps h hi hf
  have hU:("ANY":Str)∉vo w∧(vo w).length≤20:=⟨uh k,qr k.univLen (by decide)⟩
  have hl:=h.hin.len
  rw[qi] at hl
  have hlen:ze "len" [.list s.rows]=some (.val (.int (rows.length:Int))):=by exact rwg (fh (by rw[h.hr,qi];refine(?_:_≤4000);exact b1 hl hU.2 rfl))<|rwg h.hr<|rwg (qi _) rfl
  induction hb:decide ((i:Int)<(rows.length:Int)) using qg with
  | false=>
   have:i=rows.length:=by have:=of_decide_eq_false hb;exact Nat.le_antisymm hi (Nat.le_of_not_lt fun h=>this (Int.ofNat_lt.mpr h))
   refine i53 s rows i one steps h ?_ (.done (jg [.e (.val (.int (rows.length:Int))),.b false] (fun t=>q9 hlen (q9 (congrArg some hb) t)) (by kernel_rfl)))
   unfold bfs
   exact rwg (List.getElem?_eq_none (by rw[qi];exact Nat.le_of_eq (this).symm)) rfl
  | true=>
   have hi':i<rows.length:=by have:=of_decide_eq_true hb;exact Int.ofNat_lt.mp this
   have hx:rows[i].1∈vo w:=h.hin.sub _ (List.mem_map.mpr (i12 _ (List.getElem_mem hi') rfl))
   refine e23 (q25 C (vo w) hU n (i+1) rows[i].1 rows[i].2 (SG xs (j7 w) hd) (wm w rows[i].1) s rows (k.closed _ hx) h) fun s1 r1 h1 e1 l1=>?_
   have hle:i+1≤r1.length:=by
    have:=ro (rows.map (·.1)) (wm w rows[i].1)
    rw[←e1,qi,qi] at this;exact qr hi' this
   refine e53 (ih (i+1) s1 r1 (vS rows[i].1) (vI rows[i].2) h1 hle (by exact c7 hf)) fun s2 r2 i2 o2 p2 h2 e2 l2=>?_
   refine⟨s2,r2,i2,o2,p2,h2,?_,.next (env1:=q19 n s.rows s.seen (i:Int) one steps s.par) (sg1:=SG xs (j7 w) hd) (jg [.e (.val (.int (rows.length:Int))),.b true] (fun t=>q9 hlen (q9 (congrArg some hb) t)) (by kernel_rfl))
    (jg [.t (xb rows[i]),.call (.list ((wm w rows[i].1).map .str)) (SG xs (j7 w) hd),.loop .next (q19 n s1.rows s1.seen (i+1) (vS rows[i].1) (vI rows[i].2) s1.par) (SG xs (j7 w) hd)]
     (fun t=>q9 (by(refine rwg h.hr ?_;exact qbb rows i hi' (by exact ltL (qq hi' (qr hl hU.2)) rfl)):zu (.list s.rows) (.int (i:Int))=some (xb rows[i])) (q9 (P xs hd rows[i].1 hx) (q9 l1 t))) (by kernel_rfl)) l2⟩
   conv=>rhs;unfold bfs
   refine rwg List.getElem?_map<|rwg (qt hi') ?_
   refine(?_:_=bfs (wm w) f (i+1) (zd (rows.map (·.1)) (wm w rows[i].1)))
   exact rwg e2<|rwg e1 rfl
noncomputable def yn (C:Calls) (w:Wd):Prop:=∀xs hd,∀n∈vo w,∃rows:List (Str×Int),(n::rows.map (·.1))=chain w n++[("ANY":Str)]∧C.callF "ClassTable.supers" [.sh 5,.str n] (SG xs (j7 w) hd) (.list (rows.map xb)) (SG xs (j7 w) hd)
theorem qk9 {n:Str} (h:n≠"ANY"):Seen (xu [(n,T.bool true),(("ANY":Str),T.bool true)]) [n]:=by
 have e:xu [(n,T.bool true),(("ANY":Str),T.bool true)]=[(n,T.bool true)]++[(("ANY":Str),T.bool true)]:=
  yg (es:=[(n,T.bool true)]) fun q=>h (List.mem_singleton.mp q).symm
 refine rwg e ?_
 exact⟨fun x=>by simp,by simp[h],Nat.le_refl _⟩
theorem l8{a:T}{l:List T}(h:(a::l).length≤LIM):wa (a::l) (some (.int 1)) none none=some l:=by
 unfold wa;refine rwg (decide_eq_true h) ?_;rfl
theorem ui{C:Calls}{w:Wd}(k:Wk w)(P:dw C w):yn C.step w:=fun xs hd n hn=>by
 have hany:n≠"ANY":=fun e=>uh k (e▸hn)
 refine e53 (q0f k P n xs hd 20 0 ⟨[xb (n,0)],xu [(n,T.bool true),(("ANY":Str),T.bool true)],none⟩ [(n,0)] none none ⟨rfl,qk9 hany,fq hn⟩ (Nat.zero_le _) (by have:=k.univLen;exact leC this rfl)) fun s rows i o p h e l=>?_
 obtain⟨q,hq⟩:=q7q (wm w) 20 0 [n]
 have hr:rows.map (·.1)=n::q:=e.trans hq
 induction rows using qf with
 | nil=>exact nomatch hr
 | cons r0 rs=>
  have hl:=h.hin.len
  have hu:=k.univLen
  rw[qi,qj] at hl
  have hn0:r0.1=n:=(List.cons.inj hr).1
  have hlast:rs.length<(r0::rs).length:=Nat.lt_succ_self _
  refine i12 (rs++[(("ANY":Str),(r0::rs)[rs.length].2+1)]) ?_ ?_
  ·refine rwg qu ?_
   refine(?_:n::(rs.map (·.1)++[("ANY":Str)])=chain w n++[("ANY":Str)])
   refine rwl hn0 ?_
   refine(?_:(r0::rs).map (·.1)++_=_)
   refine rwg e<|rwg hn0 ?_;rfl
  have hlen:ze "len" [.list s.rows]=some (.val (.int ((rs.length:Int)+1))):=by refine rwg (fh (by rw[h.hr,qi];refine(?_:_≤4000);rw[qj];exact b1 hl hu rfl))<|rwg h.hr<|rwg (qi _) ?_;rfl
  have hit:zu (.list s.rows) (.int ((rs.length:Int)+1-1))=some (xb (r0::rs)[rs.length]):=by
   refine rwg h.hr<|rwg (show (rs.length:Int)+1-1=(rs.length:Int) by exact Int.add_sub_cancel _ _) ?_;exact qbb (r0::rs) rs.length hlast (by exact b1 hl hu rfl)
  have hs:s.rows++[xb ("ANY",(r0::rs)[rs.length].2+1)]=xb r0::(rs++[(("ANY":Str),(r0::rs)[rs.length].2+1)]).map xb:=by refine rwg h.hr<|rwg qu ?_;rfl
  have hsl:wa (s.rows++[xb (("ANY":Str),(r0::rs)[rs.length].2+1)]) (some (.int 1)) none none=some ((rs++[(("ANY":Str),(r0::rs)[rs.length].2+1)]).map xb):=by
   refine rwg hs ?_;exact l8 (by refine rwg qj<|rwg (qi _)<|rwg qk ?_;refine(?_:_+1+1≤4000);exact b3 hl hu rfl)
  exact j8 [.loop .next (q19 n s.rows s.seen i o p s.par) (SG xs (j7 w) hd),.b true,.e (.val (.int ((rs.length:Int)+1))),.t (xb (r0::rs)[rs.length]),.l ((rs++[(("ANY":Str),(r0::rs)[rs.length].2+1)]).map xb)]
   (fun t=>q9 l (q9 (by(refine rwg (decide_eq_false hany) ?_;rfl):some (!decide (n="ANY"))=some true) (q9 hlen (q9 hit (q9 (zk (by refine rwg h.hr<|rwg (qi _)<|rwg qj ?_;exact b3 hl hu rfl:s.rows.length<3000))
    (q9 hsl t)))))) (by kernel_rfl)
noncomputable def q1b (w:Wd) (n:Str) (l:List Str) (at_:Int) (par:Option Ent):Loc:=[("world",vT (.dict (vd w))),("name",vS n),("chain",some (.list (l.map .str))),("at",vI at_),("parent",par)]
theorem q1f(n:Str):∀w:Wd,dget n (vd w)=(z9 n w).map Cls.t:=by
 intro w
 induction w with
 | nil=>
  exact rfl
 | cons zz r ih=>
  obtain⟨m,c⟩:=zz
  refine(?_:(if m=n then some c.t else dget n (vd r))=(if m=n then some c else z9 n r).map _)
  by_cases k:m=n
  ·refine rwg (if_pos k)<|rwg (if_pos k) ?_;rfl
  ·refine rwg (if_neg k)<|rwg (if_neg k) ?_;exact ih
theorem bu{w:Wd}{n:Str}{c:Cls}(h:z9 n w=some c):zu (.dict (vd w)) (.str n)=some c.t:=by
 refine(?_:dget n (vd w)=_);refine rwg (q1f _ _)<|rwg h ?_;rfl
theorem y0(l:List Str)(x:Str):l.map T.str++[T.str x]=(l++[x]).map T.str:=by refine rwg qu ?_;rfl
theorem qdv(C:Calls)(w:Wd)(n:Str)(at_:Int)(sg:List SO):∀(ps l:List Str)(par:Option Ent),(zd l ps).length<3000 ->
  ∃par',LoopR (jx C "_law_chain" [2,0]) (ps.map .str) (q1b w n l at_ par) sg .next (q1b w n (zd l ps) at_ par') sg:=by
 intro ps
 induction ps with
 | nil=>
  intro l par _
  exact⟨par,.nil⟩
 | cons p ps ih=>
  intro l par h
  have hc:=t8 p l
  by_cases k:p∈l
  ·have e:zd l (p::ps)=zd l ps:=by refine(?_:zd (if p∈l then l else l++[p]) ps=_);exact rwg (if_pos k) rfl
   rw[e] at h ⊢
   rw[decide_eq_true k] at hc
   obtain⟨par',h'⟩:=ih l (vS p) h
   exact⟨par',.next (jg [.b false] (fun t=>q9 hc t) (by kernel_rfl)) h'⟩
  ·have e:zd l (p::ps)=zd (l++[p]) ps:=by refine(?_:zd (if p∈l then l else l++[p]) ps=_);exact rwg (if_neg k) rfl
   rw[e] at h ⊢
   rw[decide_eq_false k] at hc
   have hl:(l.map T.str).length<3000:=by
    have:=ro (l++[p]) ps
    rw[qk] at this;refine rwg (qi _) ?_;exact Nat.lt_trans (qq (Nat.lt_succ_self _) this) h
   obtain⟨par',h'⟩:=ih (l++[p]) (vS p) h
   refine⟨par',.next (env1:=q1b w n (l++[p]) at_ (vS p)) (sg1:=sg) ?_ h'⟩
   unfold q1b
   refine rwl (y0 _ _) ?_
   exact jg [.b true] (fun t=>q9 hc (q9 (zk hl) t)) (by kernel_rfl)
theorem qih(l:List Str)(i:Nat)(h:i<l.length)(hi:i<1000000):zu (.list (l.map .str)) (.int (i:Int))=some (.str l[i]):=py l i h hi
theorem q3i(C:Calls){w:Wd}(k:Wk w)(n:Str)(sg:List SO):∀(f i:Nat)(l:List Str)(par:Option Ent),In1 (w.map (·.1)) l->i≤l.length->w.length+1≤i+f ->
  ∃i' par',WhileR (whT C "_law_chain" [2]) (whB C "_law_chain" [2]) (q1b w n l (i:Int) par) sg .next (q1b w n (bfs (wm w) f i l) i' par') sg:=by
 intro f
 induction f with
 | zero=>
  intro i l par h hi hf
  have:=h.len;rw[qi] at this;exact(Nat.not_succ_le_self _ (qr hf (qr hi this))).elim
 | succ f ih=>
  intro i l par h hi hf
  have hl:=h.len
  rw[qi] at hl
  have hw:=k.len
  have hlen:ze "len" [.list (l.map .str)]=some (.val (.int (l.length:Int))):=by exact rwg (fh (by rw[qi];refine(?_:_≤4000);exact b1 hl hw rfl))<|rwg (qi _) rfl
  induction hb:decide ((i:Int)<(l.length:Int)) using qg with
  | false=>
   have:i=l.length:=by have:=of_decide_eq_false hb;exact Nat.le_antisymm hi (Nat.le_of_not_lt fun h=>this (Int.ofNat_lt.mpr h))
   unfold bfs
   refine rwg (List.getElem?_eq_none (by exact Nat.le_of_eq (this).symm)) ?_
   exact i21 i par (.done (jg [.e (.val (.int (l.length:Int))),.b false] (fun t=>q9 hlen (q9 (congrArg some hb) t)) (by kernel_rfl)))
  | true=>
   have hi':i<l.length:=by have:=of_decide_eq_true hb;exact Int.ofNat_lt.mp this
   unfold bfs
   refine rwg (qt hi') ?_
   have hx:l[i]∈w.map (·.1):=h.sub _ (List.getElem_mem hi')
   refine e11 (xj hx) fun c hc=>?_
   have hp:wm w l[i]=c.above:=by unfold wm;exact rwg hc rfl
   have h1:In1 (w.map (·.1)) (zd l (wm w l[i])):=h.adds fun p hp'=>k.above hc p (by rwa [hp] at hp')
   have h1l:=h1.len
   rw[qi] at h1l
   obtain⟨p1,l1⟩:=qdv C w n i sg (wm w l[i]) l par (by exact b3 h1l hw rfl)
   rw[hp] at l1
   obtain⟨i2,p2,l2⟩:=ih (i+1) (zd l (wm w l[i])) p1 h1 (by have:=ro l (wm w l[i]);exact qr hi' this) (by exact c7 hf)
   exact⟨i2,p2,.next (env1:=q1b w n l (i:Int) par) (sg1:=sg) (jg [.e (.val (.int (l.length:Int))),.b true] (fun t=>q9 hlen (q9 (congrArg some hb) t)) (by kernel_rfl))
    (jg [.t (.str l[i]),.t c.t,.loop .next (q1b w n (zd l c.above) i p1) sg] (fun t=>q9 (qih l i hi' (by exact ltL (qq hi' (qr hl hw)) rfl)) (q9 (bu hc) (q9 l1 (hp▸t)))) (by refine rwg hp ?_;kernel_rfl)) l2⟩
noncomputable def q6o (C:Calls) (w:Wd):Prop:=∀sg,∀n∈w.map (·.1),C.callF "_law_chain" [.dict (vd w),.str n] sg (.list ((chain w n).map .str)) sg
theorem q3j(C:Calls){w:Wd}(k:Wk w):q6o C.step w:=fun sg n hn=>by
 refine e21 (q3i C k n sg 20 0 [n] none (fq hn) (Nat.zero_le _) (by have:=k.len;exact leC this rfl)) fun i p l=>?_
 exact j8 [.loop .next (q1b w n (chain w n) i p) sg] (fun t=>q9 l t) (by kernel_rfl)
noncomputable def w9(w:Wd)(n:Str):List (Str×Str):=match z9 n w with
 | some c=>c.slots
 | none=>[]
noncomputable def zi(w:Wd)(l:List Str):List (Str×Str):=l.flatMap (w9 w)
noncomputable def jm(w:Wd)(n:Str):List (Str×Str):=zi w (chain w n)
theorem Wk.slotMem{w:Wd}(k:Wk w){n x:Str}(h:x∈(w9 w n).map (·.1)):n∈w.map (·.1)∧∃i,i<3∧x=zo n i:=by
 unfold w9 at h
 induction q:z9 n w using qe with
 | none=>replace h:=q▸h;cases h
 | some c=>
  replace h:=q▸h
  obtain⟨pre,h1,_⟩:=k.ok.cls (zw q)
  refine e13 h1.slots fun ks k1 k2 k3=>?_
  have h:x∈(zm n 0 ks).map (·.1):=by refine rwl k3 ?_;exact h
  refine e13 (yw h) fun i i1 i2 i3=>?_
  exact⟨List.mem_map.mpr (i12 _ (zw q) rfl),(i12 i (by exact a7 i2 k1) i3)⟩
theorem tc{n:Str}(hn:n∈allNames):∀(ks:List Str)(j:Nat),j+ks.length≤3->((zm n j ks).map (·.1)).Nodup:=by
 intro ks
 induction ks with
 | nil=>
  intro _ _
  exact .nil
 | cons a r ih=>
  intro j h
  rw[qj] at h
  refine List.nodup_cons.mpr ⟨fun hm=>?_,ih (j+1) (by exact a1 h)⟩
  refine e13 (yw hm) fun i i1 i2 i3=>?_
  have:=(mv n hn n hn j (by exact Nat.lt_of_add_right_lt h) i (by lia) i3).2
  lia
theorem Wk.slotNd{w:Wd}(k:Wk w)(n:Str):((w9 w n).map (·.1)).Nodup:=by
 unfold w9
 induction q:z9 n w using qe with
 | none=>exact .nil
 | some c=>
  obtain⟨pre,h1,_⟩:=k.ok.cls (zw q)
  refine e13 h1.slots fun ks k1 k2 k3=>?_
  refine(?_:(c.slots.map (·.1)).Nodup)
  refine rwg k3 ?_
  exact tc h1.name ks 0 (by exact leD k1 rfl)
theorem pk{w:Wd}{x:Str}:∀{l:List Str},x∈(zi w l).map (·.1)->∃n∈l,x∈(w9 w n).map (·.1):=by
 intro l
 induction l with
 | nil=>
  intro za0
  exact absurd za0 j5
 | cons a r ih=>
  intro h
  unfold zi at h
  rw[List.flatMap_cons,qu] at h
  rcases qz.mp h with h | h
  ·exact i12 a (.head _) h
  ·refine e12 (ih h) fun n h1 h2=>?_
   exact i12 n (.tail _ h1) h2
theorem Wk.slotsNd{w:Wd}(k:Wk w):∀{l:List Str},l.Nodup->((zi w l).map (·.1)).Nodup
 | [],_=>.nil
 | a::r,h=>by
  have h':=List.nodup_cons.mp h
  unfold zi
  (refine rwg List.flatMap_cons<|rwg qu ?_;rewrite[List.nodup_append])
  refine i03 (k.slotNd a) (k.slotsNd h'.2) (fun x hx y hy e=>?_)
  subst e
  refine e12 (pk (l:=r) hy) fun n n1 n2=>?_
  refine e02 (k.slotMem hx) fun a1 zz1=>?_;refine e12 zz1 fun i i1 i2=>?_;clear zz1
  refine e02 (k.slotMem n2) fun b1 zz1=>?_;refine e12 zz1 fun j j1 j2=>?_;clear zz1
  have:=(mv a (k.all a a1) n (k.all n b1) i i1 j j1 (i2.symm.trans j2)).1
  exact h'.1 (this▸n1)
theorem q47{w:Wd}(k:Wk w)(n:Str):(w9 w n).length≤3:=by
 unfold w9
 induction q:z9 n w using qe with
 | none=>exact Nat.zero_le _
 | some c=>
  obtain⟨pre,h1,_⟩:=k.ok.cls (zw q)
  refine e13 h1.slots fun ks k1 k2 k3=>?_
  refine(?_:c.slots.length≤3)
  refine rwg k3<|rwg (yx _ _ _) ?_;exact k1
theorem q46{w:Wd}(k:Wk w):∀l:List Str,(zi w l).length≤3*l.length:=by
 intro l
 induction l with
 | nil=>
  exact Nat.le_refl 0
 | cons a r ih=>
  unfold zi
  refine rwg List.flatMap_cons<|rwg qk<|rwg qj ?_
  have h1:=ih
  have h2:=q47 k a
  unfold zi at h1
  exact qr (Nat.add_le_add h2 h1) (Nat.le_of_eq (Nat.add_comm 3 _))
theorem ka{w:Wd}(k:Wk w){n:Str}(h:n∈w.map (·.1)):(jm w n).length≤12:=by
 have h1:=q46 k (chain w n)
 have h2:=(k.chainC h).len
 have:=k.len
 rw[qi] at h2
 unfold jm
 exact qr h1 (Nat.mul_le_mul_left 3 (qr h2 this))
noncomputable def q9n (w:Wd) (one pair:Option Ent):Loc:=[("world",vT (.dict (vd w))),(".0",none),("one",one),("pair",pair)]
theorem q8w (C:Calls) (w:Wd) (one:Option Ent) (sg:List SO):∀(ts:List T) (pair:Option Ent),∃pair',CompR (qla C 27 "_law_slots" [0]) ts (q9n w one pair) sg ts (q9n w one pair') sg:=by
 intro ts
 induction ts with
 | nil=>
  intro pair
  exact⟨pair,.nil⟩
 | cons a r ih=>
  intro pair
  obtain⟨p',h⟩:=ih (vT a)
  exact⟨p',.cons (xs:=[a]) (jg [] (fun t=>t) (by kernel_rfl)) h⟩
theorem q2p (C:Calls) (w:Wd) (sg:List SO):∀(l:List Str) (one pair:Option Ent),(∀x∈l,x∈w.map (·.1))→∃one' pair',CompR (lh C 28 "_law_slots" [0]) (l.map .str) (q9n w one pair) sg ((zi w l).map jz) (q9n w one' pair') sg:=by
 intro l
 induction l with
 | nil=>
  intro one pair _
  exact i21 one pair .nil
 | cons a r ih=>
  intro one pair h
  refine e11 (xj (h a (.head _))) fun c hc=>?_
  refine e11 (q8w C w (vS a) sg (c.slots.map jz) pair) fun p1 l1=>?_
  refine e21 (ih (vS a) p1 fun x hx=>h x (.tail _ hx)) fun o2 p2 l2=>?_
  refine i21 o2 p2 ?_
  have e:(zi w (a::r)).map jz=c.slots.map jz++(zi w r).map jz:=by
   unfold zi;refine rwg List.flatMap_cons<|rwg qu ?_
   refine(?_:(w9 w a).map jz++_=_)
   unfold w9;exact rwg hc rfl
  refine rwg e ?_
  exact .cons (jg [.t c.t,.comp (c.slots.map jz) (q9n w (vS a) p1) sg] (fun t=>q9 (bu hc) (q9 l1 t)) (by kernel_rfl)) l2
noncomputable def qej (C:Calls) (w:Wd):Prop:=∀sg,∀n∈w.map (·.1),C.callF "_law_slots" [.dict (vd w),.str n] sg (.list ((jm w n).map jz)) sg
theorem q8v{C:Calls}{w:Wd}(k:Wk w)(Ch:q6o C w):qej C.step w:=fun sg n hn=>by
 refine e21 (q2p C w sg (chain w n) none none (k.chainC hn).sub) fun o p l=>?_
 exact j8 [.call (.list ((chain w n).map .str)) sg,.comp ((jm w n).map jz) (q9n w o p) sg]
  (fun t=>q9 (Ch sg n hn) (q9 l (q9 (decide_eq_true (by refine rwg (qi _) ?_;have:=ka k hn;refine(?_:_≤4000);exact leK this rfl:((jm w n).map jz).length≤LIM)) t))) (by kernel_rfl)
section
variable (C:Calls)
noncomputable def qek (C:Calls) (w:Wd):Prop:=∀xs hd,∀n∈w.map (·.1),C.callF "ClassTable.known" [.sh 5,.str n] (SG xs (j7 w) hd) (.val (.bool true)) (SG xs (j7 w) hd)
theorem q30{w:Wd}{n:Str}(h:n∈w.map (·.1)):some (dget n (j7 w)).isSome=some true:=by
 refine e11 (xj h) fun c e=>?_
 refine rwg (ca _ _)<|rwg e ?_;rfl
theorem qcn{w:Wd}{n:Str}(h:n∉w.map (·.1)):some (dget n (j7 w)).isSome=some false:=by refine rwg (ca _ _)<|rwg (wh h) ?_;rfl
theorem qc2(w:Wd):qek C.step w:=fun xs hd n hn=>j8 [.b true] (fun t=>q9 (q30 hn) t) (by kernel_rfl)
noncomputable def qjj (n x:Str) (a b:Option Ent):Loc:=[("self",vT (.sh 5)),("sub",vS n),("super_name",vS x),("name",a),("steps",b)]
theorem q9o (n x:Str) (sg:List SO):∀(rows:List (Str×Int)) (a b:Option Ent),x∉rows.map (·.1)→∃a' b',LoopR (jx C "ClassTable.distance" [1]) (rows.map xb) (qjj n x a b) sg .next (qjj n x a' b') sg:=by
 intro rows
 induction rows with
 | nil=>
  intro a b _
  exact i21 a b .nil
 | cons r rs ih=>
  intro a b h
  refine e21 (ih (vS r.1) (vI r.2) fun q=>h (.tail _ q)) fun a' b' l=>?_
  have hb:some (decide (r.1=x))=some false:=by exact rwg (decide_eq_false fun e=>h (by rw[←e];exact .head _)) rfl
  exact i21 a' b' (.next (jg [.b false] (fun t=>q9 hb t) (by kernel_rfl)) l)
noncomputable def qh4 (C:Calls) (w:Wd):Prop:=∀xs hd,∀n∈w.map (·.1),∀x,x∉chain w n→x≠"ANY"→C.callF "ClassTable.distance" [.sh 5,.str n,.str x] (SG xs (j7 w) hd) (.val .none) (SG xs (j7 w) hd)
theorem qgm{C:Calls}{w:Wd}(S:yn C w):qh4 C.step w:=fun xs hd n hn x hx ha=>by
 refine e12 (S xs hd n (List.mem_append_left _ hn)) fun rows r1 r2=>?_
 have hnx:n≠x:=fun e=>hx (by obtain⟨q,hq⟩:=mf w n;refine rwg hq<|rwg e ?_;exact .head _)
 have hrx:x∉rows.map (·.1):=fun q=>by
  have:x∈n::rows.map (·.1):=.tail _ q
  rw[r1] at this
  rcases qz.mp this with z | z
  ·exact hx z
  ·exact ha (List.mem_singleton.mp z)
 refine e21 (q9o C n x (SG xs (j7 w) hd) rows none none hrx) fun a b l=>?_
 exact j8 [.b false,.call (.list (rows.map xb)) (SG xs (j7 w) hd),.loop .next (qjj n x a b) (SG xs (j7 w) hd)]
  (fun t=>q9 (congrArg some (decide_eq_false hnx)) (q9 r2 (q9 l t))) (by kernel_rfl)
noncomputable def pe(n:Str)(found:List T)(seen:List (Str×T))(one steps rows slot kind:Option Ent):Loc:=
 [("self",vT (.sh 5)),("name",vS n),("found",some (.list found)),("seen",some (.dict seen)),("one",one),("steps",steps),("rows",rows),("slot",slot),("kind",kind)]
structure So where
 found:List T
 seen:List (Str×T)
 slot:Option Ent
 kind:Option Ent
structure qeh(s:So)(done:List (Str×Str)):Prop where
 f:s.found=done.map jz
 k:s.seen.map (·.1)=done.map (·.1)
theorem qax(n:Str)(one steps rows:Option Ent)(sg:List SO):∀(ps done:List (Str×Str))(s:So),qeh s done->((done++ps).map (·.1)).Nodup->(done++ps).length≤100 ->
  ∃s',qeh s' (done++ps)∧LoopR (jx C "ClassTable.slots_of" [2,1]) (ps.map jz) (pe n s.found s.seen one steps rows s.slot s.kind) sg .next (pe n s'.found s'.seen one steps rows s'.slot s'.kind) sg:=by
 intro ps
 induction ps with
 | nil=>
  intro done s h _ _
  exact i12 s (by refine rwg (List.append_nil _) ?_;exact h) .nil
 | cons p ps ih=>
  intro done s h nd hl
  have hnew:p.1∉s.seen.map (·.1):=fun hm=>by
   rw[h.k] at hm
   (replace nd:=qu▸nd;rewrite[List.nodup_append] at nd)
   exact nd.2.2 _ hm _ (.head _) rfl
  have hb:some (!(dget p.1 s.seen).isSome)=some true:=by refine rwg (ko _ _)<|rwg (decide_eq_false hnew) ?_;rfl
  have e1:=rh p.1 (.bool true) s.seen
  rw[if_neg hnew] at e1
  (replace hl:=qk▸hl;replace hl:=qj▸hl)
  have hlen:s.seen.length=done.length:=by have:=congrArg List.length h.k;rwa [qi,qi] at this
  have hnd:(s.seen.map (·.1)).Nodup:=by refine rwg h.k ?_;(replace nd:=qu▸nd;rewrite[List.nodup_append] at nd);exact nd.1
  have e2:done++p::ps=(done++[p])++ps:=by refine rwg (List.append_assoc _ _ _) ?_;rfl
  rw[e2] at nd
  obtain⟨s',h',l⟩:=ih (done++[p]) ⟨s.found++[jz p],dput p.1 (.bool true) s.seen,vS p.1,vS p.2⟩
   ⟨by show s.found++_=_;refine rwg h.f<|rwg qu ?_;rfl,by show (dput _ _ _).map _=_;refine rwg e1<|rwg h.k<|rwg qu ?_;rfl⟩ nd (by refine rwg qk<|rwg qk ?_;show done.length+1+ps.length≤100;exact a1 hl)
  refine rwg e2 ?_
  exact i12 s' h' (.next (jg [.b true] (fun t=>q9 hb (q9 (fe (by exact hlen▸b5 hl rfl) hnd) (q9 (zk (by refine rwg h.f<|rwg (qi _) ?_;exact b5 hl rfl:s.found.length<3000)) t))) (by kernel_rfl)) l)
theorem i5 {w:Wd} (n:Str) (xs hd:List T) (hdk:∀sg,C.callF "data_kinds" [] sg (.val (.tup (dkinds.map .str))) sg) (hw:("ANY":Str)∉w.map (·.1)):∀(rows:List (Str×Int)) (l:List Str) (done:List (Str×Str)) (s:So) (one steps rw_:Option Ent),
  rows.map (·.1)=l++[("ANY":Str)]→(∀x∈l,x∈w.map (·.1))→qeh s done→((done++zi w l).map (·.1)).Nodup→(done++zi w l).length≤100 →
  ∃s' a b c,qeh s' (done++zi w l)∧LoopR (jx C "ClassTable.slots_of" [2]) (rows.map xb) (pe n s.found s.seen one steps rw_ s.slot s.kind) (SG xs (j7 w) hd) .next (pe n s'.found s'.seen a b c s'.slot s'.kind) (SG xs (j7 w) hd)
 | [],l,_,_,_,_,_,h,_,_,_,_=>by rcases l with ⟨⟩ <;> exact nomatch h
 | r::rs,[],done,s,one,steps,rw_,h,_,hs,_,_=>by
  refine e02 (List.cons.inj h) fun h1 h2=>?_
  obtain rfl:rs=[]:=List.map_eq_nil_iff.mp h2
  obtain⟨x,i⟩:=r
  obtain rfl:x="ANY":=h1
  refine i42 s (vS "ANY") (vI i) (vT (.list [])) (by refine(?_:qeh s (done++[]));refine rwg (List.append_nil _) ?_;exact hs) (.next ?_ .nil)
  have hl:LoopR (jx C "ClassTable.slots_of" [2,1]) [] (pe n s.found s.seen (vS "ANY") (vI i) (vT (.list [])) s.slot s.kind) (SG xs (j7 w) hd) .next (pe n s.found s.seen (vS "ANY") (vI i) (vT (.list [])) s.slot s.kind) (SG xs (j7 w) hd):=.nil
  induction hb:decide (i>0) using qg with
  | false=>exact jg [.b false,.b false,.loop .next (pe n s.found s.seen (vS "ANY") (vI i) (vT (.list [])) s.slot s.kind) (SG xs (j7 w) hd)] (fun t=>q9 (qcn hw) (q9 (congrArg some hb) (q9 hl t))) (by kernel_rfl)
  | true=>
   exact jg [.b false,.b true,.call (.val (.tup (dkinds.map .str))) (SG xs (j7 w) hd),.b false,.loop .next (pe n s.found s.seen (vS "ANY") (vI i) (vT (.list [])) s.slot s.kind) (SG xs (j7 w) hd)]
    (fun t=>q9 (qcn hw) (q9 (congrArg some hb) (q9 (hdk (SG xs (j7 w) hd)) (q9 ((qck "ANY" dkinds).trans (congrArg some (decide_eq_false (by decide +kernel)))) (q9 hl t))))) (by kernel_rfl)
 | r::rs,a::l,done,s,one,steps,rw_,h,hk,hs,nd,hl=>by
  refine e02 (List.cons.inj h) fun h1 h2=>?_
  obtain⟨x,i⟩:=r
  obtain rfl:x=a:=h1
  refine e11 (xj (hk x (.head _))) fun c hc=>?_
  have e:zi w (x::l)=c.slots++zi w l:=by
   unfold zi;refine rwg List.flatMap_cons ?_
   refine(?_:w9 w x++_=_)
   unfold w9;exact rwg hc rfl
  rw[e,←List.append_assoc] at nd hl ⊢
  refine e12 (qax C n (vS x) (vI i) (vT (.list (c.slots.map jz))) (SG xs (j7 w) hd) c.slots done s hs (by(replace nd:=qu▸nd;rewrite[List.nodup_append] at nd);exact nd.1) (by replace hl:=qk▸hl;exact Nat.le_of_add_right_le hl)) fun s1 o1 l1=>?_
  refine e42 (i5 n xs hd hdk hw rs l (done++c.slots) s1 (vS x) (vI i) (vT (.list (c.slots.map jz))) h2 (fun y hy=>hk y (.tail _ hy)) o1 nd hl) fun s2 a2 b2 c2 o2 l2=>?_
  have hi:zu (.dict (j7 w)) (.str x)=some (k9 x c):=by refine(?_:dget x (j7 w)=_);refine rwg (dc _ _)<|rwg hc ?_;rfl
  exact i42 s2 a2 b2 c2 o2 (.next (jg [.b true,.t (k9 x c),.loop .next (pe n s1.found s1.seen (vS x) (vI i) (vT (.list (c.slots.map jz))) s1.slot s1.kind) (SG xs (j7 w) hd)] (fun t=>q9 (q30 (hk x (.head _))) (q9 hi (q9 l1 t))) (by kernel_rfl)) l2)
noncomputable def dq (C:Calls) (w:Wd):Prop:=∀xs hd,∀n∈w.map (·.1),C.callF "ClassTable.slots_of" [.sh 5,.str n] (SG xs (j7 w) hd) (.list ((jm w n).map jz)) (SG xs (j7 w) hd)
theorem dn{r:T}{rows:List T}(h:rows.length<3000):aq .Add (.list [r]) (.list rows)=some (.list (r::rows)):=by
 refine(?_:opt (q3s [r] rows) _=_)
 unfold q3s;refine rwg (decide_eq_true (by refine(?_:[r].length+rows.length≤4000);simp;exact leD (j4 h) rfl)) ?_;rfl
theorem Wk.anyNo {w:Wd} (k:Wk w):("ANY":Str)∉w.map (·.1):=fun h=>uh k (List.mem_append_left _ h)
theorem si {w:Wd} (k:Wk w) {n:Str} (hn:n∈vo w) {rows:List (Str×Int)} (h:(n::rows.map (·.1))=chain w n++[("ANY":Str)]):rows.length≤13:=by
 have:=congrArg List.length h
 (replace this:=qj▸this;rewrite[qi] at this;replace this:=qk▸this)
 have h1:=(k.chain hn).len
 have h2:=k.univLen
 have:rows.length+1=(chain w n).length+1:=this
 exact qr (Nat.le_of_eq (Nat.succ.inj this)) (qr h1 h2)
theorem cy {C:Calls} {w:Wd} (k:Wk w) (S:yn C w) (hdk:∀sg,C.callF "data_kinds" [] sg (.val (.tup (dkinds.map .str))) sg):dq C.step w:=fun xs hd n hn=>by
 refine e12 (S xs hd n (List.mem_append_left _ hn)) fun rows r1 r2=>?_
 refine e42 (i5 C n xs hd hdk k.anyNo ((n,0)::rows) (chain w n) [] ⟨[],[],none,none⟩ none none none r1 (k.chainC hn).sub ⟨rfl,rfl⟩ (k.slotsNd (k.chainC hn).nd) (by have:=ka k hn;refine(?_:(jm w n).length≤100);exact leK this rfl)) fun s a b c o l=>?_
 have hf:s.found=(jm w n).map jz:=o.f
 have hrl:=si k (List.mem_append_left _ hn) r1
 refine rwl hf ?_
 exact j8 [.call (.list (rows.map xb)) (SG xs (j7 w) hd),.e (.list (xb (n,0)::rows.map xb)),.loop .next (pe n s.found s.seen a b c s.slot s.kind) (SG xs (j7 w) hd)]
  (fun t=>q9 r2 (q9 (dn (r:=xb (n,0)) (rows:=rows.map xb) (by refine rwg (qi _) ?_;exact ltK hrl rfl)) (q9 l t))) (by kernel_rfl)
end
section
variable (C:Calls)
noncomputable def q1a (n:Str) (c:Cls) (seen:List (Str×T)) (slot kind par:Option Ent):Loc:=[("table",vT (.sh 5)),("c",vT (k9 n c)),("seen",some (.dict seen)),("slot",slot),("kind",kind),("parent",par)]
theorem qa0(n:Str)(c:Cls)(sg:List SO)(par:Option Ent):∀(ps:List (Str×Str))(seen:List (Str×T))(a b:Option Ent),(seen.map (·.1)++ps.map (·.1)).Nodup->seen.length+ps.length≤100 ->
  ∃seen' a' b',seen'.map (·.1)=seen.map (·.1)++ps.map (·.1)∧LoopR (jx C "check_slots" [1]) (ps.map jz) (q1a n c seen a b par) sg .next (q1a n c seen' a' b' par) sg:=by
 intro ps
 induction ps with
 | nil=>
  intro seen a b _ _
  exact i32 seen a b (List.append_nil _).symm .nil
 | cons p ps ih=>
  intro seen a b nd hl
  rw[qj] at hl
  have nd':=List.nodup_append.mp nd
  have hnew:p.1∉seen.map (·.1):=fun hm=>nd'.2.2 _ hm _ (.head _) rfl
  have e1:=rh p.1 (.str p.2) seen
  rw[if_neg hnew] at e1
  have hb:some (dget p.1 seen).isSome=some false:=by exact rwg (ko _ _)<|rwg (decide_eq_false hnew) rfl
  have e2:(dput p.1 (.str p.2) seen).length=seen.length+1:=by have:=congrArg List.length e1;rwa [qi,qk,qi] at this
  have e3:seen.map (·.1)++(p::ps).map (·.1)=(dput p.1 (.str p.2) seen).map (·.1)++ps.map (·.1):=by refine rwg e1<|rwg (List.append_assoc _ _ _) ?_;rfl
  refine e32 (ih (dput p.1 (.str p.2) seen) (vS p.1) (vS p.2) (by refine rwl e3 ?_;exact nd) (by refine rwg e2 ?_;exact a1 hl)) fun s' a' b' h1 l=>?_
  exact i32 s' a' b' (by exact rwg h1<|rwg e3 rfl) (.next (jg [.b false] (fun t=>q9 hb (q9 (fe (by exact b5 hl rfl) nd'.1) t)) (by kernel_rfl)) l)
theorem qdu(n:Str)(c:Cls)(sg:List SO)(par:Option Ent)(seen:List (Str×T)):∀(ps:List (Str×Str))(a b:Option Ent),(∀x∈ps.map (·.1),x∉seen.map (·.1)) ->
  ∃a' b',LoopR (jx C "check_slots" [2,0]) (ps.map jz) (q1a n c seen a b par) sg .next (q1a n c seen a' b' par) sg:=by
 intro ps
 induction ps with
 | nil=>
  intro a b _
  exact i21 a b .nil
 | cons p ps ih=>
  intro a b h
  have hb:some (dget p.1 seen).isSome=some false:=by exact rwg (ko _ _)<|rwg (decide_eq_false (h _ (.head _))) rfl
  refine e21 (ih (vS p.1) (vS p.2) fun x hx=>h x (.tail _ hx)) fun a' b' l=>?_
  exact i21 a' b' (.next (jg [.b false] (fun t=>q9 hb t) (by kernel_rfl)) l)
theorem q9z{w:Wd}(k:Wk w)(S:dq C w)(n:Str)(hn:n∈allNames)(hw:n∉w.map (·.1))(c:Cls)(xs hd:List T)(seen:List (Str×T))(hs:∀x∈seen.map (·.1),∃i,i<3∧x=zo n i):∀(ps:List Str)(a b par:Option Ent),(∀p∈ps,p∈w.map (·.1)) ->
  ∃a' b' par',LoopR (jx C "check_slots" [2]) (ps.map .str) (q1a n c seen a b par) (SG xs (j7 w) hd) .next (q1a n c seen a' b' par') (SG xs (j7 w) hd):=by
 intro ps
 induction ps with
 | nil=>
  intro a b par _
  exact i31 a b par .nil
 | cons p ps ih=>
  intro a b par h
  obtain⟨a1,b1,l1⟩:=qdu C n c (SG xs (j7 w) hd) (vS p) seen (jm w p) a b fun x hx hx'=>by
   refine e12 (hs x hx') fun i i1 i2=>?_
   obtain⟨m,_,m2⟩:=pk hx
   refine e02 (k.slotMem m2) fun m3 zz1=>?_;refine e12 zz1 fun j j1 j2=>?_;clear zz1
   have:=(mv n hn m (k.all m m3) i i1 j j1 (i2.symm.trans j2)).1
   exact hw (this▸m3)
  refine e31 (ih a1 b1 (vS p) fun q hq=>h q (.tail _ hq)) fun a2 b2 p2 l2=>?_
  exact i31 a2 b2 p2 (.next (jg [.call (.list ((jm w p).map jz)) (SG xs (j7 w) hd),.loop .next (q1a n c seen a1 b1 (vS p)) (SG xs (j7 w) hd)] (fun t=>q9 (S xs hd p (h p (.head _))) (q9 l1 t)) (by kernel_rfl)) l2)
theorem qdt{C:Calls}{w:Wd}(k:Wk w)(S:dq C w)(n:Str)(c:Cls)(h:dz (w.map (·.1)) n c)(hw:n∉w.map (·.1))(xs hd:List T):
  C.step.callF "check_slots" [.sh 5,k9 n c] (SG xs (j7 w) hd) (.val .none) (SG xs (j7 w) hd):=by
 refine e13 h.slots fun ks k1 k2 k3=>?_
 have nd:=tc h.name ks 0 (by exact leD k1 rfl)
 refine e32 (qa0 C n c (SG xs (j7 w) hd) none c.slots [] none none (by refine rwg k3 ?_;exact nd) (by refine rwg k3<|rwg (yx _ _ _) ?_;refine(?_:0+_≤100);exact leD k1 rfl)) fun seen a b h1 l1=>?_
 obtain⟨a2,b2,p2,l2⟩:=q9z C k S n h.name hw c xs hd seen (fun x hx=>by
  rw[h1,k3] at hx
  refine e13 (yw ((qz.mp hx).resolve_left fun z=>nomatch z)) fun i i1 i2 i3=>?_
  exact i12 i (by exact a7 i2 k1) i3) c.above a b none h.above
 exact j8 [.loop .next (q1a n c seen a b none) (SG xs (j7 w) hd),.loop .next (q1a n c seen a2 b2 p2) (SG xs (j7 w) hd)] (fun t=>q9 l1 (q9 l2 t)) (by kernel_rfl)
noncomputable def qji (n:Str) (c:Cls) (a:Option Ent):Loc:=[("self",vT (.sh 5)),("c",vT (k9 n c)),("name",a)]
theorem q3d{w:Wd}(k:Wk w)(K:qek C w)(D:qh4 C w)(n:Str)(hn:n∈allNames)(hw:n∉w.map (·.1))(c:Cls)(xs hd:List T):∀(ps:List Str)(a:Option Ent),(∀p∈ps,p∈w.map (·.1)) ->
  ∃a',LoopR (jx C "ClassTable.define" [0]) (ps.map .str) (qji n c a) (SG xs (j7 w) hd) .next (qji n c a') (SG xs (j7 w) hd):=by
 intro ps
 induction ps with
 | nil=>
  intro a _
  exact⟨a,.nil⟩
 | cons p ps ih=>
  intro a h
  have hp:=h p (.head _)
  have hne:p≠n:=fun e=>hw (e▸hp)
  have hany:n≠"ANY":=fun e=>(by decide +kernel:("ANY":Str)∉allNames) (e▸hn)
  have hb:some (decide (p=n))=some false:=congrArg some (decide_eq_false hne)
  obtain⟨a',l⟩:=ih (vS p) fun q hq=>h q (.tail _ hq)
  exact⟨a',.next (jg [.call (.val (.bool true)) (SG xs (j7 w) hd),.b true,.b false,.call (.val .none) (SG xs (j7 w) hd)]
   (fun t=>q9 (K xs hd p hp) (q9 (rfl:some true=some true) (q9 hb (q9 (D xs hd p hp n (fun q=>hw ((k.chainC hp).sub n q)) hany) t)))) (by kernel_rfl)) l⟩
theorem q9s {C:Calls} {w:Wd} (k:Wk w) (K:qek C w) (D:qh4 C w) (n:Str) (c:Cls) (h:dz (w.map (·.1)) n c) (hw:n∉w.map (·.1)) (xs hd:List T) (Ck:C.callF "check_slots" [.sh 5,k9 n c] (SG xs (j7 w) hd) (.val .none) (SG xs (j7 w) hd)) :
  C.step.callF "ClassTable.define" [.sh 5,k9 n c] (SG xs (j7 w) hd) (.val .none) (SG xs (j7 (w++[(n,c)])) hd):=by
 refine e11 (q3d C k K D n h.name hw c xs hd c.above none h.above) fun a l=>?_
 have e:j7 (w++[(n,c)])=dput n (k9 n c) (j7 w):=by refine rwg (yg (by rw[q2t];exact hw)) ?_;unfold j7;refine rwg qu ?_;rfl
 refine rwg e ?_
 have hl:(j7 w).length<1000:=by unfold j7;refine rwg (qi _) ?_;have:=k.len;exact ltK this rfl
 exact j8 [.loop .next (qji n c a) (SG xs (j7 w) hd),.call (.val .none) (SG xs (j7 w) hd)] (fun t=>q9 l (q9 Ck (q9 (fe hl (by refine rwg (q2t _) ?_;exact k.nd)) t))) (by kernel_rfl)
end
inductive V where
 | dbl | chr | lst | mat | int5 | chq
inductive Sh where
 | none
 | vec (v:V)
 | obj (n:Str) (fs:List (Str×Sh))
theorem V.each{P:V->Prop}(h1:P .dbl)(h2:P .chr)(h3:P .lst)(h4:P .mat)(h5:P .int5)(h6:P .chq)(v:V):P v:=V.rec h1 h2 h3 h4 h5 h6 v
theorem Sh.each{P:Sh->Prop}(h0:P .none)(h1:P (.vec .dbl))(h2:P (.vec .chr))(h3:P (.vec .lst))(h4:P (.vec .mat))(h5:P (.vec .int5))(h6:P (.vec .chq))(h7:∀n fs,P (.obj n fs))(x:Sh):P x:=Sh.casesOn x h0 (V.each h1 h2 h3 h4 h5 h6) h7
noncomputable def V.t:V->T
 | .dbl=>f8 "double" [] .none
 | .chr=>f8 "character" [] .none
 | .lst=>f8 "list" [] .none
 | .mat=>f8 "logical" [] (.dict [("dim",f8 "integer" [.int 0,.int 0] .none)])
 | .int5=>f8 "integer" [.int 5] .none
 | .chq=>f8 "character" [.str "q"] .none
noncomputable def bz:T:=.inst "Null" [("kind",.str "NULL"),("attrs",.none)]
noncomputable def px (n:Str) (es:List (Str×T)):T:=.inst "S4Object" [("kind",.str "S4"),("name",.str n),("slots",.dict es),("attrs",.none)]
mutual
noncomputable def Sh.o:Sh->T
 | .none=>bz
 | .vec v=>v.t
 | .obj n fs=>px n (shO fs)
noncomputable def shO:List (Str×Sh)->List (Str×T)
 | []=>[]
 | (s,x)::r=>(s,x.o)::shO r
end
noncomputable def pv(i:Int):V:=if i=0 then .int5 else .chq
theorem ib(q:Str×Int):xo q=(q.1,(pv q.2).t):=by
 unfold xo pv
 by_cases h:q.2=0
 ·refine rwg (if_pos h)<|rwg (if_pos h) ?_;rfl
 ·refine rwg (if_neg h)<|rwg (if_neg h) ?_;rfl
noncomputable def nu(s:Str):List (Str×Int)->Option Int
 | []=>none
 | (a,i)::r=>if a=s then some i else nu s r
theorem q3b(s:Str):∀ps:List (Str×Int),dget s (ps.map xo)=(nu s ps).map fun i=>(pv i).t:=by
 intro ps
 induction ps with
 | nil=>
  exact rfl
 | cons zz r ih=>
  obtain⟨a,i⟩:=zz
  refine rwg qv<|rwg (ib _) ?_
  refine(?_:(if a=s then some (pv i).t else dget s (r.map xo))=(if a=s then some i else nu s r).map _)
  by_cases k:a=s
  ·refine rwg (if_pos k)<|rwg (if_pos k) ?_;rfl
  ·refine rwg (if_neg k)<|rwg (if_neg k) ?_;exact ih
noncomputable def pu(w:Wd)(m s:Str):Option Int:=match z9 m w with
 | some c=>nu s c.protos
 | none=>none
noncomputable def zl(w:Wd)(s:Str):List Str->Option Int
 | []=>none
 | m::r=>match pu w m s with
  | some i=>some i
  | none=>zl w s r
noncomputable def q0s (k:Str):V:=if k="numeric" then .dbl else if k="character" then .chr else if k="list" then .lst else .mat
noncomputable def ux(w:Wd):Nat->Str->List Str->Sh
 | 0,_,_=>.none
 | f+1,n,mk=>.obj n ((jm w n).map fun p=>(p.1,match zl w p.1 (chain w n) with
  | some i=>.vec (pv i)
  | none=>if p.2∈w.map (·.1) then (if p.2∈mk++[n] then .none else ux w f p.2 (mk++[n])) else .vec (q0s p.2)))
noncomputable def xz(w:Wd)(f:Nat)(kind:Str)(mk:List Str):Sh:=if kind∈w.map (·.1) then (if kind∈mk then .none else ux w f kind mk) else .vec (q0s kind)
noncomputable def xd(w:Wd)(f:Nat)(n:Str)(mk:List Str)(p:Str×Str):Sh:=match zl w p.1 (chain w n) with
 | some i=>.vec (pv i)
 | none=>xz w f p.2 (mk++[n])
theorem qbm(w:Wd)(f:Nat)(n:Str)(mk:List Str):ux w (f+1) n mk = .obj n ((jm w n).map fun p=>(p.1,xd w f n mk p)):=rfl
noncomputable def jv:List Str:=["numeric","character","list","matrix"]
theorem q05 {P:Str→Prop} (a:P "numeric") (b:P "character") (c:P "list") (d:P "matrix"):∀n∈jv,P n:=fun n h=>by
 rcases ql.mp h with rfl | h
 ·exact a
 rcases ql.mp h with rfl | h
 ·exact b
 rcases ql.mp h with rfl | h
 ·exact c
 rcases ql.mp h with rfl | h
 ·exact d
 ·exact nomatch h
section
variable (C:Calls)(sg:List SO)
noncomputable def qhi:Ent:=.inst "Null" [("kind",.val (.str "NULL")),("attrs",.val .none)]
theorem qbn:C.step.makeC "Null" [] sg qhi sg:=wc [] (fun t=>t) (by kernel_rfl)
theorem qfg:C.step.step.callF "null" [] sg (.val bz) sg:=j8 [.call qhi sg] (fun t=>q9 (qbn C sg) t) (by kernel_rfl)
noncomputable def n8 (k:Str) (l:List T):Ent:=.inst "Vector" [("kind",.val (.str k)),("items",.val (.list l)),("attrs",.val .none),("shared",.val (.bool false)),("loose",.val (.bool false))]
theorem q59:C.step.step.callF "integer" [.list [.int 0,.int 0]] sg (.val (f8 "integer" [.int 0,.int 0] .none)) sg:=
 j8 [.call (n8 "integer" [.int 0,.int 0]) sg] (fun t=>q9 (ph C "integer" [.int 0,.int 0] sg) t) (by kernel_rfl)
theorem q8s:C.step.step.step.callF "empty_matrix" [] sg (.val (V.t .mat)) sg:=
 j8 [.call (n8 "logical" []) sg,.call (.val (f8 "integer" [.int 0,.int 0] .none)) sg] (fun t=>q9 (ph C.step "logical" [] sg) (q9 (q59 C sg) t)) (by kernel_rfl)
noncomputable def q0n (n:Str) (es:List (Str×T)):Ent:=.inst "S4Object" [("kind",.val (.str "S4")),("name",.val (.str n)),("slots",.dict es),("attrs",.val .none)]
theorem q8p (n:Str):C.step.makeC "S4Object" [.str n] sg (q0n n []) sg:=wc [] (fun t=>t) (by kernel_rfl)
theorem qb4:∀x:Sh,C.step.callF "share" [x.o] sg (.val x.o) sg:=
 Sh.each
  (j8 [] (fun t=>t) (by kernel_rfl))
  (j8 [] (fun t=>t) (by kernel_rfl))
  (j8 [] (fun t=>t) (by kernel_rfl))
  (j8 [] (fun t=>t) (by kernel_rfl))
  (j8 [] (fun t=>t) (by kernel_rfl))
  (j8 [] (fun t=>t) (by kernel_rfl))
  (j8 [] (fun t=>t) (by kernel_rfl))
  (fun n fs=>j8 [] (fun t=>t) (by kernel_rfl))
end
noncomputable def az(w:Wd)(n:Str):T:=match z9 n w with
 | some c=>k9 n c
 | none=>.none
noncomputable def qh2 (C:Calls) (w:Wd):Prop:=∀xs hd n,C.callF "ClassTable.get" [.sh 5,.str n] (SG xs (j7 w) hd) (.val (az w n)) (SG xs (j7 w) hd)
theorem qj2(C:Calls)(w:Wd):qh2 C.step w:=fun xs hd n=>by
 have e:some ((dget n (j7 w)).getD .none)=some (az w n):=by
  unfold az;refine rwg (dc _ _) ?_;cases z9 n w <;> rfl
 exact j8 [.t (az w n)] (fun t=>q9 e t) (by kernel_rfl)
structure PvE where
 n:Str
 slot:Str
 kind:Str
 sn:List T
 one:Option Ent
 steps:Option Ent
 c:Option Ent
noncomputable def PvE.env (e:PvE):Loc:=[("interp",vT (.sh 3)),("name",vS e.n),("slot",vS e.slot),("kind",vS e.kind),("seen",vT (.list e.sn)),("table",vT (.sh 5)),("one",e.one),("steps",e.steps),("c",e.c)]
noncomputable def qkv:Option Int->Fl
 | some i=>.ret (.val (pv i).t)
 | none=>.next
theorem q72 {C:Calls} {w:Wd} (G:qh2 C w) (hany:z9 "ANY" w=none) (xs hd:List T):∀(rows:List (Str×Int)) (l:List Str) (e:PvE),rows.map (·.1)=l++[("ANY":Str)]→(∀x∈l,x∈w.map (·.1)) →
  ∃one steps c,LoopR (jx C "prototype_value" [1]) (rows.map xb) e.env (SG xs (j7 w) hd) (qkv (zl w e.slot l)) ({ e with one:=one,steps:=steps,c:=c }:PvE).env (SG xs (j7 w) hd)
 | [],l,_,h,_=>by rcases l with ⟨⟩ <;> exact nomatch h
 | r::rs,[],e,h,_=>by
  refine e02 (List.cons.inj h) fun h1 h2=>?_
  obtain rfl:rs=[]:=List.map_eq_nil_iff.mp h2
  obtain⟨x,i⟩:=r
  obtain rfl:x="ANY":=h1
  have hg:=G xs hd "ANY"
  unfold az at hg;rw[hany] at hg
  exact i31 (vS "ANY") (vI i) (vT .none) (.next (jg [.call (.val .none) (SG xs (j7 w) hd)] (fun t=>q9 hg t) (by kernel_rfl)) .nil)
 | r::rs,a::l,e,h,hk=>by
  refine e02 (List.cons.inj h) fun h1 h2=>?_
  obtain⟨x,i⟩:=r
  obtain rfl:x=a:=h1
  refine e11 (xj (hk x (.head _))) fun c hc=>?_
  have hg:=G xs hd x
  unfold az at hg;replace hg:=hc▸hg
  have hd1:=q3b e.slot c.protos
  have e0:pu w x e.slot=nu e.slot c.protos:=by unfold pu;exact rwg hc rfl
  have e1:zl w e.slot (x::l)=match pu w x e.slot with
   | some i=>some i
   | none=>zl w e.slot l:=rfl
  rw[e0] at e1
  induction q:nu e.slot c.protos using qe with
  | some v=>
   rw[q] at hd1 e1
   refine rwg e1 ?_
   have hb:some (dget e.slot (c.protos.map xo)).isSome=some true:=by refine rwg hd1 ?_;rfl
   exact i31 (vS x) (vI i) (vT (k9 x c)) (.ret (jg [.call (.val (k9 x c)) (SG xs (j7 w) hd),.b true,.b true,.t (pv v).t] (fun t=>q9 hg (q9 (rfl:some true=some true) (q9 hb (q9 (by exact hd1:zu (.dict (c.protos.map xo)) (.str e.slot)=some (pv v).t) t)))) (by kernel_rfl)))
  | none=>
   rw[q] at hd1 e1
   refine rwg e1 ?_
   have hb:some (dget e.slot (c.protos.map xo)).isSome=some false:=by refine rwg hd1 ?_;rfl
   refine e31 (q72 G hany xs hd rs l { e with one:=vS x,steps:=vI i,c:=vT (k9 x c) } h2 fun y hy=>hk y (.tail _ hy)) fun o s c' l'=>?_
   exact i31 o s c' (.next (jg [.call (.val (k9 x c)) (SG xs (j7 w) hd),.b true,.b false] (fun t=>q9 hg (q9 (rfl:some true=some true) (q9 hb t))) (by kernel_rfl)) l')
noncomputable def wr(C:Calls)(w:Wd)(f:Nat):Prop:=∀xs hd k mk,(k∈jv∨k∈w.map (·.1))->(∀x∈mk,x∈w.map (·.1))->mk.Nodup->w.length≤f+mk.length ->
 C.callF "default_value" [.sh 3,.str k,.list (mk.map .str)] (SG xs (j7 w) hd) (.val (xz w f k mk).o) (SG xs (j7 w) hd)
noncomputable def rq(C:Calls)(w:Wd)(f:Nat):Prop:=∀xs hd n s k mk,n∈w.map (·.1)->(k∈jv∨k∈w.map (·.1))->(∀x∈mk++[n],x∈w.map (·.1))->(mk++[n]).Nodup->w.length≤f+(mk++[n]).length ->
 C.callF "prototype_value" [.sh 3,.str n,.str s,.str k,.list ((mk++[n]).map .str)] (SG xs (j7 w) hd) (.val (xd w f n mk (s,k)).o) (SG xs (j7 w) hd)
theorem ia {C:Calls} {w:Wd} {f:Nat} (k:Wk w) (St:∀xs hd,C.callF "s4_state" [.sh 3] (SG xs (j7 w) hd) (.val (.sh 4)) (SG xs (j7 w) hd)) (Su:yn C w) (G:qh2 C w) (D:wr C w f):rq C.step w f:=fun xs hd n s kd mk hn hk hm hnd hf=>by
 refine e12 (Su xs hd n (List.mem_append_left _ hn)) fun rows r1 r2=>?_
 have hrl:=si k (List.mem_append_left _ hn) r1
 refine e31 (q72 G (wh k.anyNo) xs hd ((n,0)::rows) (chain w n) ⟨n,s,kd,(mk++[n]).map .str,none,none,none⟩ r1 (k.chainC hn).sub) fun o st c l=>?_
 have ha:=dn (r:=xb (n,0)) (rows:=rows.map xb) (by refine rwg (qi _) ?_;exact ltK hrl rfl)
 have l':LoopR (jx C "prototype_value" [1]) (xb (n,0)::rows.map xb) (PvE.mk n s kd ((mk++[n]).map .str) none none none).env (SG xs (j7 w) hd) (qkv (zl w s (chain w n))) (PvE.mk n s kd ((mk++[n]).map .str) o st c).env (SG xs (j7 w) hd):=l
 induction q:zl w s (chain w n) using qe with
 | some i=>
  replace l':=q▸l'
  have e:xd w f n mk (s,kd) = .vec (pv i):=by unfold xd;dsimp only;exact rwg q rfl
  refine rwg e ?_
  exact j8 [.call (.val (.sh 4)) (SG xs (j7 w) hd),.call (.list (rows.map xb)) (SG xs (j7 w) hd),.e (.list (xb (n,0)::rows.map xb)),.loop (.ret (.val (pv i).t)) (PvE.mk n s kd ((mk++[n]).map .str) o st c).env (SG xs (j7 w) hd)]
   (fun t=>q9 (St xs hd) (q9 r2 (q9 ha (q9 l' t)))) (by kernel_rfl)
 | none=>
  replace l':=q▸l'
  have e:xd w f n mk (s,kd)=xz w f kd (mk++[n]):=by unfold xd;dsimp only;exact rwg q rfl
  refine rwg e ?_
  exact j8 [.call (.val (.sh 4)) (SG xs (j7 w) hd),.call (.list (rows.map xb)) (SG xs (j7 w) hd),.e (.list (xb (n,0)::rows.map xb)),.loop .next (PvE.mk n s kd ((mk++[n]).map .str) o st c).env (SG xs (j7 w) hd),.call (.val (xz w f kd (mk++[n])).o) (SG xs (j7 w) hd)]
   (fun t=>q9 (St xs hd) (q9 r2 (q9 ha (q9 l' (q9 (D xs hd kd (mk++[n]) hk hm hnd hf) t))))) (by kernel_rfl)
structure ml(C:Calls)(w:Wd):Prop where
 st:∀xs hd,C.callF "s4_state" [.sh 3] (SG xs (j7 w) hd) (.val (.sh 4)) (SG xs (j7 w) hd)
 su:yn C w
 gets:qh2 C w
 so:dq C w
 ch:q6o C w
 ls:qej C w
 null:∀sg,C.callF "null" [] sg (.val bz) sg
 share:∀sg (x:Sh),C.callF "share" [x.o] sg (.val x.o) sg
 vec:∀sg k l,C.makeC "Vector" [.str k,.list l] sg (n8 k l) sg
 mat:∀sg,C.callF "empty_matrix" [] sg (.val (V.t .mat)) sg
 obj:∀sg n,C.makeC "S4Object" [.str n] sg (q0n n []) sg
theorem q1p(C:Calls){w:Wd}(k:Wk w):ml C.step.step.step.step.step.step w:=by
 have P:=gy C k
 have S:yn C.step.step.step.step.step w:=ui k P
 have S':yn C.step.step.step.step.step.step w:=ui k (gy C.step k)
 exact⟨fun xs hd=>qau _ xs _ hd,S',qj2 _ w,cy k S (fun sg=>ri _ sg),q3j _ k,q8v k (q3j _ k),fun sg=>qfg _ sg,fun sg x=>qb4 _ sg x,fun sg k l=>ph _ k l sg,fun sg=>q8s _ sg,fun sg n=>q8p _ sg n⟩
theorem q8k {w:Wd} (k:Wk w) (h0:0<w.length):("A":Str)∈w.map (·.1):=by
 refine rwg k.keys ?_
 obtain⟨m,e⟩:∃m,w.length=m+1:=⟨w.length-1,by exact a8 h0⟩
 refine rwg e ?_;exact .head _
theorem lw{w:Wd}(k:Wk w)(h0:0<w.length){p:Str×Str}{l:List Str}(h:p∈zi w l):p.2∈jv∨p.2∈w.map (·.1):=by
 obtain⟨n,_,h2⟩:=List.mem_flatMap.mp h
 unfold w9 at h2
 induction q:z9 n w using qe with
 | none=>replace h2:=q▸h2;cases h2
 | some c=>
  replace h2:=q▸h2
  obtain⟨pre,h1,_⟩:=k.ok.cls (zw q)
  refine e13 h1.slots fun ks k1 k2 k3=>?_
  have h2:p∈zm n 0 ks:=by refine rwl k3 ?_;exact h2
  have key:∀{ks:List Str}{j:Nat},p∈zm n j ks->p.2∈ks:=by
   intro ks
   induction ks with
   | nil=>intro j h;cases h
   | cons a r ih=>
    intro j h
    rcases ql.mp h with rfl | h
    ·exact .head _
    ·exact .tail _ (ih h)
  have h3:=k2 _ (key h2)
  rcases ql.mp h3 with e | h3
  ·refine rwg e ?_;exact .inl (.head _)
  rcases ql.mp h3 with e | h3
  ·refine rwg e ?_;exact .inl (.tail _ (.head _))
  rcases ql.mp h3 with e | h3
  ·refine rwg e ?_;exact .inl (.tail _ (.tail _ (.head _)))
  rcases ql.mp h3 with e | h3
  ·refine rwg e ?_;exact .inl (.tail _ (.tail _ (.tail _ (.head _))))
  rcases ql.mp h3 with e | h3
  ·refine rwg e ?_;exact .inr (List.mem_map.mpr (i12 _ (zw q) rfl))
  rcases ql.mp h3 with e | h3
  ·refine rwg e ?_;exact .inr (q8k k h0)
  ·cases h3
noncomputable def envM (n:Str) (mk:List Str) (es:List (Str×T)) (slot kind:Option Ent):Loc:=[("interp",vT (.sh 3)),("name",vS n),("seen",vT (.list (mk.map .str))),("made",some (q0n n es)),("inner",some (.list ((mk++[n]).map .str))),("slot",slot),("kind",kind)]
noncomputable def ql1 (n:Str) (mk:List Str) (es:List (Str×T)) (slot kind:Option Ent):Loc:=[("interp",vT (.sh 3)),("name",vS n),("seen",vT (.list (mk.map .str))),("made",some (q0n n es)),("inner",vT (.list ((mk++[n]).map .str))),("slot",slot),("kind",kind)]
theorem sf:∀l:List (Str×Sh),(shO l).map (·.1)=l.map (·.1):=by
 intro l
 induction l with
 | nil=>
  exact rfl
 | cons zz r ih=>
  obtain⟨s,x⟩:=zz
  exact congrArg (s::·) (ih)
theorem qb5(s:Str)(x:Sh):∀l:List (Str×Sh),shO (l++[(s,x)])=shO l++[(s,x.o)]:=by
 intro l
 induction l with
 | nil=>
  exact rfl
 | cons zz r ih=>
  obtain⟨a,y⟩:=zz
  exact congrArg ((a,y.o)::·) (ih)
theorem q8t{C:Calls}{w:Wd}{f:Nat}(B:ml C w)(P:rq C w f)(xs hd:List T)(n:Str)(mk:List Str)(hn:n∈w.map (·.1))(hm:∀x∈mk++[n],x∈w.map (·.1))(hnd:(mk++[n]).Nodup)(hf:w.length≤f+(mk++[n]).length)
  (p:Str×Str) (done:List (Str×Sh)) (hk:p.2∈jv∨p.2∈w.map (·.1)) (h1:p.1∉done.map (·.1)) (h2:(done.map (·.1)).Nodup) (h3:done.length≤100) (a b:Option Ent) (w7:Ent) (hi:w7 = .list ((mk++[n]).map .str)∨w7 = .val (.list ((mk++[n]).map .str))) :
  wq (jx C "make_prototype" [2] (jz p)) [("interp",vT (.sh 3)),("name",vS n),("seen",vT (.list (mk.map .str))),("made",some (q0n n (shO done))),("inner",some w7),("slot",a),("kind",b)] (SG xs (j7 w) hd) .next
   (ql1 n mk (shO (done++[(p.1,xd w f n mk p)])) (vS p.1) (vS p.2)) (SG xs (j7 w) hd):=by
 have hkeys:=sf done
 have hok:okD (shO done)=true:=fe (by have:=congrArg List.length hkeys;rw[qi,qi] at this;exact this▸ltK h3 rfl) (by refine rwg hkeys ?_;exact h2)
 have hp:=P xs hd n p.1 p.2 mk hn hk hm hnd hf
 refine rwg (qb5 _ _ _)<|rwl (yg (v:=(xd w f n mk p).o) (by rw[hkeys];exact h1)) ?_
 rcases hi with rfl | rfl
 ·exact jg [.call (.val (xd w f n mk p).o) (SG xs (j7 w) hd),.call (.val (xd w f n mk p).o) (SG xs (j7 w) hd)] (fun t=>q9 hp (q9 (B.share (SG xs (j7 w) hd) (xd w f n mk p)) (q9 hok t))) (by kernel_rfl)
 ·exact jg [.call (.val (xd w f n mk p).o) (SG xs (j7 w) hd),.call (.val (xd w f n mk p).o) (SG xs (j7 w) hd)] (fun t=>q9 hp (q9 (B.share (SG xs (j7 w) hd) (xd w f n mk p)) (q9 hok t))) (by kernel_rfl)
theorem q8u{C:Calls}{w:Wd}{f:Nat}(B:ml C w)(P:rq C w f)(xs hd:List T)(n:Str)(mk:List Str)(hn:n∈w.map (·.1))(hm:∀x∈mk++[n],x∈w.map (·.1))(hnd:(mk++[n]).Nodup)(hf:w.length≤f+(mk++[n]).length):
  ∀(ps:List (Str×Str))(done:List (Str×Sh))(a b:Option Ent)(w7:Ent),(w7 = .list ((mk++[n]).map .str)∨w7 = .val (.list ((mk++[n]).map .str)))->(∀p∈ps,p.2∈jv∨p.2∈w.map (·.1))->(done.map (·.1)++ps.map (·.1)).Nodup->done.length+ps.length≤100 ->
  ∃a' b' inner',LoopR (jx C "make_prototype" [2]) (ps.map jz) [("interp",vT (.sh 3)),("name",vS n),("seen",vT (.list (mk.map .str))),("made",some (q0n n (shO done))),("inner",some w7),("slot",a),("kind",b)] (SG xs (j7 w) hd) .next
   [("interp",vT (.sh 3)),("name",vS n),("seen",vT (.list (mk.map .str))),("made",some (q0n n (shO (done++ps.map fun p=>(p.1,xd w f n mk p))))),("inner",some inner'),("slot",a'),("kind",b')] (SG xs (j7 w) hd):=by
 intro ps
 induction ps with
 | nil=>
  intro done a b w7 _ _ _ _
  exact i31 a b w7 (by refine rwg List.map_nil<|rwg List.map_nil<|rwg (List.append_nil _) ?_;exact .nil)
 | cons p ps ih=>
  intro done a b w7 hi hk nd hl
  have nd':=List.nodup_append.mp nd
  rw[qj] at hl
  have e:(done++[(p.1,xd w f n mk p)]).map (·.1)++ps.map (·.1)=done.map (·.1)++(p::ps).map (·.1):=by refine rwg qu<|rwg (List.append_assoc _ _ _) ?_;rfl
  refine e31 (ih (done++[(p.1,xd w f n mk p)]) (vS p.1) (vS p.2) _ (.inr rfl) (fun q hq=>hk q (.tail _ hq)) (by refine rwg e ?_;exact nd) (by refine rwg qk ?_;refine(?_:done.length+1+_≤_);exact a1 hl)) fun a' b' i' l=>?_
  rw[List.append_assoc] at l
  exact i31 a' b' i' (.next (q8t B P xs hd n mk hn hm hnd hf p done (hk p (.head _)) (fun q=>nd'.2.2 _ q _ (.head _) rfl) nd'.1 (by exact Nat.le_of_add_right_le hl) a b w7 hi) l)
noncomputable def q3v(C:Calls)(w:Wd)(f:Nat):Prop:=∀xs hd n mk,n∈w.map (·.1)->(∀x∈mk++[n],x∈w.map (·.1))->(mk++[n]).Nodup->w.length≤f+mk.length ->
 C.callF "make_prototype" [.sh 3,.str n,.list (mk.map .str)] (SG xs (j7 w) hd) (.val (ux w f n mk).o) (SG xs (j7 w) hd)
theorem q7b {xs:List T} (h:xs.length≤LIM):ze "list" [.list xs]=some (.list xs):=by
 refine(?_:yj "list" xs=_)
 unfold yj;refine rwg (decide_eq_true h) ?_;rfl
theorem q7s{xs:List T}{x:T}(h:xs.length<3000):aq .Add (.list xs) (.list [x])=some (.list (xs++[x])):=by
 refine(?_:opt (q3s xs [x]) _=_)
 unfold q3s;refine rwg (decide_eq_true (by refine(?_:xs.length+[x].length≤4000);simp;exact b4 h rfl)) ?_;rfl
theorem q2l{C:Calls}{w:Wd}{f:Nat}(k:Wk w)(h0:0<w.length)(B:ml C w)(P:rq C w f):q3v C.step w (f+1):=fun xs hd n mk hn hm hnd hf=>by
 have hml:mk.length≤w.length:=by
  have:=vj hnd hm
  rw[qk,qi] at this;exact Nat.le_of_add_right_le this
 have hw:=k.len
 refine e31 (q8u B P xs hd n mk hn hm hnd (by refine rwg qk ?_;refine(?_:w.length≤f+(mk.length+1));exact a3 hf) (jm w n) [] none none _ (.inl rfl) (fun p hp=>lw k h0 hp) (k.slotsNd (k.chainC hn).nd) (by have:=ka k hn;refine(?_:0+_≤100);exact leD this rfl)) fun a b i l=>?_
 have e:(ux w (f+1) n mk).o=px n (shO ((jm w n).map fun p=>(p.1,xd w f n mk p))):=rfl
 refine rwg e ?_
 have e1:=q7b (xs:=mk.map .str) (by refine rwg (qi _) ?_;refine(?_:_≤4000);exact b1 hml hw rfl)
 have e2:=q7s (xs:=mk.map .str) (x:=.str n) (by refine rwg (qi _) ?_;exact b3 hml hw rfl)
 rw[y0] at e2
 exact j8 [.call (q0n n []) (SG xs (j7 w) hd),.e (.list (mk.map .str)),.e (.list ((mk++[n]).map .str)),.call (.val (.sh 4)) (SG xs (j7 w) hd),.call (.list ((jm w n).map jz)) (SG xs (j7 w) hd),
   .loop .next [("interp",vT (.sh 3)),("name",vS n),("seen",vT (.list (mk.map .str))),("made",some (q0n n (shO ((jm w n).map fun p=>(p.1,xd w f n mk p))))),("inner",some i),("slot",a),("kind",b)] (SG xs (j7 w) hd)]
  (fun t=>q9 (B.obj (SG xs (j7 w) hd) n) (q9 e1 (q9 e2 (q9 (B.st xs hd) (q9 (B.so xs hd n hn) (q9 l t)))))) (by kernel_rfl)
theorem lu{w:Wd}{mk:List Str}{k:Str}(hm:∀x∈mk,x∈w.map (·.1))(hnd:mk.Nodup)(hf:w.length≤mk.length)(hk:k∈w.map (·.1)):k∈mk:=by
 by_cases h:k∈mk
 ·exact h
 ·have:=vj (U:=w.map (·.1)) (c:=k::mk) (List.nodup_cons.mpr ⟨h,hnd⟩) fun x hx=>by
   rcases ql.mp hx with rfl | hx
   ·exact hk
   ·exact hm x hx
  rw[qj,qi] at this;exact absurd (qr this hf) (Nat.not_succ_le_self _)
theorem ww:∀k∈jv,k∉allNames:=by decide +kernel
theorem df {C:Calls} {w:Wd} (B:ml C w) (xs hd:List T) (mk:List T):∀k∈jv,C.step.callF "default_value" [.sh 3,.str k,.list mk] (SG xs (j7 w) hd) (.val (V.t (q0s k))) (SG xs (j7 w) hd):=
 q05
  (j8 [.call (.val (.sh 4)) (SG xs (j7 w) hd),.call (n8 "double" []) (SG xs (j7 w) hd)] (fun t=>q9 (B.st xs hd) (q9 (B.vec (SG xs (j7 w) hd) "double" []) t)) (by kernel_rfl))
  (j8 [.call (.val (.sh 4)) (SG xs (j7 w) hd),.call (n8 "character" []) (SG xs (j7 w) hd)] (fun t=>q9 (B.st xs hd) (q9 (B.vec (SG xs (j7 w) hd) "character" []) t)) (by kernel_rfl))
  (j8 [.call (.val (.sh 4)) (SG xs (j7 w) hd),.call (n8 "list" []) (SG xs (j7 w) hd)] (fun t=>q9 (B.st xs hd) (q9 (B.vec (SG xs (j7 w) hd) "list" []) t)) (by kernel_rfl))
  (j8 [.call (.val (.sh 4)) (SG xs (j7 w) hd),.call (.val (V.t .mat)) (SG xs (j7 w) hd)] (fun t=>q9 (B.st xs hd) (q9 (B.mat (SG xs (j7 w) hd)) t)) (by kernel_rfl))
theorem ff:some false=some false:=rfl
theorem de {C:Calls} {w:Wd} (B:ml C w) (xs hd mk:List T) (c:Cls):∀k∈allNames,C.callF "ClassTable.get" [.sh 5,.str k] (SG xs (j7 w) hd) (.val (k9 k c)) (SG xs (j7 w) hd)→uu .In (.str k) (.list mk)=some true →
  C.step.callF "default_value" [.sh 3,.str k,.list mk] (SG xs (j7 w) hd) (.val bz) (SG xs (j7 w) hd):=y5
  (fun hg hi=>j8 [.call (.val (.sh 4)) (SG xs (j7 w) hd),.call (.val (k9 "A" c)) (SG xs (j7 w) hd),.b false,.b false,.b true,.call (.val bz) (SG xs (j7 w) hd)] (fun t=>q9 (B.st xs hd) (q9 hg (q9 ff (q9 ff (q9 hi (q9 (B.null (SG xs (j7 w) hd)) t)))))) (by kernel_rfl))
  (fun hg hi=>j8 [.call (.val (.sh 4)) (SG xs (j7 w) hd),.call (.val (k9 "B" c)) (SG xs (j7 w) hd),.b false,.b false,.b true,.call (.val bz) (SG xs (j7 w) hd)] (fun t=>q9 (B.st xs hd) (q9 hg (q9 ff (q9 ff (q9 hi (q9 (B.null (SG xs (j7 w) hd)) t)))))) (by kernel_rfl))
  (fun hg hi=>j8 [.call (.val (.sh 4)) (SG xs (j7 w) hd),.call (.val (k9 "C" c)) (SG xs (j7 w) hd),.b false,.b false,.b true,.call (.val bz) (SG xs (j7 w) hd)] (fun t=>q9 (B.st xs hd) (q9 hg (q9 ff (q9 ff (q9 hi (q9 (B.null (SG xs (j7 w) hd)) t)))))) (by kernel_rfl))
  (fun hg hi=>j8 [.call (.val (.sh 4)) (SG xs (j7 w) hd),.call (.val (k9 "D" c)) (SG xs (j7 w) hd),.b false,.b false,.b true,.call (.val bz) (SG xs (j7 w) hd)] (fun t=>q9 (B.st xs hd) (q9 hg (q9 ff (q9 ff (q9 hi (q9 (B.null (SG xs (j7 w) hd)) t)))))) (by kernel_rfl))
theorem q1i {C:Calls} {w:Wd} (B:ml C w) (xs hd mk:List T) (c:Cls) (r:T):∀k∈allNames,C.callF "ClassTable.get" [.sh 5,.str k] (SG xs (j7 w) hd) (.val (k9 k c)) (SG xs (j7 w) hd)→uu .In (.str k) (.list mk)=some false →
  C.callF "make_prototype" [.sh 3,.str k,.list mk] (SG xs (j7 w) hd) (.val r) (SG xs (j7 w) hd)→C.step.callF "default_value" [.sh 3,.str k,.list mk] (SG xs (j7 w) hd) (.val r) (SG xs (j7 w) hd):=y5
  (fun hg hi hr=>j8 [.call (.val (.sh 4)) (SG xs (j7 w) hd),.call (.val (k9 "A" c)) (SG xs (j7 w) hd),.b false,.b false,.b false,.call (.val r) (SG xs (j7 w) hd)] (fun t=>q9 (B.st xs hd) (q9 hg (q9 ff (q9 ff (q9 hi (q9 hr t)))))) (by kernel_rfl))
  (fun hg hi hr=>j8 [.call (.val (.sh 4)) (SG xs (j7 w) hd),.call (.val (k9 "B" c)) (SG xs (j7 w) hd),.b false,.b false,.b false,.call (.val r) (SG xs (j7 w) hd)] (fun t=>q9 (B.st xs hd) (q9 hg (q9 ff (q9 ff (q9 hi (q9 hr t)))))) (by kernel_rfl))
  (fun hg hi hr=>j8 [.call (.val (.sh 4)) (SG xs (j7 w) hd),.call (.val (k9 "C" c)) (SG xs (j7 w) hd),.b false,.b false,.b false,.call (.val r) (SG xs (j7 w) hd)] (fun t=>q9 (B.st xs hd) (q9 hg (q9 ff (q9 ff (q9 hi (q9 hr t)))))) (by kernel_rfl))
  (fun hg hi hr=>j8 [.call (.val (.sh 4)) (SG xs (j7 w) hd),.call (.val (k9 "D" c)) (SG xs (j7 w) hd),.b false,.b false,.b false,.call (.val r) (SG xs (j7 w) hd)] (fun t=>q9 (B.st xs hd) (q9 hg (q9 ff (q9 ff (q9 hi (q9 hr t)))))) (by kernel_rfl))
theorem cb{w:Wd}{k:Str}{c:Cls}(hc:z9 k w=some c):az w k=k9 k c:=by unfold az;exact rwg hc rfl
theorem q1g{C:Calls}{w:Wd}(k:Wk w)(B:ml C w):wr C.step w 0:=fun xs hd kd mk hk hm hnd hf=>by
 unfold xz
 rcases hk with hk | hk
 ·refine rwg (if_neg fun h=>ww _ hk (k.all _ h)) ?_
  exact df B xs hd (mk.map .str) kd hk
 ·refine rwg (if_pos hk)<|rwg (if_pos (lu hm hnd (by exact a6 hf) hk)) ?_
  refine e11 (xj hk) fun c hc=>?_
  exact de B xs hd (mk.map .str) c kd (k.all _ hk) (cb hc▸B.gets xs hd kd) ((uo kd mk).trans (congrArg some (decide_eq_true (lu hm hnd (by exact a6 hf) hk))))
theorem q1h{C:Calls}{w:Wd}{f:Nat}(k:Wk w)(B:ml C w)(M:q3v C w (f+1)):wr C.step w (f+1):=fun xs hd kd mk hk hm hnd hf=>by
 unfold xz
 rcases hk with hk | hk
 ·refine rwg (if_neg fun h=>ww _ hk (k.all _ h)) ?_
  exact df B xs hd (mk.map .str) kd hk
 ·refine rwg (if_pos hk) ?_
  refine e11 (xj hk) fun c hc=>?_
  by_cases h:kd∈mk
  ·refine rwg (if_pos h) ?_
   exact de B xs hd (mk.map .str) c kd (k.all _ hk) (cb hc▸B.gets xs hd kd) ((uo kd mk).trans (congrArg some (decide_eq_true h)))
  ·refine rwg (if_neg h) ?_
   refine q1i B xs hd (mk.map .str) c _ kd (k.all _ hk) (cb hc▸B.gets xs hd kd) ((uo kd mk).trans (congrArg some (decide_eq_false h))) (M xs hd kd mk hk (fun x hx=>?_) ?_ hf)
   ·rcases qz.mp hx with q | q
    ·exact hm x q
    ·refine rwg (List.mem_singleton.mp q) ?_;exact hk
   ·rw[List.nodup_append]
    exact i03 hnd (by simp) (fun a ha b hb=>by refine rwg (List.mem_singleton.mp hb) ?_;intro z;rw[z] at ha;exact h ha)
noncomputable def V.s:V->Str
 | .dbl=>"double []"
 | .chr=>"character []"
 | .lst=>"list []"
 | .mat=>"logical [0, 0]"
 | .int5=>"integer [5]"
 | .chq=>"character ['q']"
mutual
noncomputable def Sh.s:Sh->T
 | .none=>.str "none"
 | .vec v=>.str v.s
 | .obj n fs=>.list (.str n::shS fs)
noncomputable def shS:List (Str×Sh)->List T
 | []=>[]
 | (s,x)::r=>.tup [.str s,x.s]::shS r
end
noncomputable def Sh.e:Sh->Ent
 | .obj n fs=>.list (.str n::shS fs)
 | x=>.val x.s
theorem qk7(s:Str)(x:Sh):∀l:List (Str×Sh),shS (l++[(s,x)])=shS l++[.tup [.str s,x.s]]:=by
 intro l
 induction l with
 | nil=>
  exact rfl
 | cons zz r ih=>
  obtain⟨a,y⟩:=zz
  exact congrArg (T.tup [.str a,y.s]::·) (ih)
theorem qez:∀l:List (Str×Sh),(shS l).length=l.length:=by
 intro l
 induction l with
 | nil=>
  exact rfl
 | cons zz r ih=>
  obtain⟨a,y⟩:=zz
  exact congrArg (·+1) (ih)
theorem q0y{w:Wd}{n:Str}(h:n∈w.map (·.1)):some (dget n (vd w)).isSome=some true:=by
 refine e11 (xj h) fun c e=>?_
 refine rwg (q1f _ _)<|rwg e ?_;rfl
theorem q76{w:Wd}{n:Str}(h:n∉w.map (·.1)):some (dget n (vd w)).isSome=some false:=by refine rwg (q1f _ _)<|rwg (wh h) ?_;rfl
theorem q3c(s:Str):∀ps:List (Str×Int),dget s (ps.map zq)=(nu s ps).map .int:=by
 intro ps
 induction ps with
 | nil=>
  exact rfl
 | cons zz r ih=>
  obtain⟨a,i⟩:=zz
  refine(?_:(if a=s then some (T.int i) else dget s (r.map zq))=(if a=s then some i else nu s r).map _)
  by_cases k:a=s
  ·refine rwg (if_pos k)<|rwg (if_pos k) ?_;rfl
  ·refine rwg (if_neg k)<|rwg (if_neg k) ?_;exact ih
structure LoE where
 w:Wd
 n:Str
 sn:List T
 found:List T
 slot:Str
 kind:Str
 value:Str
 one:Option Ent
noncomputable def LoE.env (e:LoE):Loc:=[("world",vT (.dict (vd e.w))),("name",vS e.n),("making",vT (.list e.sn)),("found",some (.list e.found)),("slot",vS e.slot),("kind",vS e.kind),("value",vS e.value),("one",e.one)]
noncomputable def q5d(o:Option Int):Str:=match o with
 | some i=>(pv i).s
 | none=>""
theorem qkd (i:Int):(pv i).s≠"":=by
 unfold pv
 by_cases h:i=0
 ·refine rwg (if_pos h) ?_;exact(by decide +kernel:(V.int5).s≠"")
 ·refine rwg (if_neg h) ?_;exact(by decide +kernel:(V.chq).s≠"")
theorem qbf{w:Wd}(k:Wk w){n s:Str}{c:Cls}{i:Int}(hc:z9 n w=some c)(h:nu s c.protos=some i):i=0∨i=1:=by
 obtain⟨pre,h1,_⟩:=k.ok.cls (zw hc)
 have key:∀{ps:List (Str×Int)},nu s ps=some i->(s,i)∈ps:=by
  intro ps
  induction ps with
  | nil=>intro h;exact(j6 h).elim
  | cons a r ih=>
   intro h
   obtain⟨a,j⟩:=a
   replace h:(if a=s then some j else nu s r)=_:=h
   by_cases q:a=s
   ·rw[if_pos q] at h;replace h:=qd h;cases h;refine rwg q ?_;exact .head _
   ·rw[if_neg q] at h;exact .tail _ (ih h)
 exact(h1.protos.1 _ (key h)).2
theorem ql0 (x:Str):uu .Eq (.str x) (.str "")=some (decide (x="")):=rfl
theorem qkm{C:Calls}{w:Wd}(k:Wk w)(sg:List SO)(e:LoE)(he:e.w=w):∀(l:List Str)(v:Str)(o:Option Ent),(∀x∈l,x∈w.map (·.1)) ->
  ∃o',LoopR (jx C "_law_object" [1,1]) (l.map .str) ({ e with value:=v,one:=o }:LoE).env sg .next ({ e with value:=(if v="" then q5d (zl w e.slot l) else v),one:=o' }:LoE).env sg:=by
 intro l
 induction l with
 | nil=>
  intro v o _
  exact⟨o,by
   have:(if v="" then q5d (zl w e.slot []) else v)=v:=by
    by_cases h:v=""
    ·refine rwg (if_pos h)<|rwg h ?_;rfl
    ·exact rwg (if_neg h) rfl
   refine rwg this ?_;exact .nil⟩
 | cons x l ih=>
  intro v o hk
  refine e11 (xj (hk x (.head _))) fun c hc=>?_
  have hw:=bu hc
  have e0:pu w x e.slot=nu e.slot c.protos:=by unfold pu;exact rwg hc rfl
  have e1:zl w e.slot (x::l)=match pu w x e.slot with
   | some i=>some i
   | none=>zl w e.slot l:=rfl
  rw[e0] at e1
  have hd1:=q3c e.slot c.protos
  subst he
  by_cases hv:v=""
  ·subst hv
   refine rwg (if_pos rfl) ?_
   have he0:some (decide (("":Str)=""))=some true:=rfl
   induction q:nu e.slot c.protos using qe with
   | none=>
    rw[q] at e1 hd1
    refine rwg e1 ?_
    have hb:some (dget e.slot (c.protos.map zq)).isSome=some false:=by refine rwg hd1 ?_;rfl
    obtain⟨o',l'⟩:=ih "" (vS x) fun y hy=>hk y (.tail _ hy)
    replace l':=(if_pos rfl)▸l'
    exact⟨o',.next (jg [.b true,.t c.t,.b false] (fun t=>q9 he0 (q9 hw (q9 hb t))) (by kernel_rfl)) l'⟩
   | some i=>
    rw[q] at e1 hd1
    refine rwg e1 ?_
    have hb:some (dget e.slot (c.protos.map zq)).isSome=some true:=by refine rwg hd1 ?_;rfl
    have hi:zu (.dict (c.protos.map zq)) (.str e.slot)=some (.int i):=hd1
    have hm:zu (.list [.str "integer [5]",.str "character ['q']"]) (.int i)=some (.str (pv i).s):=by
     rcases qbf k hc q with rfl | rfl <;> rfl
    obtain⟨o',l'⟩:=ih (pv i).s (vS x) fun y hy=>hk y (.tail _ hy)
    rw[if_neg (qkd i)] at l'
    exact⟨o',.next (jg [.b true,.t c.t,.b true,.t c.t,.t (.dict (c.protos.map zq)),.t (.int i),.t (.str (pv i).s)]
     (fun t=>q9 he0 (q9 hw (q9 hb (q9 hw (q9 (rfl:some (T.dict (c.protos.map zq))=some (T.dict (c.protos.map zq))) (q9 hi (q9 hm t))))))) (by kernel_rfl)) l'⟩
  ·refine rwg (if_neg hv) ?_
   have he0:some (decide (v=""))=some false:=congrArg some (decide_eq_false hv)
   obtain⟨o',l'⟩:=ih v (vS x) fun y hy=>hk y (.tail _ hy)
   replace l':=(if_neg hv)▸l'
   exact⟨o',.next (jg [.b false] (fun t=>q9 he0 t) (by kernel_rfl)) l'⟩
noncomputable def bl(C:Calls)(w:Wd)(f:Nat):Prop:=∀sg kd mk,(kd∈jv∨kd∈w.map (·.1))->(∀x∈mk,x∈w.map (·.1))->mk.Nodup->w.length≤f+mk.length ->
 C.callF "_law_start" [.dict (vd w),.str kd,.list (mk.map .str)] sg (xz w f kd mk).e sg
noncomputable def dy(C:Calls)(w:Wd)(f:Nat):Prop:=∀sg n mk,n∈w.map (·.1)->(∀x∈mk++[n],x∈w.map (·.1))->(mk++[n]).Nodup->w.length≤f+mk.length ->
 C.callF "_law_object" [.dict (vd w),.str n,.list (mk.map .str)] sg (ux w f n mk).e sg
noncomputable def eg (w:Wd) (n:Str) (mk:List Str) (found:List T) (slot kind value one:Option Ent):Loc:=[("world",vT (.dict (vd w))),("name",vS n),("making",vT (.list (mk.map .str))),("found",some (.list found)),("slot",slot),("kind",kind),("value",value),("one",one)]
theorem qhf:∀x:Sh,x.e.fz=x.s:=by
 intro x
 induction x using Sh.casesOn with
 | none=>
  exact rfl
 | vec _=>
  exact rfl
 | obj _ _=>
  exact rfl
theorem qfp{C:Calls}{w:Wd}{f:Nat}(k:Wk w)(B:ml C w)(S:bl C w f)(sg:List SO)(n:Str)(mk:List Str)(hn:n∈w.map (·.1))(hm:∀x∈mk++[n],x∈w.map (·.1))(hnd:(mk++[n]).Nodup)(hf:w.length≤f+(mk++[n]).length)
  (p:Str×Str) (hk:p.2∈jv∨p.2∈w.map (·.1)) (found:List T) (hl:found.length<3000) (a b c d:Option Ent) :
  ∃c' d',wq (jx C "_law_object" [1] (jz p)) (eg w n mk found a b c d) sg .next (eg w n mk (found++[.tup [.str p.1,(xd w f n mk p).s]]) (vS p.1) (vS p.2) c' d') sg:=by
 have hw:=k.len
 have hml:(mk.map T.str).length<3000:=by
  have:=vj hnd hm
  rw[qk,qi] at this;refine rwg (qi _) ?_;exact b1 this hw rfl
 refine e11 (qkm (C:=C) k sg ⟨w,n,mk.map .str,found,p.1,p.2,"",none⟩ rfl (chain w n) "" d (k.chainC hn).sub) fun o l=>?_
 replace l:=(if_pos rfl)▸l
 have l:LoopR (jx C "_law_object" [1,1]) ((chain w n).map .str) (eg w n mk found (vS p.1) (vS p.2) (vS "") d) sg .next (eg w n mk found (vS p.1) (vS p.2) (vS (q5d (zl w p.1 (chain w n)))) o) sg:=l
 induction q:zl w p.1 (chain w n) using qe with
 | some i=>
  replace l:=q▸l
  have e:xd w f n mk p = .vec (pv i):=by unfold xd;exact rwg q rfl
  refine rwg e ?_
  have hb:some (decide ((pv i).s=""))=some false:=congrArg some (decide_eq_false (qkd i))
  exact⟨vS (pv i).s,o,jg [.call (.list ((chain w n).map .str)) sg,.loop .next (eg w n mk found (vS p.1) (vS p.2) (vS (pv i).s) o) sg,.b false]
   (fun t=>q9 (B.ch sg n hn) (q9 l (q9 hb (q9 (zk hl) t)))) (by kernel_rfl)⟩
 | none=>
  replace l:=q▸l
  have e:xd w f n mk p=xz w f p.2 (mk++[n]):=by unfold xd;exact rwg q rfl
  refine rwg e ?_
  have e2:=q7s (xs:=mk.map .str) (x:=.str n) hml
  rw[y0] at e2
  refine rwl (qhf _) ?_
  exact⟨vT (xz w f p.2 (mk++[n])).e.fz,o,jg [.call (.list ((chain w n).map .str)) sg,.loop .next (eg w n mk found (vS p.1) (vS p.2) (vS "") o) sg,.e (.list ((mk++[n]).map .str)),.call (xz w f p.2 (mk++[n])).e sg]
   (fun t=>q9 (B.ch sg n hn) (q9 l (q9 e2 (q9 (S sg p.2 (mk++[n]) hk hm hnd hf) (q9 (zk hl) t))))) (by kernel_rfl)⟩
theorem qfq{C:Calls}{w:Wd}{f:Nat}(k:Wk w)(B:ml C w)(S:bl C w f)(sg:List SO)(n:Str)(mk:List Str)(hn:n∈w.map (·.1))(hm:∀x∈mk++[n],x∈w.map (·.1))(hnd:(mk++[n]).Nodup)(hf:w.length≤f+(mk++[n]).length):
  ∀(ps:List (Str×Str))(found:List T)(a b c d:Option Ent),(∀p∈ps,p.2∈jv∨p.2∈w.map (·.1))->found.length+ps.length<3000 ->
  ∃a' b' c' d',LoopR (jx C "_law_object" [1]) (ps.map jz) (eg w n mk found a b c d) sg .next (eg w n mk (found++shS (ps.map fun p=>(p.1,xd w f n mk p))) a' b' c' d') sg:=by
 intro ps
 induction ps with
 | nil=>
  intro found a b c d _ _
  exact i41 a b c d (by refine(?_:LoopR _ _ _ _ _ (eg w n mk (found++[]) a b c d) _);refine rwg (List.append_nil _) ?_;exact .nil)
 | cons p ps ih=>
  intro found a b c d hk hl
  rw[qj] at hl
  refine e21 (qfp k B S sg n mk hn hm hnd hf p (hk p (.head _)) found (by exact Nat.lt_of_add_right_lt hl) a b c d) fun c1 d1 l1=>?_
  refine e41 (ih (found++[.tup [.str p.1,(xd w f n mk p).s]]) (vS p.1) (vS p.2) c1 d1 (fun q hq=>hk q (.tail _ hq)) (by refine rwg qk ?_;refine(?_:found.length+1+_<_);exact a2 hl)) fun a2 b2 c2 d2 l2=>?_
  rw[List.append_assoc] at l2
  exact i41 a2 b2 c2 d2 (.next l1 l2)
theorem sz{C:Calls}{w:Wd}{f:Nat}(k:Wk w)(h0:0<w.length)(B:ml C w)(S:bl C w f):dy C.step w (f+1):=fun sg n mk hn hm hnd hf=>by
 refine e41 (qfq k B S sg n mk hn hm hnd (by refine rwg qk ?_;refine(?_:w.length≤f+(mk.length+1));exact a3 hf) (jm w n) [.str n] none none none none (fun p hp=>lw k h0 hp) (by have:=ka k hn;refine(?_:1+_<_);exact ltD this rfl)) fun a b c d l=>?_
 have e:(ux w (f+1) n mk).e = .list ([.str n]++shS ((jm w n).map fun p=>(p.1,xd w f n mk p))):=rfl
 refine rwg e ?_
 exact j8 [.call (.list ((jm w n).map jz)) sg,.loop .next (eg w n mk ([.str n]++shS ((jm w n).map fun p=>(p.1,xd w f n mk p))) a b c d) sg] (fun t=>q9 (B.ls sg n hn) (q9 l t)) (by kernel_rfl)
theorem cx (C:Calls) {w:Wd} (k:Wk w) (sg:List SO) (mk:List T):∀kd∈jv,C.step.callF "_law_start" [.dict (vd w),.str kd,.list mk] sg (.val (.str (q0s kd).s)) sg:=by
 have h:∀kd∈jv,some (dget kd (vd w)).isSome=some false:=fun kd hk=>q76 fun h=>ww _ hk (k.all _ h)
 revert h
 intro h
 have h1:=h "numeric" (.head _)
 have h2:=h "character" (.tail _ (.head _))
 have h3:=h "list" (.tail _ (.tail _ (.head _)))
 have h4:=h "matrix" (.tail _ (.tail _ (.tail _ (.head _))))
 exact q05 (j8 [.b false] (fun t=>q9 h1 t) (by kernel_rfl)) (j8 [.b false] (fun t=>q9 h2 t) (by kernel_rfl)) (j8 [.b false] (fun t=>q9 h3 t) (by kernel_rfl)) (j8 [.b false] (fun t=>q9 h4 t) (by kernel_rfl))
theorem cw (C:Calls) {w:Wd} (sg:List SO) (kd:Str) (mk:List Str) (hk:kd∈w.map (·.1)) (h:kd∈mk):C.step.callF "_law_start" [.dict (vd w),.str kd,.list (mk.map .str)] sg (.val (.str "none")) sg:=
 j8 [.b true,.b true] (fun t=>q9 (q0y hk) (q9 ((uo kd mk).trans (congrArg some (decide_eq_true h))) t)) (by kernel_rfl)
theorem l7(C:Calls){w:Wd}(k:Wk w):bl C.step w 0:=fun sg kd mk hk hm hnd hf=>by
 unfold xz
 rcases hk with hk | hk
 ·refine rwg (if_neg fun h=>ww _ hk (k.all _ h)) ?_
  exact cx C k sg (mk.map .str) kd hk
 ·refine rwg (if_pos hk)<|rwg (if_pos (lu hm hnd (by exact a6 hf) hk)) ?_
  exact cw C sg kd mk hk (lu hm hnd (by exact a6 hf) hk)
theorem q28{C:Calls}{w:Wd}{f:Nat}(k:Wk w)(O:dy C w (f+1)):bl C.step w (f+1):=fun sg kd mk hk hm hnd hf=>by
 unfold xz
 rcases hk with hk | hk
 ·refine rwg (if_neg fun h=>ww _ hk (k.all _ h)) ?_
  exact cx C k sg (mk.map .str) kd hk
 ·refine rwg (if_pos hk) ?_
  by_cases h:kd∈mk
  ·refine rwg (if_pos h) ?_;exact cw C sg kd mk hk h
  ·refine rwg (if_neg h) ?_
   refine j8 [.b true,.b false,.call (ux w (f+1) kd mk).e sg] (fun t=>q9 (q0y hk) (q9 ((uo kd mk).trans (congrArg some (decide_eq_false h))) (q9 (O sg kd mk hk (fun x hx=>?_) ?_ hf) t))) (by kernel_rfl)
   ·rcases qz.mp hx with q | q
    ·exact hm x q
    ·refine rwg (List.mem_singleton.mp q) ?_;exact hk
   ·rw[List.nodup_append]
    exact i03 hnd (by simp) (fun a ha b hb=>by refine rwg (List.mem_singleton.mp hb) ?_;intro z;rw[z] at ha;exact h ha)
noncomputable def ShOk:Nat->Sh->Prop
 | 0,x=>match x with
  | .obj _ _=>False
  | _=>True
 | d+1,x=>match x with
  | .obj _ fs=>(fs.map (·.1)).Nodup∧fs.length≤100∧∀p∈fs,ShOk d p.2
  | _=>True
theorem ShOk.none:∀d,ShOk d .none:=by
 intro d
 induction d with
 | zero=>
  exact trivial
 | succ _ ih=>
  exact trivial
theorem ShOk.vec(v:V):∀d,ShOk d (.vec v):=by
 intro d
 induction d with
 | zero=>
  exact trivial
 | succ _ ih=>
  exact trivial
theorem q2h{w:Wd}(k:Wk w):∀(f:Nat)(n:Str)(mk:List Str),n∈w.map (·.1)->ShOk f (ux w f n mk):=by
 intro f
 induction f with
 | zero=>
  intro _ _ _
  exact trivial
 | succ f ih=>
  intro n mk hn
  rw[qbm]
  refine i03 ?_ (by refine rwg (qi _) ?_;have:=ka k hn;exact leK this rfl) (fun p hp=>?_)
  ·refine rwg List.map_map ?_;exact k.slotsNd (k.chainC hn).nd
  ·obtain⟨q,_,rfl⟩:=List.mem_map.mp hp
   refine(?_:ShOk f (xd w f n mk q))
   unfold xd
   induction zl w q.1 (chain w n) using qe with
   | some i=>exact ShOk.vec _ f
   | none=>
    refine(?_:ShOk f (xz w f q.2 (mk++[n])))
    unfold xz
    by_cases h:q.2∈w.map (·.1)
    ·refine rwg (if_pos h) ?_
     by_cases h':q.2∈mk++[n]
     ·refine rwg (if_pos h') ?_;exact ShOk.none f
     ·refine rwg (if_neg h') ?_;exact ih q.2 _ h
    ·refine rwg (if_neg h) ?_;exact ShOk.vec _ f
theorem q43{w:Wd}(k:Wk w)(f:Nat)(kd:Str)(mk:List Str):ShOk f (xz w f kd mk):=by
 unfold xz
 by_cases h:kd∈w.map (·.1)
 ·refine rwg (if_pos h) ?_
  by_cases h':kd∈mk
  ·refine rwg (if_pos h') ?_;exact ShOk.none f
  ·refine rwg (if_neg h') ?_;exact q2h k f kd _ h
 ·refine rwg (if_neg h) ?_;exact ShOk.vec _ f
theorem q3a{s:Str}{x:Sh}:∀{fs:List (Str×Sh)},(fs.map (·.1)).Nodup->(s,x)∈fs->dget s (shO fs)=some x.o:=by
 intro fs
 induction fs with
 | nil=>
  intro za0 za1
  exact absurd za1 j5
 | cons zz r ih=>
  obtain⟨a,y⟩:=zz
  intro nd h
  have nd':=List.nodup_cons.mp nd
  refine(?_:(if a=s then some y.o else dget s (shO r))=_)
  rcases ql.mp h with q | q
  ·cases q;exact rwg (if_pos rfl) rfl
  ·refine rwg (if_neg fun e=>nd'.1 (List.mem_map.mpr (i12 _ q e.symm))) ?_
   exact ih nd'.2 q
theorem q95{fs:List (Str×Sh)}(nd:(fs.map (·.1)).Nodup):fj (.dict (shO fs))=some ((fs.map (·.1)).map .str):=by
 unfold fj
 dsimp only
 refine rwg (sf _)<|rwg (decide_eq_true nd) ?_
 refine(?_:some ((shO fs).map fun p=>T.str p.1)=_)
 refine rwl (sf _)<|rwg List.map_map ?_;rfl
noncomputable def qjh (n:Str) (es:List (Str×T)) (a:Option Ent):Loc:=[("v",vT (px n es)),(".0",none),("slot",a)]
noncomputable def mj (C:Calls) (d:Nat):Prop:=∀sg x,ShOk d x→C.callF "_law_shown" [x.o] sg x.e sg
theorem q4e{C:Calls}{d:Nat}(S:mj C d)(sg:List SO)(n:Str)(all:List (Str×Sh))(nd:(all.map (·.1)).Nodup):∀(fs:List (Str×Sh))(a:Option Ent),(∀p∈fs,p∈all∧ShOk d p.2) ->
  ∃a',CompR (lh C 25 "_law_shown" [0,0]) ((fs.map (·.1)).map .str) (qjh n (shO all) a) sg (shS fs) (qjh n (shO all) a') sg:=by
 intro fs
 induction fs with
 | nil=>
  intro a _
  exact⟨a,.nil⟩
 | cons zz r ih=>
  obtain⟨s,x⟩:=zz
  intro a h
  refine e02 (h _ (.head _)) fun h1 h2=>?_
  obtain⟨a',l⟩:=ih (vS s) fun p hp=>h p (.tail _ hp)
  have hi:zu (.dict (shO all)) (.str s)=some x.o:=q3a nd h1
  have e:shS ((s,x)::r)=[.tup [.str s,x.e.fz]]++shS r:=by refine rwg (qhf _) ?_;rfl
  refine rwg e ?_
  exact⟨a',.cons (jg [.t x.o,.call x.e sg] (fun t=>q9 hi (q9 (S sg x h2) t)) (by kernel_rfl)) l⟩
theorem ql8{r:T}{rows:List T}(h:rows.length<3000):aq .Add (.list [r]) (.list rows)=some (.list (r::rows)):=dn h
theorem cz (C:Calls) (sg:List SO):∀v:V,C.step.callF "_law_shown" [v.t] sg (.val (.str v.s)) sg:=by
 intro v
 induction v using V.casesOn with
 | dbl=>
  exact j8 [] (fun t=>t) (by kernel_rfl)
 | chr=>
  exact j8 [] (fun t=>t) (by kernel_rfl)
 | lst=>
  exact j8 [] (fun t=>t) (by kernel_rfl)
 | mat=>
  exact j8 [] (fun t=>t) (by kernel_rfl)
 | int5=>
  exact j8 [] (fun t=>t) (by kernel_rfl)
 | chq=>
  exact j8 [] (fun t=>t) (by kernel_rfl)
theorem q4b(C:Calls):mj C.step 0:=fun sg x h=>match x,h with
 | .none,_=>j8 [] (fun t=>t) (by kernel_rfl)
 | .vec v,_=>cz C sg v
theorem q4d{C:Calls}{d:Nat}(S:mj C d):mj C.step (d+1):=fun sg x h=>match x,h with
 | .none,_=>j8 [] (fun t=>t) (by kernel_rfl)
 | .vec v,_=>cz C sg v
 | .obj n fs,⟨h1,h2,h3⟩=>by
  refine e11 (q4e S sg n fs h1 fs none fun p hp=>⟨hp,h3 p hp⟩) fun a l=>?_
  have hl:(shS fs).length≤100:=by refine rwg (qez _) ?_;exact h2
  exact j8 [.l ((fs.map (·.1)).map .str),.comp (shS fs) (qjh n (shO fs) a) sg,.e (.list (.str n::shS fs))]
   (fun t=>q9 (q95 h1) (q9 l (q9 (decide_eq_true (qr hl (by decide)):decide ((shS fs).length≤LIM)=true) (q9 (dn (r:=.str n) (rows:=shS fs) (by exact ltK hl rfl)) t)))) (by kernel_rfl)
theorem mn(n:Nat)(x:Str):teq (n+1) (.str x) (.str x)=some true:=by
 refine(?_:some (decide (x=x))=_)
 exact rwg (decide_eq_true rfl) rfl
theorem q23:∀(d:Nat)(x:Sh),ShOk d x->∀n,2*d+1≤n->teq n x.s x.s=some true
 | _,.none,_,n+1,_=>mn n _
 | _,.vec v,_,n+1,_=>mn n _
 | d+1,.obj m fs,h,n+1,hn=>by
  refine(?_:cond (decide ((T.str m::shS fs).length=(T.str m::shS fs).length)) (teq.go n (T.str m::shS fs) (T.str m::shS fs)) (some false)=some true)
  refine rwg (decide_eq_true rfl) ?_
  obtain⟨k,rfl⟩:∃k,n=k+1:=⟨n-1,by lia⟩
  refine(?_:opt (teq (k+1) (.str m) (.str m)) (fun b=>grd b (teq.go (k+1) (shS fs) (shS fs)))=some true)
  refine rwg (mn _ _) ?_
  refine(?_:teq.go (k+1) (shS fs) (shS fs)=some true)
  have h3:=h.2.2
  clear h
  induction fs with
  | nil=>rfl
  | cons p r ih=>
   obtain⟨s,x⟩:=p
   obtain⟨j,rfl⟩:∃j,k=j+1:=⟨k-1,by lia⟩
   have e:teq (j+1+1) (.tup [.str s,x.s]) (.tup [.str s,x.s])=some true:=by
    refine(?_:opt (teq (j+1) (.str s) (.str s)) (fun b=>grd b (opt (teq (j+1) x.s x.s) fun b=>grd b (some true)))=some true)
    refine rwg (mn _ _) ?_
    refine(?_:opt (teq (j+1) x.s x.s) (fun b=>grd b (some true))=some true)
    refine rwg (q23 d x (h3 _ (.head _)) (j+1) (by lia)) ?_;rfl
   refine(?_:opt (teq (j+1+1) (.tup [.str s,x.s]) (.tup [.str s,x.s])) (fun b=>grd b (teq.go (j+1+1) (shS r) (shS r)))=some true)
   refine rwg e ?_
   exact ih fun q hq=>h3 q (.tail _ hq)
theorem q70{d:Nat}{x:Sh}(h:ShOk d x)(hd:d≤10):uu .NotEq x.s x.s=some false:=by
 refine(?_:noT (teq 40 x.s x.s)=_)
 refine rwg (q23 d x h 40 (by lia)) ?_;rfl
noncomputable def w6:Sh->Str
 | .none=>"NULL"
 | .vec .dbl=>"double"
 | .vec .chr=>"character"
 | .vec .lst=>"list"
 | .vec .mat=>"logical"
 | .vec .int5=>"integer"
 | .vec .chq=>"character"
 | .obj n _=>n
noncomputable def kb:Sh->List Str
 | .vec .mat=>["matrix","array"]
 | _=>[]
noncomputable def q1e:Sh->Ent
 | .vec .mat=>.list [.int 0,.int 0]
 | _=>.val .none
noncomputable def q1d:Sh->T
 | .vec .mat=>f8 "integer" [.int 0,.int 0] .none
 | _=>.none
noncomputable def d0:Sh->List Str
 | .none=>["NULL"]
 | .vec .dbl=>["double","numeric"]
 | .vec .chr=>["character"]
 | .vec .lst=>["list"]
 | .vec .mat=>["matrix","array","logical"]
 | .vec .int5=>["integer","numeric"]
 | .vec .chq=>["character"]
 | .obj n _=>[n]
noncomputable def dj:Sh->List Str
 | .vec .dbl=>["numeric"]
 | .vec .mat=>["matrix","array"]
 | x=>[w6 x]
noncomputable def zy:Sh->List Str
 | .vec .dbl=>["numeric"]
 | .vec .mat=>["matrix","array","logical"]
 | .vec .int5=>["integer","numeric"]
 | x=>[w6 x]
section
variable (C:Calls)(sg:List SO)
theorem ki:∀x:Sh,C.step.callF "get_attr" [x.o,.str "class"] sg (.val .none) sg:=
 Sh.each
  (j8 [] (fun t=>t) (by kernel_rfl))
  (j8 [] (fun t=>t) (by kernel_rfl))
  (j8 [] (fun t=>t) (by kernel_rfl))
  (j8 [] (fun t=>t) (by kernel_rfl))
  (j8 [] (fun t=>t) (by kernel_rfl))
  (j8 [] (fun t=>t) (by kernel_rfl))
  (j8 [] (fun t=>t) (by kernel_rfl))
  (fun n fs=>j8 [] (fun t=>t) (by kernel_rfl))
theorem wp:∀x:Sh,C.step.callF "get_attr" [x.o,.str "dim"] sg (.val (q1d x)) sg:=
 Sh.each
  (j8 [] (fun t=>t) (by kernel_rfl))
  (j8 [] (fun t=>t) (by kernel_rfl))
  (j8 [] (fun t=>t) (by kernel_rfl))
  (j8 [] (fun t=>t) (by kernel_rfl))
  (j8 [] (fun t=>t) (by kernel_rfl))
  (j8 [] (fun t=>t) (by kernel_rfl))
  (j8 [] (fun t=>t) (by kernel_rfl))
  (fun n fs=>j8 [] (fun t=>t) (by kernel_rfl))
theorem u9:∀x:Sh,C.step.step.callF "dim_of" [x.o] sg (q1e x) sg:=
 Sh.each
  (j8 [.call (.val (q1d (.none:Sh))) sg] (fun t=>q9 (wp C sg (.none:Sh)) t) (by kernel_rfl))
  (j8 [.call (.val (q1d (.vec .dbl:Sh))) sg] (fun t=>q9 (wp C sg (.vec .dbl:Sh)) t) (by kernel_rfl))
  (j8 [.call (.val (q1d (.vec .chr:Sh))) sg] (fun t=>q9 (wp C sg (.vec .chr:Sh)) t) (by kernel_rfl))
  (j8 [.call (.val (q1d (.vec .lst:Sh))) sg] (fun t=>q9 (wp C sg (.vec .lst:Sh)) t) (by kernel_rfl))
  (j8 [.call (.val (q1d (.vec .mat:Sh))) sg,.e (.list [.int 0,.int 0])] (fun t=>q9 (wp C sg (.vec .mat:Sh)) (q9 (rfl:some (Ent.list [.int 0,.int 0])=some (Ent.list [.int 0,.int 0])) t)) (by kernel_rfl))
  (j8 [.call (.val (q1d (.vec .int5:Sh))) sg] (fun t=>q9 (wp C sg (.vec .int5:Sh)) t) (by kernel_rfl))
  (j8 [.call (.val (q1d (.vec .chq:Sh))) sg] (fun t=>q9 (wp C sg (.vec .chq:Sh)) t) (by kernel_rfl))
  (fun n fs=>j8 [.call (.val (q1d (.obj n fs:Sh))) sg] (fun t=>q9 (wp C sg (.obj n fs:Sh)) t) (by kernel_rfl))
theorem kh:∀x:Sh,C.step.step.callF "class_attr" [x.o] sg (.list []) sg:=
 Sh.each
  (j8 [.call (.val .none) sg] (fun t=>q9 (ki C sg (.none:Sh)) t) (by kernel_rfl))
  (j8 [.call (.val .none) sg] (fun t=>q9 (ki C sg (.vec .dbl:Sh)) t) (by kernel_rfl))
  (j8 [.call (.val .none) sg] (fun t=>q9 (ki C sg (.vec .chr:Sh)) t) (by kernel_rfl))
  (j8 [.call (.val .none) sg] (fun t=>q9 (ki C sg (.vec .lst:Sh)) t) (by kernel_rfl))
  (j8 [.call (.val .none) sg] (fun t=>q9 (ki C sg (.vec .mat:Sh)) t) (by kernel_rfl))
  (j8 [.call (.val .none) sg] (fun t=>q9 (ki C sg (.vec .int5:Sh)) t) (by kernel_rfl))
  (j8 [.call (.val .none) sg] (fun t=>q9 (ki C sg (.vec .chq:Sh)) t) (by kernel_rfl))
  (fun n fs=>j8 [.call (.val .none) sg] (fun t=>q9 (ki C sg (.obj n fs:Sh)) t) (by kernel_rfl))
theorem xx:∀x:Sh,C.step.step.step.callF "shape_class" [x.o] sg (.list ((kb x).map .str)) sg:=
 Sh.each
  (j8 [.call (q1e (.none:Sh)) sg] (fun t=>q9 (u9 C sg (.none:Sh)) t) (by kernel_rfl))
  (j8 [.call (q1e (.vec .dbl:Sh)) sg] (fun t=>q9 (u9 C sg (.vec .dbl:Sh)) t) (by kernel_rfl))
  (j8 [.call (q1e (.vec .chr:Sh)) sg] (fun t=>q9 (u9 C sg (.vec .chr:Sh)) t) (by kernel_rfl))
  (j8 [.call (q1e (.vec .lst:Sh)) sg] (fun t=>q9 (u9 C sg (.vec .lst:Sh)) t) (by kernel_rfl))
  (j8 [.call (q1e (.vec .mat:Sh)) sg] (fun t=>q9 (u9 C sg (.vec .mat:Sh)) t) (by kernel_rfl))
  (j8 [.call (q1e (.vec .int5:Sh)) sg] (fun t=>q9 (u9 C sg (.vec .int5:Sh)) t) (by kernel_rfl))
  (j8 [.call (q1e (.vec .chq:Sh)) sg] (fun t=>q9 (u9 C sg (.vec .chq:Sh)) t) (by kernel_rfl))
  (fun n fs=>j8 [.call (q1e (.obj n fs:Sh)) sg] (fun t=>q9 (u9 C sg (.obj n fs:Sh)) t) (by kernel_rfl))
theorem zg:∀x:Sh,C.step.callF "plain_class" [x.o] sg (.val (.str (w6 x))) sg:=
 Sh.each
  (j8 [] (fun t=>t) (by kernel_rfl))
  (j8 [] (fun t=>t) (by kernel_rfl))
  (j8 [] (fun t=>t) (by kernel_rfl))
  (j8 [] (fun t=>t) (by kernel_rfl))
  (j8 [] (fun t=>t) (by kernel_rfl))
  (j8 [] (fun t=>t) (by kernel_rfl))
  (j8 [] (fun t=>t) (by kernel_rfl))
  (fun n fs=>j8 [] (fun t=>t) (by kernel_rfl))
theorem be:∀x:Sh,C.step.step.step.step.callF "implicit_class" [x.o] sg (.list ((d0 x).map .str)) sg
 | .none=>j8 [.call (.val (.str (w6 (.none:Sh)))) sg,.call (.list ((kb (.none:Sh)).map .str)) sg] (fun t=>q9 (zg C.step.step sg (.none:Sh)) (q9 (xx C sg (.none:Sh)) t)) (by kernel_rfl)
 | .vec .dbl=>j8 [.call (.val (.str (w6 (.vec .dbl:Sh)))) sg,.call (.list ((kb (.vec .dbl:Sh)).map .str)) sg] (fun t=>q9 (zg C.step.step sg (.vec .dbl:Sh)) (q9 (xx C sg (.vec .dbl:Sh)) (q9 tt t))) (by kernel_rfl)
 | .vec .chr=>j8 [.call (.val (.str (w6 (.vec .chr:Sh)))) sg,.call (.list ((kb (.vec .chr:Sh)).map .str)) sg] (fun t=>q9 (zg C.step.step sg (.vec .chr:Sh)) (q9 (xx C sg (.vec .chr:Sh)) t)) (by kernel_rfl)
 | .vec .lst=>j8 [.call (.val (.str (w6 (.vec .lst:Sh)))) sg,.call (.list ((kb (.vec .lst:Sh)).map .str)) sg] (fun t=>q9 (zg C.step.step sg (.vec .lst:Sh)) (q9 (xx C sg (.vec .lst:Sh)) t)) (by kernel_rfl)
 | .vec .mat=>j8 [.call (.val (.str (w6 (.vec .mat:Sh)))) sg,.call (.list ((kb (.vec .mat:Sh)).map .str)) sg] (fun t=>q9 (zg C.step.step sg (.vec .mat:Sh)) (q9 (xx C sg (.vec .mat:Sh)) t)) (by kernel_rfl)
 | .vec .int5=>j8 [.call (.val (.str (w6 (.vec .int5:Sh)))) sg,.call (.list ((kb (.vec .int5:Sh)).map .str)) sg] (fun t=>q9 (zg C.step.step sg (.vec .int5:Sh)) (q9 (xx C sg (.vec .int5:Sh)) (q9 tt t))) (by kernel_rfl)
 | .vec .chq=>j8 [.call (.val (.str (w6 (.vec .chq:Sh)))) sg,.call (.list ((kb (.vec .chq:Sh)).map .str)) sg] (fun t=>q9 (zg C.step.step sg (.vec .chq:Sh)) (q9 (xx C sg (.vec .chq:Sh)) t)) (by kernel_rfl)
 | .obj n fs=>j8 [.call (.val (.str (w6 (.obj n fs:Sh)))) sg,.call (.list ((kb (.obj n fs:Sh)).map .str)) sg] (fun t=>q9 (zg C.step.step sg (.obj n fs:Sh)) (q9 (xx C sg (.obj n fs:Sh)) t)) (by kernel_rfl)
theorem uc:∀x:Sh,C.step.step.step.step.callF "class_of" [x.o] sg (.list ((dj x).map .str)) sg
 | .none=>j8 [.call (.list []) sg,.call (.list ((kb (.none:Sh)).map .str)) sg,.call (.val (.str (w6 (.none:Sh)))) sg] (fun t=>q9 (kh C.step sg (.none:Sh)) (q9 (xx C sg (.none:Sh)) (q9 (zg C.step.step sg (.none:Sh)) t))) (by kernel_rfl)
 | .vec .dbl=>j8 [.call (.list []) sg,.call (.list ((kb (.vec .dbl:Sh)).map .str)) sg] (fun t=>q9 (kh C.step sg (.vec .dbl:Sh)) (q9 (xx C sg (.vec .dbl:Sh)) t)) (by kernel_rfl)
 | .vec .chr=>j8 [.call (.list []) sg,.call (.list ((kb (.vec .chr:Sh)).map .str)) sg,.call (.val (.str (w6 (.vec .chr:Sh)))) sg] (fun t=>q9 (kh C.step sg (.vec .chr:Sh)) (q9 (xx C sg (.vec .chr:Sh)) (q9 (zg C.step.step sg (.vec .chr:Sh)) t))) (by kernel_rfl)
 | .vec .lst=>j8 [.call (.list []) sg,.call (.list ((kb (.vec .lst:Sh)).map .str)) sg,.call (.val (.str (w6 (.vec .lst:Sh)))) sg] (fun t=>q9 (kh C.step sg (.vec .lst:Sh)) (q9 (xx C sg (.vec .lst:Sh)) (q9 (zg C.step.step sg (.vec .lst:Sh)) t))) (by kernel_rfl)
 | .vec .mat=>j8 [.call (.list []) sg,.call (.list ((kb (.vec .mat:Sh)).map .str)) sg] (fun t=>q9 (kh C.step sg (.vec .mat:Sh)) (q9 (xx C sg (.vec .mat:Sh)) t)) (by kernel_rfl)
 | .vec .int5=>j8 [.call (.list []) sg,.call (.list ((kb (.vec .int5:Sh)).map .str)) sg,.call (.val (.str (w6 (.vec .int5:Sh)))) sg] (fun t=>q9 (kh C.step sg (.vec .int5:Sh)) (q9 (xx C sg (.vec .int5:Sh)) (q9 (zg C.step.step sg (.vec .int5:Sh)) t))) (by kernel_rfl)
 | .vec .chq=>j8 [.call (.list []) sg,.call (.list ((kb (.vec .chq:Sh)).map .str)) sg,.call (.val (.str (w6 (.vec .chq:Sh)))) sg] (fun t=>q9 (kh C.step sg (.vec .chq:Sh)) (q9 (xx C sg (.vec .chq:Sh)) (q9 (zg C.step.step sg (.vec .chq:Sh)) t))) (by kernel_rfl)
 | .obj n fs=>j8 [.call (.list []) sg,.call (.list ((kb (.obj n fs:Sh)).map .str)) sg,.call (.val (.str (w6 (.obj n fs:Sh)))) sg] (fun t=>q9 (kh C.step sg (.obj n fs:Sh)) (q9 (xx C sg (.obj n fs:Sh)) (q9 (zg C.step.step sg (.obj n fs:Sh)) t))) (by kernel_rfl)
noncomputable def gq (x:Sh) (l:List Str) (a:Option Ent):Loc:=[("v",vT x.o),("rows",some (.list (l.map .str))),("one",a)]
theorem ya:∀x:Sh,(∀n fs,x ≠ .obj n fs)→∃a,LoopR (jx C "value_classes" [2]) ((d0 x).map .str) (gq x (dj x) none) sg .next (gq x (zy x) a) sg:=
 Sh.each
  (fun z_=>⟨vS "NULL",.next (env1:=gq (.none:Sh) [("NULL":Str)] (vS "NULL")) (sg1:=sg) (jg [] (fun t=>t) (by kernel_rfl)) .nil⟩)
  (fun z_=>⟨vS "numeric",.next (env1:=gq (.vec .dbl:Sh) [("numeric":Str)] (vS "double")) (sg1:=sg) (jg [] (fun t=>t) (by kernel_rfl)) (.next (env1:=gq (.vec .dbl:Sh) [("numeric":Str)] (vS "numeric")) (sg1:=sg) (jg [] (fun t=>t) (by kernel_rfl)) .nil)⟩)
  (fun z_=>⟨vS "character",.next (env1:=gq (.vec .chr:Sh) [("character":Str)] (vS "character")) (sg1:=sg) (jg [] (fun t=>t) (by kernel_rfl)) .nil⟩)
  (fun z_=>⟨vS "list",.next (env1:=gq (.vec .lst:Sh) [("list":Str)] (vS "list")) (sg1:=sg) (jg [] (fun t=>t) (by kernel_rfl)) .nil⟩)
  (fun z_=>⟨vS "logical",.next (env1:=gq (.vec .mat:Sh) [("matrix":Str),("array":Str)] (vS "matrix")) (sg1:=sg) (jg [] (fun t=>t) (by kernel_rfl)) (.next (env1:=gq (.vec .mat:Sh) [("matrix":Str),("array":Str)] (vS "array")) (sg1:=sg) (jg [] (fun t=>t) (by kernel_rfl)) (.next (env1:=gq (.vec .mat:Sh) [("matrix":Str),("array":Str),("logical":Str)] (vS "logical")) (sg1:=sg) (jg [] (fun t=>q9 tt t) (by kernel_rfl)) .nil))⟩)
  (fun z_=>⟨vS "numeric",.next (env1:=gq (.vec .int5:Sh) [("integer":Str)] (vS "integer")) (sg1:=sg) (jg [] (fun t=>t) (by kernel_rfl)) (.next (env1:=gq (.vec .int5:Sh) [("integer":Str),("numeric":Str)] (vS "numeric")) (sg1:=sg) (jg [] (fun t=>q9 tt t) (by kernel_rfl)) .nil)⟩)
  (fun z_=>⟨vS "character",.next (env1:=gq (.vec .chq:Sh) [("character":Str)] (vS "character")) (sg1:=sg) (jg [] (fun t=>t) (by kernel_rfl)) .nil⟩)
  (fun n fs h=>absurd rfl (h n fs))
theorem qin:∀x:Sh,C.step.step.step.step.step.callF "value_classes" [x.o] sg (.list ((zy x).map .str)) sg:=
 Sh.each
  (let ⟨a,l⟩:=ya C.step.step.step.step sg (.none:Sh) nofun;j8 [.call (.list ((dj (.none:Sh)).map .str)) sg,.call (.list ((d0 (.none:Sh)).map .str)) sg,.loop .next (gq (.none:Sh) (zy (.none:Sh)) a) sg] (fun t=>q9 (uc C sg (.none:Sh)) (q9 (be C sg (.none:Sh)) (q9 l t))) (by kernel_rfl))
  (let ⟨a,l⟩:=ya C.step.step.step.step sg (.vec .dbl:Sh) nofun;j8 [.call (.list ((dj (.vec .dbl:Sh)).map .str)) sg,.call (.list ((d0 (.vec .dbl:Sh)).map .str)) sg,.loop .next (gq (.vec .dbl:Sh) (zy (.vec .dbl:Sh)) a) sg] (fun t=>q9 (uc C sg (.vec .dbl:Sh)) (q9 (be C sg (.vec .dbl:Sh)) (q9 l t))) (by kernel_rfl))
  (let ⟨a,l⟩:=ya C.step.step.step.step sg (.vec .chr:Sh) nofun;j8 [.call (.list ((dj (.vec .chr:Sh)).map .str)) sg,.call (.list ((d0 (.vec .chr:Sh)).map .str)) sg,.loop .next (gq (.vec .chr:Sh) (zy (.vec .chr:Sh)) a) sg] (fun t=>q9 (uc C sg (.vec .chr:Sh)) (q9 (be C sg (.vec .chr:Sh)) (q9 l t))) (by kernel_rfl))
  (let ⟨a,l⟩:=ya C.step.step.step.step sg (.vec .lst:Sh) nofun;j8 [.call (.list ((dj (.vec .lst:Sh)).map .str)) sg,.call (.list ((d0 (.vec .lst:Sh)).map .str)) sg,.loop .next (gq (.vec .lst:Sh) (zy (.vec .lst:Sh)) a) sg] (fun t=>q9 (uc C sg (.vec .lst:Sh)) (q9 (be C sg (.vec .lst:Sh)) (q9 l t))) (by kernel_rfl))
  (let ⟨a,l⟩:=ya C.step.step.step.step sg (.vec .mat:Sh) nofun;j8 [.call (.list ((dj (.vec .mat:Sh)).map .str)) sg,.call (.list ((d0 (.vec .mat:Sh)).map .str)) sg,.loop .next (gq (.vec .mat:Sh) (zy (.vec .mat:Sh)) a) sg] (fun t=>q9 (uc C sg (.vec .mat:Sh)) (q9 (be C sg (.vec .mat:Sh)) (q9 l t))) (by kernel_rfl))
  (let ⟨a,l⟩:=ya C.step.step.step.step sg (.vec .int5:Sh) nofun;j8 [.call (.list ((dj (.vec .int5:Sh)).map .str)) sg,.call (.list ((d0 (.vec .int5:Sh)).map .str)) sg,.loop .next (gq (.vec .int5:Sh) (zy (.vec .int5:Sh)) a) sg] (fun t=>q9 (uc C sg (.vec .int5:Sh)) (q9 (be C sg (.vec .int5:Sh)) (q9 l t))) (by kernel_rfl))
  (let ⟨a,l⟩:=ya C.step.step.step.step sg (.vec .chq:Sh) nofun;j8 [.call (.list ((dj (.vec .chq:Sh)).map .str)) sg,.call (.list ((d0 (.vec .chq:Sh)).map .str)) sg,.loop .next (gq (.vec .chq:Sh) (zy (.vec .chq:Sh)) a) sg] (fun t=>q9 (uc C sg (.vec .chq:Sh)) (q9 (be C sg (.vec .chq:Sh)) (q9 l t))) (by kernel_rfl))
  (fun n fs=>j8 [] (fun t=>t) (by kernel_rfl))
end
noncomputable def q18 (v:T) (rows:List T) (seen:List (Str×T)) (own:List Str) (place name steps:Option Ent):Loc:=[("table",vT (.sh 5)),("v",vT v),("rows",some (.list rows)),("seen",some (.dict seen)),("own",some (.list (own.map .str))),("place",place),("name",name),("steps",steps)]
structure Cs where
 rows:List T
 seen:List (Str×T)
 place:Option Ent
 name:Option Ent
 steps:Option Ent
structure CsOk(U:List Str)(s:Cs)(ks:List (Str×Int)):Prop where
 r:s.rows=ks.map xb
 s:Seen s.seen (ks.map (·.1))
 i:In1 U (ks.map (·.1))
theorem CsOk.lens{U:List Str}{s:Cs}{ks:List (Str×Int)}(h:CsOk U s ks)(hU:U.length≤20):ks.length≤20∧s.seen.length≤21∧s.rows.length≤20:=by
 have h1:=h.i.len
 have h2:=h.s.len
 rw[qi] at h1 h2
 exact i03 (by exact qr h1 hU) (by exact qr h2 (Nat.succ_le_succ (qr h1 hU))) (by refine rwg h.r<|rwg (qi _) ?_;exact qr h1 hU)
theorem CsOk.add {U:List Str} {s:Cs} {ks:List (Str×Int)} (h:CsOk U s ks) {x:Str} (hx:x∈U) (hn:x∉ks.map (·.1)) (ha:x≠"ANY") (i:Int) (p n st:Option Ent):CsOk U ⟨s.rows++[xb (x,i)],dput x (.bool true) s.seen,p,n,st⟩ (ks++[(x,i)]):=by
 have hm:(ks++[(x,i)]).map (·.1)=ks.map (·.1)++[x]:=by refine rwg qu ?_;rfl
 have hi:=h.i.add hx
 rw[if_neg hn] at hi
 refine⟨by refine(?_:s.rows++_=_);refine rwg h.r<|rwg qu ?_;rfl,?_,by refine rwg hm ?_;exact hi⟩
 refine rwg hm ?_
 refine h.s.put _ fun q=>?_
 rcases(h.s.keys x).mp q with q | q
 ·exact hn q
 ·exact ha q
section
variable (C:Calls)
theorem q8n (U:List Str) (hU:U.length≤20∧("ANY":Str)∉U) (v:T) (own:List Str) (ho:∀x∈own,x∈U) (nd:own.Nodup) (hol:own.length≤20) (sg:List SO):∀(m i:Nat) (s:Cs) (ks:List (Str×Int)),i+m=own.length→CsOk U s ks→ks.map (·.1)=own.take i →
  ∃s' ks',CsOk U s' ks'∧ks'.map (·.1)=own∧LoopR (jx C "class_supers" [3]) (jw i m) (q18 v s.rows s.seen own s.place s.name s.steps) sg .next (q18 v s'.rows s'.seen own s'.place s'.name s'.steps) sg:=by
 intro m
 induction m with
 | zero=>
  intro i s ks hi h e
  exact i23 s ks h (by exact rwg e<|rwg (show i=own.length by exact hi)<|rwg List.take_length rfl) .nil
 | succ m ih=>
  intro i s ks hi h e
  have hlt:i<own.length:=by exact a4 hi
  have hx:own[i]∈U:=ho _ (List.getElem_mem hlt)
  have hany:own[i]≠"ANY":=fun z=>hU.2 (z▸hx)
  have hnew:own[i]∉ks.map (·.1):=by
   refine rwg e ?_;intro hm
   obtain⟨j,j1,j2⟩:=List.mem_take_iff_getElem.mp hm
   have:=(List.getElem_inj (i:=j) (j:=i) (h₀:=by lia) (h₁:=hlt) nd).mp j2
   lia
  have hit:=py own i hlt (by exact b1 hlt hol rfl)
  refine e03 (h.lens hU.1) fun l1 l2 l3=>?_
  have hb:some (!(dget own[i] s.seen).isSome)=some true:=by
   rw[ko,decide_eq_false fun q=>by
    rcases(h.s.keys _).mp q with q | q
    ·exact hnew q
    ·exact hany q]
   rfl
  obtain⟨s',ks',h',e',l⟩:=ih (i+1) ⟨s.rows++[xb (own[i],(i:Int))],dput own[i] (.bool true) s.seen,vI i,s.name,s.steps⟩ (ks++[(own[i],(i:Int))]) (by exact a5 hi) (h.add hx hnew hany _ _ _ _)
   (by refine rwg qu<|rwg e<|rwg List.take_add_one<|rwg (qt hlt) ?_;rfl)
  refine i23 s' ks' h' e' ?_
  have er:jw i (m+1) = .int (i:Int)::jw (i+1) m:=by unfold jw;refine rwg List.range'_succ ?_;rfl
  refine rwg er ?_
  exact .next (jg [.t (.str own[i]),.b true,.t (.str own[i]),.t (.str own[i])] (fun t=>q9 hit (q9 hb (q9 hit (q9 (fe (by exact ltK l2 rfl) h.s.nd) (q9 hit (q9 (zk (by exact ltK l3 rfl:s.rows.length<3000)) t)))))) (by kernel_rfl)) l
theorem qif (U:List Str) (hU:U.length≤20∧("ANY":Str)∉U) (v:T) (own:List Str) (pl:Int) (sg:List SO):∀(rs:List (Str×Int)) (s:Cs) (ks:List (Str×Int)),(∀x:Str,x∈rs.map (·.1)→x∈U∨x="ANY")→CsOk U s ks→s.place=vI pl →
  ∃s' ks',CsOk U s' ks'∧s'.place=vI pl∧(∀x:Str,x∈ks'.map (·.1)↔x∈ks.map (·.1)∨(x∈rs.map (·.1)∧x≠"ANY"))∧ks.length≤ks'.length ∧
   LoopR (jx C "class_supers" [4,0]) (rs.map xb) (q18 v s.rows s.seen own s.place s.name s.steps) sg .next (q18 v s'.rows s'.seen own s'.place s'.name s'.steps) sg:=by
 intro rs
 induction rs with
 | nil=>
  intro s ks _ h hp
  exact i25 s ks h hp (fun x=>by simp) (Nat.le_refl _) .nil
 | cons zz rs ih=>
  obtain⟨x,i⟩:=zz
  intro s ks hr h hp
  refine e03 (h.lens hU.1) fun l1 l2 l3=>?_
  obtain⟨srows,sseen,splace,sname,ssteps⟩:=s
  dsimp only at hp
  subst hp
  by_cases k:x∈ks.map (·.1)∨x="ANY"
  ·have hb:some (!(dget x sseen).isSome)=some false:=by refine rwg (ko _ _)<|rwg (decide_eq_true ((h.s.keys x).mpr k)) ?_;rfl
   refine e25 (ih ⟨srows,sseen,vI pl,vS x,vI i⟩ ks (fun y hy=>hr y (.tail _ hy)) ⟨h.r,h.s,h.i⟩ rfl) fun s' ks' h' p' m' le' l=>?_
   refine i25 s' ks' h' p' (fun y=>(m' y).trans ⟨?_,?_⟩) le' (.next (jg [.b false] (fun t=>q9 hb t) (by kernel_rfl)) l)
   ·rintro(q | ⟨q,q'⟩)
    ·exact .inl q
    ·exact .inr ⟨.tail _ q,q'⟩
   ·rintro(q | ⟨q,q'⟩)
    ·exact .inl q
    ·rcases ql.mp q with rfl | q
     ·exact .inl (k.resolve_right q')
     ·exact .inr ⟨q,q'⟩
  ·have k1:x∉ks.map (·.1):=fun q=>k (.inl q)
   have k2:x≠"ANY":=fun q=>k (.inr q)
   have hb:some (!(dget x sseen).isSome)=some true:=by
    refine rwg (ko _ _)<|rwg (decide_eq_false fun q=>k ((h.s.keys x).mp q)) ?_;rfl
   have hx:=(hr x (.head _)).resolve_right k2
   refine e25 (ih ⟨srows++[xb (x,pl+i)],dput x (.bool true) sseen,vI pl,vS x,vI i⟩ (ks++[(x,pl+i)]) (fun y hy=>hr y (.tail _ hy)) (h.add hx k1 k2 _ _ _ _) rfl) fun s' ks' h' p' m' le' l=>?_
   replace le':=qk▸le'
   refine i25 s' ks' h' p' (fun y=>(m' y).trans ⟨?_,?_⟩) (by exact Nat.le_of_add_right_le le') (.next (jg [.b true] (fun t=>q9 hb (q9 (fe (Nat.lt_of_le_of_lt l2 (by decide):sseen.length<1000) h.s.nd) (q9 (zk (Nat.lt_of_le_of_lt l3 (by decide):srows.length<3000)) t))) (by kernel_rfl)) l)
   ·refine rwg qu ?_
    rintro(q | ⟨q,q'⟩)
    ·rcases qz.mp q with q | q
     ·exact .inl q
     ·refine rwg (List.mem_singleton.mp q) ?_;exact .inr ⟨.head _,k2⟩
    ·exact .inr ⟨.tail _ q,q'⟩
   ·refine rwg qu ?_
    rintro(q | ⟨q,q'⟩)
    ·exact .inl (List.mem_append_left _ q)
    ·rcases ql.mp q with rfl | q
     ·exact .inl (List.mem_append_right _ (.head _))
     ·exact .inr ⟨q,q'⟩
theorem qev{C:Calls}{w:Wd}(k:Wk w)(S:yn C w)(xs hd:List T)(v:T)(own:List Str)(ho:∀x∈own,x∈vo w)(hol:own.length≤20):∀(m i:Nat)(s:Cs)(ks:List (Str×Int)),i+m=own.length->CsOk (vo w) s ks ->
  ∃s' ks',CsOk (vo w) s' ks'∧(∀x:Str,x≠"ANY"→(x∈ks'.map (·.1)↔x∈ks.map (·.1)∨∃o∈own.drop i,x∈chain w o∧x≠o))∧ks.length≤ks'.length ∧
   LoopR (jx C "class_supers" [4]) (jw i m) (q18 v s.rows s.seen own s.place s.name s.steps) (SG xs (j7 w) hd) .next (q18 v s'.rows s'.seen own s'.place s'.name s'.steps) (SG xs (j7 w) hd):=by
 intro m
 induction m with
 | zero=>
  intro i s ks hi h
  exact i24 s ks h (fun x z_=>by refine rwg (List.drop_eq_nil_of_le (by exact Nat.le_of_eq hi.symm)) ?_;simp) (Nat.le_refl _) .nil
 | succ m ih=>
  intro i s ks hi h
  have hlt:i<own.length:=by exact a4 hi
  have hx:own[i]∈vo w:=ho _ (List.getElem_mem hlt)
  have hU:(vo w).length≤20∧("ANY":Str)∉vo w:=⟨qr k.univLen (by decide),uh k⟩
  obtain⟨rows,r1,r2⟩:=S xs hd own[i] hx
  have hc:=k.chain hx
  have hcn:=hc.nd
  obtain⟨q,hq⟩:=mf w own[i]
  have hrows:rows.map (·.1)=q++[("ANY":Str)]:=by rw[hq] at r1;exact(List.cons.inj r1).2
  rw[hq] at hcn
  obtain⟨s1,ks1,h1,p1,m1,le1,l1⟩:=qif C (vo w) hU v own i (SG xs (j7 w) hd) rows ⟨s.rows,s.seen,vI i,s.name,s.steps⟩ ks (fun y hy=>by
   rw[hrows] at hy
   rcases qz.mp hy with z | z
   ·exact .inl (hc.sub y (by refine rwg hq ?_;exact .tail _ z))
   ·exact .inr (List.mem_singleton.mp z)) ⟨h.r,h.s,h.i⟩ rfl
  refine e24 (ih (i+1) s1 ks1 (by exact a5 hi) h1) fun s2 ks2 h2 m2 le2 l2=>?_
  refine i24 s2 ks2 h2 (fun x ha=>(m2 x ha).trans ?_) (qr le1 le2) ?_
  ·(refine rwg (List.drop_eq_getElem_cons hlt) ?_;rewrite[m1 x])
   constructor
   ·rintro((z | ⟨z,_⟩) | ⟨o,o1,o2⟩)
    ·exact .inl z
    ·rw[hrows] at z
     rcases qz.mp z with z | z
     ·exact .inr (i13 (own[i]) (.head _) (by refine rwg hq ?_;exact .tail _ z) (fun e=>(List.nodup_cons.mp hcn).1 (e▸z)))
     ·exact absurd (List.mem_singleton.mp z) ha
    ·exact .inr (i12 o (.tail _ o1) o2)
   ·rintro(z | ⟨o,o1,o2,o3⟩)
    ·exact .inl (.inl z)
    ·rcases ql.mp o1 with rfl | o1
     ·refine .inl (.inr ⟨?_,ha⟩)
      refine rwg hrows ?_
      rw[hq] at o2
      rcases ql.mp o2 with z | z
      ·exact absurd z o3
      ·exact List.mem_append_left _ z
     ·exact .inr (i13 o o1 o2 o3)
  ·have er:jw i (m+1) = .int (i:Int)::jw (i+1) m:=by unfold jw;refine rwg List.range'_succ ?_;rfl
   refine rwg er ?_
   exact .next (jg [.t (.str own[i]),.call (.list (rows.map xb)) (SG xs (j7 w) hd),.loop .next (q18 v s1.rows s1.seen own s1.place s1.name s1.steps) (SG xs (j7 w) hd)] (fun t=>q9 (py own i hlt (by exact b2 hlt hol rfl)) (q9 r2 (q9 l1 t))) (by kernel_rfl)) l2
end
noncomputable def isB (w:Wd) (x:Sh) (nm:Str):Bool:=decide (nm="ANY") || (zy x).any fun o=>decide (nm∈chain w o)
theorem q4k:∀ks:List (Str×Int),fb (ks.map xb)=some ks:=by
 intro ks
 induction ks with
 | nil=>
  exact rfl
 | cons zz r ih=>
  obtain⟨x,i⟩:=zz
  refine(?_:opt (q4l (xb (x,i))) (fun p=>opt (fb (r.map xb)) fun l=>some (p::l))=_)
  refine rwg (ih) ?_;rfl
theorem qf3:Seen [(("ANY":Str),T.bool true)] []:=⟨fun x=>by simp,by simp,Nat.le_refl _⟩
noncomputable def wu(w:Wd):Sh->Prop
 | .obj n _=>n∈w.map (·.1)
 | _=>True
theorem qio{w:Wd}:∀{x:Sh},wu w x->(∀o∈zy x,o∈vo w)∧(zy x).Nodup∧(zy x).length≤3∧0<(zy x).length:=by
 have key:∀{l:List Str},(∀o∈l,o∈basicTab.map (·.1))->∀o∈l,o∈vo w:=fun h o ho=>List.mem_append_right _ (h o ho)
 intro x h
 induction x using Sh.casesOn with
 | none=>exact i04 (key (by decide +kernel)) (by decide +kernel) (by decide) (by decide)
 | vec v=>rcases v with ⟨⟩ <;> exact i04 (key (by decide +kernel)) (by decide +kernel) (by decide) (by decide)
 | obj n fs=>exact i04 (fun o ho=>by refine rwg (List.mem_singleton.mp ho) ?_;exact List.mem_append_left _ h) (by simp[zy,w6]) (by refine(?_:1≤3);exact Nat.le_add_left _ _) (by refine(?_:0<1);exact Nat.lt_succ_self _)
noncomputable def qly (C:Calls) (w:Wd):Prop:=∀xs hd x nm,wu w x→C.callF "is_of" [.sh 5,x.o,.str nm] (SG xs (j7 w) hd) (.val (.bool (isB w x nm))) (SG xs (j7 w) hd)
theorem qg5 {C:Calls} {w:Wd} (k:Wk w) (S:yn C w) (O:∀sg x,C.callF "value_classes" [x.o] sg (.list ((zy x).map .str)) sg):qly C.step w:=fun xs hd x nm hr=>by
 refine e04 (qio hr) fun o1 o2 o3 o4=>?_
 have hU:(vo w).length≤20∧("ANY":Str)∉vo w:=⟨qr k.univLen (by decide),uh k⟩
 refine e23 (q8n C (vo w) hU x.o (zy x) o1 o2 (by exact leK o3 rfl) (SG xs (j7 w) hd) (zy x).length 0 ⟨[],[(("ANY":Str),T.bool true)],none,none,none⟩ [] (by exact Nat.zero_add _) ⟨rfl,qf3,.nil,fun z_ h=>(nomatch h)⟩ rfl) fun s1 ks1 h1 e1 l1=>?_
 refine e24 (qev k S xs hd x.o (zy x) o1 (by exact leK o3 rfl) (zy x).length 0 s1 ks1 (by exact Nat.zero_add _) h1) fun s2 ks2 h2 m2 le2 l2=>?_
 have hlen:ze "len" [.list ((zy x).map .str)]=some (.val (.int ((zy x).length:Int))):=by exact rwg (fh (by rw[qi];refine(?_:_≤4000);exact leK o3 rfl))<|rwg (qi _) rfl
 have hrg:(decide (0≤((zy x).length:Int))&&decide (((zy x).length:Int)≤LIM))=true:=by refine rwg (decide_eq_true (Int.natCast_nonneg _))<|rwg (decide_eq_true (by refine(?_:((zy x).length:Int)≤4000);exact leI o3 rfl)) ?_;rfl
 have hk1:ks1.length=(zy x).length:=by have:=congrArg List.length e1;rwa [qi] at this
 obtain⟨q1,_,_⟩:=h2.lens hU.1
 have hkl:(decide (0<ks2.length)&&decide (ks2.length<64))=true:=by refine rwg (decide_eq_true (by exact qq (hk1▸o4) le2))<|rwg (decide_eq_true (by exact ltK q1 rfl)) ?_;rfl
 have hB:isB w x nm=(decide (nm="ANY") || ks2.any fun p=>decide (p.1=nm)):=by
  unfold isB
  by_cases ha:nm="ANY"
  ·refine rwg (decide_eq_true ha) ?_;rfl
  ·(refine rwg (decide_eq_false ha)<|rwg (Bool.false_or _)<|rwg (Bool.false_or _) ?_;rewrite[Bool.eq_iff_iff,List.any_eq_true,List.any_eq_true])
   have hm:=m2 nm ha
   (replace hm:=e1▸hm;replace hm:=List.drop_zero▸hm)
   constructor
   ·rintro⟨o,a1,a2⟩
    have a2:=of_decide_eq_true a2
    have:nm∈ks2.map (·.1):=hm.mpr (by
     by_cases z:nm=o
     ·exact .inl (z▸a1)
     ·exact .inr (i13 o a1 a2 z))
    refine e12 (List.mem_map.mp this) fun p p1 p2=>?_
    exact i12 p p1 (decide_eq_true p2)
   ·rintro⟨p,p1,p2⟩
    rcases hm.mp (List.mem_map.mpr (i12 p p1 (of_decide_eq_true p2))) with z | ⟨o,a1,a2,_⟩
    ·exact i12 nm z (decide_eq_true (by obtain⟨q,hq⟩:=mf w nm;refine rwg hq ?_;exact .head _))
    ·exact i12 o a1 (decide_eq_true a2)
 refine rwg hB ?_
 exact j8 [.call (.list ((zy x).map .str)) (SG xs (j7 w) hd),.e (.val (.int ((zy x).length:Int))),.loop .next (q18 x.o s1.rows s1.seen (zy x) s1.place s1.name s1.steps) (SG xs (j7 w) hd),.e (.val (.int ((zy x).length:Int))),.loop .next (q18 x.o s2.rows s2.seen (zy x) s2.place s2.name s2.steps) (SG xs (j7 w) hd),.k ks2]
  (fun t=>q9 (O (SG xs (j7 w) hd) x) (q9 hlen (q9 hrg (q9 (y8 (zy x).length▸l1) (q9 hlen (q9 hrg (q9 (y8 (zy x).length▸l2) (q9 (by(refine rwg h2.r ?_;exact q4k ks2):fb s2.rows=some ks2) (q9 hkl t)))))))))
  (by kernel_rfl)
noncomputable def y6 (x:Str):T:=.inst "Symbol" [("kind",.str "symbol"),("name",.str x),("attrs",.none)]
noncomputable def qar (x:Str):Ent:=.inst "Symbol" [("kind",.val (.str "symbol")),("name",.val (.str x)),("attrs",.val .none)]
noncomputable def pg:T:=.inst "Call" [("kind",.str "language"),("items",.list [y6 "validityMethod",y6 "object"]),("tags",.list [.none,.none]),("attrs",.none),("code",.none)]
noncomputable def qhw:Ent:=.inst "Call" [("kind",.val (.str "language")),("items",.val (.list [y6 "validityMethod",y6 "object"])),("tags",.val (.list [.none,.none])),("attrs",.val .none),("code",.val .none)]
noncomputable def evC (cur:T):List (Str×F):=[("limit",.val (.int 100)),("most_frames",.val (.int 40)),("steps",.val (.int 0)),("next_number",.val (.int 2)),("base",.val (br 0 .none)),("globals",.val (br 1 (br 0 .none))),
 ("frames",.val (.list [])),("out",.val (.list [])),("warnings",.val (.list [])),("handlers",.val (.list [])),("restarts",.val (.list [])),("targets",.val (.int 0)),("visible",.val (.bool true)),("current",.val cur),("dispatcher",.val .none),
 ("signaller",.val .none),("warner",.val .none),("deparser",.val .none),("s4",.val (.sh 4))]
noncomputable def SGe (cur:T) (xs:List T) (es:List (Str×T)) (hd:List T):List SO:=[.tab,.tab,.list xs,.inst "Evaluator" (evC cur),st4,ctS es,.list hd]
theorem qlp(xs:List T)(es:List (Str×T))(hd:List T):SGe .none xs es hd=SG xs es hd:=rfl
noncomputable def bT (n:Str) (s:Int):T:=.inst "Builtin" [("kind",.str "builtin"),("name",.str (("_law_tell":Str)++n)),("special",.bool false),("fn",.clo [("heard",.sh 6),("name",.str n),("says",.int s)]),("group",.str ""),("attrs",.none)]
noncomputable def q6a (n:Str) (c:Cls) (v:T):T:=.inst "S4Class" [("name",.str n),("slots",.list (c.slots.map jz)),("contains",.list (c.above.map .str)),("validity",v),("virtual",.bool false),("prototype",.dict (c.protos.map xo))]
noncomputable def xn (s:Int):List Str:=if s=1 then [] else if s=2 then ["one"] else if s=3 then ["one","two"] else ["FALSE"]
noncomputable def mx (s:Int):T:=if s=1 then f8 "logical" [.int 1] .none else if s=4 then f8 "logical" [.int 0] .none else f8 "character" ((xn s).map .str) .none
theorem q04{P:Int->Prop}(a:P 1)(b:P 2)(c:P 3)(d:P 4):∀s:Int,0≤s->s<5->s≠0->P s:=fun s h0 h1 h2=>by
 have:s=1∨s=2∨s=3∨s=4:=by lia
 rcases this with rfl | rfl | rfl | rfl
 ·exact a
 ·exact b
 ·exact c
 ·exact d
section
variable (C:Calls)(sg:List SO)(xs:List T)(es:List (Str×T))(hd:List T)
theorem qkt:C.step.step.callF "flag" [.bool true] sg (.val (f8 "logical" [.int 1] .none)) sg:=j8 [.call (n8 "logical" [.int 1]) sg] (fun t=>q9 (ph C "logical" [.int 1] sg) t) (by kernel_rfl)
theorem qku:C.step.step.callF "flag" [.bool false] sg (.val (f8 "logical" [.int 0] .none)) sg:=j8 [.call (n8 "logical" [.int 0]) sg] (fun t=>q9 (ph C "logical" [.int 0] sg) t) (by kernel_rfl)
theorem q0i:∀s:Int,0≤s→s<5→s≠0→C.step.callF "_law_says" [.int s] sg (.val (.list ((xn s).map .str))) sg:=
 q04 (j8 [] (fun t=>t) (by kernel_rfl)) (j8 [] (fun t=>t) (by kernel_rfl)) (j8 [] (fun t=>t) (by kernel_rfl)) (j8 [] (fun t=>t) (by kernel_rfl))
theorem says0:C.step.callF "_law_says" [.int 0] sg (.val .none) sg:=j8 [] (fun t=>t) (by kernel_rfl)
noncomputable def cap (n:Str) (s:Int):List (Str×T):=[("heard",.sh 6),("name",.str n),("says",.int s)]
theorem qib(n:Str)(a b cur:T)(hl:hd.length<3000):C.step.step.step.callClo (cap n 1) [.sh 3,a,b] (SGe cur xs es hd) (.val (mx 1)) (SGe cur xs es (hd++[.str n])):=
 q7p [.call (.val (f8 "logical" [.int 1] .none)) (SGe cur xs es (hd++[.str n]))] (fun t=>q9 (zk hl) (q9 (qkt C (SGe cur xs es (hd++[.str n]))) t)) (by kernel_rfl)
theorem qia(n:Str)(a b cur:T)(hl:hd.length<3000):C.step.step.step.callClo (cap n 2) [.sh 3,a,b] (SGe cur xs es hd) (.val (mx 2)) (SGe cur xs es (hd++[.str n])):=
 q7p [.call (.val (.list ((xn 2).map .str))) (SGe cur xs es (hd++[.str n])),.call (n8 "character" ((xn 2).map .str)) (SGe cur xs es (hd++[.str n]))] (fun t=>q9 (zk hl) (q9 (q0i C.step (SGe cur xs es (hd++[.str n])) 2 (by decide) (by decide) (by decide)) (q9 (ph C.step "character" ((xn 2).map .str) (SGe cur xs es (hd++[.str n]))) t))) (by kernel_rfl)
theorem qi9(n:Str)(a b cur:T)(hl:hd.length<3000):C.step.step.step.callClo (cap n 3) [.sh 3,a,b] (SGe cur xs es hd) (.val (mx 3)) (SGe cur xs es (hd++[.str n])):=
 q7p [.call (.val (.list ((xn 3).map .str))) (SGe cur xs es (hd++[.str n])),.call (n8 "character" ((xn 3).map .str)) (SGe cur xs es (hd++[.str n]))] (fun t=>q9 (zk hl) (q9 (q0i C.step (SGe cur xs es (hd++[.str n])) 3 (by decide) (by decide) (by decide)) (q9 (ph C.step "character" ((xn 3).map .str) (SGe cur xs es (hd++[.str n]))) t))) (by kernel_rfl)
theorem qi8(n:Str)(a b cur:T)(hl:hd.length<3000):C.step.step.step.callClo (cap n 4) [.sh 3,a,b] (SGe cur xs es hd) (.val (mx 4)) (SGe cur xs es (hd++[.str n])):=
 q7p [.call (.val (f8 "logical" [.int 0] .none)) (SGe cur xs es (hd++[.str n]))] (fun t=>q9 (zk hl) (q9 (qku C (SGe cur xs es (hd++[.str n]))) t)) (by kernel_rfl)
theorem qes(n:Str)(a b cur:T)(hl:hd.length<3000):∀s:Int,0≤s->s<5->s≠0->C.step.step.step.callClo (cap n s) [.sh 3,a,b] (SGe cur xs es hd) (.val (mx s)) (SGe cur xs es (hd++[.str n])):=
 fun s h0 h1 h2=>by
  have:s=1∨s=2∨s=3∨s=4:=by lia
  rcases this with e | e | e | e
  ·refine rwg e ?_;exact qib C xs es hd n a b cur hl
  ·refine rwg e ?_;exact qia C xs es hd n a b cur hl
  ·refine rwg e ?_;exact qi9 C xs es hd n a b cur hl
  ·refine rwg e ?_;exact qi8 C xs es hd n a b cur hl
theorem qlg (n:Str) (a b:T) (hl:hd.length<3000) (s:Int) (h0:0≤s) (h1:s<5) (h2:s≠0):C.step.step.step.step.callF "Evaluator.call_builtin" [.sh 3,bT n s,pg,a,b] (SG xs es hd) (.val (mx s)) (SG xs es (hd++[.str n])):=
 j8 [.call (.val (mx s)) (SGe pg xs es (hd++[.str n]))] (fun t=>q9 (qes C xs es hd n a b pg hl s h0 h1 h2) t) (by kernel_rfl)
theorem ql5 (n:Str) (a b:T) (hl:hd.length<3000) (s:Int) (h0:0≤s) (h1:s<5) (h2:s≠0):C.step.step.step.step.step.callF "Evaluator.call_value" [.sh 3,bT n s,a,b,pg] (SG xs es hd) (.val (mx s)) (SG xs es (hd++[.str n])):=
 j8 [.call (.val (mx s)) (SG xs es (hd++[.str n]))] (fun t=>q9 (qlg C xs es hd n a b hl s h0 h1 h2) t) (by kernel_rfl)
theorem lm (x:Str):C.step.makeC "Symbol" [.str x] sg (qar x) sg:=wc [] (fun t=>t) (by kernel_rfl)
theorem qie:C.step.step.callF "symbol" [.str "object"] sg (.val (y6 "object")) sg:=j8 [.call (qar "object") sg] (fun t=>q9 (lm C sg "object") t) (by kernel_rfl)
theorem qe2:C.step.makeC "Call" [.list [y6 "validityMethod",y6 "object"],.list [.none,.none]] sg qhw sg:=wc [] (fun t=>t) (by kernel_rfl)
theorem qa1:C.step.step.callF "call_of" [.str "validityMethod",.list [y6 "object"]] sg (.val pg) sg:=j8 [.call (qar "validityMethod") sg,.call qhw sg] (fun t=>q9 (lm C sg "validityMethod") (q9 (qe2 C sg) t)) (by kernel_rfl)
noncomputable def q5y (a:Option Ent):Loc:=[(".0",none),("item",a)]
theorem qeq:∀s:Int,0≤s→s<5→s≠0→C.step.callF "told_faults" [mx s] sg (.list ((xn s).map .str)) sg:=
 q04 (P:=fun s=>C.step.callF "told_faults" [mx s] sg (.list ((xn s).map .str)) sg)
  (j8 [] (fun t=>t) (by kernel_rfl))
  (j8 [.comp [.str "one"] (q5y (vS "one")) sg] (fun t=>q9 (CompR.cons (X:=lh C 27 "told_faults" [0,0]) (a:=.str "one") (xs:=[.str "one"]) (env:=q5y none) (env1:=q5y (vS "one")) (sg:=sg) (sg1:=sg) (jg [] (fun t=>t) (by kernel_rfl)) .nil) (q9 tt t)) (by kernel_rfl))
  (j8 [.comp [.str "one",.str "two"] (q5y (vS "two")) sg] (fun t=>q9 (CompR.cons (X:=lh C 27 "told_faults" [0,0]) (a:=.str "one") (xs:=[.str "one"]) (env:=q5y none) (env1:=q5y (vS "one")) (sg:=sg) (sg1:=sg) (jg [] (fun t=>t) (by kernel_rfl)) (CompR.cons (a:=.str "two") (xs:=[.str "two"]) (env1:=q5y (vS "two")) (sg1:=sg) (jg [] (fun t=>t) (by kernel_rfl)) .nil)) (q9 tt t)) (by kernel_rfl))
  (j8 [] (fun t=>t) (by kernel_rfl))
end
noncomputable def jq (x:Sh):Str:=(dj x).headD ""
noncomputable def lit1:Str:="invalid object for slot \""
noncomputable def lit2:Str:="\" in class “"
noncomputable def lit3:Str:="”: got class \""
noncomputable def lit4:Str:="\", should be or extend class \""
noncomputable def lit5:Str:="\""
noncomputable def u0(slot n cls kind:Str):Str:=lit1++slot++lit2++n++lit3++cls++lit4++kind++lit5
noncomputable def qfm (slot n cls kind:Str):Str:="invalid object for slot \""++(slot++(("\" in class ":Str)++((("“":Str)++n++("”":Str))++((": got class \"":Str)++(cls++(("\", should be or extend class \"":Str)++(kind++(("\"":Str)++("":Str)))))))))
theorem q6u (x:Str):x++("":Str)=x:=by
 induction x using Str.casesOn with
 | mk a=>
  refine(?_:Str.mk (a++#[])=_)
  exact rwg Array.append_empty rfl
theorem ng(x y z:Str):x++y++z=x++(y++z):=by
 cases x;cases y;cases z
 refine(?_:Str.mk (_++_++_)=Str.mk (_++(_++_)))
 exact rwg Array.append_assoc rfl
theorem ve(x y:Str):(x++y).length=x.length+y.length:=by
 cases x;cases y
 exact Array.size_append
theorem tb(slot n cls kind:Str):qfm slot n cls kind=u0 slot n cls kind:=by
 have e2:lit2=("\" in class ":Str)++("“":Str):=by kernel_rfl
 have e3:lit3=("”":Str)++(": got class \"":Str):=by kernel_rfl
 unfold qfm u0
 rw[e2,e3,q6u]
 simp only [ng]
 rfl
theorem q78{slot n cls kind:Str}(h1:slot.length≤100)(h2:n.length≤100)(h3:cls.length≤100)(h4:kind.length≤100):(u0 slot n cls kind).length≤600:=by
 have a1:lit1.length=25:=by decide +kernel
 have a2:lit2.length=12:=by decide +kernel
 have a3:lit3.length=14:=by decide +kernel
 have a4:lit4.length=30:=by decide +kernel
 have a5:lit5.length=1:=by decide +kernel
 unfold u0
 simp only [ve,a1,a2,a3,a4,a5]
 lia
theorem g8:∀n∈allNames,n.length≤100:=by decide +kernel
theorem qby:∀n∈jv,n.length≤100:=by decide +kernel
theorem qay:∀n∈allNames,∀i:Nat,i<3->(zo n i).length≤100:=by decide +kernel
theorem q1l{w:Wd}(k:Wk w):∀{x:Sh},wu w x->(jq x).length≤100
 | .none,_=>by decide +kernel
 | .vec .dbl,_=>by decide +kernel
 | .vec .chr,_=>by decide +kernel
 | .vec .lst,_=>by decide +kernel
 | .vec .mat,_=>by decide +kernel
 | .vec .int5,_=>by decide +kernel
 | .vec .chq,_=>by decide +kernel
 | .obj n _,h=>g8 n (k.all n h)
theorem qdo(x:Sh):∃r,dj x=jq x::r:=by
 induction x using Sh.casesOn with
 | none=>exact⟨[],rfl⟩
 | vec v=>rcases v with ⟨⟩ <;> exact⟨_,rfl⟩
 | obj n fs=>exact⟨[],rfl⟩
theorem q8h (C:Calls) (sg:List SO):∀n∈allNames,C.step.callF "quoted" [.str n] sg (.val (.str (("“":Str)++n++("”":Str)))) sg:=
 y5 (j8 [] (fun t=>t) (by kernel_rfl)) (j8 [] (fun t=>t) (by kernel_rfl)) (j8 [] (fun t=>t) (by kernel_rfl)) (j8 [] (fun t=>t) (by kernel_rfl))
noncomputable def jr(w:Wd)(n:Str)(val:Str×Str->Sh):List (Str×Str)->List Str
 | []=>[]
 | p::r=>(if isB w (val p) p.2=true then [] else [u0 p.1 n (jq (val p)) p.2])++jr w n val r
structure n6(C:Calls)(w:Wd):Prop where
 b:ml C w
 is:qly C w
 cls:∀sg x,C.callF "class_of" [x.o] sg (.list ((dj x).map .str)) sg
 q:∀sg,∀n∈allNames,C.callF "quoted" [.str n] sg (.val (.str (("“":Str)++n++("”":Str)))) sg
 cv:∀xs es hd n a b,hd.length<3000→∀s:Int,0≤s→s<5→s≠0→C.callF "Evaluator.call_value" [.sh 3,bT n s,a,b,pg] (SG xs es hd) (.val (mx s)) (SG xs es (hd++[.str n]))
 sym:∀sg,C.callF "symbol" [.str "object"] sg (.val (y6 "object")) sg
 cof:∀sg,C.callF "call_of" [.str "validityMethod",.list [y6 "object"]] sg (.val pg) sg
 told:∀sg,∀s:Int,0≤s→s<5→s≠0→C.callF "told_faults" [mx s] sg (.list ((xn s).map .str)) sg
 says:∀sg,∀s:Int,0≤s→s<5→s≠0→C.callF "_law_says" [.int s] sg (.val (.list ((xn s).map .str))) sg
 says0:∀sg,C.callF "_law_says" [.int 0] sg (.val .none) sg
theorem qe9(C:Calls){w:Wd}(k:Wk w):n6 C.step.step.step.step.step.step.step w:=
 ⟨q1p C.step k,qg5 k (q1p C k).su (fun sg x=>qin C.step sg x),fun sg x=>uc C.step.step.step sg x,fun sg n hn=>q8h _ sg n hn,fun xs es hd n a b hl s h0 h1 h2=>ql5 C.step.step xs es hd n a b hl s h0 h1 h2,
  fun sg=>qie _ sg,fun sg=>qa1 _ sg,fun sg s h0 h1 h2=>qeq _ sg s h0 h1 h2,fun sg s h0 h1 h2=>q0i _ sg s h0 h1 h2,fun sg=>says0 _ sg⟩
noncomputable def q39 (n:Str) (es:List (Str×T)) (f:List T) (a b c d:Option Ent):Loc:=[("table",vT (.sh 5)),("v",vT (px n es)),("faults",some (.list f)),("slot",a),("kind",b),("value",c),("got",d)]
theorem qf1{C:Calls}{w:Wd}(k:Wk w)(B:n6 C w)(xs hd:List T)(n:Str)(hn:n∈allNames)(val:Str×Str->Sh)(hv:∀p,wu w (val p))(es:List (Str×T)):∀(ps:List (Str×Str))(f:List Str)(a b c d:Option Ent),
  (∀p∈ps,dget p.1 es=some (val p).o)->(∀p∈ps,p.1.length≤100∧p.2.length≤100)->f.length+ps.length<3000 ->
  ∃a' b' c' d',LoopR (jx C "slot_faults" [1]) (ps.map jz) (q39 n es (f.map .str) a b c d) (SG xs (j7 w) hd) .next (q39 n es ((f++jr w n val ps).map .str) a' b' c' d') (SG xs (j7 w) hd):=by
 intro ps
 induction ps with
 | nil=>
  intro f a b c d _ _ _
  exact i41 a b c d (by refine(?_:LoopR _ _ _ _ _ (q39 n es ((f++[]).map .str) a b c d) _);refine rwg (List.append_nil _) ?_;exact .nil)
 | cons p ps ih=>
  intro f a b c d he hk hl
  rw[qj] at hl
  have hg:some ((dget p.1 es).getD bz)=some (val p).o:=by refine rwg (he p (.head _)) ?_;rfl
  have hi:=B.is xs hd (val p) p.2 (hv p)
  induction q:isB w (val p) p.2 using qg with
  | true=>
   replace hi:=q▸hi
   have e:jr w n val (p::ps)=jr w n val ps:=by refine(?_:(if isB w (val p) p.2=true then [] else _)++jr w n val ps=_);refine rwg (if_pos q) ?_;rfl
   refine rwg e ?_
   refine e41 (ih f (vS p.1) (vS p.2) (vT (val p).o) d (fun r hr=>he r (.tail _ hr)) (fun r hr=>hk r (.tail _ hr)) (by exact b6 hl)) fun a' b' c' d' l=>?_
   exact⟨a',b',c',d',.next (jg [.call (.val bz) (SG xs (j7 w) hd),.t (val p).o,.call (.val (.bool true)) (SG xs (j7 w) hd),.b true]
    (fun t=>q9 (B.b.null (SG xs (j7 w) hd)) (q9 hg (q9 hi (q9 (rfl:some true=some true) t)))) (by kernel_rfl)) l⟩
  | false=>
   replace hi:=q▸hi
   refine e02 (hk p (.head _)) fun h1 h2=>?_
   have e:jr w n val (p::ps)=[u0 p.1 n (jq (val p)) p.2]++jr w n val ps:=by
    refine(?_:(if isB w (val p) p.2=true then [] else [u0 p.1 n (jq (val p)) p.2])++jr w n val ps=_)
    refine rwg q ?_;rfl
   obtain⟨r,hr⟩:=qdo (val p)
   have hit:zu (.list ((dj (val p)).map .str)) (.int 0)=some (.str (jq (val p))):=by refine rwg hr ?_;rfl
   have hml:=q78 h1 (g8 n hn) (q1l k (hv p)) h2
   rw[←tb] at hml
   have hfl:(f.map T.str).length<3000:=by refine rwg (qi _) ?_;exact Nat.lt_of_add_right_lt hl
   refine e41 (ih (f++[u0 p.1 n (jq (val p)) p.2]) (vS p.1) (vS p.2) (vT (val p).o) (vS (jq (val p))) (fun r hr=>he r (.tail _ hr)) (fun r hr=>hk r (.tail _ hr)) (by refine rwg qk ?_;refine(?_:f.length+1+_<_);exact a2 hl)) fun a' b' c' d' l=>?_
   refine rwg e<|rwl (List.append_assoc _ _ _) ?_
   rw[←y0,←tb] at l
   refine⟨a',b',c',d',.next (env1:=q39 n es (f.map .str++[.str (qfm p.1 n (jq (val p)) p.2)]) (vS p.1) (vS p.2) (vT (val p).o) (vS (jq (val p)))) (sg1:=SG xs (j7 w) hd)
    (jg [.call (.val bz) (SG xs (j7 w) hd),.t (val p).o,.call (.val (.bool false)) (SG xs (j7 w) hd),.b false,.call (.list ((dj (val p)).map .str)) (SG xs (j7 w) hd),.t (.str (jq (val p))),.call (.val (.str (("“":Str)++n++("”":Str)))) (SG xs (j7 w) hd)]
     (fun t=>q9 (B.b.null (SG xs (j7 w) hd)) (q9 hg (q9 hi (q9 ff (q9 (B.cls (SG xs (j7 w) hd) (val p)) (q9 hit (q9 (B.q (SG xs (j7 w) hd) n hn) (q9 (decide_eq_true (qr hml (by decide)):decide ((qfm p.1 n (jq (val p)) p.2).length≤gw)=true) (q9 (zk hfl) t))))))))) (by kernel_rfl)) ?_⟩
   rw[←tb] at *
   exact l
noncomputable def zp(w:Wd)(m:Str):Int:=match z9 m w with
 | some c=>c.says
 | none=>0
noncomputable def wt(w:Wd):List Str->List Str->List Str×List Str
 | [],f=>(f,[])
 | m::r,f=>if f=[]∧zp w m≠0 then ((wt w r (xn (zp w m))).1,m::(wt w r (xn (zp w m))).2) else wt w r f
theorem nq(s:Int):(xn s).length≤2:=by
 unfold xn
 split
 ·exact Nat.zero_le _
 ·split
  ·exact Nat.le_succ 1
  ·split
   ·exact Nat.le_refl _
   ·exact Nat.le_succ 1
theorem on(w:Wd)(n:Str)(val:Str×Str->Sh):∀ps:List (Str×Str),(jr w n val ps).length≤ps.length:=by
 intro ps
 induction ps with
 | nil=>
  exact Nat.le_refl _
 | cons p r ih=>
  refine(?_:((if isB w (val p) p.2=true then [] else [u0 p.1 n (jq (val p)) p.2])++jr w n val r).length≤r.length+1)
  refine rwg qk ?_
  have:=ih
  split
  ·refine(?_:0+_≤_);exact c5 this
  ·refine(?_:1+_≤_);exact c6 this
theorem r6{w:Wd}(k:Wk w)(h0:0<w.length){p:Str×Str}{l:List Str}(h:p∈zi w l):p.1.length≤100∧p.2.length≤100:=by
 obtain⟨m,_,m2⟩:=pk (List.mem_map.mpr (i12 p h rfl))
 refine e02 (k.slotMem m2) fun m3 zz1=>?_;refine e12 zz1 fun i i1 i2=>?_;clear zz1
 refine⟨by refine rwg i2 ?_;exact qay m (k.all m m3) i i1,?_⟩
 rcases lw k h0 h with q | q
 ·exact qby _ q
 ·exact g8 _ (k.all _ q)
noncomputable def au(C:Calls)(w:Wd):Prop:=∀xs hd n (val:Str×Str->Sh),n∈w.map (·.1)->(∀p,wu w (val p)) ->
 C.callF "slot_faults" [.sh 5,px n (shO ((jm w n).map fun p=>(p.1,val p)))] (SG xs (j7 w) hd) (.list ((jr w n val (jm w n)).map .str)) (SG xs (j7 w) hd)
theorem qk8{C:Calls}{w:Wd}(k:Wk w)(h0:0<w.length)(B:n6 C w):au C.step w:=fun xs hd n val hn hv=>by
 have nd:(((jm w n).map fun p=>(p.1,val p)).map (·.1)).Nodup:=by refine rwg List.map_map ?_;exact k.slotsNd (k.chainC hn).nd
 obtain⟨a,b,c,d,l⟩:=qf1 k B xs hd n (k.all n hn) val hv (shO ((jm w n).map fun p=>(p.1,val p))) (jm w n) [] none none none none
  (fun p hp=>q3a nd (List.mem_map.mpr (i12 p hp rfl))) (fun p hp=>r6 k h0 hp) (by have:=ka k hn;refine(?_:0+_<_);exact ltD this rfl)
 exact j8 [.call (.list ((jm w n).map jz)) (SG xs (j7 w) hd),.loop .next (q39 n (shO ((jm w n).map fun p=>(p.1,val p))) ((jr w n val (jm w n)).map .str) a b c d) (SG xs (j7 w) hd)]
  (fun t=>q9 (B.b.so xs hd n hn) (q9 l t)) (by kernel_rfl)
noncomputable def q00 (v:T) (f:List T) (rows:T) (a b c d:Option Ent):Loc:=[("interp",vT (.sh 3)),("v",vT v),("table",vT (.sh 5)),("faults",some (.list f)),("rows",vT rows),("name",a),("steps",b),("c",c),("call",d)]
theorem q7c(l:List Str):some (decide (((l.map T.str).length:Int)=0))=some (decide (l=[])):=by
 induction l using qf with
 | nil=>rfl
 | cons a r=>
  (rewrite[decide_eq_false (by rw[qi,qj];lia)];exact rwg (decide_eq_false nofun) rfl)
theorem qdp(n:Str)(c:Cls)(h:c.says≠0):k9 n c=q6a n c (bT n c.says):=by
 unfold k9 qdr yq;refine rwg (if_neg h) ?_;rfl
theorem q9w(n:Str)(c:Cls)(h:c.says=0):k9 n c=q6a n c .none:=by
 unfold k9 qdr yq;refine rwg (if_pos h) ?_;rfl
theorem qep{C:Calls}{w:Wd}(k:Wk w)(B:n6 C w)(xs:List T)(n:Str)(es:List (Str×T))(rw_:T):∀(ms:List (Str×Int))(f:List Str)(hd:List T)(a b c d:Option Ent),f.length≤100->hd.length+ms.length<3000->(∀m∈ms,m.1∈w.map (·.1)) ->
  ∃a' b' c' d',LoopR (jx C "validity_faults" [3]) (ms.map xb) (q00 (px n es) (f.map .str) rw_ a b c d) (SG xs (j7 w) hd) .next (q00 (px n es) ((wt w (ms.map (·.1)) f).1.map .str) rw_ a' b' c' d') (SG xs (j7 w) (hd++(wt w (ms.map (·.1)) f).2.map .str)):=by
 intro ms
 induction ms with
 | nil=>
  intro f hd a b c d _ _ _
  exact i41 a b c d (by refine(?_:LoopR _ _ _ _ _ _ (SG xs (j7 w) (hd++[])));refine rwg (List.append_nil _) ?_;exact .nil)
 | cons zz r ih=>
  obtain⟨m,i⟩:=zz
  intro f hd a b c d hf hl hk
  rw[qj] at hl
  have hm:=hk _ (.head _)
  refine e11 (xj hm) fun cl hc=>?_
  have hg:=cb hc▸B.b.gets xs hd m
  have hlen:ze "len" [.list (f.map .str)]=some (.val (.int ((f.map T.str).length:Int))):=fh (by refine rwg (qi _) ?_;refine(?_:_≤4000);exact leK hf rfl)
  have h0:=q7c f
  obtain⟨pre,hp,_⟩:=k.ok.cls (zw hc)
  have hs:zp w m=cl.says:=by unfold zp;exact rwg hc rfl
  have ea:wt w (((m,i)::r).map (·.1)) f=if f=[]∧zp w m≠0 then ((wt w (r.map (·.1)) (xn (zp w m))).1,m::(wt w (r.map (·.1)) (xn (zp w m))).2) else wt w (r.map (·.1)) f:=rfl
  by_cases q:f=[]
  ·replace h0:=(decide_eq_true q)▸h0
   by_cases z:cl.says=0
   ·refine rwg ea<|rwg (if_neg fun h=>h.2 (hs.trans z)) ?_
    replace hg:=(q9w m cl z)▸hg
    refine e41 (ih f hd (vS m) (vI i) (vT (q6a m cl .none)) d hf (by exact b6 hl) fun x hx=>hk x (.tail _ hx)) fun a' b' c' d' l=>?_
    exact i41 a' b' c' d' (.next (jg [.call (.val (q6a m cl .none)) (SG xs (j7 w) hd),.e (.val (.int ((f.map T.str).length:Int))),.b true,.b true,.b false] (fun t=>q9 hg (q9 hlen (q9 h0 (q9 (rfl:some true=some true) (q9 ff t))))) (by kernel_rfl)) l)
   ·refine rwg ea<|rwg (if_pos ⟨q,fun h=>z (hs.symm.trans h)⟩)<|rwg hs ?_
    replace hg:=(qdp m cl z)▸hg
    refine e41 (ih (xn cl.says) (hd++[.str m]) (vS m) (vI i) (vT (q6a m cl (bT m cl.says))) (vT pg) (qr (nq _) (by decide)) (by refine rwg qk ?_;refine(?_:hd.length+1+_<_);exact a2 hl) fun x hx=>hk x (.tail _ hx)) fun a' b' c' d' l=>?_
    rw[List.append_assoc] at l
    have hcv:=B.cv xs (j7 w) hd m (.list [.tup [.none,px n es]]) (br 1 (br 0 .none)) (by exact Nat.lt_of_add_right_lt hl) cl.says hp.says.1 hp.says.2 z
    exact⟨a',b',c',d',.next (env1:=q00 (px n es) ((xn cl.says).map .str) rw_ (vS m) (vI i) (vT (q6a m cl (bT m cl.says))) (vT pg)) (sg1:=SG xs (j7 w) (hd++[.str m]))
     (jg [.call (.val (q6a m cl (bT m cl.says))) (SG xs (j7 w) hd),.e (.val (.int ((f.map T.str).length:Int))),.b true,.b true,.b true,.call (.val (y6 "object")) (SG xs (j7 w) hd),.call (.val pg) (SG xs (j7 w) hd),.call (.val (mx cl.says)) (SG xs (j7 w) (hd++[.str m])),.call (.list ((xn cl.says).map .str)) (SG xs (j7 w) (hd++[.str m]))]
      (fun t=>q9 hg (q9 hlen (q9 h0 (q9 (rfl:some true=some true) (q9 (rfl:some true=some true) (q9 (B.sym (SG xs (j7 w) hd)) (q9 (B.cof (SG xs (j7 w) hd)) (q9 hcv (q9 (B.told (SG xs (j7 w) (hd++[.str m])) cl.says hp.says.1 hp.says.2 z) t))))))))) (by kernel_rfl)) l⟩
  ·replace h0:=(decide_eq_false q)▸h0
   refine rwg ea<|rwg (if_neg fun h=>q h.1) ?_
   refine e41 (ih f hd (vS m) (vI i) (vT (k9 m cl)) d hf (by exact b6 hl) fun x hx=>hk x (.tail _ hx)) fun a' b' c' d' l=>?_
   exact i41 a' b' c' d' (.next (jg [.call (.val (k9 m cl)) (SG xs (j7 w) hd),.e (.val (.int ((f.map T.str).length:Int))),.b false] (fun t=>q9 hg (q9 hlen (q9 h0 t))) (by kernel_rfl)) l)
theorem qi5 {C:Calls} {w:Wd} (k:Wk w) (B:n6 C w) (xs hd:List T) (n:Str) (es:List (Str×T)) (rw_:T) (i:Int) (f:List Str) (hf:f.length≤100):∃c',wq (jx C "validity_faults" [3] (xb ("ANY",i))) [("interp",vT (.sh 3)),("v",vT (px n es)),("table",vT (.sh 5)),("faults",some (.list (f.map .str))),("rows",vT rw_),("name",none),("steps",none),("c",none),("call",none)] (SG xs (j7 w) hd) .next (q00 (px n es) (f.map .str) rw_ (vS "ANY") (vI i) c' none) (SG xs (j7 w) hd):=by
 have hg:=B.b.gets xs hd "ANY"
 have e:az w "ANY" = .none:=by unfold az;exact rwg (wh k.anyNo) rfl
 rw[e] at hg
 have hlen:ze "len" [.list (f.map .str)]=some (.val (.int ((f.map T.str).length:Int))):=fh (by refine rwg (qi _) ?_;refine(?_:_≤4000);exact leK hf rfl)
 have h0:=q7c f
 induction q:decide (f=[]) using qg with
 | true=>
  rw[q] at h0
  exact⟨vT .none,jg [.call (.val .none) (SG xs (j7 w) hd),.e (.val (.int ((f.map T.str).length:Int))),.b true,.b false] (fun t=>q9 hg (q9 hlen (q9 h0 (q9 ff t)))) (by kernel_rfl)⟩
 | false=>
  rw[q] at h0
  exact⟨vT .none,jg [.call (.val .none) (SG xs (j7 w) hd),.e (.val (.int ((f.map T.str).length:Int))),.b false] (fun t=>q9 hg (q9 hlen (q9 h0 t))) (by kernel_rfl)⟩
noncomputable def told(w:Wd)(n:Str)(val:Str×Str->Sh):List Str×List Str:=wt w (chain w n).reverse (jr w n val (jm w n))
noncomputable def q3t(C:Calls)(w:Wd):Prop:=∀xs hd n (val:Str×Str->Sh),n∈w.map (·.1)->(∀p,wu w (val p))->hd.length≤100 ->
 C.callF "validity_faults" [.sh 3,px n (shO ((jm w n).map fun p=>(p.1,val p)))] (SG xs (j7 w) hd) (.list ((told w n val).1.map .str)) (SG xs (j7 w) (hd++(told w n val).2.map .str))
theorem q1w{C:Calls}{w:Wd}(k:Wk w)(B:n6 C w)(S:au C w):q3t C.step w:=fun xs hd n val hn hv hl=>by
 refine e12 (B.b.su xs hd n (List.mem_append_left _ hn)) fun rows r1 r2=>?_
 have hrl:=si k (List.mem_append_left _ hn) r1
 have ha:=dn (r:=xb (n,0)) (rows:=rows.map xb) (by refine rwg (qi _) ?_;exact ltK hrl rfl)
 have hfl:(jr w n val (jm w n)).length≤100:=qr (on w n val _) (by have:=ka k hn;exact leK this rfl)
 -- the rows from behind
 have hrev:(((n,(0:Int))::rows).map (·.1)).reverse=("ANY":Str)::(chain w n).reverse:=by
  refine rwg (show ((n,(0:Int))::rows).map (·.1)=n::rows.map (·.1) from rfl)<|rwg r1<|rwg List.reverse_append ?_;rfl
 have hr2:((((n,(0:Int))::rows).reverse).map (·.1))=("ANY":Str)::(chain w n).reverse:=by refine rwg List.map_reverse ?_;exact hrev
 induction q:((n,(0:Int))::rows).reverse using qf with
 | nil=>rw[q] at hr2;exact nomatch hr2
 | cons p ps=>
  rw[q] at hr2
  refine e02 (List.cons.inj hr2) fun h1 h2=>?_
  obtain⟨x,i⟩:=p
  have h1:x="ANY":=h1
  subst h1
  have hps:ps.length≤13:=by have:=congrArg List.length q;rw[List.length_reverse,qj,qj] at this;exact Nat.succ.inj this▸hrl
  obtain⟨c0,t0⟩:=qi5 k B xs hd n (shO ((jm w n).map fun p=>(p.1,val p))) (.list (xb (n,0)::rows.map xb)) i (jr w n val (jm w n)) hfl
  obtain⟨a,b,c,d,l⟩:=qep k B xs n (shO ((jm w n).map fun p=>(p.1,val p))) (.list (xb (n,0)::rows.map xb)) ps (jr w n val (jm w n)) hd (vS "ANY") (vI i) c0 none hfl (by exact c8 hl hps rfl) fun m hm=>by
   have:m.1∈(chain w n).reverse:=by refine rwl h2 ?_;exact List.mem_map.mpr (i12 m hm rfl)
   exact(k.chainC hn).sub _ (List.mem_reverse.mp this)
  replace l:=h2▸l
  have e:(xb (n,0)::rows.map xb).reverse=xb ("ANY",i)::ps.map xb:=by
   refine rwg (show xb (n,0)::rows.map xb=((n,(0:Int))::rows).map xb from rfl)<|rwl List.map_reverse<|rwg q ?_;rfl
  have l':LoopR (jx C "validity_faults" [3]) (xb (n,0)::rows.map xb).reverse [("interp",vT (.sh 3)),("v",vT (px n (shO ((jm w n).map fun p=>(p.1,val p))))),("table",vT (.sh 5)),("faults",some (.list ((jr w n val (jm w n)).map .str))),("rows",vT (.list (xb (n,0)::rows.map xb))),("name",none),("steps",none),("c",none),("call",none)] (SG xs (j7 w) hd) .next
    (q00 (px n (shO ((jm w n).map fun p=>(p.1,val p)))) ((told w n val).1.map .str) (.list (xb (n,0)::rows.map xb)) a b c d) (SG xs (j7 w) (hd++(told w n val).2.map .str)):=by
   refine rwg e ?_;exact .next t0 l
  exact j8 [.call (.val (.sh 4)) (SG xs (j7 w) hd),.call (.list ((jr w n val (jm w n)).map .str)) (SG xs (j7 w) hd),.call (.list (rows.map xb)) (SG xs (j7 w) hd),.e (.list (xb (n,0)::rows.map xb)),
    .loop .next (q00 (px n (shO ((jm w n).map fun p=>(p.1,val p)))) ((told w n val).1.map .str) (.list (xb (n,0)::rows.map xb)) a b c d) (SG xs (j7 w) (hd++(told w n val).2.map .str))]
   (fun t=>q9 (B.b.st xs hd) (q9 (S xs hd n val hn hv) (q9 r2 (q9 ha (q9 l' t))))) (by kernel_rfl)
theorem im (C:Calls) (sg:List SO):∀x:Sh,C.step.callF "_law_class" [x.s] sg (.val (.str (jq x))) sg:=
 Sh.each
  (j8 [] (fun t=>t) (by kernel_rfl))
  (j8 [] (fun t=>t) (by kernel_rfl))
  (j8 [] (fun t=>t) (by kernel_rfl))
  (j8 [] (fun t=>t) (by kernel_rfl))
  (j8 [] (fun t=>t) (by kernel_rfl))
  (j8 [] (fun t=>t) (by kernel_rfl))
  (j8 [] (fun t=>t) (by kernel_rfl))
  (fun n fs=>j8 [] (fun t=>t) (by kernel_rfl))
noncomputable def qkf(n:Str):List Str:=(ji n basicTab).getD []
noncomputable def qdw(n:Str):List Str:=bfs qkf 20 0 [n]
theorem q3k{w:Wd}(k:Wk w){o:Str}(h:o∈basicTab.map (·.1)):chain w o=qdw o:=by
 refine qa8 (U:=basicTab.map (·.1)) (fun n hn p hp=>?_) (fun n hn=>?_) (fq h)
 ·unfold wm at hp
  rw[wh fun q=>dl n (k.all n q) hn] at hp
  exact dm n hn p hp
 ·delta wm qkf
  exact rwg (wh fun q=>dl n (k.all n q) hn) rfl
noncomputable def qg6 (own:List Str) (nm:Str):Bool:=decide (nm="ANY") || own.any fun o=>decide (nm∈qdw o)
theorem qa9{l:List Str}{f g:Str->Bool}(h:∀o∈l,f o=g o):l.any f=l.any g:=by
 induction l with
 | nil=>rfl
 | cons a r ih=>exact rwg List.any_cons<|rwg List.any_cons<|rwg (h a (.head _))<|rwg (ih fun o ho=>h o (.tail _ ho)) rfl
theorem qcc{w:Wd}(k:Wk w)(x:Sh)(nm:Str)(h:∀o∈zy x,o∈basicTab.map (·.1)):isB w x nm=qg6 (zy x) nm:=by
 delta isB qg6
 exact rwg (qa9 (l:=zy x) fun o ho=>by rw[q3k k (h o ho)]) rfl
noncomputable def qcb:Sh->Bool
 | .obj _ _=>false
 | _=>true
noncomputable def qkw (x:Sh) (kd:Str):Bool:=decide (jq x=kd) || (decide (jq x="integer")&&decide (kd="numeric"))
theorem q53:∀x:Sh,qcb x=true->(∀o∈zy x,o∈basicTab.map (·.1))∧(∀kd∈jv,qg6 (zy x) kd=qkw x kd)∧(∀kd∈allNames,qg6 (zy x) kd=false)∧jq x∉allNames:=
 Sh.each
  (fun z_=>i04 (by decide +kernel) (by decide +kernel) (by decide +kernel) (by decide +kernel))
  (fun z_=>i04 (by decide +kernel) (by decide +kernel) (by decide +kernel) (by decide +kernel))
  (fun z_=>i04 (by decide +kernel) (by decide +kernel) (by decide +kernel) (by decide +kernel))
  (fun z_=>i04 (by decide +kernel) (by decide +kernel) (by decide +kernel) (by decide +kernel))
  (fun z_=>i04 (by decide +kernel) (by decide +kernel) (by decide +kernel) (by decide +kernel))
  (fun z_=>i04 (by decide +kernel) (by decide +kernel) (by decide +kernel) (by decide +kernel))
  (fun z_=>i04 (by decide +kernel) (by decide +kernel) (by decide +kernel) (by decide +kernel))
  (fun z_ z_ h=>Bool.noConfusion h)
noncomputable def qen (C:Calls) (w:Wd):Prop:=∀sg x kd,wu w x→(kd∈jv∨kd∈w.map (·.1))→C.callF "_law_fits" [.dict (vd w),x.s,.str kd] sg (.val (.bool (isB w x kd))) sg
theorem qkh:∀kd,kd∈jv∨kd∈allNames→kd≠"ANY":=fun kd h=>by
 rcases h with h | h
 ·exact(by decide +kernel:∀kd∈jv,kd≠"ANY") kd h
 ·exact(by decide +kernel:∀kd∈allNames,kd≠"ANY") kd h
theorem qgb {C:Calls} {w:Wd} (k:Wk w) (B:ml C w) (L:∀sg x,C.callF "_law_class" [x.s] sg (.val (.str (jq x))) sg):qen C.step w:=fun sg x kd hr hk=>by
 have hkind:(kd∈w.map (·.1))->some (dget kd (vd w)).isSome=some true:=q0y
 induction q:qcb x using qg with
 | true=>
  refine e04 (q53 x q) fun f1 f2 f3 f4=>?_
  refine rwg (qcc k x kd f1) ?_
  rcases hk with hk | hk
  ·refine rwg (f2 kd hk) ?_
   have h1:some (dget kd (vd w)).isSome=some false:=q76 fun h=>ww _ hk (k.all _ h)
   unfold qkw
   induction a:decide (jq x=kd) using qg with
   | true=>exact j8 [.call (.val (.str (jq x))) sg,.b false,.b true] (fun t=>q9 (L sg x) (q9 h1 (q9 (congrArg some a) t))) (by kernel_rfl)
   | false=>
    induction b:decide (jq x="integer") using qg with
    | false=>exact j8 [.call (.val (.str (jq x))) sg,.b false,.b false,.b false] (fun t=>q9 (L sg x) (q9 h1 (q9 (congrArg some a) (q9 (congrArg some b) t)))) (by kernel_rfl)
    | true=>exact j8 [.call (.val (.str (jq x))) sg,.b false,.b false,.b true,.b (decide (kd="numeric"))] (fun t=>q9 (L sg x) (q9 h1 (q9 (congrArg some a) (q9 (congrArg some b) (q9 (rfl:some (decide (kd="numeric"))=some (decide (kd="numeric"))) t))))) (by kernel_rfl)
  ·refine rwg (f3 kd (k.all _ hk)) ?_
   have h2:some (dget (jq x) (vd w)).isSome=some false:=q76 fun h=>f4 (k.all _ h)
   exact j8 [.call (.val (.str (jq x))) sg,.b true,.b false] (fun t=>q9 (L sg x) (q9 (hkind hk) (q9 h2 t))) (by kernel_rfl)
 | false=>
  induction x using Sh.casesOn with
  | none=>exact Bool.noConfusion q
  | vec v=>exact Bool.noConfusion q
  | obj n fs=>
   have hn:n∈w.map (·.1):=hr
   have hb:isB w (.obj n fs) kd=decide (kd∈chain w n):=by
    refine(?_:(decide (kd="ANY") || (decide (kd∈chain w n) || false))=_)
    (refine rwg (decide_eq_false (qkh kd (hk.imp id (k.all _)))) ?_;rewrite[Bool.or_false];exact rwg (Bool.false_or _) rfl)
   refine rwg hb ?_
   rcases hk with hk | hk
   ·have h1:some (dget kd (vd w)).isSome=some false:=q76 fun h=>ww _ hk (k.all _ h)
    have h2:decide (kd∈chain w n)=false:=decide_eq_false fun h=>ww _ hk (k.all _ ((k.chainC hn).sub _ h))
    have h3:decide (n=kd)=false:=decide_eq_false fun e=>ww _ hk (e▸k.all _ hn)
    have h4:decide (n="integer")=false:=decide_eq_false fun e=>(by decide +kernel:("integer":Str)∉allNames) (e▸k.all _ hn)
    refine rwg h2 ?_
    exact j8 [.call (.val (.str n)) sg,.b false,.b false,.b false] (fun t=>q9 (L sg (.obj n fs)) (q9 h1 (q9 (congrArg some h3) (q9 (congrArg some h4) t)))) (by kernel_rfl)
   ·exact j8 [.call (.val (.str n)) sg,.b true,.b true,.call (.list ((chain w n).map .str)) sg,.b (decide (kd∈chain w n))]
     (fun t=>q9 (L sg (.obj n fs)) (q9 (hkind hk) (q9 (q0y hn) (q9 (B.ch sg n hn) (q9 (uo kd (chain w n)) t))))) (by kernel_rfl)
noncomputable def xr (n:Str):Str:=("invalid class “":Str)++n++("” object: ":Str)
noncomputable def fg(i:Nat):Str:=Str.ofString (toString ((i:Int)+1))
noncomputable def q0r(h:Str):Nat->List Str->List Str
 | _,[]=>[]
 | i,f::r=>(h++(fg i++((": ":Str)++(f++("":Str)))))::q0r h (i+1) r
noncomputable def k6(h:Str):Nat->List Str->List Str
 | _,[]=>[]
 | i,f::r=>(h++fg i++(": ":Str)++f)::k6 h (i+1) r
theorem q50(h:Str):∀(fs:List Str)(i:Nat),q0r h i fs=k6 h i fs:=by
 intro fs
 induction fs with
 | nil=>
  intro _
  exact rfl
 | cons f r ih=>
  intro i
  refine(?_:(h++(fg i++((": ":Str)++(f++("":Str)))))::q0r h (i+1) r=(h++fg i++(": ":Str)++f)::k6 h (i+1) r)
  (refine rwg (ih (i+1)) ?_;rewrite[q6u];exact rwg (ng _ _ _)<|rwg (ng _ _ _) rfl)
noncomputable def yy:List Str->Str
 | []=>""
 | [x]=>x
 | x::r=>x++("\n":Str)++yy r
theorem tm:∀l:List Str,b9 (l.map .str)=some (yy l)
 | []=>rfl
 | [x]=>rfl
 | x::y::r=>by
  refine(?_:(opt (b9 ((y::r).map .str)) fun z=>some (x++("\n":Str)++z))=_)
  refine rwg (tm (y::r)) ?_;rfl
noncomputable def ru(n:Str):List Str->Str
 | [f]=>xr n++f
 | fs=>yy (k6 (xr n) 0 fs)
theorem q0o:∀i:Nat,i<100->(fg i).length≤3:=by decide +kernel
theorem qis{i:Nat}(h:i<100):shown (.int ((i:Int)+1))=some (fg i):=by
 refine(?_:s9 ((i:Int)+1)=_)
 unfold s9;rw[decide_eq_true (by exact Int.natCast_nonneg (i+1)),decide_eq_true (by exact Int.ofNat_lt.mpr (ltK (a:=i+1) h rfl))];rfl
theorem q9a:∀n∈allNames,("invalid class ":Str)++(("“":Str)++n++("”":Str))++(" object: ":Str)=xr n:=y5 (by kernel_rfl) (by kernel_rfl) (by kernel_rfl) (by kernel_rfl)
theorem q2z:∀n∈allNames,(xr n).length≤100:=by decide +kernel
theorem add_str{x y:Str}(h:x.length+y.length≤100000):aq .Add (.str x) (.str y)=some (.val (.str (x++y))):=by
 refine(?_:opt (qed x y) _=_)
 unfold qed;refine rwg (decide_eq_true (by exact h:x.length+y.length≤gw)) ?_;rfl
theorem r5{h:Str}(hh:h.length≤100):∀{fs:List Str}{i:Nat},(∀f∈fs,f.length≤600)->i+fs.length≤100->(∀x∈k6 h i fs,x.length≤800)∧(k6 h i fs).length=fs.length
 | [],_,_,_=>⟨fun x h=>(nomatch h),rfl⟩
 | f::r,i,hf,hi=>by
  rw[qj] at hi
  obtain⟨h1,h2⟩:=r5 (i:=i+1) hh (fun g hg=>hf g (.tail _ hg)) (by exact a1 hi)
  refine⟨fun x hx=>?_,by rw[qj];refine(?_:(k6 h (i+1) r).length+1=_);exact rwg h2 rfl⟩
  rcases ql.mp hx with rfl | hx
  ·have a:=q0o i (by exact b5 hi rfl)
   have b:=hf f (.head _)
   have c:(": ":Str).length=2:=by decide +kernel
   simp only [ve,c];exact fi (leC (m:=105) (fi (m:=103) hh a rfl) rfl) b rfl
  ·exact h1 x hx
theorem tj:∀{l:List Str},(∀x∈l,x.length≤800)->(yy l).length≤801*l.length
 | [],_=>by refine(?_:(("":Str)).length≤0);decide +kernel
 | [x],h=>by refine(?_:x.length≤_);have:=h x (.head _);simp;exact leK this rfl
 | x::y::r,h=>by
  have:=tj (l:=y::r) fun z hz=>h z (.tail _ hz)
  have b:=h x (.head _)
  have c:("\n":Str).length=1:=by decide +kernel
  refine(?_:(x++("\n":Str)++yy (y::r)).length≤_)
  refine rwg (ve _ _)<|rwg (ve _ _)<|rwg c<|rwg qj ?_;exact qr (Nat.add_le_add (Nat.succ_le_succ b) this) (Nat.le_of_eq (Nat.add_comm 801 _))
theorem lz {l:List Str} (h:(yy l).length≤100000):uj "join" "\n" [.list (l.map .str)]=some (.val (.str (yy l))):=by
 have e:uj "join" "\n" [.list (l.map .str)]=opt (b9 (l.map .str)) fun y=>grd (decide (y.length≤gw)) (some (.val (.str y))):=by kernel_rfl
 refine rwg e<|rwg (tm _) ?_
 refine(?_:grd (decide ((yy l).length≤gw)) _=_)
 refine rwg (decide_eq_true (by exact h:(yy l).length≤gw)) ?_;rfl
noncomputable def qjf (h:Str) (fs:List Str) (a:Option Ent):Loc:=[("faults",vT (.list (fs.map .str))),("head",vS h),(".0",none),("place",a)]
theorem q80(C:Calls)(sg:List SO){h:Str}(hh:h.length≤100)(all:List Str)(hall:all.length≤100):∀(fs:List Str)(i:Nat)(a:Option Ent),(∀f∈fs,f.length≤600)->all.drop i=fs->i≤all.length ->
  ∃a',CompR (lh C 26 "faults_text" [2]) (jw i fs.length) (qjf h all a) sg ((q0r h i fs).map .str) (qjf h all a') sg:=by
 intro fs
 induction fs with
 | nil=>
  intro i a _ _ _
  exact⟨a,.nil⟩
 | cons f r ih=>
  intro i a hf hd hi
  have hlt:i<all.length:=by
   induction z:decide (i<all.length) using qg with
   | true=>exact of_decide_eq_true z
   | false=>rw[List.drop_eq_nil_of_le (by have:=of_decide_eq_false z;exact Nat.le_of_not_lt this)] at hd;exact nomatch hd
  have hd':=List.drop_eq_getElem_cons hlt
  rw[hd] at hd'
  refine e02 (List.cons.inj hd') fun e1 e2=>?_
  obtain⟨a',l⟩:=ih (i+1) (vI i) (fun g hg=>hf g (.tail _ hg)) e2.symm (by exact hlt)
  have b:=hf f (.head _)
  have c:=q0o i (by exact qq hlt hall)
  have d:(": ":Str).length=2:=by decide +kernel
  have z:("":Str).length=0:=by decide +kernel
  have hx:(fg i++((": ":Str)++(f++("":Str)))).length≤700:=by simp only [ve,d,z];lia
  have hit:zu (.list (all.map .str)) (.int (i:Int))=some (.str f):=by refine rwg e1 ?_;exact py all i hlt (by exact b2 hlt hall rfl)
  have er:jw i (f::r).length = .int (i:Int)::jw (i+1) r.length:=by unfold jw;refine rwg qj<|rwg List.range'_succ ?_;rfl
  refine rwg er ?_
  exact⟨a',.cons (xs:=[.str (h++(fg i++((": ":Str)++(f++("":Str)))))]) (jg [.s (fg i),.t (.str f),.s f,.e (.val (.str (h++(fg i++((": ":Str)++(f++("":Str)))))))]
   (fun t=>q9 (qis (i:=i) (by exact qq hlt hall)) (q9 hit (q9 (rfl:some f=some f) (q9 (decide_eq_true (qr hx (by decide)):decide ((fg i++((": ":Str)++(f++("":Str)))).length≤gw)=true) (q9 (add_str (x:=h) (y:=fg i++((": ":Str)++(f++("":Str)))) (by lia)) t))))) (by kernel_rfl)) l⟩
structure FOk(fs:List Str):Prop where
 len:fs.length≤100
 each:∀f∈fs,f.length≤600
theorem qer {C:Calls} {w:Wd} (B:n6 C w) (sg:List SO) {n:Str} (hn:n∈allNames) (fs:List Str) (hf:FOk fs):C.step.callF "faults_text" [.str n,.list (fs.map .str)] sg (.val (.str (ru n fs))) sg:=by
 have hh:=q2z n hn
 have q:=B.q sg n hn
 have l1:("invalid class ":Str).length≤100:=by decide +kernel
 have l2:(" object: ":Str).length≤100:=by decide +kernel
 have l3:(("“":Str)++n++("”":Str)).length≤100:=(by decide +kernel:∀n∈allNames,(("“":Str)++n++("”":Str)).length≤100) n hn
 have a1:=add_str (x:="invalid class ") (y:=("“":Str)++n++("”":Str)) (by exact fi l1 l3 rfl)
 have a2:=add_str (x:=("invalid class ":Str)++(("“":Str)++n++("”":Str))) (y:=" object: ") (by refine rwg (ve _ _) ?_;exact qko l1 l3 l2 rfl)
 rw[q9a n hn] at a2
 have hlen:ze "len" [.list (fs.map .str)]=some (.val (.int (fs.length:Int))):=by rw[fh (by rw[qi];have:=hf.len;refine(?_:_≤4000);exact leK this rfl),qi]
 induction q1:decide ((fs.length:Int)=1) using qg with
 | true=>
  have:fs.length=1:=by have:=of_decide_eq_true q1;exact Int.ofNat.inj this
  refine e11 (List.length_eq_one_iff.mp this) fun f zz=>?_
  clear this
  subst zz
  ·have b:=hf.each f (.head _)
   have a3:=add_str (x:=xr n) (y:=f) (by exact fi hh b rfl)
   exact j8 [.call (.val (.str (("“":Str)++n++("”":Str)))) sg,.e (.val (.str (("invalid class ":Str)++(("“":Str)++n++("”":Str))))),.e (.val (.str (xr n))),.e (.val (.int 1)),.b true,.t (.str f),.e (.val (.str (xr n++f)))]
    (fun t=>q9 q (q9 a1 (q9 a2 (q9 hlen (q9 (rfl:some true=some true) (q9 (rfl:some (T.str f)=some (T.str f)) (q9 a3 t))))))) (by kernel_rfl)
 | false=>
  refine e11 (q80 C sg hh fs hf.len fs 0 none hf.each rfl (Nat.zero_le _)) fun a' l=>?_
  rw[q50] at l
  refine e02 (r5 (i:=0) hh hf.each (by have:=hf.len;exact(Nat.zero_add _).symm▸this)) fun g1 g2=>?_
  have j:=tj g1
  have hfl:=hf.len
  have hj:=lz (l:=k6 (xr n) 0 fs) (by rw[g2] at j;lia)
  have et:ru n fs=yy (k6 (xr n) 0 fs):=by
   match fs,q1 with
   | [],_=>rfl
   | [_],q1=>exact Bool.noConfusion q1
   | _::_::_,_=>rfl
  rw[et]
  have hrg:(decide (0≤(fs.length:Int))&&decide ((fs.length:Int)≤LIM))=true:=by rw[decide_eq_true (Int.natCast_nonneg _),decide_eq_true (by refine(?_:(fs.length:Int)≤4000);lia)];rfl
  exact j8 [.call (.val (.str (("“":Str)++n++("”":Str)))) sg,.e (.val (.str (("invalid class ":Str)++(("“":Str)++n++("”":Str))))),.e (.val (.str (xr n))),.e (.val (.int (fs.length:Int))),.b false,.e (.val (.int (fs.length:Int))),.comp ((k6 (xr n) 0 fs).map .str) (qjf (xr n) fs a') sg,.e (.val (.str (yy (k6 (xr n) 0 fs))))]
   (fun t=>q9 q (q9 a1 (q9 a2 (q9 hlen (q9 (congrArg some q1) (q9 hlen (q9 hrg (q9 (y8 fs.length▸l) (q9 (decide_eq_true (by rw[qi,g2];refine(?_:_≤4000);lia):decide (((k6 (xr n) 0 fs).map T.str).length≤LIM)=true) (q9 hj t)))))))))) (by kernel_rfl)
structure LE where
 name:Option Ent
 one:Option Ent
 values:Option Ent
 slot:Option Ent
 teller:Option Ent
 kind:Option Ent
 made:Option Ent
 due:Option Ent
 kinds:Option Ent
 faults:Option Ent
 shown:Option Ent
 words:Option Ent
 asked:Option Ent
noncomputable def LE0:LE:=⟨none,none,none,none,none,none,none,none,none,none,none,none,none⟩
structure LC where
 s:T
 names:List T
 w:Wd
noncomputable def LE.env (e:LE) (k:LC):Loc:=[("script",vT k.s),("shells",vT (.sh 2)),("names",vT (.list k.names)),("world",vT (.dict (vd k.w))),("interp",vT (.sh 3)),("table",vT (.sh 5)),("heard",vT (.sh 6)),
 ("name",e.name),("one",e.one),("values",e.values),("slot",e.slot),("teller",e.teller),("kind",e.kind),("made",e.made),("due",e.due),("kinds",e.kinds),("faults_due",e.faults),("shown",e.shown),("words",e.words),("asked",e.asked),("message",none),("error",none),("head",none),("wanted",none)]
theorem WOk.left{w2:Wd}:∀{w1:Wd}{pre:List Str},WOk pre (w1++w2)->WOk pre w1
 | [],_,_=>trivial
 | _::_,_,h=>⟨h.1,h.2.left⟩
theorem WOk.right{w2:Wd}:∀{w1:Wd}{pre:List Str},WOk pre (w1++w2)->WOk (pre++w1.map (·.1)) w2:=by
 intro w1
 induction w1 with
 | nil=>
  intro _ h
  simpa using h
 | cons zz r ih=>
  obtain⟨n,c⟩:=zz
  intro _ h
  have:=ih h.2;simpa using this
theorem Wk.left{w1 w2:Wd}(k:Wk (w1++w2)):Wk w1:=by
 have h:=k.keys
 rw[qu] at h
 have hl:=k.len
 rw[qk] at hl
 refine⟨k.ok.left,?_,by exact Nat.le_of_add_right_le hl⟩
 have:=congrArg (List.take w1.length) h
 rw[List.take_left' (by exact rwg (qi _) rfl),List.take_take,Nat.min_eq_left (by refine rwg qk ?_;exact Nat.le_add_right _ _)] at this
 exact this
theorem Wk.next{w1 w2:Wd}{n:Str}{c:Cls}(k:Wk (w1++(n,c)::w2)):dz (w1.map (·.1)) n c∧n∉w1.map (·.1):=by
 have h:=k.ok.right
 refine⟨by simpa using h.1,fun hm=>?_⟩
 have nd:=k.nd
 rw[qu,List.nodup_append] at nd
 exact nd.2.2 _ hm _ (.head _) rfl
theorem q9x{w1 w2:Wd}{n:Str}{c:Cls}(h:n∉w1.map (·.1)):z9 n (w1++(n,c)::w2)=some c:=by
 induction w1 with
 | nil=>refine(?_:(if n=n then some c else z9 n w2)=_);exact rwg (if_pos rfl) rfl
 | cons p r ih=>
  obtain⟨m,d⟩:=p
  refine(?_:(if m=n then some d else z9 n (r++(n,c)::w2))=_)
  refine rwg (if_neg fun e=>h (by rw[qv,e];exact .head _)) ?_
  exact ih fun q=>h (.tail _ q)
section
variable {C:Calls}
noncomputable def qjv (C:Calls):Prop:=∀sg k l,C.makeC "Vector" [.str k,.list l] sg (n8 k l) sg
theorem qke {i:Int} (h:i=0∨i=1):zu (.list [f8 "integer" [.int 5] .none,f8 "character" [.str "q"] .none]) (.int i)=some (pv i).t:=by
 rcases h with rfl | rfl <;> rfl
theorem q2e(V:qjv C)(sg:List SO)(k:LC)(n:Str)(c:Cls)(all:List (Str×Int))(nd:(all.map (·.1)).Nodup)(h01:∀q∈all,q.2=0∨q.2=1)(hl:all.length≤100)(hc:c.protos=all):∀(ps done:List (Str×Int))(e:LE),done++ps=all->e.name=vS n->e.one=vT c.t->e.values=some (.dict (done.map xo)) ->
  ∃slot,LoopR (jx C "law" [5,2]) (ps.map fun q=>T.str q.1) (e.env k) sg .next (({ e with slot:=slot,values:=some (.dict (all.map xo)) }:LE).env k) sg:=by
 intro ps
 induction ps with
 | nil=>
  intro done e ha h1 h2 h3
  exact⟨e.slot,by
   rw[List.append_nil] at ha
   refine rwl ha<|rwl h3 ?_;exact .nil⟩
 | cons q ps ih=>
  intro done e ha h1 h2 h3
  obtain⟨en,eo,ev,es,et,ek,em,ed,eks,ef,esh,ew,ea⟩:=e
  dsimp only at h1 h2 h3
  subst h1 h2 h3
  have hq:q∈all:=by refine rwl ha ?_;exact List.mem_append_right _ (.head _)
  have hkeys:(done.map xo).map (·.1)=done.map (·.1):=by refine rwg List.map_map ?_;rfl
  have nd':=nd
  rw[←ha,qu] at nd'
  have nd2:=List.nodup_append.mp nd'
  have hnew:q.1∉(done.map xo).map (·.1):=fun hm=>by rw[hkeys] at hm;exact nd2.2.2 _ hm _ (.head _) rfl
  have hok:okD (done.map xo)=true:=fe (by refine rwg (qi _) ?_;have:=congrArg List.length ha;replace this:=qk▸this;exact b5 (qr (Nat.le_of_eq this) hl) rfl) (by refine rwg hkeys ?_;exact nd2.1)
  have hd:zu (.dict (all.map zq)) (.str q.1)=some (.int q.2):=by
   refine(?_:dget q.1 (all.map zq)=_)
   have key:∀{l:List (Str×Int)},(l.map (·.1)).Nodup->q∈l->dget q.1 (l.map zq)=some (.int q.2):=by
    intro l
    induction l with
    | nil=>intro _ h;cases h
    | cons a r ih=>
     intro nd h
     have nd':=List.nodup_cons.mp nd
     refine(?_:(if a.1=q.1 then some (T.int a.2) else dget q.1 (r.map zq))=_)
     rcases ql.mp h with rfl | h
     ·exact rwg (if_pos rfl) rfl
     ·refine rwg (if_neg fun e=>nd'.1 (List.mem_map.mpr (i12 _ h e.symm))) ?_;exact ih nd'.2 h
   exact key nd hq
  have e1:dput q.1 (pv q.2).t (done.map xo)=(done++[q]).map xo:=by
   refine rwg (yg hnew)<|rwg qu ?_
   refine(?_:_=_++[xo q])
   exact rwg (ib _) rfl
  refine e11 (ih (done++[q]) ⟨vS n,vT c.t,some (.dict ((done++[q]).map xo)),vS q.1,et,ek,em,ed,eks,ef,esh,ew,ea⟩ (by refine rwg (List.append_assoc _ _ _) ?_;exact ha) rfl rfl rfl) fun sl l=>?_
  refine⟨sl,.next (env1:=(LE.mk (vS n) (vT c.t) (some (.dict ((done++[q]).map xo))) (vS q.1) et ek em ed eks ef esh ew ea).env k) (sg1:=sg) ?_ l⟩
  refine rwl e1 ?_
  replace hd:=(Eq.symm hc)▸hd
  exact jg [.call (n8 "integer" [.int 5]) sg,.call (n8 "character" [.str "q"]) sg,.t (.dict (c.protos.map zq)),.t (.int q.2),.t (pv q.2).t]
   (fun t=>q9 (V sg "integer" [.int 5]) (q9 (V sg "character" [.str "q"]) (q9 (rfl:some (T.dict (c.protos.map zq))=some (T.dict (c.protos.map zq))) (q9 hd (q9 (qke (h01 q hq)) (q9 hok t)))))) (by kernel_rfl)
noncomputable def cm (C:Calls):Prop:=∀w1 n c,Wk w1→dz (w1.map (·.1)) n c→n∉w1.map (·.1)→∀xs hd,C.callF "ClassTable.define" [.sh 5,k9 n c] (SG xs (j7 w1) hd) (.val .none) (SG xs (j7 (w1++[(n,c)])) hd)
noncomputable def q1s (C:Calls):Prop:=∀xs es hd n,n∈allNames→∀s:Int,s≠0→C.callF "_law_teller" [.sh 6,.str n,.int s] (SG xs es hd) (.val (yq n s)) (SG xs es hd)
noncomputable def qjn (n:Str) (c:Cls):Ent:=.inst "S4Class" [("name",.val (.str n)),("slots",.val (.list (c.slots.map jz))),("contains",.val (.list (c.above.map .str))),("validity",.val (yq n c.says)),("virtual",.val (.bool false)),("prototype",.val (.dict (c.protos.map xo)))]
noncomputable def q1v (C:Calls):Prop:=∀n c sg,C.makeC "S4Class" [.str n,.list (c.slots.map jz),.list (c.above.map .str),yq n c.says,.bool false,.dict (c.protos.map xo)] sg (qjn n c) sg
theorem q0t{ps:List (Str×Int)}(nd:(ps.map (·.1)).Nodup):fj (.dict (ps.map zq))=some (ps.map fun q=>.str q.1):=by
 unfold fj
 dsimp only
 refine rwg (show (ps.map zq).map (·.1)=ps.map (·.1) by rw[List.map_map];rfl)<|rwg (decide_eq_true nd) ?_
 refine(?_:some ((ps.map zq).map fun p=>T.str p.1)=_)
 refine rwg List.map_map ?_;rfl
theorem q4p{w1:List Str}{n:Str}{c:Cls}(h:dz w1 n c):c.protos.length≤100:=by
 refine e13 h.slots fun ks k1 k2 k3=>?_
 have:(c.protos.map (·.1)).length≤(c.slots.map (·.1)).length:=vj h.protos.2 fun x hx=>by
  refine e12 (List.mem_map.mp hx) fun q q1 q2=>?_;refine rwl q2 ?_;exact(h.protos.1 q q1).1
 rw[qi,qi,k3,yx] at this
 exact b1 this k1 rfl
theorem qdc(V:qjv C)(D:cm C)(Te:q1s C)(Cl:q1v C)(k:LC)(w1 w2:Wd)(n:Str)(c:Cls)(hk:k.w=w1++(n,c)::w2)(kw:Wk k.w)(xs hd:List T)(e:LE):
  ∃a b c' d f,wq (jx C "law" [5] (.str n)) (e.env k) (SG xs (j7 w1) hd) .next (({ e with name:=a,one:=b,values:=c',slot:=d,teller:=f }:LE).env k) (SG xs (j7 (w1++[(n,c)])) hd):=by
 replace kw:=hk▸kw
 refine e02 kw.next fun h1 h2=>?_
 have hw:=bu (q9x (w2:=w2) (c:=c) h2)
 replace hw:=(Eq.symm hk)▸hw
 obtain⟨en,eo,ev,es,et,ek,em,ed,eks,ef,esh,ew,ea⟩:=e
 refine e11 (q2e V (SG xs (j7 w1) hd) k n c c.protos h1.protos.2 (fun q hq=>(h1.protos.1 q hq).2) (q4p h1) rfl c.protos [] ⟨vS n,vT c.t,some (.dict []),es,et,ek,em,ed,eks,ef,esh,ew,ea⟩ rfl rfl rfl rfl) fun sl l=>?_
 have hd':=D w1 n c kw.left h1 h2 xs hd
 have hit:=q0t h1.protos.2
 induction q:decide (c.says=0) using qg with
 | true=>
  have hz:=of_decide_eq_true q
  refine i51 (vS n) (vT c.t) (vT (.dict (c.protos.map xo))) sl (vT .none) ?_
  have ht:yq n c.says = .none:=by unfold yq;exact rwg (if_pos hz) rfl
  have hcl:=Cl n c (SG xs (j7 w1) hd)
  replace hcl:=ht▸hcl
  exact jg [.t c.t,.l (c.protos.map fun q=>.str q.1),.loop .next ((LE.mk (vS n) (vT c.t) (some (.dict (c.protos.map xo))) sl et ek em ed eks ef esh ew ea).env k) (SG xs (j7 w1) hd),.t (.int c.says),.b true,.call (qjn n c) (SG xs (j7 w1) hd),.call (.val .none) (SG xs (j7 (w1++[(n,c)])) hd)]
   (fun t=>q9 hw (q9 hit (q9 l (q9 (rfl:some (T.int c.says)=some (T.int c.says)) (q9 (congrArg some q) (q9 hcl (q9 hd' t))))))) (by kernel_rfl)
 | false=>
  have hz:=of_decide_eq_false q
  refine i51 (vS n) (vT c.t) (vT (.dict (c.protos.map xo))) sl (vT (yq n c.says)) ?_
  exact jg [.t c.t,.l (c.protos.map fun q=>.str q.1),.loop .next ((LE.mk (vS n) (vT c.t) (some (.dict (c.protos.map xo))) sl et ek em ed eks ef esh ew ea).env k) (SG xs (j7 w1) hd),.t (.int c.says),.b false,.t (.int c.says),.call (.val (yq n c.says)) (SG xs (j7 w1) hd),.call (qjn n c) (SG xs (j7 w1) hd),.call (.val .none) (SG xs (j7 (w1++[(n,c)])) hd)]
   (fun t=>q9 hw (q9 hit (q9 l (q9 (rfl:some (T.int c.says)=some (T.int c.says)) (q9 (congrArg some q) (q9 (rfl:some (T.int c.says)=some (T.int c.says)) (q9 (Te xs (j7 w1) hd n h1.name c.says hz) (q9 (Cl n c (SG xs (j7 w1) hd)) (q9 hd' t))))))))) (by kernel_rfl)
theorem qdd(V:qjv C)(D:cm C)(Te:q1s C)(Cl:q1v C)(k:LC)(kw:Wk k.w)(xs hd:List T):∀(w2 w1:Wd)(e:LE),k.w=w1++w2 ->
  ∃a b c d f,LoopR (jx C "law" [5]) (w2.map fun p=>T.str p.1) (e.env k) (SG xs (j7 w1) hd) .next (({ e with name:=a,one:=b,values:=c,slot:=d,teller:=f }:LE).env k) (SG xs (j7 (w1++w2)) hd):=by
 intro w2
 induction w2 with
 | nil=>
  intro w1 e _
  exact i51 e.name e.one e.values e.slot e.teller (by refine rwg (List.append_nil _) ?_;exact .nil)
 | cons zz w2 ih=>
  obtain⟨n,c⟩:=zz
  intro w1 e h
  refine e51 (qdc V D Te Cl k w1 w2 n c h kw xs hd e) fun a b c' d f t1=>?_
  refine e51 (ih (w1++[(n,c)]) { e with name:=a,one:=b,values:=c',slot:=d,teller:=f } (by refine rwg h<|rwg (List.append_assoc _ _ _) ?_;rfl)) fun a2 b2 c2 d2 f2 l2=>?_
  rw[List.append_assoc] at l2
  exact i51 a2 b2 c2 d2 f2 (.next t1 l2)
end
section
variable {C:Calls}
theorem qdj (k:LC) (e:LE) (kd:Str) (sg:List SO):∀x:Sh,C.callF "default_value" [.sh 3,.str kd,.list []] sg (.val x.o) sg→C.callF "_law_shown" [x.o] sg x.e sg→C.callF "_law_start" [.dict (vd k.w),.str kd,.list []] sg x.e sg→uu .NotEq x.s x.s=some false →
  wq (jx C "law" [6] (.str kd)) (e.env k) sg .next (({ e with kind:=vS kd }:LE).env k) sg:=by
 intro x
 induction x using Sh.casesOn with
 | none=>
  intro h1 h2 h3 h4
  exact jg [.call (.val (Sh.o .none)) sg,.call (Sh.e .none) sg,.call (Sh.e .none) sg,.b false] (fun t=>q9 h1 (q9 h2 (q9 h3 (q9 h4 t)))) (by kernel_rfl)
 | vec v=>
  intro h1 h2 h3 h4
  exact jg [.call (.val (Sh.o (.vec v))) sg,.call (Sh.e (.vec v)) sg,.call (Sh.e (.vec v)) sg,.b false] (fun t=>q9 h1 (q9 h2 (q9 h3 (q9 h4 t)))) (by kernel_rfl)
 | obj n fs=>
  intro h1 h2 h3 h4
  exact jg [.call (.val (Sh.o (.obj n fs))) sg,.call (Sh.e (.obj n fs)) sg,.call (Sh.e (.obj n fs)) sg,.b false] (fun t=>q9 h1 (q9 h2 (q9 h3 (q9 h4 t)))) (by kernel_rfl)
theorem qdk(k:LC)(kw:Wk k.w)(D:wr C k.w 4)(S:bl C k.w 4)(Sh':mj C 4)(xs hd:List T):∀(ks:List Str)(e:LE),(∀x∈ks,x∈jv∨x∈k.w.map (·.1)) ->
  ∃a,LoopR (jx C "law" [6]) (ks.map .str) (e.env k) (SG xs (j7 k.w) hd) .next (({ e with kind:=a }:LE).env k) (SG xs (j7 k.w) hd):=by
 intro ks
 induction ks with
 | nil=>
  intro e _
  exact⟨e.kind,.nil⟩
 | cons kd r ih=>
  intro e h
  have hk:=h kd (.head _)
  have ok:=q43 kw 4 kd []
  have hf:k.w.length≤4+([]:List Str).length:=by have:=kw.len;simp;exact this
  obtain⟨a,l⟩:=ih { e with kind:=vS kd } fun x hx=>h x (.tail _ hx)
  exact⟨a,.next (qdj k e kd (SG xs (j7 k.w) hd) (xz k.w 4 kd []) (D xs hd kd [] hk (fun z_ h=>(nomatch h)) .nil hf) (Sh' _ _ ok) (S _ kd [] hk (fun z_ h=>(nomatch h)) .nil hf) (q70 ok (by decide))) l⟩
noncomputable def vq(p:Str×Str):Str×T:=(p.1,.str p.2)
theorem q9q:∀(ps done:List (Str×T)),((done++ps).map (·.1)).Nodup->ps.foldl (fun d p=>dput p.1 p.2 d) done=done++ps:=by
 intro ps
 induction ps with
 | nil=>
  intro done _
  exact(List.append_nil done).symm
 | cons p r ih=>
  intro done nd
  have nd':=nd
  rw[qu] at nd'
  have nd2:=List.nodup_append.mp nd'
  refine rwg List.foldl_cons<|rwg (yg fun hm=>nd2.2.2 _ hm _ (.head _) rfl)<|rwg (ih (done++[(p.1,p.2)]) (by rw[List.append_assoc];exact nd))<|rwg (List.append_assoc _ _ _) ?_;rfl
theorem q2f:∀ps:List (Str×Str),vf (ps.map jz)=some (ps.map vq):=by
 intro ps
 induction ps with
 | nil=>
  exact rfl
 | cons p r ih=>
  refine(?_:opt (qbg (jz p)) (fun q=>opt (vf (r.map jz)) fun l=>some (q::l))=_)
  refine rwg (ih) ?_;rfl
theorem qgn {ps:List (Str×Str)} (nd:(ps.map (·.1)).Nodup) (hl:ps.length≤100):ze "dict" [.list (ps.map jz)]=some (.dict (ps.map vq)):=by
 have e:ze "dict" [.list (ps.map jz)]=grd (decide ((ps.map jz).length≤LIM)) (opt (vf (ps.map jz)) fun l=>some (.dict (xu l))):=by kernel_rfl
 refine rwg e<|rwg (q2f _)<|rwg (decide_eq_true (by rw[qi];refine(?_:_≤4000);exact leK hl rfl)) ?_
 have hk:(ps.map vq).map (·.1)=ps.map (·.1):=by refine rwg List.map_map ?_;rfl
 refine(?_:some (Ent.dict ((ps.map vq).foldl (fun d p=>dput p.1 p.2 d) []))=_)
 refine rwg (q9q (ps.map vq) [] (by rw[List.nil_append,hk];exact nd)) ?_;rfl
theorem q9r{s kd:Str}:∀{ps:List (Str×Str)},(ps.map (·.1)).Nodup->(s,kd)∈ps->dget s (ps.map vq)=some (.str kd):=by
 intro ps
 induction ps with
 | nil=>
  intro za0 za1
  exact absurd za1 j5
 | cons zz r ih=>
  obtain⟨a,b⟩:=zz
  intro nd h
  have nd':=List.nodup_cons.mp nd
  refine(?_:(if a=s then some (T.str b) else dget s (r.map vq))=_)
  rcases ql.mp h with q | q
  ·cases q;exact rwg (if_pos rfl) rfl
  ·refine rwg (if_neg fun e=>nd'.1 (List.mem_map.mpr (i12 _ q e.symm))) ?_
   exact ih nd'.2 q
theorem bj{x y:Str}{k l:Nat}(h1:x.length≤k)(h2:y.length≤l):(x++y).length≤k+l:=by refine rwg (ve _ _) ?_;exact Nat.add_le_add h1 h2
theorem qgc (k:LC) (kw:Wk k.w) (h0:0<k.w.length) (F:qen C k.w) (L:∀sg x,C.callF "_law_class" [x.s] sg (.val (.str (jq x))) sg) (sg:List SO) (n:Str) (hn:n∈allNames) (val:Str×Str→Sh) (hv:∀p,wu k.w (val p)) (all:List (Str×Str)) (nd:(all.map (·.1)).Nodup) (hall:∃l,all=zi k.w l) :
  ∀(ps:List (Str×Str))(f:List Str)(e:LE),(∀p∈ps,p∈all)->f.length+ps.length<3000->e.name=vS n->e.kinds=some (.dict (all.map vq))->e.faults=some (.list (f.map .str)) ->
  ∃a b c,LoopR (jx C "law" [13]) (ps.map fun p=>T.tup [.str p.1,(val p).s]) (e.env k) sg .next (({ e with slot:=a,shown:=b,words:=c,faults:=some (.list ((f++jr k.w n val ps).map .str)) }:LE).env k) sg:=by
 intro ps
 induction ps with
 | nil=>
  intro f e _ _ h1 h2 h3
  exact⟨e.slot,e.shown,e.words,by
   have:f++jr k.w n val []=f:=List.append_nil f
   refine rwg this<|rwl h3 ?_;exact .nil⟩
 | cons p ps ih=>
  intro f e hp hl h1 h2 h3
  replace hl:=qj▸hl
  obtain⟨en,eo,ev,es,et,ek,em,ed,eks,ef,esh,ew,ea⟩:=e
  dsimp only at h1 h2 h3
  subst h1 h2 h3
  obtain⟨l0,hl0⟩:=hall
  have hpa:=hp p (.head _)
  rw[hl0] at hpa
  have hk:=lw kw h0 hpa
  refine e02 (r6 kw h0 hpa) fun z1 z2=>?_
  have hpa':=hp p (.head _)
  have hd:zu (.dict (all.map vq)) (.str p.1)=some (.str p.2):=q9r nd hpa'
  have hfit:=F sg (val p) p.2 (hv p) hk
  induction q:isB k.w (val p) p.2 using qg with
  | true=>
   replace hfit:=q▸hfit
   have ee:jr k.w n val (p::ps)=jr k.w n val ps:=by
    refine(?_:(if isB k.w (val p) p.2=true then [] else [u0 p.1 n (jq (val p)) p.2])++jr k.w n val ps=_)
    refine rwg q ?_;rfl
   refine rwg ee ?_
   refine e31 (ih f ⟨vS n,eo,ev,vS p.1,et,ek,em,ed,some (.dict (all.map vq)),some (.list (f.map .str)),vT (val p).s,ew,ea⟩ (fun r hr=>hp r (.tail _ hr)) (by exact b6 hl) rfl rfl rfl) fun a b c l=>?_
   exact i31 a b c (.next (jg [.t (.str p.2),.call (.val (.bool true)) sg,.b true] (fun t=>q9 hd (q9 hfit (q9 (rfl:some true=some true) t))) (by kernel_rfl)) l)
  | false=>
   replace hfit:=q▸hfit
   have ee:jr k.w n val (p::ps)=[u0 p.1 n (jq (val p)) p.2]++jr k.w n val ps:=by
    refine(?_:(if isB k.w (val p) p.2=true then [] else [u0 p.1 n (jq (val p)) p.2])++jr k.w n val ps=_)
    refine rwg q ?_;rfl
   refine rwg ee<|rwl (List.append_assoc _ _ _) ?_
   have hcl:=q1l kw (hv p)
   have hnl:=g8 n hn
   have b1:lit1.length≤100:=by decide +kernel
   have b2:lit2.length≤100:=by decide +kernel
   have b3:lit3.length≤100:=by decide +kernel
   have b4:lit4.length≤100:=by decide +kernel
   have b5:lit5.length≤100:=by decide +kernel
   have m1:=add_str (x:=lit1) (y:=p.1) (fi b1 z1 rfl)
   have c1:=bj b1 z1
   have m2:=add_str (x:=lit1++p.1) (y:=lit2) (fi c1 b2 rfl)
   have c2:=bj c1 b2
   have m3:=add_str (x:=lit1++p.1++lit2) (y:=n) (fi c2 hnl rfl)
   have c3:=bj c2 hnl
   have m4:=add_str (x:=lit1++p.1++lit2++n) (y:=lit3) (fi c3 b3 rfl)
   have c4:=bj c3 b3
   have m5:=add_str (x:=lit1++p.1++lit2++n++lit3) (y:=jq (val p)) (fi c4 hcl rfl)
   have c5:=bj c4 hcl
   have m6:=add_str (x:=lit1++p.1++lit2++n++lit3++jq (val p)) (y:=lit4) (fi c5 b4 rfl)
   have c6:=bj c5 b4
   have m7:=add_str (x:=lit1++p.1++lit2++n++lit3++jq (val p)++lit4) (y:=p.2) (fi c6 z2 rfl)
   have c7:=bj c6 z2
   have m8:=add_str (x:=lit1++p.1++lit2++n++lit3++jq (val p)++lit4++p.2) (y:=lit5) (fi c7 b5 rfl)
   have hfl:(f.map T.str).length<3000:=by refine rwg (qi _) ?_;exact Nat.lt_of_add_right_lt hl
   refine e31 (ih (f++[u0 p.1 n (jq (val p)) p.2]) ⟨vS n,eo,ev,vS p.1,et,ek,em,ed,some (.dict (all.map vq)),some (.list ((f++[u0 p.1 n (jq (val p)) p.2]).map .str)),vT (val p).s,vS (lit1++p.1++lit2++n++lit3),ea⟩ (fun r hr=>hp r (.tail _ hr)) (by refine rwg qk ?_;refine(?_:f.length+1+_<_);exact a2 hl) rfl rfl rfl) fun a b c l=>?_
   refine i31 a b c (.next (env1:=(LE.mk (vS n) eo ev (vS p.1) et ek em ed (some (.dict (all.map vq))) (some (.list ((f++[u0 p.1 n (jq (val p)) p.2]).map .str))) (vT (val p).s) (vS (lit1++p.1++lit2++n++lit3)) ea).env k) (sg1:=sg) ?_ l)
   refine rwl (y0 _ _) ?_
   exact jg [.t (.str p.2),.call (.val (.bool false)) sg,.b false,.e (.val (.str (lit1++p.1))),.e (.val (.str (lit1++p.1++lit2))),.e (.val (.str (lit1++p.1++lit2++n))),.e (.val (.str (lit1++p.1++lit2++n++lit3))),.call (.val (.str (jq (val p)))) sg,.e (.val (.str (lit1++p.1++lit2++n++lit3++jq (val p)))),.e (.val (.str (lit1++p.1++lit2++n++lit3++jq (val p)++lit4))),.t (.str p.2),.e (.val (.str (lit1++p.1++lit2++n++lit3++jq (val p)++lit4++p.2))),.e (.val (.str (u0 p.1 n (jq (val p)) p.2)))]
    (fun t=>q9 hd (q9 hfit (q9 ff (q9 m1 (q9 m2 (q9 m3 (q9 m4 (q9 (L sg (val p)) (q9 m5 (q9 m6 (q9 hd (q9 m7 (q9 m8 (q9 (zk hfl) t)))))))))))))) (by kernel_rfl)
theorem qjd(f:List Str):uu .Eq (.list (f.map .str)) (.list [])=some (decide (f=[])):=by
 induction f using qf with
 | nil=>rfl
 | cons a r=>rfl
theorem qeb (k:LC) (kw:Wk k.w) (Sy:∀sg,∀s:Int,0≤s→s<5→s≠0→C.callF "_law_says" [.int s] sg (.val (.list ((xn s).map .str))) sg) (S0:∀sg,C.callF "_law_says" [.int 0] sg (.val .none) sg) (sg:List SO):∀(ms f ak:List Str) (e:LE),(∀m∈ms,m∈k.w.map (·.1))→ak.length+ms.length<3000→e.faults=some (.list (f.map .str))→e.asked=some (.list (ak.map .str)) →
  ∃a,LoopR (jx C "law" [15]) (ms.map .str) (e.env k) sg .next (({ e with one:=a,faults:=some (.list ((wt k.w ms f).1.map .str)),asked:=some (.list ((ak++(wt k.w ms f).2).map .str)) }:LE).env k) sg:=by
 intro ms
 induction ms with
 | nil=>
  intro f ak e _ _ h1 h2
  exact⟨e.one,by
   have:ak++(wt k.w [] f).2=ak:=List.append_nil ak
   refine rwg this<|rwl h2 ?_
   refine(?_:LoopR _ _ _ _ _ (({ e with faults:=some (.list (f.map .str)),asked:=e.asked }:LE).env k) _)
   refine rwl h1 ?_;exact .nil⟩
 | cons m ms ih=>
  intro f ak e hm hl h1 h2
  replace hl:=qj▸hl
  obtain⟨en,eo,ev,es,et,ek,em,ed,eks,ef,esh,ew,ea⟩:=e
  dsimp only at h1 h2
  subst h1 h2
  refine e11 (xj (hm m (.head _))) fun c hc=>?_
  have hw:=bu hc
  have h0:=qjd f
  obtain⟨pre,hp,_⟩:=kw.ok.cls (zw hc)
  have hs:zp k.w m=c.says:=by unfold zp;exact rwg hc rfl
  have ea':wt k.w (m::ms) f=if f=[]∧zp k.w m≠0 then ((wt k.w ms (xn (zp k.w m))).1,m::(wt k.w ms (xn (zp k.w m))).2) else wt k.w ms f:=rfl
  have hi:some (T.int c.says)=some (T.int c.says):=rfl
  by_cases q:f=[]
  ·replace h0:=(decide_eq_true q)▸h0
   by_cases z:c.says=0
   ·refine rwg ea'<|rwg (if_neg fun h=>h.2 (hs.trans z)) ?_
    have hs0:=S0 sg
    replace hs0:=(Eq.symm z)▸hs0
    refine e11 (ih f ak ⟨en,vS m,ev,es,et,ek,em,ed,eks,some (.list (f.map .str)),esh,ew,some (.list (ak.map .str))⟩ (fun x hx=>hm x (.tail _ hx)) (by exact b6 hl) rfl rfl) fun a l=>?_
    exact⟨a,.next (jg [.b true,.t c.t,.t (.int c.says),.call (.val .none) sg,.b false] (fun t=>q9 h0 (q9 hw (q9 hi (q9 hs0 (q9 ff t))))) (by kernel_rfl)) l⟩
   ·refine rwg ea'<|rwg (if_pos ⟨q,fun h=>z (hs.symm.trans h)⟩)<|rwg hs ?_
    have hy:=Sy sg c.says hp.says.1 hp.says.2 z
    have hfl:(ak.map T.str).length<3000:=by refine rwg (qi _) ?_;exact Nat.lt_of_add_right_lt hl
    have hsl:=q7b (xs:=(xn c.says).map .str) (by refine rwg (qi _) ?_;exact qr (nq _) (by decide))
    refine e11 (ih (xn c.says) (ak++[m]) ⟨en,vS m,ev,es,et,ek,em,ed,eks,some (.list ((xn c.says).map .str)),esh,ew,some (.list ((ak++[m]).map .str))⟩ (fun x hx=>hm x (.tail _ hx)) (by refine rwg qk ?_;refine(?_:ak.length+1+_<_);exact a2 hl) rfl rfl) fun a l=>?_
    rw[List.append_assoc] at l
    refine⟨a,.next (env1:=(LE.mk en (vS m) ev es et ek em ed eks (some (.list ((xn c.says).map .str))) esh ew (some (.list ((ak++[m]).map .str)))).env k) (sg1:=sg) ?_ l⟩
    refine rwl (y0 _ _) ?_
    exact jg [.b true,.t c.t,.t (.int c.says),.call (.val (.list ((xn c.says).map .str))) sg,.b true,.t c.t,.t (.int c.says),.call (.val (.list ((xn c.says).map .str))) sg,.e (.list ((xn c.says).map .str))]
     (fun t=>q9 h0 (q9 hw (q9 hi (q9 hy (q9 (rfl:some true=some true) (q9 (zk hfl) (q9 hw (q9 hi (q9 hy (q9 hsl t)))))))))) (by kernel_rfl)
  ·replace h0:=(decide_eq_false q)▸h0
   refine rwg ea'<|rwg (if_neg fun h=>q h.1) ?_
   refine e11 (ih f ak ⟨en,vS m,ev,es,et,ek,em,ed,eks,some (.list (f.map .str)),esh,ew,some (.list (ak.map .str))⟩ (fun x hx=>hm x (.tail _ hx)) (by exact b6 hl) rfl rfl) fun a l=>?_
   exact⟨a,.next (jg [.b false] (fun t=>q9 h0 t) (by kernel_rfl)) l⟩
end
noncomputable def ups:Nat->Calls->Calls
 | 0,C=>C
 | n+1,C=>(ups n C).step
theorem q29{w:Wd}(f:Nat)(n:Str)(mk:List Str)(p:Str×Str):wu w (xd w f n mk p):=by
 unfold xd
 induction zl w p.1 (chain w n) using qe with
 | some i=>exact trivial
 | none=>
  refine(?_:wu w (xz w f p.2 (mk++[n])))
  unfold xz
  by_cases h:p.2∈w.map (·.1)
  ·rw[if_pos h]
   by_cases h':p.2∈mk++[n]
   ·rw[if_pos h'];exact trivial
   ·rw[if_neg h']
    induction f using Nat.casesOn with
    | zero=>exact trivial
    | succ f=>exact h
  ·rw[if_neg h];exact trivial
theorem q1y(n:Nat)(C:Calls):ups n C.step=(ups n C).step:=by
 induction n with
 | zero=>rfl
 | succ n ih=>refine(?_:(ups n C.step).step=_);rw[ih];rfl
theorem bAt{w:Wd}(k:Wk w)(n:Nat)(C:Calls):ml (ups (6+n) C) w:=by
 induction n generalizing C with
 | zero=>exact q1p C k
 | succ n ih=>have:=ih C.step;rw[q1y] at this;exact this
theorem qgy{w:Wd}(k:Wk w)(n:Nat)(C:Calls):n6 (ups (7+n) C) w:=by
 induction n generalizing C with
 | zero=>exact qe9 C k
 | succ n ih=>have:=ih C.step;rw[q1y] at this;exact this
theorem dAt{w:Wd}(k:Wk w)(h0:0<w.length)(C:Calls):∀f:Nat,wr (ups (7+3*f) C) w f∧q3v (ups (9+3*f) C) w (f+1):=by
 intro f
 induction f with
 | zero=>
  have d:wr (ups 7 C) w 0:=q1g k (bAt k 0 C)
  have B:=bAt k 1 C
  have p:rq (ups 8 C) w 0:=ia k B.st B.su B.gets d
  exact⟨d,q2l k h0 (bAt k 2 C) p⟩
 | succ f ih=>
  have ih:=ih
  have B0:=bAt k (3+3*f) C
  have B1:=bAt k (4+3*f) C
  have B2:=bAt k (5+3*f) C
  rw[show 6+(3+3*f)=9+3*f by exact(Nat.add_assoc _ _ _).symm] at B0
  rw[show 6+(4+3*f)=10+3*f by exact(Nat.add_assoc _ _ _).symm] at B1
  rw[show 6+(5+3*f)=11+3*f by exact(Nat.add_assoc _ _ _).symm] at B2
  have d:wr (ups (9+3*f+1) C) w (f+1):=q1h k B0 ih.2
  rw[show 9+3*f+1=10+3*f by exact Nat.add_right_comm _ _ _] at d
  have p:rq (ups (10+3*f+1) C) w (f+1):=ia k B1.st B1.su B1.gets d
  rw[show 10+3*f+1=11+3*f by exact Nat.add_right_comm _ _ _] at p
  have m:q3v (ups (11+3*f+1) C) w (f+1+1):=q2l k h0 B2 p
  rw[show 7+3*(f+1)=10+3*f by exact d2 rfl,show 9+3*(f+1)=11+3*f+1 by exact d3 rfl]
  exact⟨d,m⟩
theorem sAt{w:Wd}(k:Wk w)(h0:0<w.length)(C:Calls):∀f:Nat,bl (ups (7+2*f) C) w f∧dy (ups (8+2*f) C) w (f+1):=by
 intro f
 induction f with
 | zero=>
  exact⟨l7 (ups 6 C) k,sz k h0 (bAt k 1 C) (l7 (ups 6 C) k)⟩
 | succ f ih=>
  have ih:=ih
  have B1:=bAt k (3+2*f) C
  rw[show 6+(3+2*f)=9+2*f by exact(Nat.add_assoc _ _ _).symm] at B1
  have d:bl (ups (8+2*f+1) C) w (f+1):=q28 k ih.2
  rw[show 8+2*f+1=9+2*f by exact Nat.add_right_comm _ _ _] at d
  have o:dy (ups (9+2*f+1) C) w (f+1+1):=sz k h0 B1 d
  rw[show 7+2*(f+1)=9+2*f by exact d2 rfl,show 8+2*(f+1)=9+2*f+1 by exact d3 rfl]
  exact⟨d,o⟩
theorem shAt(C:Calls):∀d:Nat,mj (ups (1+d) C) d:=by
 intro d
 induction d with
 | zero=>
  exact q4b C
 | succ d ih=>
  have:=q4d (ih)
  exact this
theorem ql4(C:Calls):cm (ups 8 C):=fun w1 n c k1 h1 h2 xs hd=>by
 have P:dw (ups 4 C) w1:=gy C k1
 have P':dw (ups 5 C) w1:=gy C.step k1
 have S:yn (ups 5 C) w1:=ui k1 P
 have S':yn (ups 6 C) w1:=ui k1 P'
 have so:dq (ups 6 C) w1:=cy k1 S (fun sg=>ri _ sg)
 have D:qh4 (ups 7 C) w1:=qgm S'
 exact q9s k1 (qc2 (ups 6 C) w1) D n c h1 h2 xs hd (qdt k1 so n c h1 h2 xs hd)
structure Law(C:Calls)(w:Wd):Prop where
 b2:n6 C w
 def4:wr C w 4
 make4:q3v C w 4
 start4:bl C w 4
 obj4:dy C w 4
 shown4:mj C 4
 defs:cm C
 tell:q1s C
 cls:q1v C
 lclass:∀sg x,C.callF "_law_class" [x.s] sg (.val (.str (jq x))) sg
 fits:qen C w
 valid:q3t C w
 text:∀sg n,n∈allNames→∀fs,FOk fs→C.callF "faults_text" [.str n,.list (fs.map .str)] sg (.val (.str (ru n fs))) sg
theorem qix{w:Wd}(k:Wk w)(h0:0<w.length)(C:Calls):Law (ups 19 C) w where
 b2:=qgy k 12 C
 def4:=(dAt k h0 C 4).1
 make4:=(dAt k h0 C.step 3).2
 start4:=(sAt k h0 (ups 4 C) 4).1
 obj4:=(sAt k h0 (ups 5 C) 3).2
 shown4:=shAt (ups 14 C) 4
 defs:=ql4 (ups 11 C)
 tell:=fun xs es hd n hn s hs=>q82 (ups 17 C) xs es hd n hn s hs
 cls:=fun n c sg=>qds (ups 18 C) n c sg
 lclass:=fun sg x=>im (ups 18 C) sg x
 fits:=qgb k (bAt k 12 C) (fun sg x=>im (ups 17 C) sg x)
 valid:=q1w k (qgy k 11 C) (qk8 k h0 (qgy k 10 C))
 text:=fun sg n hn fs hf=>qer (qgy k 11 C) sg hn fs hf
noncomputable def q5x (h:Str) (a:Option Ent):Loc:=[("head",vS h),(".0",none),("fault",a)]
noncomputable def qjg (h:Str) (fs:List Str) (a:Option Ent):Loc:=[("faults_due",vT (.list (fs.map .str))),("head",vS h),(".0",none),("at",a)]
theorem qk4 (C:Calls) (sg:List SO) {h:Str} (hh:h.length≤100):∀(fs:List Str) (a:Option Ent),(∀f∈fs,f.length≤600)→∃a',CompR (lh C 28 "law" [20]) (fs.map .str) (q5x h a) sg ((fs.map (h++·)).map .str) (q5x h a') sg:=by
 intro fs
 induction fs with
 | nil=>
  intro a _
  exact⟨a,.nil⟩
 | cons f r ih=>
  intro a hf
  obtain⟨a',l⟩:=ih (vS f) fun g hg=>hf g (.tail _ hg)
  have b:=hf f (.head _)
  exact⟨a',.cons (xs:=[.str (h++f)]) (jg [.e (.val (.str (h++f)))] (fun t=>q9 (add_str (x:=h) (y:=f) (by exact fi hh b rfl)) t) (by kernel_rfl)) l⟩
theorem qk3(C:Calls)(sg:List SO){h:Str}(hh:h.length≤100)(all:List Str)(hall:all.length≤100):∀(fs:List Str)(i:Nat)(a:Option Ent),(∀f∈fs,f.length≤600)->all.drop i=fs->i≤all.length ->
  ∃a',CompR (lh C 27 "law" [21,0]) (jw i fs.length) (qjg h all a) sg ((k6 h i fs).map .str) (qjg h all a') sg:=by
 intro fs
 induction fs with
 | nil=>
  intro i a _ _ _
  exact⟨a,.nil⟩
 | cons f r ih=>
  intro i a hf hd hi
  have hlt:i<all.length:=by
   induction z:decide (i<all.length) using qg with
   | true=>exact of_decide_eq_true z
   | false=>rw[List.drop_eq_nil_of_le (by have:=of_decide_eq_false z;exact Nat.le_of_not_lt this)] at hd;exact nomatch hd
  have hd':=List.drop_eq_getElem_cons hlt
  rw[hd] at hd'
  refine e02 (List.cons.inj hd') fun e1 e2=>?_
  obtain⟨a',l⟩:=ih (i+1) (vI i) (fun g hg=>hf g (.tail _ hg)) e2.symm (by exact Nat.succ_le_of_lt hlt)
  have b:=hf f (.head _)
  have c:=q0o i (by exact qq hlt hall)
  have d:(": ":Str).length=2:=by decide +kernel
  have hit:zu (.list (all.map .str)) (.int (i:Int))=some (.str f):=by refine rwg e1 ?_;exact py all i hlt (by exact b2 hlt hall rfl)
  have er:jw i (f::r).length = .int (i:Int)::jw (i+1) r.length:=by unfold jw;refine rwg qj<|rwg List.range'_succ ?_;rfl
  have hs:ze "str" [.int ((i:Int)+1)]=some (.val (.str (fg i))):=by
   refine rwg (qat _) ?_;unfold s9;rw[decide_eq_true (by exact Int.natCast_nonneg (i+1):0≤(i:Int)+1),decide_eq_true (by exact Int.ofNat_lt.mpr (ltK (a:=i+1) (qr hlt hall) rfl):(i:Int)+1<100000)];rfl
  refine rwg er ?_
  exact⟨a',.cons (xs:=[.str (h++fg i++(": ":Str)++f)]) (jg [.e (.val (.int ((i:Int)+1))),.e (.val (.str (fg i))),.e (.val (.str (h++fg i))),.e (.val (.str (h++fg i++(": ":Str)))),.t (.str f),.e (.val (.str (h++fg i++(": ":Str)++f)))]
   (fun t=>q9 (rfl:some (Ent.val (.int ((i:Int)+1)))=some (Ent.val (.int ((i:Int)+1)))) (q9 hs (q9 (add_str (x:=h) (y:=fg i) (by exact fi hh c rfl)) (q9 (add_str (x:=h++fg i) (y:=": ") (by refine rwg (ve _ _) ?_;exact fi (fi (m:=103) hh c rfl) (Nat.le_of_eq d) rfl)) (q9 hit (q9 (add_str (x:=h++fg i++(": ":Str)) (y:=f) (by refine rwg (ve _ _)<|rwg (ve _ _) ?_;exact fi (fi (m:=105) (fi (m:=103) hh c rfl) (Nat.le_of_eq d) rfl) b rfl)) t)))))) (by kernel_rfl)) l⟩
theorem q5h{w:Wd}(k:Wk w)(h0:0<w.length){n:Str}(hn:n∈allNames)(val:Str×Str->Sh)(hv:∀p,wu w (val p)):∀(ps:List (Str×Str)),(∀p∈ps,p.1.length≤100∧p.2.length≤100)->∀f∈jr w n val ps,f.length≤600:=by
 intro ps
 induction ps with
 | nil=>
  intro _ f h
  exact nomatch h
 | cons p r ih=>
  intro hp f h
  rcases qz.mp (by exact h:f∈(if isB w (val p) p.2=true then [] else [u0 p.1 n (jq (val p)) p.2])++jr w n val r) with h | h
  ·split at h
   ·exact nomatch h
   ·refine rwg (List.mem_singleton.mp h) ?_
    exact q78 (hp p (.head _)).1 (g8 n hn) (q1l k (hv p)) (hp p (.head _)).2
  ·exact ih (fun q hq=>hp q (.tail _ hq)) f h
theorem qb9(s:Int):FOk (xn s):=by
 refine⟨qr (nq s) (by decide),?_⟩
 unfold xn
 split
 ·exact fun f h=>nomatch h
 ·split
  ·decide +kernel
  ·split
   ·decide +kernel
   ·decide +kernel
theorem qgz(w:Wd):∀(ms f:List Str),FOk f->FOk (wt w ms f).1∧(wt w ms f).2.length≤ms.length:=by
 intro ms
 induction ms with
 | nil=>
  intro f h
  exact⟨h,Nat.le_refl 0⟩
 | cons m r ih=>
  intro f h
  refine(?_:FOk (if f=[]∧zp w m≠0 then ((wt w r (xn (zp w m))).1,m::(wt w r (xn (zp w m))).2) else wt w r f).1∧(if f=[]∧zp w m≠0 then ((wt w r (xn (zp w m))).1,m::(wt w r (xn (zp w m))).2) else wt w r f).2.length≤r.length+1)
  split
  ·have:=ih _ (qb9 (zp w m))
   exact⟨this.1,Nat.succ_le_succ this.2⟩
  ·have:=ih f h
   exact⟨this.1,Nat.le_succ_of_le this.2⟩
theorem qan:∀(l:List Str)(n:Nat),teq.go (n+1) (l.map .str) (l.map .str)=some true:=by
 intro l
 induction l with
 | nil=>
  intro _
  exact rfl
 | cons a r ih=>
  intro n
  refine(?_:opt (teq (n+1) (.str a) (.str a)) (fun b=>grd b (teq.go (n+1) (r.map .str) (r.map .str)))=some true)
  refine rwg (mn _ _) ?_
  exact ih n
theorem q77(l:List Str):uu .NotEq (.list (l.map .str)) (.list (l.map .str))=some false:=by
 refine(?_:noT (cond (decide ((l.map T.str).length=(l.map T.str).length)) (teq.go 39 (l.map .str) (l.map .str)) (some false))=_)
 refine rwg (decide_eq_true rfl) ?_
 refine(?_:noT (teq.go 39 (l.map .str) (l.map .str))=_)
 refine rwg (qan _ _) ?_;rfl
theorem qeu (C:Calls) (sg:List SO):C.step.step.callF "symbol" [.str ".Object"] sg (.val (y6 ".Object")) sg:=j8 [.call (qar ".Object") sg] (fun t=>q9 (lm C sg ".Object") t) (by kernel_rfl)
noncomputable def q1o:T:=.inst "Call" [("kind",.str "language"),("items",.list [y6 "validObject",y6 ".Object"]),("tags",.list [.none,.none]),("attrs",.none),("code",.none)]
noncomputable def qe4:Ent:=.inst "Call" [("kind",.val (.str "language")),("items",.val (.list [y6 "validObject",y6 ".Object"])),("tags",.val (.list [.none,.none])),("attrs",.val .none),("code",.val .none)]
theorem qa5 (C:Calls) (sg:List SO):C.step.makeC "Call" [.list [y6 "validObject",y6 ".Object"],.list [.none,.none]] sg qe4 sg:=wc [] (fun t=>t) (by kernel_rfl)
theorem q6e (C:Calls) (sg:List SO):C.step.step.callF "call_of" [.str "validObject",.list [y6 ".Object"]] sg (.val q1o) sg:=j8 [.call (qar "validObject") sg,.call qe4 sg] (fun t=>q9 (lm C sg "validObject") (q9 (qa5 C sg) t)) (by kernel_rfl)
structure qi1(C:Calls):Prop where
 sh:∀script:List Int,script.length≤63→∃xs,Ints xs∧xs.length≤140∧C.callF "_law_shells" [.list (script.map .int)] sg0 (.list xs) sg0
 wd:∀xs,Ints xs→xs.length≤LIM→∃w xs',WOk [] w∧0<w.length∧w.length≤4∧w.map (·.1)=allNames.take w.length∧Ints xs'∧C.callF "_law_world" [.sh 2] (sgW xs) (.val (.tup [.list (w.map fun p=>.str p.1),.dict (vd w)])) (sgW xs')
 law:∀w,Wk w->0<w.length->Law C w
 ev:∀xs',C.makeC "Evaluator" [.int 100] (sgW xs') (.val (.sh 3)) (sgW xs'++[.inst "Evaluator" (ut .none)])
 st:∀xs',C.callF "s4_state" [.sh 3] (sgW xs'++[.inst "Evaluator" (ut .none)]) (.val (.sh 4)) (sgW xs'++[.inst "Evaluator" (ut (.sh 4)),st4,ctS []])
 sym:∀sg,C.callF "symbol" [.str ".Object"] sg (.val (y6 ".Object")) sg
 cof:∀sg,C.callF "call_of" [.str "validObject",.list [y6 ".Object"]] sg (.val q1o) sg
theorem qbw(C:Calls):qi1 (ups 19 C) where
 sh:=q8a (ups 18 C)
 wd:=qae (qb3 (ups 17 C))
 law:=fun w k h0=>qix k h0 C
 ev:=qgg (ups 16 C)
 st:=q85 (ups 16 C)
 sym:=qeu (ups 17 C)
 cof:=q6e (ups 17 C)
theorem qiq{F:List Str}(a:(F.length:Int)>0)(b:¬(F.length:Int)>1):∃f,F=[f]:=List.length_eq_one_iff.mp (by exact Nat.le_antisymm (Nat.le_of_not_lt fun h=>b (Int.ofNat_lt.mpr h)) (Int.ofNat_lt.mp a))
theorem q7z{n:Str}{F:List Str}(a:(F.length:Int)>1):ru n F=yy (k6 (xr n) 0 F):=by
 induction F using qf with
 | nil=>rfl
 | cons x r=>induction r using qf with
  | nil=>exact absurd a (by refine(?_:¬(1:Int)>1);decide)
  | cons y r=>rfl
theorem q7d{n:Nat}(h:0<n):((-1:Int)+(n:Int)).toNat=n-1∧0≤(-1:Int)+(n:Int):=by lia
theorem qfu{C:Calls}(V:qi1 C)(script:List Int)(h:script.length≤63):∃as,q4j (vz C KE) script as fun r=>r = .val (.bool true):=by
 refine e13 (V.sh script h) fun xs i1 i2 r1=>?_
 refine e26 (V.wd xs i1 (qr i2 (by decide))) fun w xs' ok w0 w4 wk i3 r2=>?_
 have k:Wk w:=⟨ok,wk,w4⟩
 have L:=V.law w k w0
 have r3:=V.ev xs'
 have r4:=V.st xs'
 have s2:=V.sym
 have s3:=V.cof
 let q:LC:=⟨.list (script.map .int),w.map fun p=>.str p.1,w⟩
 -- the last name
 obtain⟨p,hp⟩:∃p,w.getLast? = some p:=by
  induction e:w.getLast? using qe with
  | none=>rw[List.getLast?_eq_none_iff] at e;replace w0:=e▸w0;exact nomatch w0
  | some p=>exact⟨p,rfl⟩
 have hpm:p∈w:=List.mem_of_getLast? hp
 have hn:p.1∈w.map (·.1):=List.mem_map.mpr ⟨p,hpm,rfl⟩
 have hna:=k.all _ hn
 have hlast:zu (.list (w.map fun p=>T.str p.1)) (.int (-1))=some (.str p.1):=by
  refine(?_:idx _ (-1)=_)
  unfold idx
  have hl:(w.map fun p=>T.str p.1).length=w.length:=qi _
  rw[decide_eq_false (by decide:¬(0:Int)≤-1)]
  refine(?_:grd (decide ((-1000000:Int)≤-1)&&decide (0≤(-1:Int)+((w.map fun p=>T.str p.1).length:Int))) (w.map fun p=>T.str p.1)[((-1:Int)+((w.map fun p=>T.str p.1).length:Int)).toNat]? = _)
  refine rwg hl<|rwg (decide_eq_true (by decide:(-1000000:Int)≤-1))<|rwg (decide_eq_true (q7d w0).2) ?_
  refine(?_:(w.map fun p=>T.str p.1)[((-1:Int)+(w.length:Int)).toNat]? = _)
  refine rwg ((q7d w0).1)<|rwg List.getElem?_map<|rwl List.getLast?_eq_getElem?<|rwg hp ?_;rfl
 generalize hpn:p.1=n at *
 -- the values
 let val:Str×Str->Sh:=xd w 3 n []
 have hv:∀p,wu w (val p):=q29 3 n []
 let fs:List (Str×Sh):=(jm w n).map fun p=>(p.1,val p)
 have hx:ux w 4 n [] = .obj n fs:=rfl
 have hm:∀x∈([]:List Str)++[n],x∈w.map (·.1):=fun x hx=>by refine rwg (List.mem_singleton.mp hx) ?_;exact hn
 have hf4:w.length≤4+([]:List Str).length:=w4
 let sg:List SO:=SG xs' (j7 w) []
 have m1:C.callF "make_prototype" [.sh 3,.str n,.list []] sg (.val (Sh.obj n fs).o) sg:=L.make4 xs' [] n [] hn hm (by simp) hf4
 have m2:C.callF "_law_object" [.dict (vd w),.str n,.list []] sg (Sh.obj n fs).e sg:=L.obj4 sg n [] hn hm (by simp) hf4
 have ox:ShOk 4 (.obj n fs):=q2h k 4 n [] hn
 have m3:C.callF "_law_shown" [(Sh.obj n fs).o] sg (Sh.obj n fs).e sg:=L.shown4 sg _ ox
 have m4:uu .NotEq (Sh.obj n fs).s (Sh.obj n fs).s=some false:=q70 ox (by decide)
 have nd:=k.slotsNd (k.chainC hn).nd
 have sl12:=ka k hn
 have m5:C.callF "_law_slots" [.dict (vd w),.str n] sg (.list ((jm w n).map jz)) sg:=L.b2.b.ls sg n hn
 have m6:=qgn (ps:=jm w n) nd (leK sl12 rfl)
 have hsh:shS fs=(jm w n).map fun p=>T.tup [.str p.1,(val p).s]:=by
  have key:∀l:List (Str×Str),shS (l.map fun p=>(p.1,val p))=l.map fun p=>T.tup [.str p.1,(val p).s]:=fun l=>by
   induction l with
   | nil=>rfl
   | cons a r ih=>exact congrArg (T.tup [.str a.1,(val a).s]::·) ih
  exact key _
 have hsl:(shS fs).length≤12:=by refine rwg hsh<|rwg (qi _) ?_;exact sl12
 have m7:wa (.str n::shS fs) (some (.int 1)) none none=some (shS fs):=l8 (leK (Nat.succ_le_succ hsl) rfl)
 -- the loops
 refine e51 (qdd L.b2.b.vec L.defs L.tell L.cls q k xs' [] w [] LE0 rfl) fun a1 b1 c1 d1 f1 l5=>?_
 have hks:aq .Add (.list (w.map fun p=>T.str p.1)) (.list [.str "numeric",.str "character",.str "list",.str "matrix"])=some (.list ((w.map (·.1)++jv).map .str)):=by
  refine(?_:opt (q3s _ _) _=_)
  unfold q3s
  refine rwg (decide_eq_true (by rw[qi];exact leC (c:=4) w4 rfl))<|rwg qu<|rwg List.map_map ?_;rfl
 obtain⟨a6,l6⟩:=qdk q k L.def4 L.start4 L.shown4 xs' [] (w.map (·.1)++jv) { LE0 with name:=a1,one:=b1,values:=c1,slot:=d1,teller:=f1 } fun x hx=>by
  rcases qz.mp hx with z | z
  ·exact .inr z
  ·exact .inl z
 obtain⟨a13,b13,c13,l13⟩:=qgc q k w0 L.fits L.lclass sg n hna val hv (jm w n) nd ⟨_,rfl⟩ (jm w n) [] { LE0 with name:=vS n,one:=b1,values:=c1,slot:=d1,teller:=f1,kind:=a6,made:=vT (Sh.obj n fs).o,due:=some (.list (.str n::shS fs)),kinds:=some (.dict ((jm w n).map vq)),faults:=some (.list []) }
  (fun z_ h=>h) (ltD (c:=0) sl12 rfl) rfl rfl rfl
 replace l13:=(Eq.symm hsh)▸l13
 have m8:C.callF "_law_chain" [.dict (vd w),.str n] sg (.list ((chain w n).map .str)) sg:=L.b2.b.ch sg n hn
 have chl:=(k.chainC hn).len
 rw[qi] at chl
 have chl4:=qr chl w4
 have m9:wa ((chain w n).map .str) none none (some (.int (-1)))=some ((chain w n).reverse.map .str):=by
  exact rwg (i6 (by rw[qi];exact leK chl4 rfl))<|rwg List.map_reverse rfl
 obtain⟨a15,l15⟩:=qeb q k L.b2.says L.b2.says0 sg (chain w n).reverse (jr w n val (jm w n)) [] { LE0 with name:=vS n,one:=b1,values:=c1,slot:=a13,teller:=f1,kind:=a6,made:=vT (Sh.obj n fs).o,due:=some (.list (.str n::shS fs)),kinds:=some (.dict ((jm w n).map vq)),faults:=some (.list ((jr w n val (jm w n)).map .str)),shown:=b13,words:=c13,asked:=some (.list []) }
  (fun m hm=>(k.chainC hn).sub m (List.mem_reverse.mp hm)) (by refine rwg List.length_reverse ?_;exact ltD (c:=0) chl4 rfl) rfl rfl
 -- what is told
 have fok0:FOk (jr w n val (jm w n)):=⟨qr (on w n val _) (leK sl12 rfl),q5h k w0 hna val hv _ fun p hp=>r6 k w0 hp⟩
 have fok:=qgz w (chain w n).reverse _ fok0
 have v1:C.callF "validity_faults" [.sh 3,(Sh.obj n fs).o] sg (.list ((told w n val).1.map .str)) (SG xs' (j7 w) ((told w n val).2.map .str)):=L.valid xs' [] n val hn hv (by decide)
 have v2:C.callF "validity_faults" [.sh 3,(Sh.obj n fs).o] (SG xs' (j7 w) ((told w n val).2.map .str)) (.list ((told w n val).1.map .str)) (SG xs' (j7 w) ((told w n val).2.map .str++(told w n val).2.map .str)):=
  L.valid xs' ((told w n val).2.map .str) n val hn hv (by refine rwg (qi _) ?_;have:=fok.2;rw[List.length_reverse] at this;exact leK (qr this chl4) rfl)
 have l15':LoopR (jx C "law" [15]) ((chain w n).reverse.map .str) (({ LE0 with name:=vS n,one:=b1,values:=c1,slot:=a13,teller:=f1,kind:=a6,made:=vT (Sh.obj n fs).o,due:=some (.list (.str n::shS fs)),kinds:=some (.dict ((jm w n).map vq)),faults:=some (.list ((jr w n val (jm w n)).map .str)),shown:=b13,words:=c13,asked:=some (.list []) }:LE).env q) sg .next
   (({ LE0 with name:=vS n,one:=a15,values:=c1,slot:=a13,teller:=f1,kind:=a6,made:=vT (Sh.obj n fs).o,due:=some (.list (.str n::shS fs)),kinds:=some (.dict ((jm w n).map vq)),faults:=some (.list ((told w n val).1.map .str)),shown:=b13,words:=c13,asked:=some (.list ((told w n val).2.map .str)) }:LE).env q) sg:=l15
 clear l15
 have fok':FOk (told w n val).1:=fok.1
 generalize (told w n val).1=F at *
 generalize (told w n val).2=H at *
 let sgH:List SO:=SG xs' (j7 w) (H.map .str)
 let sg2:List SO:=SG xs' (j7 w) (H.map .str++H.map .str)
 have n1:=q77 F
 have n2:=q77 H
 have flen:ze "len" [.list (F.map .str)]=some (.val (.int (F.length:Int))):=by exact rwg (fh (by rw[qi];exact leK fok'.len rfl))<|rwg (qi _) rfl
 have hh:=q2z n hna
 have nl:=g8 n hna
 have lh1:("invalid class “":Str).length≤100:=by decide +kernel
 have lh2:("” object: ":Str).length≤100:=by decide +kernel
 have t1:=add_str (x:="invalid class “") (y:=n) (fi lh1 nl rfl)
 have t2:=add_str (x:=("invalid class “":Str)++n) (y:="” object: ") (by refine rwg (ve _ _) ?_;exact qko lh1 nl lh2 rfl)
 have txt:=L.text sg2 n hna F fok'
 let pre:List Ans:=[.call (.list xs) sg0,.call (.val (.tup [.list (w.map fun p=>.str p.1),.dict (vd w)])) (sgW xs'),.call (.val (.sh 3)) (sgW xs'++[.inst "Evaluator" (ut .none)]),.call (.val (.sh 4)) (sgW xs'++[.inst "Evaluator" (ut (.sh 4)),st4,ctS []]),
  .loop .next (({ LE0 with name:=a1,one:=b1,values:=c1,slot:=d1,teller:=f1 }:LE).env q) sg,.e (.list ((w.map (·.1)++jv).map .str)),.loop .next (({ LE0 with name:=a1,one:=b1,values:=c1,slot:=d1,teller:=f1,kind:=a6 }:LE).env q) sg,.t (.str n),.call (.val (Sh.obj n fs).o) sg,.call (Sh.obj n fs).e sg,.call (Sh.obj n fs).e sg,.b false,
  .call (.list ((jm w n).map jz)) sg,.e (.dict ((jm w n).map vq)),.l (shS fs),.loop .next (({ LE0 with name:=vS n,one:=b1,values:=c1,slot:=a13,teller:=f1,kind:=a6,made:=vT (Sh.obj n fs).o,due:=some (.list (.str n::shS fs)),kinds:=some (.dict ((jm w n).map vq)),faults:=some (.list ((jr w n val (jm w n)).map .str)),shown:=b13,words:=c13 }:LE).env q) sg,
  .call (.list ((chain w n).map .str)) sg,.l ((chain w n).reverse.map .str),.loop .next (({ LE0 with name:=vS n,one:=a15,values:=c1,slot:=a13,teller:=f1,kind:=a6,made:=vT (Sh.obj n fs).o,due:=some (.list (.str n::shS fs)),kinds:=some (.dict ((jm w n).map vq)),faults:=some (.list (F.map .str)),shown:=b13,words:=c13,asked:=some (.list (H.map .str)) }:LE).env q) sg,
  .call (.list (F.map .str)) sgH,.b false,.b false,.call (.list (F.map .str)) sg2,.e (.val (.int (F.length:Int)))]
 have rgt:(decide (0≤(F.length:Int))&&decide ((F.length:Int)≤LIM))=true:=by refine rwg (decide_eq_true (Int.natCast_nonneg _))<|rwg (decide_eq_true (leI (m:=LIM) fok'.len rfl)) ?_;rfl
 obtain⟨z1,y1⟩:=qk4 C sg2 hh F none fok'.each
 have lim1:decide (((F.map (xr n++·)).map T.str).length≤LIM)=true:=decide_eq_true (by refine rwg (qi _)<|rwg (qi _) ?_;exact leK fok'.len rfl)
 have cmt:∀x y:Str,x=y->uu .Eq (.str x) (.str y)=some true:=fun x y e=>by refine rwg e ?_;exact congrArg some (decide_eq_true rfl)
 induction g0:decide ((F.length:Int)>0) using qg with
 | false=>
  have hF:F=[]:=List.eq_nil_of_length_eq_zero (by have:=of_decide_eq_false g0;lia)
  subst hF
  have j0:=lz (l:=[]) (by decide +kernel)
  exact⟨pre++[.b false,.e (.val (.str (("invalid class “":Str)++n))),.e (.val (.str (xr n))),.comp [] (q5x (xr n) none) sg2,.e (.val (.int 0)),.b false,.e (.val (.str "")),.b true],
   qcu (q9 r1 (q9 r2 (q9 (r3) (q9 r4 (q9 l5 (q9 hks (q9 l6 (q9 hlast (q9 m1 (q9 m2 (q9 m3 (q9 m4 (q9 m5 (q9 m6 (q9 m7 (q9 l13 (q9 m8 (q9 m9 (q9 l15' (q9 v1 (q9 n1 (q9 n2 (q9 v2 (q9 flen (q9 ff (q9 t1 (q9 t2 (q9 (CompR.nil:CompR (lh C 28 "law" [20]) [] (q5x (xr n) none) sg2 [] (q5x (xr n) none) sg2) (q9 tt (q9 flen (q9 ff (q9 j0 (q9 (cmt "" "" rfl) (rfl:Ent.val (.bool true)=Ent.val (.bool true))))))))))))))))))))))))))))))))))) (by kernel_rfl)⟩
 | true=>
  induction g1:decide ((F.length:Int)>1) using qg with
  | false=>
   obtain⟨f,rfl⟩:∃f,F=[f]:=qiq (of_decide_eq_true g0) (of_decide_eq_false g1)
   have bf:=fok'.each f (.head _)
   have j1:=lz (l:=[xr n++f]) (by refine(?_:(xr n++f).length≤_);refine rwg (ve _ _) ?_;exact fi hh bf rfl)
   exact⟨pre++[.b true,.call (.val (.str (ru n [f]))) sg2,.call (.val (y6 ".Object")) sg2,.call (.val q1o) sg2,.e (.val (.str (("invalid class “":Str)++n))),.e (.val (.str (xr n))),.comp [.str (xr n++f)] (q5x (xr n) z1) sg2,.e (.val (.int 1)),.b false,.e (.val (.str (xr n++f))),.b true],
    qcu (q9 r1 (q9 r2 (q9 (r3) (q9 r4 (q9 l5 (q9 hks (q9 l6 (q9 hlast (q9 m1 (q9 m2 (q9 m3 (q9 m4 (q9 m5 (q9 m6 (q9 m7 (q9 l13 (q9 m8 (q9 m9 (q9 l15' (q9 v1 (q9 n1 (q9 n2 (q9 v2 (q9 flen (q9 (rfl:some true=some true) (q9 txt (q9 (s2 sg2) (q9 (s3 sg2) (q9 t1 (q9 t2 (q9 y1 (q9 tt (q9 flen (q9 ff (q9 j1 (q9 (cmt (ru n [f]) (xr n++f) rfl) (rfl:Ent.val (.bool true)=Ent.val (.bool true)))))))))))))))))))))))))))))))))))))) (by kernel_rfl)⟩
  | true=>
   refine e11 (qk3 C sg2 hh F fok'.len F 0 none fok'.each rfl (Nat.zero_le _)) fun z2 y2=>?_
   refine e02 (r5 (i:=0) hh fok'.each (leD (c:=0) fok'.len rfl)) fun e1 e2=>?_
   have jl:=tj e1
   have j2:=lz (l:=k6 (xr n) 0 F) (leK (qr jl (Nat.mul_le_mul_left _ (e2▸fok'.len))) rfl)
   have lim2:decide (((k6 (xr n) 0 F).map T.str).length≤LIM)=true:=decide_eq_true (by refine rwg (qi _)<|rwg e2 ?_;exact leK fok'.len rfl)
   have et:ru n F=yy (k6 (xr n) 0 F):=q7z (of_decide_eq_true g1)
   exact⟨pre++[.b true,.call (.val (.str (ru n F))) sg2,.call (.val (y6 ".Object")) sg2,.call (.val q1o) sg2,.e (.val (.str (("invalid class “":Str)++n))),.e (.val (.str (xr n))),.comp ((F.map (xr n++·)).map .str) (q5x (xr n) z1) sg2,.e (.val (.int (F.length:Int))),.b true,
     .e (.val (.int (F.length:Int))),.comp ((k6 (xr n) 0 F).map .str) (qjg (xr n) F z2) sg2,.e (.val (.str (yy (k6 (xr n) 0 F)))),.b true],
    qcu (q9 r1 (q9 r2 (q9 (r3) (q9 r4 (q9 l5 (q9 hks (q9 l6 (q9 hlast (q9 m1 (q9 m2 (q9 m3 (q9 m4 (q9 m5 (q9 m6 (q9 m7 (q9 l13 (q9 m8 (q9 m9 (q9 l15' (q9 v1 (q9 n1 (q9 n2 (q9 v2 (q9 flen (q9 (congrArg some g0) (q9 txt (q9 (s2 sg2) (q9 (s3 sg2) (q9 t1 (q9 t2 (q9 y1 (q9 lim1 (q9 flen (q9 (congrArg some g1) (q9 flen (q9 rgt (q9 (y8 F.length▸y2) (q9 lim2 (q9 j2 (q9 (cmt _ _ et) (rfl:Ent.val (.bool true)=Ent.val (.bool true)))))))))))))))))))))))))))))))))))))))))) (by kernel_rfl)⟩
theorem qc0(script:List Int)(h:script.length≤63):∃as,q4j (vz (ups 19 .bot) KE) script as fun r=>r = .val (.bool true):=qfu (qbw .bot) script h
end Mine
end
section
open PySem PySem.W PyProof.Rows PySem.Calls
namespace Mine
theorem q02(x y:Str)(e:Ent):∀env:Loc,jn y (v0 x e env)=if x=y then some e else jn y env:=by
 intro env
 induction env with
 | nil=>
  exact rfl
 | cons zz r ih=>
  obtain⟨a,u⟩:=zz
  by_cases h:a=x
  ·subst h
   refine(?_:jn y (if a=a then _ else _)=_)
   refine rwg (if_pos rfl) ?_
   refine(?_:(if a=y then _ else _)=if a=y then _ else if a=y then _ else _)
   by_cases q:a=y
   ·exact rwg (if_pos q)<|rwg (if_pos q) rfl
   ·exact rwg (if_neg q)<|rwg (if_neg q)<|rwg (if_neg q) rfl
  ·refine(?_:jn y (if a=x then _ else _)=_)
   refine rwg (if_neg h) ?_
   refine(?_:(if a=y then u else jn y (v0 x e r))=if x=y then _ else if a=y then u else jn y r)
   by_cases q:a=y
   ·exact rwg (if_pos q)<|rwg (if_pos q)<|rwg (if_neg fun z=>h (q.trans z.symm)) rfl
   ·refine rwg (if_neg q)<|rwg (if_neg q) ?_;exact ih
theorem gt(x:Str)(e:Ent)(env:Loc):jn x (v0 x e env)=some e:=by(rewrite[q02];exact rwg (if_pos rfl) rfl)
theorem za{x y:Str}(h:x≠y)(e:Ent)(env:Loc):jn y (v0 x e env)=jn y env:=by(rewrite[q02];exact rwg (if_neg h) rfl)
theorem q2w{k:Option NameKind}(h:z8 k=true):k=some .local∨k=some .cell∨k=some .free:=by
 induction k using qe with
 | none=>exact Bool.noConfusion h
 | some k=>rcases k with ⟨⟩ <;> first | exact .inl rfl | exact .inr (.inl rfl) | exact .inr (.inr rfl) | exact Bool.noConfusion h
section
variable {F:Fr'}
theorem FrS.not(H:FrS F){x y:Str}{k:NameKind}(h:jc F.sc x=some k)(hy:jc F.sc y=none):(x==y)=false:=beq_eq_false_iff_ne.mpr fun q=>by(replace h:=q▸h;replace h:=hy▸h);exact(j6 h).elim
theorem FrS.ndbg (H:FrS F) {x:Str} {k:NameKind} (h:jc F.sc x=some k):(x==("__debug__":Str))=false:=H.not h H.dbg
theorem FrS.ncd (H:FrS F) {x:Str} {k:NameKind} (h:jc F.sc x=some k):(x==("__classdict__":Str))=false:=H.not h H.cdict
inductive LocK(F:Fr')(x:Str):Prop
 | loc:F.E.kindOf x=some .local->LocK F x
 | cel:F.E.kindOf x=some .cell->LocK F x
 | fre:F.E.kindOf x=some .free->LocK F x
theorem FrS.kindLoc(H:FrS F){x:Str}(h:z8 (jc F.sc x)=true):(∃k,jc F.sc x=some k)∧LocK F x:=by
 rcases q2w h with q | q | q <;> refine e12 (H.names x _ q) fun k' a b=>?_ <;> refine⟨⟨_,q⟩,?_⟩ <;> rcases b with rfl | ⟨b,rfl⟩
 ·exact .loc a
 ·exact NameKind.noConfusion b
 ·exact .cel a
 ·exact NameKind.noConfusion b
 ·exact .fre a
 ·exact .cel a
end
theorem q6d{k:Kd}{x:Str}(z:k = .cel x∨k = .still∨k = .froz):k ≠ .fdict:=by rcases z with rfl | rfl | rfl <;> nofun
theorem cj{g:Gh}{h:Heap}{a:Addr}{k:Kd}{o:Obj}{x:Str}{ov:Option Value}(H:Fits g h)(e:g a=some (k,o))(z:k = .cel x∨k = .still∨k = .froz)(d:o.data = .cell ov):h.IsCell a ov:=
 (i12 _ (H.exact e (q6d z)) d)
section
variable {c:CC}{F:Fr'}{g:Gh}{st:St}{s:Shared}{A:Around}{M:Model}{x:Str}{e:Ent}{Q:Value->Shared->Prop}{Er:Value->Shared->Prop}
theorem q2r(I:Inv c F g st s)(hk:z8 (jc F.sc x)=true)(he:jn x st.env=some e)(h:∀v,EntR c.w g (.mine x) v e->Q v s):wpAny M A (loadName F.E x) Q Er s:=by
 refine e02 (I.fs.kindLoc hk) fun zz=>?_;refine e11 zz fun k k1=>?_;clear zz;intro k2
 induction k2 using LocK.casesOn with
 | loc k2=>
  refine e21 I.fr.loc fun o m L=>?_
  refine e12 (L.ent x e he k2) fun v e1 e2=>?_
  exact wpAny_loadName_local I.fs.kind k2 (L.ns.at (I.fits.exact L.at_ (jb rfl))) e1 (h v e2)
 | cel k2=>
  refine e41 (I.fr.cel x (.inl k2)) fun c' kk o ov C=>?_
  refine e12 (C.ent e he) fun v zz1 zz2=>?_;subst zz1;obtain⟨e2,_⟩:=zz2
  exact wpAny_loadName_cell I.fs.kind k2 C.cell (cj I.fits C.at_ C.kd C.data) (h v e2)
 | fre k2=>
  refine e41 (I.fr.cel x (.inr k2)) fun c' kk o ov C=>?_
  refine e12 (C.ent e he) fun v zz1 zz2=>?_;subst zz1;obtain⟨e2,_⟩:=zz2
  exact wpAny_loadName_free I.fs.kind k2 C.cell (cj I.fits C.at_ C.kd C.data) (h v e2) (I.fs.ncd k1)
theorem yb{p:Pos}(I:Inv c F g st s)(hk:z8 (jc F.sc x)=true)(he:jn x st.env=some e)(h:∀v,EntR c.w g (.mine x) v e->Q v s):wpAny M A (qp (.Name x p) F.E) Q Er s:=
 wpAny_Name (q2r I hk he h) (let ⟨⟨_,k1⟩,_⟩:=I.fs.kindLoc hk;I.fs.ndbg k1)
end
noncomputable def frz(g:Gh)(x:Str):Gh:=fun a=>match g a with
 | some (.mine y p,o)=>if y=x then some (fzk p,o) else some (.mine y p,o)
 | r=>r
theorem frz_other{g:Gh}{x:Str}{a:Addr}{k:Kd}{o:Obj}(e:g a=some (k,o))(h:∀p,k ≠ .mine x p):frz g x a=some (k,o):=by
 unfold frz
 refine rwg e ?_
 induction k using Kd.casesOn with
 | mine y p=>
  have:y≠x:=fun q=>h p (by exact rwg q rfl)
  exact if_neg this
 | _=>rfl
theorem q7i{g:Gh}{x:Str}{a:Addr}{p:Part}{o:Obj}(e:g a=some (.mine x p,o)):frz g x a=some (fzk p,o):=by
 unfold frz;refine rwg e ?_;exact if_pos rfl
set_option tactic.hygienic true in
theorem q11{g:Gh}{x:Str}{a:Addr}{k:Kd}{o:Obj}(e:frz g x a=some (k,o)):(∀p,k ≠ .mine x p)∧(g a=some (k,o)∨∃p,k=fzk p∧g a=some (.mine x p,o)):=by
 unfold frz at e
 split at e
 ·rename_i y p o' h
  split at e
  ·rename_i q;replace e:=qd e;cases e;subst q;exact⟨fun z_=>by rcases p with ⟨⟩ <;> nofun,.inr (i12 p rfl h)⟩
  ·rename_i q;replace e:=qd e;cases e;exact⟨fun z_ z=>q (by injection z),.inl h⟩
 ·rename_i h
  exact⟨fun p z=>h x p o (z▸e),.inl e⟩
theorem Fits.frz{g:Gh}{h:Heap}(H:Fits g h)(x:Str):Fits (frz g x) h:=by
 intro a k o e
 rcases(q11 e).2 with q | ⟨p,rfl,q⟩
 ·exact H a k o q
 ·exact i12 o (H.exact q (by simp)) (Lk.refl _ o)
theorem StepE.frz(g:Gh)(x:Str):StepE g (frz g x):=
 ⟨fun a o e=>frz_other e (by simp),fun a o e=>frz_other e (by simp),fun a o e=>frz_other e (by simp),fun a i p o e=>⟨o,frz_other e (by simp)⟩,fun a o e=>frz_other e (by simp),fun a y o e=>frz_other e (by simp),fun a y p o n e=>by
  by_cases q:y=x
  ·subst q;exact .inr (q7i e)
  ·exact .inl (frz_other e fun p' z=>q (by injection z))⟩
theorem RepFF.kd{w:World}{g g':Gh}{kd kd':Part->Kd}(m:Mono g g')(hk:∀a f o,g a=some (kd (.fld f),o)->g' a=some (kd' (.fld f),o)){en:List DictEntry}{fs:List (Str×F)}(h:RepFF w g kd en fs):RepFF w g' kd' en fs:=by
 induction h with
 | nil=>exact .nil
 | val z k h _ ih=>exact .val z k (h.mono m) ih
 | dict z k e b o h _ ih=>exact .dict z k e (hk _ _ _ b) o (h.mono m) ih
theorem RepFF.mono{w:World}{g g':Gh}{kd:Part->Kd}(m:Mono g g')(hk:∀a p o,g a=some (kd p,o)->g' a=some (kd p,o)){en:List DictEntry}{fs:List (Str×F)}(h:RepFF w g kd en fs):RepFF w g' kd en fs:=h.kd m fun a z_ o=>hk a _ o
theorem InstR.mono{w:World}{g g':Gh}{kd:Part->Kd}{a:Addr}{cn:Str}{fs:List (Str×F)}(m:Mono g g')(hk:∀a p o,g a=some (kd p,o)->g' a=some (kd p,o))(h:InstR w g kd a cn fs):InstR w g' kd a cn fs:=
 e45 h fun C dx o en h1 h2 h3 h4 h5=>(i45 C dx o en h1 (hk _ _ _ h2) (hk _ _ _ h3) h4 (h5.mono m hk))
theorem EntR.mono{w:World}{g g':Gh}{kd:Part->Kd}{v:Value}{e:Ent}(m:Mono g g')(hk:∀a p o,g a=some (kd p,o)->g' a=some (kd p,o))(h:EntR w g kd v e):EntR w g' kd v e:=by
 induction e using Ent.casesOn with
 | val t=>exact Rep.mono m h
 | list xs=>refine e34 h fun a o vs h1 h2 h3 h4=>?_;clear h;exact i34 a o vs h1 (hk _ _ _ h2) h3 (h4.mono m)
 | dict es=>refine e34 h fun a o vs h1 h2 h3 h4=>?_;clear h;exact i34 a o vs h1 (hk _ _ _ h2) h3 (h4.mono m)
 | inst cn fs=>refine e12 h fun a h1 h2=>?_;clear h;exact i12 a h1 (h2.mono m hk)
theorem RepFF.fz{w:World}{g g':Gh}{kd:Part->Kd}(m:Mono g g')(hk:∀a p o,g a=some (kd p,o)->g' a=some (fzk p,o)){en:List DictEntry}{fs:List (Str×F)}(h:RepFF w g kd en fs):RepF w g' en (fs.map fun p=>(p.1,p.2.fz)):=by
 induction h with
 | nil=>exact .nil
 | val z k h _ ih=>exact .cons z k (fun z_=>h.mono m) ih
 | dict z k e b o h _ ih=>exact .cons z k (fun z_=>e ▸ .dict (hk _ _ _ b) o (h.mono m)) ih
theorem EntR.fz{w:World}{g g':Gh}{kd:Part->Kd}{v:Value}{e:Ent}(m:Mono g g')(hk:∀a p o,g a=some (kd p,o)->g' a=some (fzk p,o))(h:EntR w g kd v e):Rep w g' v e.fz:=by
 induction e using Ent.casesOn with
 | val t=>exact Rep.mono m h
 | list xs=>refine e34 h fun a o vs zz3 h2 h3 h4=>?_;clear h;subst zz3;exact .list (hk _ _ _ h2) h3 (h4.mono m)
 | dict es=>refine e34 h fun a o vs zz3 h2 h3 h4=>?_;clear h;subst zz3;exact .dict (hk _ _ _ h2) h3 (h4.mono m)
 | inst cn fs=>refine e12 h fun a zz1 zz2=>?_;clear h;subst zz1;refine e45 zz2 fun C dx o en h1 h2 h3 h4 h5=>?_;clear zz2;exact .inst h1 (hk _ _ _ h2) (hk _ _ _ h3) h4 (h5.fz m hk)
theorem EntR.frz{w:World}{g:Gh}{x:Str}{v:Value}{e:Ent}(h:EntR w g (.mine x) v e):Rep w (Mine.frz g x) v e.fz:=
 h.fz (StepE.frz g x).mono fun z_ z_ z_ e=>q7i e
theorem EntR.frz_other{w:World}{g:Gh}{x y:Str}{v:Value}{e:Ent}(hxy:y≠x)(h:EntR w g (.mine y) v e):EntR w (Mine.frz g x) (.mine y) v e:=
 h.mono (StepE.frz g x).mono fun z_ z_ z_ q=>Mine.frz_other q fun z_ z=>hxy (by injection z)
theorem SOR.mono{w:World}{g g':Gh}{i:Nat}{a:Addr}{so:SO}(m:Mono g g')(hk:∀a p o,g a=some (.shr i p,o)->g' a=some (.shr i p,o))(h:SOR w g i a so):SOR w g' i a so:=by
 induction so using SO.casesOn with
 | list xs=>refine e23 h fun o vs h1 h2 h3=>?_;clear h;exact i23 o vs (hk _ _ _ h1) h2 (h3.mono m)
 | inst cn fs=>exact InstR.mono m hk h
 | tab=>
  obtain⟨e,o,h1,h2⟩:=h
  exact⟨e,(i12 o (hk _ _ _ h1) (h2.imp id fun zz=>e23 zz fun b oc q1 q2 q3=>i23 b oc q1 (m.froz _ _ q2) q3))⟩
theorem Sig.mono{w:World}{g g':Gh}{sg:List SO}(m:Mono g g')(hk:∀a i p o,g a=some (.shr i p,o)↔g' a=some (.shr i p,o))(h:Sig w g sg):Sig w g' sg:=
 ⟨fun i so e=>e11 (h.at_ i so e) fun a q=>⟨a,q.mono m fun a p o e=>(hk a i p o).mp e⟩,fun i a a' o o' e e'=>h.one i a a' o o' ((hk _ _ _ _).mpr e) ((hk _ _ _ _).mpr e'),fun i p a o e=>h.lt i p a o ((hk _ _ _ _).mpr e)⟩
theorem Hp.same{c:CC}{g g':Gh}{sg:List SO}{s:Shared}(H:Hp c g sg s)(hf:Fits g' s.heap)(hs:∀a o,g a=some (.still,o)->g' a=some (.still,o))(m:Mono g g')(hk:∀a i p o,g a=some (.shr i p,o)↔g' a=some (.shr i p,o)):Hp c g' sg s:=
 ⟨hf,H.gd,fun a o e=>hs a o (H.base a o e),H.sig.mono m hk,H.gens,H.os⟩
theorem Hp.frz{c:CC}{g:Gh}{sg:List SO}{s:Shared}(H:Hp c g sg s)(x:Str):Hp c (Mine.frz g x) sg s:=
 H.same (H.fits.frz x) (StepE.frz g x).still (StepE.frz g x).mono fun a i p o=>⟨fun e=>Mine.frz_other e (by simp),fun e=>by
  rcases(q11 e).2 with q | ⟨q,z,_⟩
  ·exact q
  ·rcases q with ⟨⟩ <;> exact Kd.noConfusion z⟩
theorem FrR.turn {w:World} {g g':Gh} {F:Fr'} {env env':Loc} (H:FrR w g F env) (ht:jn "#" env'=none) (kl:∀a o,g a=some (.frm,o)→g' a=some (.frm,o)) (kc:∀a x k o,(k = .cel x∨k = .still∨k = .froz)→g a=some (k,o)→g' a=some (k,o))
  (ke:∀x e',jn x env'=some e'->∃e,jn x env=some e∧(∀v,EntR w g (.mine x) v e->EntR w g' (.mine x) v e')∧((∃t,e = .val t)->∃t,e' = .val t)):FrR w g' F env' where
 tmp:=ht
 loc:=by
  refine e21 H.loc fun o m L=>?_
  refine i21 o m ⟨kl _ _ L.at_,L.ns,fun x e' he hk=>?_⟩
  refine e12 (ke x e' he) fun e h1 zz2=>?_;obtain⟨h2,_⟩:=zz2
  refine e12 (L.ent x e h1 hk) fun v a b=>?_
  exact i12 v a (h2 v b)
 cel x hk:=by
  refine e41 (H.cel x hk) fun c k o ov C=>?_
  refine i41 c k o ov ⟨C.cell,kc _ x _ _ C.kd C.at_,C.data,C.kd,C.own,fun e' he=>?_⟩
  refine e13 (ke x e' he) fun e h1 h2 h3=>?_
  refine e13 (C.ent e h1) fun v a b d=>?_
  exact i13 v a (h2 v b) (fun z=>h3 (d z))
theorem FrR.ne {w:World} {g:Gh} {F:Fr'} {env:Loc} (H:FrR w g F env) {y:Str} {e:Ent} (h:jn y env=some e):y≠"#":=fun q=>by(replace h:=q▸h;rewrite[H.tmp] at h);exact(j6 h).elim
theorem q7j{g:Gh}{x:Str}(a:Addr)(o:Obj)(e:g a=some (.frm,o)):frz g x a=some (.frm,o):=frz_other e (fun z_=>jb rfl)
theorem q7k{g:Gh}{y:Str}(a:Addr)(x:Str)(k:Kd)(o:Obj)(z:k = .cel x∨k = .still∨k = .froz)(e:g a=some (k,o)):frz g y a=some (k,o):=frz_other e (by rcases z with rfl | rfl | rfl <;> nofun)
theorem FrR.frz{w:World}{g:Gh}{F:Fr'}{env:Loc}(H:FrR w g F env){x:Str}{e:Ent}(he:jn x env=some e):FrR w (Mine.frz g x) F (v0 x (.val e.fz) env):=by
 refine H.turn ?_ q7j q7k fun y e' hy=>?_
 ·refine rwg (za (H.ne he) _ _) ?_;exact H.tmp
 ·by_cases q:x=y
  ·subst q
   rw[gt] at hy
   replace hy:=qd hy;cases hy
   exact i13 e he (fun v b=>b.frz) (fun z_=>⟨_,rfl⟩)
  ·rw[za q] at hy
   exact i13 e' hy (fun v b=>b.frz_other (Ne.symm q)) id
theorem FrR.frzTmp {w:World} {g:Gh} {F:Fr'} {env:Loc} (H:FrR w g F env):FrR w (Mine.frz g "#") F env:=
 H.turn H.tmp q7j q7k fun y e' hy=>i13 e' hy (fun v b=>b.frz_other (H.ne hy)) id
theorem Inv.frz{c:CC}{F:Fr'}{g:Gh}{st:St}{s:Shared}(I:Inv c F g st s){x:Str}{e:Ent}(he:jn x st.env=some e):Inv c F (Mine.frz g x) ⟨v0 x (.val e.fz) st.env,st.sg,st.as⟩ s:=⟨I.toHp.frz x,I.fs,I.fr.frz he⟩
theorem Inv.frzTmp {c:CC} {F:Fr'} {g:Gh} {st:St} {s:Shared} (I:Inv c F g st s):Inv c F (Mine.frz g "#") st s:=⟨I.toHp.frz _,I.fs,I.fr.frzTmp⟩
theorem Inv.tell{c:CC}{F:Fr'}{g:Gh}{st:St}{s:Shared}(I:Inv c F g st s)(as:List Ans):Inv c F g ⟨st.env,st.sg,as⟩ s:=⟨I.toHp,I.fs,I.fr⟩
theorem zc{α:Type}{get:Ans->Option α}{x:Option α}{st:St}{K:α->St->Prop}(h:ask get x st K):∃y as,x=some y∧K y ⟨st.env,st.sg,as⟩:=by
 obtain⟨env,sg,as⟩:=st
 have nat:(jk x fun y=>K y ⟨env,sg,as⟩)->∃y as',x=some y∧K y ⟨env,sg,as'⟩:=fun h=>by
  induction x using qe with
  | none=>exact h.elim
  | some y=>exact i22 y as rfl h
 induction as using qf with
 | nil=>exact nat h
 | cons a r=>
  have h:(match get a with
   | some y=>x=some y∧K y ⟨env,sg,r⟩
   | none=>jk x fun y=>K y ⟨env,sg,a::r⟩):=h
  induction q:get a using qe with
  | none=>rw[q] at h;exact nat h
  | some y=>rw[q] at h;exact i22 y r h.1 h.2
theorem jd{α:Type}{x:Option α}{K:α->Prop}(h:jk x K):∃y,x=some y∧K y:=by
 induction x using qe with
 | none=>exact h.elim
 | some y=>exact i12 y rfl h
theorem jj{b:Bool}{X:Prop}(h:gd b X):b=true∧X:=by
 induction b using qg with
 | false=>exact h.elim
 | true=>exact⟨rfl,h⟩
theorem xi{b:Bool}{X Y:Prop}(h:cnd b X Y)(q:b=true):X:=by subst q;exact h
theorem jy{b:Bool}{X Y:Prop}(h:cnd b X Y)(q:b=false):Y:=by subst q;exact h
theorem vn{X:Ent->List SO->Prop}{st:St}{Q:Ent->St->Prop}(h:yh X st Q):∃r sg as,X r sg∧Q r ⟨st.env,sg,as⟩:=by
 obtain⟨env,sg,as⟩:=st
 induction as using qf with
 | nil=>exact h.elim
 | cons a r=>induction a using Ans.casesOn with
  | call r' sg'=>exact i32 r' sg' r h.1 h.2
  | _=>exact h.elim
theorem lc{X:Fl->Loc->List SO->Prop}{st:St}{Q:Fl->St->Prop}(h:q62 X st Q):∃fl env sg as,X fl env sg∧Q fl ⟨env,sg,as⟩:=by
 obtain⟨env,sg,as⟩:=st
 induction as using qf with
 | nil=>exact h.elim
 | cons a r=>induction a using Ans.casesOn with
  | loop fl e' sg'=>exact i42 fl e' sg' r h.1 h.2
  | _=>exact h.elim
theorem lf{X:List T->Loc->List SO->Prop}{st:St}{Q:List T->Loc->List SO->List Ans->Prop}(h:ac X st Q):∃ts env sg as,X ts env sg∧Q ts env sg as:=by
 obtain⟨env,sg,as⟩:=st
 induction as using qf with
 | nil=>exact h.elim
 | cons a r=>induction a using Ans.casesOn with
  | comp ts e' sg'=>exact i42 ts e' sg' r h.1 h.2
  | _=>exact h.elim
theorem qli{α:Type}{get:Ans->Option α}{x:Option α}{st:St}{K:α->St->Prop}{G:Prop}(h:ask get x st K)(k:∀y as,x=some y->K y ⟨st.env,st.sg,as⟩->G):G:=e22 (zc h) fun y as h1 h2=>k y as h1 h2
theorem xh{α:Type}{x:Option α}{K:α->Prop}{G:Prop}(h:jk x K)(k:∀y,x=some y->K y->G):G:=e12 (jd h) fun y h1 h2=>k y h1 h2
theorem e8{b:Bool}{X G:Prop}(h:gd b X)(k:b=true->X->G):G:=k (jj h).1 (jj h).2
theorem ql3{X:Ent->List SO->Prop}{st:St}{Q:Ent->St->Prop}{G:Prop}(h:yh X st Q)(k:∀r sg as,X r sg->Q r ⟨st.env,sg,as⟩->G):G:=e32 (vn h) fun r sg as h1 h2=>k r sg as h1 h2
theorem yz{a b:Bool}{G:Prop}(h:(a&&b)=true)(k:a=true->b=true->G):G:=k (qh.mp h).1 (qh.mp h).2
theorem fval{a b:T}(h:F.val a=F.val b):a=b:=by injection h
theorem fdict{a b:List (Str×T)}(h:F.dict a=F.dict b):a=b:=by injection h
theorem KeepF.refl(g:Gh):KeepF g g:=⟨fun z_ z_ z_ e z_ z_=>e,fun z_ z_ z_ o e=>⟨o,e⟩⟩
theorem KeepF.trans{a b c:Gh}(h:KeepF a b)(k:KeepF b c):KeepF a c:=⟨fun x q o e n m=>k.keep x q o (h.keep x q o e n m) n m,fun x i p o e=>e11 (h.shr x i p o e) fun z_ e'=>k.shr x i p _ e'⟩
theorem KeepF.step{g g':Gh}(h:KeepF g g'):StepE g g':=
 ⟨fun a o e=>h.keep a _ o e (by exact fun z_=>jb rfl) (by exact fun z_ z_=>jb rfl),fun a o e=>h.keep a _ o e (by exact fun z_=>jb rfl) (by exact fun z_ z_=>jb rfl),fun a o e=>h.keep a _ o e (by exact fun z_=>jb rfl) (by exact fun z_ z_=>jb rfl),h.shr,fun a o e=>h.keep a _ o e (by exact fun z_=>jb rfl) (by exact fun z_ z_=>jb rfl),fun a x o e=>h.keep a _ o e (by exact fun z_=>jb rfl) (by exact fun z_ z_=>jb rfl),
  fun a x p o n e=>.inl (h.keep a _ o e (fun p' q=>n (by injection q)) (by exact fun z_ z_=>jb rfl))⟩
theorem KeepF.new{g:Gh}{a:Addr}{k:Kd}{o:Obj}(e:g a=none):KeepF g (jp g a k o):=
 ⟨fun b k' o' h z_ z_=>(je (fun q=>by(replace h:=q▸h;rewrite[e] at h);exact(j6 h).elim)).trans h,fun b i p o' h=>⟨o',(je (fun q=>by rw[q,e] at h;exact(j6 h).elim)).trans h⟩⟩
theorem KeepF.tmp {g:Gh} {a:Addr} {p:Part} {k:Kd} {o o':Obj} (e:g a=some (.mine "#" p,o)):KeepF g (jp g a k o'):=
 ⟨fun b k' x h n z_=>(je (fun q=>by(replace h:=q▸h;rewrite[e] at h);replace h:=qd h;cases h;exact n p rfl)).trans h,fun b i p' x h=>⟨x,(je (fun q=>by rw[q,e] at h;exact nomatch h)).trans h⟩⟩
theorem FrR.keepF{w:World}{g g':Gh}{F:Fr'}{env:Loc}(H:FrR w g F env)(k:KeepF g g'):FrR w g' F env:=
 H.turn H.tmp k.step.frm (fun a x kk o z e=>k.keep a kk o e (by rcases z with rfl | rfl | rfl <;> nofun) (by rcases z with rfl | rfl | rfl <;> nofun)) fun y e' hy=>
  (i13 e' hy (fun v b=>b.mono k.step.mono fun a p o e=>k.keep a _ o e (fun p' q=>H.ne hy (by injection q)) (fun z_ z_=>jb rfl)) id)
theorem Hp.re{c:CC}{g:Gh}{sg:List SO}{s s':Shared}(H:Hp c g sg s)(h1:s'.heap=s.heap)(h2:s'.gens=s.gens)(h3:s'.os=s.os):Hp c g sg s':=
 ⟨h1▸H.fits,H.gd,H.base,H.sig,h2.trans H.gens,h3.trans H.os⟩
theorem Inv.re{c:CC}{F:Fr'}{g:Gh}{st:St}{s s':Shared}(I:Inv c F g st s)(h1:s'.heap=s.heap:=by rfl)(h2:s'.gens=s.gens:=by rfl)(h3:s'.os=s.os:=by rfl):Inv c F g st s':=⟨I.toHp.re h1 h2 h3,I.fs,I.fr⟩
theorem Hp.turn{c:CC}{g g':Gh}{sg:List SO}{s s':Shared}(H:Hp c g sg s)(hf:Fits g' s'.heap)(k:KeepF g g')(hk:∀a i p o,g a=some (.shr i p,o)↔g' a=some (.shr i p,o))(h2:s'.gens=s.gens)(h3:s'.os=s.os):Hp c g' sg s':=
 ⟨hf,H.gd,fun a o e=>k.step.still a o (H.base a o e),H.sig.mono k.step.mono hk,h2.trans H.gens,h3.trans H.os⟩
theorem Inv.turn{c:CC}{F:Fr'}{g g':Gh}{st:St}{s s':Shared}(I:Inv c F g st s)(hf:Fits g' s'.heap)(k:KeepF g g')(hk:∀a i p o,g a=some (.shr i p,o)↔g' a=some (.shr i p,o))(h2:s'.gens=s.gens:=by rfl)(h3:s'.os=s.os:=by rfl):Inv c F g' st s':=
 ⟨I.toHp.turn hf k hk h2 h3,I.fs,I.fr.keepF k⟩
theorem yr{g:Gh}{a:Addr}{k:Kd}{o:Obj}(e:g a=none)(hk:∀i p,k ≠ .shr i p):∀b i p o',g b=some (.shr i p,o')↔jp g a k o b=some (.shr i p,o'):=fun b i p o'=>by
 by_cases q:b=a
 ·subst q;rw[jf,e];exact⟨(fun h=>(j6 h).elim),fun h=>by replace h:=qd h;cases h;exact absurd rfl (hk i p)⟩
 ·rw[je q]
theorem qey {g:Gh} {a:Addr} {k:Kd} {o o':Obj} {p:Part} (e:g a=some (.mine "#" p,o')) (hk:∀i p,k ≠ .shr i p):∀b i p o',g b=some (.shr i p,o')↔jp g a k o b=some (.shr i p,o'):=fun b i p o'=>by
 by_cases q:b=a
 ·subst q;rw[jf,e];exact⟨nofun,fun h=>by replace h:=qd h;cases h;exact absurd rfl (hk i p)⟩
 ·rw[je q]
theorem Inv.push{c:CC}{F:Fr'}{g:Gh}{st:St}{s:Shared}(I:Inv c F g st s)(k:Kd)(hk:∀i p,k ≠ .shr i p){o:Obj}(hf:o.isFreed=false){s':Shared}(h1:s'.heap=s.heap.push o:=by rfl)(h2:s'.gens=s.gens:=by rfl)(h3:s'.os=s.os:=by rfl):
  Inv c F (jp g s.heap.objs.size k o) st s':=
 I.turn (h1▸I.fits.push k hf) (KeepF.new I.fits.new) (yr I.fits.new hk) h2 h3
theorem d7{x:Str}(h:((ji x fnTab).isSome || (ji x methTab).isSome)=true):∃a,gAddr x=some a∧(x,a)∈fAddrs++cAddrs:=by
 have key:∀{α β:Type}{l:List (Str×α)}{l':List (Str×β)},l.map (·.1)=l'.map (·.1)->(ji x l).isSome=true->∃a,ji x l'=some a∧(x,a)∈l':=by
  intro α β l
  induction l with
  | nil=>intro l' _ h;exact Bool.noConfusion h
  | cons p l ih=>
   intro l' e h
   obtain⟨a,b⟩:=p
   induction l' using qf with
   | nil=>exact nomatch e
   | cons q l'=>
    obtain⟨a',b'⟩:=q
    simp only [qv,List.cons.injEq] at e
    obtain⟨rfl,e⟩:=e
    dsimp only [ji] at h ⊢
    by_cases z:a=x
    ·subst z;exact i12 b' (if_pos rfl) (.head _)
    ·rw[if_neg z] at h ⊢
     refine e12 (ih e h) fun y h1 h2=>?_
     exact i12 y h1 (.tail _ h2)
 refine rwg (gAddr.eq_1 _) ?_
 rcases Bool.or_eq_true_iff.mp h with h | h
 ·refine e12 (key qid h) fun a h1 h2=>?_
  exact i12 a (by refine rwg h1 ?_;rfl) (List.mem_append_left _ h2)
 ·refine e12 (key t_cl h) fun a h1 h2=>?_
  induction q:ji x fAddrs using qe with
  | none=>exact i12 a h1 (List.mem_append_right _ h2)
  | some b=>
   refine i12 b rfl (List.mem_append_left _ ?_)
   have:∀{l:List (Str×Addr)},ji x l=some b->(x,b)∈l:=by
    intro l
    induction l with
    | nil=>intro h;exact(j6 h).elim
    | cons p l ih=>
     obtain⟨a',b'⟩:=p
     dsimp only [ji]
     intro h
     by_cases z:a'=x
     ·rw[if_pos z] at h;replace h:=qd h;cases h;subst z;exact .head _
     ·rw[if_neg z] at h;exact .tail _ (ih h)
   exact this q
theorem qki:(blt.all fun p=>p.1 != ("__name__":Str))=true:=by decide +kernel
section
variable {c:CC}{F:Fr'}{g:Gh}{st:St}{s:Shared}{A:Around}{M:Model}{x:Str}{p:Pos}{Q:Value->Shared->Prop}{Er:Value->Shared->Prop}
theorem FrS.glb(H:FrS F)(hk:jc F.sc x=some .globalImplicit):F.E.kindOf x=some .globalImplicit:=by
 refine e12 (H.names x _ hk) fun k' h1 zz2=>?_;obtain h2 | h2:=zz2
 ·exact rwg h1<|rwg h2 rfl
 ·cases h2.1
theorem vk{a:Addr}(I:Inv c F g st s)(hk:jc F.sc x=some .globalImplicit)(ha:(x,a)∈fAddrs++cAddrs)(h:Q (.ref a) s):wpAny M A (qp (.Name x p) F.E) Q Er s:=by
 have e:nsIn c.K mainGlobals x=some (some (.ref a)):=beq_iff_eq.mp (qy.mp c.kf.glb _ ha)
 refine e11 I.here.g fun mg hg=>?_
 exact Name_function_global I.fs.kind (I.fs.glb hk) (loadGlobal_global (by refine rwg I.fs.glob ?_;exact hg) (mg_of I.X hg e) h) (I.fs.ndbg hk)
theorem g9{v:Value}(I:Inv c F g st s)(hk:jc F.sc x=some .globalImplicit)(ha:(x,v)∈blt)(h:Q v s):wpAny M A (qp (.Name x p) F.E) Q Er s:=by
 obtain⟨e1,e2⟩:=qh.mp (qy.mp c.kf.blt _ ha)
 refine e11 I.here.g fun mg hg=>?_
 refine e12 I.here.b fun mb hb hb'=>?_
 have hn:x≠"__name__":=bne_iff_ne.mp (qy.mp qki _ ha)
 exact Name_function_global I.fs.kind (I.fs.glb hk) (loadGlobal_builtin (by refine rwg I.fs.glob ?_;exact hg) (mg_none_of I.X hg (beq_iff_eq.mp e1)) (by refine rwg I.fs.blt ?_;exact hb) ((hb' x hn).trans (beq_iff_eq.mp e2)) h) (I.fs.ndbg hk)
end
theorem bd{k:Option NameKind}(h:q2x k=true):k=some .globalImplicit:=by
 induction k using qe with
 | none=>exact Bool.noConfusion h
 | some k=>rcases k with ⟨⟩ <;> first | rfl | exact Bool.noConfusion h
theorem xt{e:qo}{x:Str}(h:zh e=some x):∃p,e = .Name x p:=by
 rcases e with ⟨⟩ <;> first | (cases h;exact⟨_,rfl⟩) | exact(j6 h).elim
theorem gv{e:qo}{q:At_}(h:yk e=some q):e = .Attribute q.o q.a q.p:=by
 rcases e with ⟨⟩ <;> first | (cases h;rfl) | exact(j6 h).elim
theorem q5m{W:Cx}{f:Fns}(H:Snd W f){F:Fr'}{e:qo}{st:St}{Q:T->St->Prop}(h:fk f F.sc e st Q){g:Gh}{s:Shared}{K:Value->Shared->Prop}(I:Inv W.c F g st s)(k:KT W F g Q K):WP W (qp e F.E) K s:=by
 unfold fk at h
 induction q:zh e using qe with
 | none=>
  replace h:=q▸h
  exact H.eval h I fun v s' g' r st' I' S z q=>k v s' _ _ st' I'.frzTmp (S.trans (StepE.frz g' "#")) z.frz q
 | some x=>
  rw[q] at h
  refine e11 (xt q) fun p zz1=>?_;subst zz1
  have h:rz F.sc x st Q:=h
  unfold rz at h
  induction hk:q2x (jc F.sc x) using qg with
  | true=>
   refine e02 (jj (xi h hk)) fun a1 a2=>?_
   refine e12 (d7 a1) fun a ga hm=>?_
   exact vk I (bd hk) hm (k _ _ g _ _ I (StepE.refl g) (.glob ga) a2)
  | false=>
   refine e02 (jj (jy h hk)) fun a1 a2=>?_
   refine e12 (jd a2) fun r b1 b2=>?_
   exact yb I a1 b1 fun v z=>k _ _ _ _ _ (I.frz b1) (StepE.frz g x) z.frz b2
theorem we{w:World}{e:DictEntry}{f:Str}(h:KeyS w e f)(x:Str):e.key.isStr x=decide (f=x):=by
 obtain⟨⟨t,k⟩,_⟩:=h
 refine rwg k ?_
 refine(?_:(f==x)=_)
 by_cases q:f=x
 ·subst q;exact rfl
 ·exact rfl
theorem gj{w:World}{e:DictEntry}{f x:Str}{es:List DictEntry}(h:KeyS w e f):getL x (e::es)=if f=x then some (some e.val) else getL x es:=by
 simp only [getL]
 refine rwg List.find?_cons<|rwg (we h _) ?_
 by_cases q:f=x
 ·exact rwg (decide_eq_true q)<|rwg (if_pos q) rfl
 ·refine rwg (decide_eq_false q)<|rwg (if_neg q)<|rwg List.any_cons ?_
  have:e.refKey=false:=by obtain⟨⟨t,k⟩,_⟩:=h;unfold DictEntry.refKey;exact rwg k rfl
  exact rwg this<|rwg (Bool.false_or _) rfl
theorem KeyS.like{w:World}{e e':DictEntry}{f:Str}(h:KeyS w e f)(l:EntLike e e'):KeyS w e' f:=⟨by refine rwg l.2.1 ?_;exact h.1,l.1.trans h.2⟩
theorem RepF.get {w:World} {g:Gh} {en en':List DictEntry} {fs:List (Str×T)} (h:RepF w g en fs):All2 EntLike en en'→∀f:Str,(f≠("shared":Str)→∀t,fget f fs=some t→∃v,getL f en'=some (some v)∧Rep w g v t∧fieldNames.contains f=true)∧(fget f fs=none→getL f en'=some none):=by
 revert en'
 refine RepF.ind (m:=fun en fs=>∀{en'},All2 EntLike en en'→∀f:Str,(f≠("shared":Str)→∀t,fget f fs=some t→∃v,getL f en'=some (some v)∧Rep w g v t∧fieldNames.contains f=true)∧(fget f fs=none→getL f en'=some none)) (fun q f=>?_) (fun {e a t en fs} z k h _ ih en' q f=>?_) h
 ·refine rwg q.nil_inv ?_;exact⟨fun z_ z_ h=>(j6 h).elim,fun z_=>rfl⟩
 refine e23 q.cons_inv fun e' en' zz=>?_;subst zz;intro l q
 have ih:=ih q f
 refine rwg (gj (k.like l)) ?_
 refine rwg (fget.eq_2 _ _ _ _) ?_
 by_cases y:a=f
 ·refine rwg (if_pos y)<|rwg (if_pos y) ?_
  refine⟨fun n t e=>?_,fun h=>(j6 h.symm).elim⟩
  obtain rfl:=qd e
  have n':a≠"shared":=fun q=>n (y▸q)
  refine i13 _ rfl ?_ (y▸z)
  refine rwg (l.2.2 (by rw[we k];exact decide_eq_false n')) ?_
  exact h n'
 ·refine rwg (if_neg y)<|rwg (if_neg y) ?_;exact ih
theorem RepFF.get{w:World}{g:Gh}{kd:Part->Kd}{en:List DictEntry}{fs:List (Str×F)}(h:RepFF w g kd en fs)(f:Str):
  (∀t,ffget f fs=some (.val t)->∃v,getL f en=some (some v)∧Rep w g v t∧fieldNames.contains f=true) ∧
  (∀es,ffget f fs=some (.dict es)->∃b o en',getL f en=some (some (.ref b))∧g b=some (kd (.fld f),o)∧kq o en'∧RepD w g en' es∧fieldNames.contains f=true)∧(ffget f fs=none->getL f en=some none):=by
 induction h with
 | nil=>exact i03 (fun z_ h=>(j6 h).elim) (fun z_ h=>(j6 h).elim) (fun z_=>rfl)
 | @val e a t en fs z k h r ih=>
  refine rwg (gj k) ?_
  refine rwg (ffget.eq_2 _ _ _ _) ?_
  by_cases y:a=f
  ·refine rwg (if_pos y)<|rwg (if_pos y) ?_
   exact i03 (fun t e=>i13 _ rfl (fval (qd e)▸h) (y▸z)) (fun z_ e=>F.noConfusion (qd e)) (fun h=>(j6 h.symm).elim)
  ·refine rwg (if_neg y)<|rwg (if_neg y) ?_;exact ih
 | @dict e a b o en' es en fs z k eb hb ho h r ih=>
  refine rwg (gj k) ?_
  refine rwg (ffget.eq_2 _ _ _ _) ?_
  by_cases y:a=f
  ·refine rwg (if_pos y)<|rwg (if_pos y) ?_
   subst y
   exact i03 (fun z_ e=>F.noConfusion (qd e)) (fun es q=>i35 _ _ _ (congrArg (fun v=>some (some v)) eb) hb ho (fdict (qd q)▸h) z) (fun h=>(j6 h.symm).elim)
  ·refine rwg (if_neg y)<|rwg (if_neg y) ?_;exact ih
set_option tactic.hygienic true in
theorem js{α:Type}{x:Str}{a:α}:∀{l:List (Str×α)},ji x l=some a->(x,a)∈l:=by
 intro l
 induction l with
 | nil=>
  intro h
  exact(j6 h).elim
 | cons zz r ih=>
  obtain⟨y,b⟩:=zz
  intro h
  by_cases q:y=x
  ·replace h:=qd ((if_pos q).symm.trans h);subst h;subst q;exact .head _
  ·exact .tail _ (ih ((if_neg q).symm.trans h))
structure qeo(K:Frag)(C:Addr):Prop where
 makes:makesIn K C=true
 get:findIn K (.ref C) "__getattribute__"=some (some (.builtin "object.__getattribute__"))
 noget:findIn K (.ref C) "__getattr__"=some none
 over:plainOver K C=true
 dict:hasDictIn K C=true
 set:findIn K (.ref C) "__setattr__"=some (some (.builtin "object.__setattr__"))
 fld:∀f,fieldNames.contains f=true->findIn K (.ref C) f=some none∧takerIn K C f=some none
theorem wg{K:Frag}(H:KFacts K){cn:Str}{C:Addr}(h:ji cn cAddrs=some C):qeo K C:=by
 have e:=qy.mp H.cls _ (js h)
 simp only [qdq,Bool.and_eq_true,beq_iff_eq] at e
 refine e02 e fun zz0 e6=>?_;clear e;obtain⟨⟨⟨⟨e1,e2⟩,e3⟩,e4⟩,e5⟩:=zz0
 refine⟨e1,(plainGet_of e2).1,(plainGet_of e2).2,e3,e4,e5,fun f hf=>?_⟩
 have:=qy.mp e6 f (by simpa using hf)
 have:=this;lia
theorem RepL.len{w:World}{g:Gh}{vs:List Value}{ts:List T}(h:RepL w g vs ts):vs.length=ts.length:=RepL.ind (m:=fun a b=>a.length=b.length) rfl (fun z_ z_ ih=>congrArg (·+1) ih) h
theorem RepL.get{w:World}{g:Gh}{vs:List Value}{ts:List T}(h:RepL w g vs ts){i:Nat}{t:T}:ts[i]? = some t->∃v,vs[i]? = some v∧Rep w g v t:=by
 revert i
 refine RepL.ind (m:=fun vs ts=>∀{i:Nat},ts[i]? = some t->∃v,vs[i]? = some v∧Rep w g v t) (fun h=>(j6 h).elim) (fun {v t' vs ts} h _ ih i e=>?_) h
 induction i using Nat.casesOn with
 | zero=>exact i12 v rfl (qd e▸h)
 | succ i=>rw[List.getElem?_cons_succ] at e ⊢;exact ih e
theorem RepL.app{w:World}{g:Gh}{vs:List Value}{ts:List T}{us:List Value}{rs:List T}(h:RepL w g vs ts)(k:RepL w g us rs):RepL w g (vs++us) (ts++rs):=RepL.ind (m:=fun a b=>RepL w g (a++us) (b++rs)) k (fun h z_ ih=>.cons h ih) h
theorem RepD.len{w:World}{g:Gh}{en:List DictEntry}{es:List (Str×T)}(h:RepD w g en es):en.length=es.length:=RepD.ind (m:=fun a b=>a.length=b.length) rfl (fun z_ z_ z_ ih=>congrArg (·+1) ih) h
theorem Rep.handed{w:World}{g:Gh}{v:Value}{t:T}(h:Rep w g v t):handedIn v=true:=by cases h <;> rfl
theorem kj{w:World}{g:Gh}{h:Heap}{a C dx:Addr}{k kx:Kd}{o:Obj}{en:List DictEntry}(H:Fits g h)(h1:g a=some (k,instObj C dx))(hk:k ≠ .fdict)(h2:g dx=some (kx,o))(ho:kq o en):
  ∃en' n,InstAt h a (instObj C dx) C (some (dictOf en' n))∧All2 EntLike en en'∧(kx ≠ .fdict->en'=en):=by
 refine e11 ho fun n zz1=>?_;clear ho;subst zz1
 refine e12 (H _ _ _ h2) fun o' e1 e2=>?_
 have e3:=H.exact h1 hk
 by_cases q:kx = .fdict
 ·subst q
  rcases e2 with rfl | ⟨es,es',m,z,rfl,l⟩
  ·exact i23 en n ⟨e3,rfl,rfl,e1⟩ (All2.refl EntLike.refl _) (fun z=>absurd rfl z)
  ·refine e02 (yi z) fun zz0 zz1=>?_;subst zz0;subst zz1
   exact i23 es' n ⟨e3,rfl,rfl,e1⟩ l (fun z=>absurd rfl z)
 ·have:=H.exact h2 q
  exact i23 en n ⟨e3,rfl,rfl,this⟩ (All2.refl EntLike.refl _) (fun z_=>rfl)
section
variable {c:CC}{g:Gh}{sg:List SO}{s:Shared}{A:Around}{f:Str}{Q:Value->Shared->Prop}{Er:Value->Shared->Prop}{ex:Bool}
theorem vm{a C dx:Addr}{cn:Str}{en:List DictEntry}{n:Nat}{v:Value}(G:Gd c s.heap)(hc:ji cn cAddrs=some C)
  (I:InstAt s.heap a (instObj C dx) C (some (dictOf en n))) (hf:fieldNames.contains f=true) (hl:getL f en=some (some v)) (hv:handedIn v=true) (h:Q v { s with toks:=s.toks+1 }) :
  wpAny (model c.prog c.w) A (getAttr (.ref a) f ex) Q Er s:=
 have F:=wg c.kf hc
 get_value G.X I F.get (findObj_own F.dict (F.fld f hf).1 rfl hl) hv h
noncomputable def outer(r':Ent):Bool:=match r' with
 | .val (.sh _)=>true
 | .val _=>false
 | _=>true
theorem PeekR.of_rep {w:World} {g:Gh} {v:Value} {sh:Bool} {t:T} (h:Rep w g v t):PeekR w g v sh (.val t):=i13 (.mine "x") (fun z_=>⟨(jb rfl),(jb rfl)⟩) (fun p hp=>.inr (.inl (i23 "x" p (by decide) hp rfl))) h
theorem PeekR.of_ent {w:World} {g:Gh} {x:Str} {v:Value} {sh:Bool} {r:Ent} (hx:x≠"#") (h:EntR w g (.mine x) v r):PeekR w g v sh r:=i13 (.mine x) (fun z_=>⟨(jb rfl),(jb rfl)⟩) (fun p hp=>.inr (.inl (i23 x p hx hp rfl))) h
theorem PeekR.val{w:World}{g:Gh}{v:Value}{sh:Bool}{t:T}(h:PeekR w g v sh (.val t)):Rep w g v t:=e13 h fun z_ z_ z_ e=>e
theorem j9{α β:Type}{x:Option α}{k:α->Option β}{b:β}(h:opt x k=some b):∃a,x=some a∧k a=some b:=by
 induction x using qe with
 | none=>exact(j6 h).elim
 | some a=>exact i12 a rfl h
theorem jh{β:Type}{b:Bool}{x:Option β}{y:β}(h:grd b x=some y):b=true∧x=some y:=by
 induction b using qg with
 | false=>exact(j6 h).elim
 | true=>exact⟨rfl,h⟩
theorem T.sh?_is{t:T}{i:Nat}(h:t.sh? = some i):t = .sh i:=by rcases t with ⟨⟩ <;> cases h;rfl
theorem SO.inst?_is{o:SO}{q:In}(h:o.inst? = some q):o = .inst q.C q.fs:=by rcases o with ⟨⟩ <;> cases h;rfl
theorem Rep.sh_inv{w:World}{g:Gh}{v:Value}{i:Nat}(h:Rep w g v (.sh i)):∃a o,v = .ref a∧g a=some (.shr i .main,o):=by cases h with | sh h=>exact i22 _ _ rfl h
theorem Hp.shInst(H:Hp c g sg s){v:Value}{i:Nat}(hv:Rep c.w g v (.sh i)){C:Str}{fs:List (Str×F)}(hs:sg[i]? = some (.inst C fs)):∃a,v = .ref a∧InstR c.w g (.shr i) a C fs:=by
 refine e22 hv.sh_inv fun a o zz2 hi=>?_;subst zz2
 refine e11 (H.sig.at_ _ _ hs) fun a' S=>?_
 have S':InstR c.w g (.shr i) a' C fs:=S
 refine e43 S' fun C' dx o' en h1 h2 h3=>?_;clear S'
 obtain rfl:=H.sig.one _ _ _ _ _ hi h2
 exact i12 _ rfl (i43 C' dx o' en h1 h2 h3)
theorem Hp.shList(H:Hp c g sg s){v:Value}{i:Nat}(hv:Rep c.w g v (.sh i)){xs:List T}(hs:sg[i]? = some (.list xs)):∃a o vs,v = .ref a∧g a=some (.shr i .main,o)∧OList o vs∧RepL c.w g vs xs:=by
 refine e22 hv.sh_inv fun a o zz2 hi=>?_;subst zz2
 refine e33 (H.sig.at_ _ _ hs) fun a' o' vs h1 h2 h3=>?_
 obtain rfl:=H.sig.one _ _ _ _ _ hi h1
 exact i34 _ o' vs rfl h1 h2 h3
theorem tw(H:Hp c g sg s){kd:Part->Kd}{a:Addr}{cn:Str}{fs:List (Str×Mine.F)}(hkd:∀p,kd p ≠ .fdict∧kd p ≠ .still)(hlk:∀p,p ≠ .dict->LookK true (kd p))(X:InstR c.w g kd a cn fs){u:Mine.F}(e:ffget f fs=some u)
  (h:∀v,PeekR c.w g v (outer u.ent) u.ent->Q v { s with toks:=s.toks+1 }):wpAny (model c.prog c.w) A (getAttr (.ref a) f ex) Q Er s:=by
 refine e45 X fun C dx o en h1 h2 h3 h4 h5=>?_;clear X
 refine e23 (kj (w:=c.w) H.fits h2 (hkd _).1 h3 h4) fun en' n I l z=>?_
 obtain rfl:=z (hkd _).1
 refine e03 (h5.get f) fun a1 a2 a3=>?_
 induction u using F.casesOn with
 | val t=>
  refine e13 (a1 t e) fun u b1 b2 b3=>?_
  exact vm H.here h1 I b3 b1 b2.handed (h u (.of_rep b2))
 | dict es=>
  refine e35 (a2 es e) fun b ob en2 b1 b2 b3 b4 b5=>?_
  exact vm H.here h1 I b5 b1 rfl (h _ (i13 (fun z_=>kd (.fld f)) (fun z_=>hkd _) (fun z_ z_=>hlk _ nofun) (i34 b ob en2 rfl b2 b3 b4)))
theorem qb2{i:Nat}(p:Part)(_:p ≠ .dict):LookK true (.shr i p):=.inr (.inr ⟨rfl,(i21 i p rfl)⟩)
theorem uy{v:Value}{sh:Bool}{r r':Ent}(H:Hp c g sg s)(p:PeekR c.w g v sh r)(hf:cf sg f r=some r')
  (h:∀u,PeekR c.w g u (outer r') r'->Q u { s with toks:=s.toks+1 }):wpAny (model c.prog c.w) A (getAttr v f ex) Q Er s:=by
 refine e13 p fun kd hkd hlk e=>?_;clear p
 induction r using Ent.casesOn with
 | list xs=>exact(j6 hf).elim
 | dict es=>exact(j6 hf).elim
 | inst cn fs=>
  refine e12 e fun a zz1 X=>?_;clear e;subst zz1
  refine e12 (j9 hf) fun u h1 h2=>?_
  replace h2:=qd h2;cases h2
  exact tw H hkd (fun p hp=>(hlk p hp).up) X h1 h
 | val t=>
  induction t using T.casesOn with
  | inst cn fs=>
   refine e02 (jh hf) fun h1 h2=>?_
   refine e12 (j9 h2) fun t h3 h4=>?_
   replace h4:=qd h4;cases h4
   have e:Rep c.w g v (.inst cn fs):=e
   cases e with
   | inst k1 k2 k3 k4 k5=>
    refine e23 (kj (w:=c.w) H.fits k2 (jb rfl) k3 k4) fun en' n I l z=>?_
    obtain⟨u,b1,b2,b3⟩:=(k5.get l f).1 (fun q=>by replace h1:=q▸h1;exact Bool.noConfusion h1) t h3
    exact vm H.here k1 I b3 b1 b2.handed (h u (.of_rep b2))
  | sh i=>
   refine e12 (j9 hf) fun o h1 h2=>?_
   refine e12 (j9 h2) fun q h3 h4=>?_
   refine e12 (j9 h4) fun u h5 h6=>?_
   replace h6:=qd h6;cases h6
   have e:Rep c.w g v (.sh i):=e
   refine e12 (H.shInst e (h1.trans (congrArg some (SO.inst?_is h3)))) fun a zz1 X=>?_;subst zz1
   exact tw H (kd:=.shr i) (fun z_=>⟨(jb rfl),(jb rfl)⟩) qb2 X h5 h
  | _=>exact(j6 hf).elim
theorem CRep.of_rep{w:World}{g:Gh}{v:Value}{sh:Bool}{t:T}(h:Rep w g v t):CRep w g v sh t:=by
 induction t using T.casesOn with
 | list=>cases h with | list a b d=>exact i45 _ _ _ _ rfl a (.inl rfl) b d
 | dict=>cases h with | dict a b d=>exact i45 _ _ _ _ rfl a (.inl rfl) b d
 | _=>exact h
theorem ua{v:Value}{e:qo}{r:Ent}{t:T}(H:Hp c g sg s)(p:PeekR c.w g v (zj e r) r)(hc:q1j sg r=some t):CRep c.w g v (zj e r) t:=by
 refine e13 p fun kd hkd hlk z=>?_;clear p
 have lk:LookK (zj e r) (kd .main):=hlk .main nofun
 induction r using Ent.casesOn with
 | inst=>exact(j6 hc).elim
 | list xs=>cases hc;refine e34 z fun a o vs h1 h2 h3 h4=>?_;clear z;exact i45 a _ o vs h1 h2 lk h3 h4
 | dict xs=>cases hc;refine e34 z fun a o vs h1 h2 h3 h4=>?_;clear z;exact i45 a _ o vs h1 h2 lk h3 h4
 | val t'=>
  have hc:orr t'.sh? (fun i=>opt sg[i]? (q3e i)) (some t')=some t:=hc
  have z:Rep c.w g v t':=z
  induction q:t'.sh? using qe with
  | none=>replace hc:=q▸hc;cases hc;exact .of_rep z
  | some i=>
   obtain rfl:=T.sh?_is q
   refine e12 (j9 hc) fun o h1 h2=>?_
   induction o using SO.casesOn with
   | list xs=>cases h2;refine e34 (H.shList z h1) fun a o vs zz3 k1 k2 k3=>?_;subst zz3;exact i45 _ _ _ _ rfl k1 (.inr (.inr ⟨rfl,(i21 i .main rfl)⟩)) k2 k3
   | inst C fs=>cases h2;exact z
   | tab=>exact(j6 h2).elim
end
theorem QStep.refl(g:Gh):QStep g g:=⟨StepE.refl g,fun z_ z_ z_ z_ e=>e⟩
theorem QStep.frz(g:Gh)(x:Str):QStep g (frz g x):=⟨StepE.frz g x,fun z_ z_ z_ z_ e=>frz_other e (by exact fun z_=>jb rfl)⟩
theorem QStep.trans{a b c:Gh}(h:QStep a b)(k:QStep b c):QStep a c:=⟨h.toStepE.trans k.toStepE,fun x i p o e=>k.shrx x i p o (h.shrx x i p o e)⟩
theorem QStep.new{g:Gh}{a:Addr}{k:Kd}{o:Obj}(e:g a=none):QStep g (jp g a k o):=
 ⟨(KeepF.new e).step,fun b i p o' h=>(je (fun q=>by rw[q,e] at h;exact(j6 h).elim)).trans h⟩
theorem CRep.step{w:World}{g g':Gh}{v:Value}{sh:Bool}{t:T}(S:StepE g g')(hs:sh=false∨QStep g g')(h:CRep w g v sh t):CRep w g' v sh t:=by
 have key:∀{a:Addr}{k:Kd}{o:Obj},g a=some (k,o)->LookK sh k->∃k',g' a=some (k',o)∧LookK sh k':=by
  intro a k o e l
  rcases l with rfl | ⟨x,p,hx,hp,rfl⟩ | ⟨rfl,i,p,rfl⟩
  ·exact i12 _ (S.froz _ _ e) (.inl rfl)
  ·rcases S.mine _ _ _ _ hx e with q | q
   ·exact i12 _ q (.inr (.inl (i23 x p hx hp rfl)))
   ·induction p using Part.casesOn with
    | main=>exact i12 _ q (.inl rfl)
    | fld f=>exact i12 _ q (.inl rfl)
    | dict=>exact absurd rfl hp
  ·rcases hs with hs | hs
   ·exact Bool.noConfusion hs
   ·exact i12 _ (hs.shrx _ _ _ _ e) (.inr (.inr ⟨rfl,(i21 i p rfl)⟩))
 induction t using T.casesOn with
 | list xs=>refine e45 h fun a k o vs zz4 h1 h2 h3 h4=>?_;clear h;subst zz4;refine e12 (key h1 h2) fun k' a1 a2=>?_;exact i45 a k' o vs rfl a1 a2 h3 (h4.mono S.mono)
 | dict xs=>refine e45 h fun a k o vs zz4 h1 h2 h3 h4=>?_;clear h;subst zz4;refine e12 (key h1 h2) fun k' a1 a2=>?_;exact i45 a k' o vs rfl a1 a2 h3 (h4.mono S.mono)
 | _=>exact Rep.mono S.mono h
section
variable {W:Cx}{f:Fns}{F:Fr'}{e:qo}{st:St}{g:Gh}{s:Shared}{K:Value->Shared->Prop}
theorem q4r(H:Snd W f){Q:T->Bool->St->Prop}(h:sv f F.sc e st Q)(I:Inv W.c F g st s)(k:KC W F g Q K):WP W (qp e F.E) K s:=
 H.peek h I fun v s' g' z_ st' I' S p q=>e12 (jd q) fun t h1 h2=>k v s' g' t _ st' I' S (ua I'.toHp p h1) h2
theorem rl(e:qo)(f:Str)(E:Env)(w:Sem Value)(h:zr e=true):attributeBase e f E w=w:=by
 induction e using Expr.casesOn with
 | Call fn as ks p=>
  induction fn using Expr.casesOn with
  | Name id p'=>
   induction as using qf with
   | nil=>
    induction ks using qf with
    | nil=>
     have q:(id != ("super":Str))=true:=h
     unfold attributeBase
     dsimp only
     refine rwg q ?_;rfl
    | cons _ _=>rfl
   | cons _ _=>rfl
  | _=>rfl
 | _=>rfl
theorem ck{c:CC}{A:Around}{v:qo}{f:Str}{p:Pos}{E:Env}{Q:Value->Shared->Prop}{Er:Value->Shared->Prop}(hb:zr v=true)
  (h:wpAny (model c.prog c.w) A (qp v E) (fun o s₁=>wpAny (model c.prog c.w) A (getAttr o f true) Q Er s₁) Er s):wpAny (model c.prog c.w) A (qp (.Attribute v f p) E) Q Er s:=
 Attribute_any_ h (by(rewrite[arm_eval_Attribute];exact rwg (rl _ _ _ _ hb) rfl))
theorem q8m(H:Snd W f){Q:Ent->St->Prop}(h:uw f F.sc e st Q)(I:Inv W.c F g st s)(k:KP W F e g Q K):WP W (qp e F.E) K s:=by
 have other:(f.evalT F.sc e st fun t=>Q (.val t))->WP W (qp e F.E) K s:=fun h=>H.evalT h I fun v s' g' t st' I' S z q=>k v s' g' _ st' I' S (.of_rep z) q
 unfold uw at h
 induction q:zh e using qe with
 | some x=>
  rw[q] at h
  have h:pw f F.sc x e st Q:=h
  unfold pw at h
  induction hl:z8 (jc F.sc x) using qg with
  | false=>exact other (jy h hl)
  | true=>
   refine e12 (jd (xi h hl)) fun r h1 h2=>?_
   refine e11 (xt q) fun p zz1=>?_;subst zz1
   exact yb I hl h1 fun v z=>k _ _ g _ _ I (StepE.refl g) (.of_ent (I.fr.ne h1) z) h2
 | none=>
  replace h:=q▸h
  have h:orP (yk e) (fun q=>sr f F.sc q.o q.a st Q) (f.evalT F.sc e st fun t=>Q (.val t)):=h
  induction q2:yk e using qe with
  | none=>rw[q2] at h;exact other h
  | some a=>
   rw[q2] at h
   obtain rfl:=gv q2
   refine e02 (jj (by exact h:gd (zr a.o) (f.peek F.sc a.o st fun r st1=>jk (cf st1.sg a.a r) fun r'=>Q r' st1))) fun h1 h2=>?_
   refine ck h1 (H.peek h2 I fun v s1 g1 r st1 I1 S1 p1 q1=>?_)
   refine e12 (jd q1) fun r' h3 h4=>?_
   refine uy I1.toHp p1 h3 fun u p2=>k u _ g1 r' st1 I1.re S1 ?_ h4
   induction r' using Ent.casesOn with
   | val t=>exact .of_rep p2.val
   | list xs=>exact p2
   | dict es=>exact p2
   | inst C fs=>exact p2
end
end Mine
end
section
open PySem PySem.W PyProof.Rows PySem.Calls PySem.SeqAt
namespace Mine
theorem yo{α:Type}{l:List α}{p:α×α}(h:pj l=some p):l=[p.1,p.2]:=by
 induction l using qf with
 | nil=>exact(j6 h).elim
 | cons a l=>
  induction l using qf with
  | nil=>exact(j6 h).elim
  | cons b l=>
   induction l using qf with
   | nil=>exact rwl (qd h) rfl
   | cons c l=>exact(j6 h).elim
theorem vr{α:Type}{l:List α}{p:α}(h:fc l=some p):l=[p]:=by
 induction l using qf with
 | nil=>exact(j6 h).elim
 | cons a l=>
  induction l using qf with
  | nil=>exact rwl (qd h) rfl
  | cons b l=>exact(j6 h).elim
theorem jt(h:false=true):False:=nomatch h
theorem ws{n:Nat}(h:n≤LIM):n≤sizeLine:=qr h (by refine rwg sizeLine_eq ?_;decide)
theorem lp{n:Nat}(h:n≤gw):n≤sizeLine:=qr h (by refine rwg sizeLine_eq ?_;decide)
theorem T.int?_is{t:T}{i:Int}(h:t.int? = some i):t = .int i:=by rcases t with ⟨⟩ <;> first | (cases h;rfl) | exact(j6 h).elim
theorem T.str?_is{t:T}{i:Str}(h:t.str? = some i):t = .str i:=by rcases t with ⟨⟩ <;> first | (cases h;rfl) | exact(j6 h).elim
theorem T.bool?_is{t:T}{i:Bool}(h:t.bool? = some i):t = .bool i:=by rcases t with ⟨⟩ <;> first | (cases h;rfl) | exact(j6 h).elim
theorem T.list?_is{t:T}{i:List T}(h:t.list? = some i):t = .list i:=by rcases t with ⟨⟩ <;> first | (cases h;rfl) | exact(j6 h).elim
theorem T.tup?_is{t:T}{i:List T}(h:t.tup? = some i):t = .tup i:=by rcases t with ⟨⟩ <;> first | (cases h;rfl) | exact(j6 h).elim
noncomputable abbrev KV (W:Cx) (F:Fr') (g:Gh) (st:St) (r:Ent) (K:Value→Shared→Prop):Prop:=∀v s' g',Inv W.c F g' st s'→StepE g g'→EntR W.c.w g' (.mine "#") v r→K v s'
section
variable {W:Cx}{F:Fr'}{g:Gh}{st:St}{s:Shared}{K:Value->Shared->Prop}
theorem xm{t:T}{v:Value}{s':Shared}(I:Inv W.c F g st s)(r:Rep W.c.w g v t)(k:KV W F g st (.val t) K)(h1:s'.heap=s.heap:=by rfl)(h2:s'.gens=s.gens:=by rfl)(h3:s'.os=s.os:=by rfl):K v s':=
 k v s' g (I.re h1 h2 h3) (StepE.refl g) r
theorem gr {vs:List Value} {xs:List T} {s':Shared} {n:Nat} (I:Inv W.c F g st s) (r:RepL W.c.w g vs xs) (k:KV W F g st (.list xs) K) (h1:s'.heap=s.heap.push { cls:=.type "list",data:=.seq vs.toArray n }:=by rfl) (h2:s'.gens=s.gens:=by rfl) (h3:s'.os=s.os:=by rfl):K (.ref s.heap.objs.size) s':=
 have K':KeepF g (jp g s.heap.objs.size (.mine "#" .main) (listOf vs.toArray n)):=KeepF.new I.fits.new
 k _ _ _ (I.push (.mine "#" .main) (fun z_ z_=>jb rfl) (o:=listOf vs.toArray n) rfl h1 h2 h3) K'.step (i34 _ _ vs rfl jf ⟨n,rfl⟩ (r.mono K'.step.mono))
theorem q7o {vs:List Value} {xs:List T} {s':Shared} {n:Nat} (I:Inv W.c F g st s) (r:RepL W.c.w g vs xs) (k:KV W F g st (.val (.tup xs)) K) (h1:s'.heap=s.heap.push { cls:=.type "tuple",data:=.seq vs.toArray n }:=by rfl) (h2:s'.gens=s.gens:=by rfl) (h3:s'.os=s.os:=by rfl):K (.ref s.heap.objs.size) s':=
 have K':KeepF g (jp g s.heap.objs.size .froz { cls:=.type "tuple",data:=.seq vs.toArray n }):=KeepF.new I.fits.new
 k _ _ _ (I.push .froz (fun z_ z_=>jb rfl) (o:={ cls:=.type "tuple",data:=.seq vs.toArray n }) rfl h1 h2 h3) K'.step (.tup jf ⟨n,rfl⟩ (r.mono K'.step.mono))
theorem qcs(v:Value)(k:Nat):List.foldl (fun(x1 x2:Array Value)=>x1++x2) #[] (List.replicate k #[v])=(List.replicate k v).toArray:=by
 have:∀(k:Nat)(acc:Array Value),List.foldl (fun(x1 x2:Array Value)=>x1++x2) acc (List.replicate k #[v])=acc++(List.replicate k v).toArray:=by
  intro k
  induction k with
  | zero=>intro acc;rfl
  | succ k ih=>intro acc;refine rwg List.replicate_succ<|rwg List.foldl_cons<|rwg (ih _)<|rwg List.replicate_succ ?_;apply Array.ext';simp
 refine rwg (this _ _) ?_;simp
theorem RepL.rep{w:World}{g:Gh}{v:Value}{t:T}(h:Rep w g v t):∀k,RepL w g (List.replicate k v) (List.replicate k t):=by
 intro k
 induction k with
 | zero=>
  exact .nil
 | succ k ih=>
  exact .cons h (ih)
theorem qfj{l:Addr}{items:Array Value}{k:Nat}{x:Int}{u:Tok}{Q:Value->Shared->Prop}{Er:Value->Shared->Prop}{prog:Program}{w:World}
  (hl:s.heap.get? l=some { cls:=.type "list",dict:=none,data:=.seq items k,slots:=#[] }) (hlo:-(2 ^ 63:Int)≤x) (hhi:x<2 ^ 63) (hsz:items.size*x.toNat≤2 ^ 24)
  (h:Q (.ref s.heap.objs.size) { s with heap:=s.heap.push { cls:=.type "list",data:=.seq (List.foldl (fun x1 x2=>x1++x2) #[] (List.replicate (if items.isEmpty=true then 0 else x.toNat) items)) } }):wpAny (model prog w) A (binaryOp .Mult (.ref l) (.int x u)) Q Er s:=
 wpAny_binaryOp_repeat_ref (T:="list") (U:="int") (by decide) (i12 _ hl rfl) (fun s'=>typeIs_int s' x u) noFill_list_mul F.fills_int_mul F.slot_int_rmul repeat_list F.slot_int_index.lookup
  (call_meets F.slot_int_rmul (typeIs_int s x u) F.entry_int_rmul (F.args_int_rmul_2 _ _) (int___rmul___int_list x u l items k)
   ⟨hl,rfl,(i12 _ hl rfl),call_meets F.slot_list_mul (i12 _ hl rfl) F.entry_list_mul (F.args_list_mul_2 _ _)
    (AutoListH.list___mul___list_int_3 l items k x u (by simp[Builtin.List.listFitsIndex];omega) (by omega) (by simp[Builtin.List.listTooLong,sizeLine];omega)) ⟨hl,h⟩⟩)
theorem Rep.int_inv{w:World}{v:Value}{i:Int}(h:Rep w g v (.int i)):∃t,v = .int i t:=by cases h;exact⟨_,rfl⟩
theorem Rep.str_inv{w:World}{v:Value}{x:Str}(h:Rep w g v (.str x)):∃t,v = .str x t:=by cases h;exact⟨_,rfl⟩
theorem Rep.bool_inv{w:World}{v:Value}{b:Bool}(h:Rep w g v (.bool b)):v = .bool b:=by cases h;rfl
theorem Rep.none_inv{w:World}{v:Value}(h:Rep w g v .none):v = .none:=by cases h;rfl
structure ListR(w:World)(g:Gh)(xs:List T)(a:Addr)(o:Obj)(vs:List Value):Prop where
 at_:g a=some (.froz,o)
 o:OList o vs
 r:RepL w g vs xs
structure TupR(w:World)(g:Gh)(xs:List T)(a:Addr)(o:Obj)(vs:List Value):Prop where
 at_:g a=some (.froz,o)
 o:OTup o vs
 r:RepL w g vs xs
theorem Rep.list_inv{w:World}{v:Value}{xs:List T}(h:Rep w g v (.list xs)):∃a o vs,v = .ref a∧ListR w g xs a o vs:=by cases h with | list a b d=>exact i32 _ _ _ rfl ⟨a,b,d⟩
theorem Rep.tup_inv{w:World}{v:Value}{xs:List T}(h:Rep w g v (.tup xs)):∃a o vs,v = .ref a∧TupR w g xs a o vs:=by cases h with | tup a b d=>exact i32 _ _ _ rfl ⟨a,b,d⟩
theorem ListR.get{w:World}{xs:List T}{a:Addr}{o:Obj}{vs:List Value}(h:ListR w g xs a o vs){hp:Heap}(H:Fits g hp):∃n,hp.get? a=some (listOf vs.toArray n):=by
 refine e11 h.o fun n e=>?_
 exact⟨n,e▸H.exact h.at_ (jb rfl)⟩
theorem TupR.get {w:World} {xs:List T} {a:Addr} {o:Obj} {vs:List Value} (h:TupR w g xs a o vs) {hp:Heap} (H:Fits g hp):∃n,hp.get? a=some { cls:=.type "tuple",data:=.seq vs.toArray n }:=by
 refine e11 h.o fun n e=>?_
 exact⟨n,e▸H.exact h.at_ (jb rfl)⟩
theorem q6x{vs:List Value}{xs:List T}{w:World}(r:RepL w g vs xs)(h:xs.isEmpty=false):vs.toArray.isEmpty=false:=by cases r <;> first | exact(jt h.symm).elim | rfl
theorem mu{j:Int}(h:small j=true):0<j∧j<1000000:=by
 unfold small at h;obtain⟨a,b⟩:=qh.mp h;exact⟨of_decide_eq_true a,of_decide_eq_true b⟩
variable {u v:Value}{r:Ent}
theorem q0w{q:Int->Int->Option Int}{op:Operator}{a b:T}(h:qcf q a b=some r)(ha:Rep W.c.w g u a)(hb:Rep W.c.w g v b)(k:∀i j x t t',q i j=some x->u = .int i t->v = .int j t'->r = .val (.int x)->WP W (binaryOp op u v) K s):WP W (binaryOp op u v) K s:=by
 refine e12 (j9 h) fun i h1 h2=>?_
 refine e12 (j9 h2) fun j h3 h4=>?_
 refine e12 (j9 h4) fun x h5 h6=>?_
 obtain rfl:=T.int?_is h1
 obtain rfl:=T.int?_is h3
 refine e11 ha.int_inv fun t zz1=>?_;subst zz1
 refine e11 hb.int_inv fun t' zz1=>?_;subst zz1
 exact k i j x t t' h5 rfl rfl (qd h6).symm
theorem qh0{a b:T}(h:qlj a b=some r)(I:Inv W.c F g st s)(ha:Rep W.c.w g u a)(hb:Rep W.c.w g v b)(k:KV W F g st r K):WP W (binaryOp .Add u v) K s:=by
 induction a using T.casesOn with
 | int i=>
  refine e12 (j9 h) fun j h1 h2=>?_
  obtain rfl:=T.int?_is h1
  obtain rfl:=qd h2
  refine e11 ha.int_inv fun t zz1=>?_;subst zz1
  refine e11 hb.int_inv fun t' zz1=>?_;subst zz1
  exact PyProof.Rows.add_int (xm I (.int _ _) k)
 | str x=>
  refine e12 (j9 h) fun y h1 h2=>?_
  obtain rfl:=T.str?_is h1
  refine e12 (j9 h2) fun z h3 h4=>?_
  refine e02 (jh h3) fun h5 h6=>?_
  obtain rfl:=qd h6
  obtain rfl:=qd h4
  refine e11 ha.str_inv fun t zz1=>?_;subst zz1
  refine e11 hb.str_inv fun t' zz1=>?_;subst zz1
  exact PyProof.Rows.add_str (fun t' tk=>xm I (.str _ _) k) (lp (of_decide_eq_true h5))
 | list xs=>
  refine e12 (j9 h) fun ys h1 h2=>?_
  obtain rfl:=T.list?_is h1
  refine e12 (j9 h2) fun z h3 h4=>?_
  refine e02 (jh h3) fun h5 h6=>?_
  obtain rfl:=qd h6
  obtain rfl:=qd h4
  refine e32 ha.list_inv fun a o vs zz3 L=>?_;subst zz3
  refine e32 hb.list_inv fun b o' us zz3 L'=>?_;subst zz3
  refine e11 (L.get I.fits) fun n1 e1=>?_
  refine e11 (L'.get I.fits) fun n2 e2=>?_
  refine P.add_list e1 e2 ?_ (ws (by simpa [L.r.len,L'.r.len] using of_decide_eq_true h5))
  exact gr (n:=0) I (L.r.app L'.r) k (by simp)
 | tup xs=>
  refine e12 (j9 h) fun ys h1 h2=>?_
  obtain rfl:=T.tup?_is h1
  refine e02 (jh h2) fun h7 h8=>?_
  obtain⟨h7a,h7b⟩:=qh.mp h7
  refine e12 (j9 h8) fun z h3 h4=>?_
  refine e02 (jh h3) fun h5 h6=>?_
  obtain rfl:=qd h6
  obtain rfl:=qd h4
  refine e32 ha.tup_inv fun a o vs zz3 L=>?_;subst zz3
  refine e32 hb.tup_inv fun b o' us zz3 L'=>?_;subst zz3
  refine e11 (L.get I.fits) fun n1 e1=>?_
  refine e11 (L'.get I.fits) fun n2 e2=>?_
  refine P.add_tuple e1 e2 (by refine rwg (q6x L.r (by simpa using h7a)) ?_;trivial) (by refine rwg (q6x L'.r (by simpa using h7b)) ?_;trivial) ?_ (ws (by simpa [L.r.len,L'.r.len] using of_decide_eq_true h5))
  exact q7o (n:=0) I (L.r.app L'.r) k (by simp)
 | _=>exact(j6 h).elim
theorem qfk{a b:T}(h:qkj a b=some r)(I:Inv W.c F g st s)(ha:Rep W.c.w g u a)(hb:Rep W.c.w g v b)(k:KV W F g st r K):WP W (binaryOp .Mult u v) K s:=by
 refine e12 (j9 h) fun xs h1 h2=>?_
 refine e12 (j9 h2) fun x h3 h4=>?_
 refine e12 (j9 h4) fun j h5 h6=>?_
 refine e02 (jh h6) fun h7 h8=>?_
 obtain⟨h9,h10⟩:=qh.mp h7
 have h9:=of_decide_eq_true h9
 have h10:j≤4000:=of_decide_eq_true h10
 obtain rfl:=T.list?_is h1
 obtain rfl:=T.int?_is h5
 obtain rfl:=qd h8
 refine e32 ha.list_inv fun a o vs zz3 L=>?_;subst zz3
 refine e11 hb.int_inv fun t' zz1=>?_;subst zz1
 refine e11 (L.get I.fits) fun n1 e1=>?_
 have hx:=vr h3
 subst hx
 have r:=L.r
 cases r with
 | cons y z=>
  cases z
  refine qfj e1 (by omega) (by omega) (by simp;omega) ?_
  refine gr (n:=0) I (RepL.rep y _) k ?_
  refine(?_:s.heap.push _=_)
  congr 3
  exact qcs _ _
theorem qgw{op:Operator}{a b:T}(h:aq op a b=some r)(I:Inv W.c F g st s)(ha:Rep W.c.w g u a)(hb:Rep W.c.w g v b)(k:KV W F g st r K):WP W (binaryOp op u v) K s:=by
 induction op using Operator.casesOn with
 | Add=>exact qh0 h I ha hb k
 | Mult=>exact qfk h I ha hb k
 | Sub=>
  refine q0w h ha hb fun i j x t t' h1 e1 e2 e3=>?_
  subst e1 e2 e3
  obtain rfl:=qd h1
  exact PyProof.Rows.sub_int (xm I (.int _ _) k)
 | Mod=>
  refine q0w h ha hb fun i j x t t' h1 e1 e2 e3=>?_
  subst e1 e2 e3
  refine e02 (jh h1) fun h2 h3=>?_
  obtain rfl:=qd h3
  exact mod_int' (Int.ne_of_gt (mu h2).1) (xm I (.int _ _) k)
 | FloorDiv=>
  refine q0w h ha hb fun i j x t t' h1 e1 e2 e3=>?_
  subst e1 e2 e3
  refine e02 (jh h1) fun h2 h3=>?_
  obtain rfl:=qd h3
  refine e02 (mu h2) fun h4 h5=>?_
  exact floordiv_int (Int.ne_of_gt h4) (xm I (.int _ _) k) (.inl (PyProof.noPylong_small (by omega)))
 | _=>exact(j6 h).elim
end
structure Still(s s':Shared):Prop where
 heap:s'.heap=s.heap
 gens:s'.gens=s.gens
 os:s'.os=s.os
theorem Still.of(s:Shared):Still s s:=⟨rfl,rfl,rfl⟩
theorem Still.tok(s:Shared)(k:Nat):Still s { s with toks:=k }:=⟨rfl,rfl,rfl⟩
theorem Inv.still{c:CC}{F:Fr'}{g:Gh}{st:St}{s s':Shared}(I:Inv c F g st s)(h:Still s s'):Inv c F g st s':=I.re h.heap h.gens h.os
theorem mt(prog:Program)(w:World)(x:Str)(t:Tok):(strKind prog w).is x (.str x t)=true:=by refine(?_:(x==x)=true);exact beq_self_eq_true x
theorem qch(prog:Program)(w:World)(x:Int)(t:Tok):(intKind prog w).is x (.int x t)=true:=by refine(?_:(x==x)=true);exact beq_self_eq_true x
inductive DKV{κ:Type}(w:World)(g:Gh):List (κ×Value)->List (κ×T)->Prop
 | nil:DKV w g [] []
 | cons {k:κ} {v:Value} {t:T} {a:List (κ×Value)} {b:List (κ×T)}:Rep w g v t->DKV w g a b->DKV w g ((k,v)::a) ((k,t)::b)
inductive EKV{κ:Type}[DecidableEq κ]{prog:Program}{w:World}(kk:PySem.KeyKind prog w κ)(g:Gh):List DictEntry->List (κ×T)->Prop
 | nil:EKV kk g [] []
 | cons {e:DictEntry} {k:κ} {t:T} {en:List DictEntry} {es:List (κ×T)}:kk.is k e.key=true->e.hash=kk.hash k->Rep w g e.val t->EKV kk g en es->EKV kk g (e::en) ((k,t)::es)
theorem EKV.map{κ:Type}[DecidableEq κ]{prog:Program}{w:World}{kk:PySem.KeyKind prog w κ}{g:Gh}{en:List DictEntry}{es:List (κ×T)}(h:EKV kk g en es):(∀e∈en,∃k,kk.is k e.key=true∧e.hash=kk.hash k) ∧
  ∀k,(dget k es=none->findBy kk.is en.toArray k=none)∧∀t,dget k es=some t->∃v,findBy kk.is en.toArray k=some v∧Rep w g v t:=by
 induction h with
 | nil=>exact⟨fun e he=>absurd he j5,fun k=>⟨fun z_=>rfl,fun t h=>(j6 h).elim⟩⟩
 | @cons e y t en es h1 h2 r _ ih=>
  refine⟨fun e' he=>(ql.mp he).elim (fun q=>q▸(i12 y h1 h2)) (ih.1 e'),fun k=>?_⟩
  have f:findBy kk.is (e::en).toArray k=if y=k then some e.val else findBy kk.is en.toArray k:=by
   simp only [findBy]
   refine rwg (List.find?_toArray _ _)<|rwg (List.find?_toArray _ _)<|rwg List.find?_cons ?_
   by_cases z:y=k
   ·refine rwg (if_pos z)<|rwl z<|rwg h1 ?_;rfl
   ·refine rwg (if_neg z) ?_
    induction q:kk.is k e.key using qg with
    | false=>rfl
    | true=>exact absurd (kk.inj _ _ _ h1 q) z
  refine rwg f ?_
  refine rwg (dget.eq_2 _ _ _ _) ?_
  by_cases z:y=k
  ·refine rwg (if_pos z)<|rwg (if_pos z) ?_;exact⟨fun h=>(j6 h.symm).elim,fun t h=>i12 _ rfl (qd h▸r)⟩
  ·refine rwg (if_neg z)<|rwg (if_neg z) ?_;exact ih.2 k
theorem EKV.kv{κ:Type}[DecidableEq κ]{prog:Program}{w:World}{kk:PySem.KeyKind prog w κ}{g:Gh}{en:List DictEntry}{es:List (κ×T)}(h:EKV kk g en es):∃kvs:List (κ×Value),Pairs kk en kvs∧DKV w g kvs es:=by
 induction h with
 | nil=>exact i12 [] .nil .nil
 | @cons e y t en es h1 h2 r _ ih=>refine e12 ih fun kvs a b=>?_;clear ih;exact i12 ((y,e.val)::kvs) (.cons h1 rfl a) (.cons r b)
theorem DKV.inv{κ:Type}{w:World}{g:Gh}{k:κ}{v:Value}{a:List (κ×Value)}{b:List (κ×T)}(h:DKV w g ((k,v)::a) b):∃t b',b=(k,t)::b'∧Rep w g v t∧DKV w g a b':=by cases h with | cons r q=>exact i23 _ _ rfl r q
theorem DKV.nil_inv{κ:Type}{w:World}{g:Gh}{b:List (κ×T)}(h:DKV w g [] b):b=[]:=by rcases h with ⟨⟩;rfl
theorem DKV.ekv{κ:Type}[DecidableEq κ]{prog:Program}{w:World}{kk:PySem.KeyKind prog w κ}{g:Gh}{en:List DictEntry}{kvs:List (κ×Value)}{es:List (κ×T)}(h:Pairs kk en kvs):(∀e∈en,∃k,kk.is k e.key=true∧e.hash=kk.hash k)->DKV w g kvs es->EKV kk g en es:=by
 induction h generalizing es with
 | nil=>intro _ q;refine rwg q.nil_inv ?_;exact .nil
 | cons k1 k2 _ ih=>
  intro hh q
  refine e23 q.inv fun t es zz=>?_;subst zz;intro r q
  refine e12 (hh _ (.head _)) fun k z1 z2=>?_
  exact .cons k1 (kk.inj _ _ _ k1 z1▸z2) (k2▸r) (ih (fun e he=>hh e (.tail _ he)) q)
theorem RepD.ekv{w:World}{g:Gh}(prog:Program){en:List DictEntry}{es:List (Str×T)}(h:RepD w g en es):EKV (strKind prog w) g en es:=
 RepD.ind (m:=EKV (strKind prog w) g) .nil (fun h r z_ ih=>.cons (by obtain⟨⟨t,e1⟩,_⟩:=h;refine rwg e1 ?_;exact mt _ _ _ _) h.2 r ih) h
theorem RepI.ekv{w:World}{g:Gh}(prog:Program){en:List DictEntry}{es:List (Int×T)}(h:RepI w g en es):EKV (intKind prog w) g en es:=
 RepI.ind (m:=EKV (intKind prog w) g) .nil (fun h r z_ ih=>.cons (by obtain⟨⟨t,e1⟩,_⟩:=h;refine rwg e1 ?_;exact qch _ _ _ _) h.2 r ih) h
theorem EKV.repD{w:World}{g:Gh}{prog:Program}{en:List DictEntry}{es:List (Str×T)}(h:EKV (strKind prog w) g en es):RepD w g en es:=by
 induction h with
 | nil=>exact .nil
 | cons h1 h2 r _ ih=>exact .cons ⟨Value.isStrOf_shape h1,h2⟩ r ih
theorem EKV.repI{w:World}{g:Gh}{prog:Program}{en:List DictEntry}{es:List (Int×T)}(h:EKV (intKind prog w) g en es):RepI w g en es:=by
 induction h with
 | nil=>exact .nil
 | cons h1 h2 r _ ih=>exact .cons ⟨Value.isInt_shape h1,h2⟩ r ih
theorem RepD.map{w:World}{g:Gh}(prog:Program){en:List DictEntry}{es:List (Str×T)}(h:RepD w g en es):(∀e∈en,∃k,(strKind prog w).is k e.key=true∧e.hash=(strKind prog w).hash k) ∧
  ∀k,(dget k es=none->findBy (strKind prog w).is en.toArray k=none)∧∀t,dget k es=some t->∃v,findBy (strKind prog w).is en.toArray k=some v∧Rep w g v t:=(h.ekv prog).map
theorem RepI.map{w:World}{g:Gh}(prog:Program){en:List DictEntry}{es:List (Int×T)}(h:RepI w g en es):(∀e∈en,∃k,(intKind prog w).is k e.key=true∧e.hash=(intKind prog w).hash k) ∧
  ∀k,(dget k es=none->findBy (intKind prog w).is en.toArray k=none)∧∀t,dget k es=some t->∃v,findBy (intKind prog w).is en.toArray k=some v∧Rep w g v t:=(h.ekv prog).map
theorem um{w:World}{g:Gh}(prog:Program){h:Heap}{a:Addr}{o:Obj}{en:List DictEntry}{es:List (Str×T)}(e:h.get? a=some o)(ho:kq o en)(r:RepD w g en es):h.MapOf (strKind prog w) a (findBy (strKind prog w).is en.toArray):=by
 refine e11 ho fun n zz1=>?_;clear ho;subst zz1
 exact i35 _ en.toArray n e (i03 rfl rfl rfl) rfl (fun x hx=>(r.map prog).1 x (by exact(hx).1)) (fun z_=>rfl)
theorem q4w{w:World}{g:Gh}(prog:Program){h:Heap}{a:Addr}{o:Obj}{en:List DictEntry}{es:List (Int×T)}(e:h.get? a=some o)(ho:kq o en)(r:RepI w g en es):h.MapOf (intKind prog w) a (findBy (intKind prog w).is en.toArray):=by
 refine e11 ho fun n zz1=>?_;clear ho;subst zz1
 exact i35 _ en.toArray n e (i03 rfl rfl rfl) rfl (fun x hx=>(r.map prog).1 x (by exact(hx).1)) (fun z_=>rfl)
theorem Room.units_lt{A:Around}{n:Nat}(R:Room A n):A.units+100<cLine:=by have:=R.units;have:cLine=9900:=(by decide);lia
theorem qef{n:Nat}{e:Nat->Bool}(h:∀j,j<n->e j=true):(List.range n).all e=true:=qy.mpr fun j hj=>h j (List.mem_range.mp hj)
noncomputable def q7u(n:Nat)(xs ys:List T):Prop:=∀(j:Nat)(x y:T),xs[j]? = some x->ys[j]? = some y->teq n x y=some true
theorem q3z{n:Nat}:∀{xs ys:List T}{q:Bool},teq.go n xs ys=some q->q=true∧q7u n xs ys
 | [],[],q,h=>⟨(qd h).symm,fun j x y hx=>by trivial⟩
 | x::xs,y::ys,q,h=>by
  refine e12 (j9 (by exact h:opt (teq n x y) (fun b=>grd b (teq.go n xs ys))=some q)) fun b h1 h2=>?_
  refine e02 (jh h2) fun zz0 h4=>?_;subst zz0
  refine e02 (q3z h4) fun a d=>?_
  refine⟨a,fun j u v hu hv=>?_⟩
  induction j using Nat.casesOn with
  | zero=>rw[List.getElem?_cons_zero] at hu hv;refine rwl (qd hu)<|rwl (qd hv) ?_;exact h1
  | succ j=>rw[List.getElem?_cons_succ] at hu hv;exact d j u v hu hv
 | [],_::_,q,h=>(j6 h).elim
 | _::_,[],q,h=>(j6 h).elim
inductive ar(n:Nat):T->T->Bool->Prop
 | nn:ar n .none .none true
 | ns (x:Str):ar n .none (.str x) false
 | ni (i:Int):ar n .none (.int i) false
 | sn (x:Str):ar n (.str x) .none false
 | bb (x y:Bool):ar n (.bool x) (.bool y) (x==y)
 | ii (x y:Int):ar n (.int x) (.int y) (decide (x=y))
 | ss (x y:Str):ar n (.str x) (.str y) (decide (x=y))
 | ll {xs ys:List T}:xs.length=ys.length->q7u n xs ys->ar n (.list xs) (.list ys) true
 | ln {xs ys:List T}:xs.length≠ys.length->ar n (.list xs) (.list ys) false
 | tt {xs ys:List T}:xs.length=ys.length->q7u n xs ys->ar n (.tup xs) (.tup ys) true
theorem q22{n:Nat}{a b:T}{q:Bool}(h:teq (n+1) a b=some q):ar n a b q:=by
 induction a using T.casesOn with
 | none=>
  have h:q6s b=some q:=h
  cases b <;> first | exact(j6 h).elim | (obtain rfl:=qd h;constructor)
 | bool x=>
  refine e12 (j9 h) fun y h1 h2=>?_
  obtain rfl:=T.bool?_is h1
  obtain rfl:=qd h2
  exact .bb x y
 | int x=>
  refine e12 (j9 h) fun y h1 h2=>?_
  obtain rfl:=T.int?_is h1
  obtain rfl:=qd h2
  exact .ii x y
 | str x=>
  have h:qap x b=some q:=h
  cases b <;> first | exact(j6 h).elim | (obtain rfl:=qd h;constructor)
 | list xs=>
  refine e12 (j9 h) fun ys h1 h2=>?_
  obtain rfl:=T.list?_is h1
  induction z:decide (xs.length=ys.length) using qg with
  | true=>
   replace h2:=z▸h2
   refine e02 (q3z h2) fun zz0 h4=>?_;subst zz0
   exact .ll (of_decide_eq_true z) h4
  | false=>
   replace h2:=z▸h2
   obtain rfl:=qd h2
   exact .ln (of_decide_eq_false z)
 | tup xs=>
  refine e12 (j9 h) fun ys h1 h2=>?_
  obtain rfl:=T.tup?_is h1
  refine e02 (jh h2) fun z h3=>?_
  refine e02 (q3z h3) fun zz0 h4=>?_;subst zz0
  exact .tt (of_decide_eq_true z) h4
 | _=>exact(j6 h).elim
theorem RepL.sizes{w:World}{g:Gh}{vs us:List Value}{xs ys:List T}(r:RepL w g vs xs)(r':RepL w g us ys)(h:xs.length=ys.length):vs.toArray.size=us.toArray.size:=by
 exact rwg List.size_toArray<|rwg List.size_toArray<|rwg r.len<|rwg r'.len<|rwg h rfl
theorem RepL.nsizes{w:World}{g:Gh}{vs us:List Value}{xs ys:List T}(r:RepL w g vs xs)(r':RepL w g us ys)(h:xs.length≠ys.length):(vs.toArray.size != us.toArray.size)=true:=by
 refine rwg List.size_toArray<|rwg List.size_toArray<|rwg r.len<|rwg r'.len ?_;exact bne_iff_ne.mpr h
section
variable {w:World}{g:Gh}{s:Shared}
theorem gf{n:Nat}{A:Around}(ih:∀a b q,teq n a b=some q->∀u v,Rep w g u a->Rep w g v b->EqAt A s u v q){vs us:List Value}{xs ys:List T}(r:RepL w g vs xs)(r':RepL w g us ys)(hn:q7u n xs ys)(j:Nat)(h1:j<vs.toArray.size)(h2:j<us.toArray.size):EqAt A s vs.toArray[j] us.toArray[j] true:=by
 have h1':j<vs.length:=h1
 have h2':j<us.length:=h2
 have l1:j<xs.length:=r.len▸h1'
 have l2:j<ys.length:=r'.len▸h2'
 refine e12 (r.get (qt l1)) fun v1 e1 f1=>?_
 refine e12 (r'.get (qt l2)) fun v2 e2 f2=>?_
 rw[qt h1'] at e1
 rw[qt h2'] at e2
 have z:=ih _ _ _ (hn j _ _ (qt l1) (qt l2)) v1 v2 f1 f2
 rw[←qd e1,←qd e2] at z
 exact z
theorem q1r{n:Nat}:(List.range n).all (fun z_=>true)=true:=qef fun z_ z_=>rfl
theorem qao(H:Fits g s.heap):∀n a b q,teq n a b=some q->∀(A:Around) u v,A.units+n<cLine->Rep w g u a->Rep w g v b->EqAt A s u v q
 | 0,a,_,q,h=>by rcases a with ⟨⟩ <;> exact(j6 h).elim
 | n+1,a,b,q,h=>fun A u v hu ra rb=>by
  have hA:A.in1.units+n<cLine:=by refine(?_:A.units+1+n<cLine);exact a2 hu
  have hA1:A.units<cLine:=by exact Nat.lt_of_add_right_lt hu
  have ih:=fun a b q h u v=>qao H n a b q h A.in1 u v hA
  cases q22 h with
  | nn=>refine rwg ra.none_inv<|rwg rb.none_inv ?_;exact EqAt.same _
  | ns x=>refine e11 rb.str_inv fun t' zz1=>?_;subst zz1;refine rwg ra.none_inv ?_;exact EqAt.none_str _ _
  | ni i=>refine e11 rb.int_inv fun t' zz1=>?_;subst zz1;refine rwg ra.none_inv ?_;exact EqAt.none_int _ _
  | sn x=>refine e11 ra.str_inv fun t' zz1=>?_;subst zz1;refine rwg rb.none_inv ?_;exact EqAt.str_none _ _
  | bb x y=>refine rwg ra.bool_inv<|rwg rb.bool_inv ?_;exact EqAt.bool_bool _ _
  | ii x y=>refine e11 ra.int_inv fun t zz1=>?_;subst zz1;refine e11 rb.int_inv fun t' zz1=>?_;subst zz1;exact EqAt.int_int _ _ _ _
  | ss x y=>refine e11 ra.str_inv fun t zz1=>?_;subst zz1;refine e11 rb.str_inv fun t' zz1=>?_;subst zz1;exact EqAt.str_str _ _ _ _
  | ll hl hj=>
   refine e32 ra.list_inv fun a' o vs zz3 L=>?_;subst zz3
   refine e32 rb.list_inv fun b' o' us zz3 L'=>?_;subst zz3
   by_cases hab:a'=b'
   ·refine rwg hab ?_;exact EqAt.same _
   ·have:=RcAt.lists (e:=fun z_=>true) (L.o.at (H.exact L.at_ (jb rfl))) (L'.o.at (H.exact L'.at_ (jb rfl))) (L.r.sizes L'.r hl) hA1 (gf ih L.r L'.r hj)
    rw[q1r] at this
    exact EqAt.of_refs hab this
  | ln hl=>
   refine e32 ra.list_inv fun a' o vs zz3 L=>?_;subst zz3
   refine e32 rb.list_inv fun b' o' us zz3 L'=>?_;subst zz3
   by_cases hab:a'=b'
   ·subst hab
    have e:o=o':=congrArg (·.2) (qd (L.at_.symm.trans L'.at_))
    refine e11 L.o fun n1 e1=>?_
    refine e11 L'.o fun n2 e2=>?_
    have e:=congrArg Obj.data (e1.symm.trans (e.trans e2))
    have e:=congrArg List.length ((Array.mk.inj (Data.seq.inj e).1):vs=us)
    exact absurd (L.r.len.symm.trans (e.trans L'.r.len)) hl
   ·exact EqAt.of_refs hab (RcAt.lists_lengths (L.o.at (H.exact L.at_ (jb rfl))) (L'.o.at (H.exact L'.at_ (jb rfl))) (L.r.nsizes L'.r hl) hA1)
  | tt hl hj=>
   refine e32 ra.tup_inv fun a' o vs zz3 L=>?_;subst zz3
   refine e32 rb.tup_inv fun b' o' us zz3 L'=>?_;subst zz3
   by_cases hab:a'=b'
   ·refine rwg hab ?_;exact EqAt.same _
   ·have:=RcAt.tuples (e:=fun z_=>true) (L.o.at (H.exact L.at_ (jb rfl))) (L'.o.at (H.exact L'.at_ (jb rfl))) hA1 (gf ih L.r L'.r hj)
    rw[q1r,L.r.sizes L'.r hl] at this
    exact EqAt.of_refs hab (by simpa using this)
end
noncomputable def isS(x:Str):Value->Bool
 | .str z _=>z==x
 | _=>false
theorem q7g{w:World}{g:Gh}{x:Str}:∀{vs:List Value}{xs:List T}{q:Bool},RepL w g vs xs->q0z x xs=some q->vs.any (isS x)=q∧∀v∈vs,∃y t,v = .str y t:=by
 intro vs xs q h
 refine RepL.ind (m:=fun vs xs=>∀q,q0z x xs=some q->vs.any (isS x)=q∧∀v∈vs,∃y t,v = .str y t) ?_ ?_ h q
 ·intro q h
  exact⟨qd h,fun v hv=>nomatch hv⟩
 ·intro v t vs ts h r ih q e
  refine e12 (j9 (by exact e:opt t.str? (fun y=>opt (q0z x _) fun b=>some (decide (y=x) || b))=some q)) fun y h1 h2=>?_
  refine e12 (j9 h2) fun b h3 h4=>?_
  obtain rfl:=T.str?_is h1
  obtain rfl:=qd h4
  refine e11 h.str_inv fun t zz1=>?_;subst zz1
  refine e02 (ih _ h3) fun a1 a2=>?_
  refine⟨by refine rwg List.any_cons<|rwg a1 ?_;rfl,fun v hv=>?_⟩
  rcases ql.mp hv with rfl | hv
  ·exact i21 _ _ rfl
  ·exact a2 v hv
section
variable {c:CC}{g:Gh}{sg:List SO}{s:Shared}{A:Around}{u v:Value}{sh sh':Bool}{q:Bool}
structure qls(w:World)(g:Gh)(sh:Bool)(xs:List T)(a:Addr)(k:Kd)(o:Obj)(vs:List Value):Prop where
 at_:g a=some (k,o)
 lk:LookK sh k
 o:OList o vs
 r:RepL w g vs xs
structure qm1(w:World)(g:Gh)(sh:Bool)(xs:List (Str×T))(a:Addr)(k:Kd)(o:Obj)(en:List DictEntry):Prop where
 at_:g a=some (k,o)
 lk:LookK sh k
 o:kq o en
 r:RepD w g en xs
theorem CRep.list_inv{w:World}{xs:List T}(h:CRep w g v sh (.list xs)):∃a k o vs,v = .ref a∧qls w g sh xs a k o vs:=e45 h fun a k o vs e h1 h2 h3 h4=>(i42 a k o vs e ⟨h1,h2,h3,h4⟩)
theorem CRep.dict_inv{w:World}{xs:List (Str×T)}(h:CRep w g v sh (.dict xs)):∃a k o en,v = .ref a∧qm1 w g sh xs a k o en:=e45 h fun a k o vs e h1 h2 h3 h4=>(i42 a k o vs e ⟨h1,h2,h3,h4⟩)
theorem CRep.int_inv{w:World}{i:Int}(h:CRep w g v sh (.int i)):∃t,v = .int i t:=Rep.int_inv h
theorem CRep.str_inv{w:World}{i:Str}(h:CRep w g v sh (.str i)):∃t,v = .str i t:=Rep.str_inv h
theorem bc{w:World}{t:T}(h:CRep w g v sh t):(v==Value.none)=t.isNone:=by
 have key:Rep w g v t->(v==Value.none)=t.isNone:=fun h=>by cases h <;> rfl
 induction t using T.casesOn with
 | list xs=>refine e41 h fun a k o vs zz4=>?_;clear h;obtain⟨rfl,_⟩:=zz4;rfl
 | dict xs=>refine e41 h fun a k o vs zz4=>?_;clear h;obtain⟨rfl,_⟩:=zz4;rfl
 | _=>exact key h
structure Cmp2(c:CC)(A:Around)(s:Shared)(u v:Value)(q:Bool):Prop where
 eq:∀{Q:Value->Shared->Prop},Q (.bool q) s->wpAny (model c.prog c.w) A (compareOp .Eq u v) Q no s
 ne:∀{Q:Value->Shared->Prop},Q (.bool (!q)) s->wpAny (model c.prog c.w) A (compareOp .NotEq u v) Q no s
theorem qd6(H:Hp c g sg s)(R:Room A 1){a b:T}(h:teq 40 a b=some q)(ha:CRep c.w g u sh a)(hb:CRep c.w g v sh' b):Cmp2 c A s u v q:=by
 have hu:=R.units_lt
 have hA:A.units<cLine:=by exact ltSL hu rfl
 have ih:=fun a b q h u v=>qao (w:=c.w) H.fits 39 a b q h A.in1 u v (by refine(?_:A.units+1+39<cLine);exact Nat.lt_of_le_of_lt (Nat.add_le_add_left (by decide:40≤100) _) hu)
 cases q22 h with
 | nn=>refine rwg (Rep.none_inv ha)<|rwg (Rep.none_inv hb) ?_;exact⟨RcAt.none_none _ _ _ _,RcNeAt.none_none _ _ _ _⟩
 | ns x=>refine e11 (Rep.str_inv hb) fun t' zz1=>?_;subst zz1;refine rwg (Rep.none_inv ha) ?_;exact⟨RcAt.none_str _ _ _ _ _ _,RcNeAt.none_str _ _ _ _ _ _⟩
 | ni i=>refine e11 (Rep.int_inv hb) fun t' zz1=>?_;subst zz1;refine rwg (Rep.none_inv ha) ?_;exact⟨RcAt.none_int _ _ _ _ _ _,RcNeAt.none_int _ _ _ _ _ _⟩
 | sn x=>refine e11 (Rep.str_inv ha) fun t' zz1=>?_;subst zz1;refine rwg (Rep.none_inv hb) ?_;exact⟨RcAt.str_none _ _ _ _ _ _,RcNeAt.str_none _ _ _ _ _ _⟩
 | bb x y=>refine rwg (Rep.bool_inv ha)<|rwg (Rep.bool_inv hb) ?_;exact⟨RcAt.bool_bool _ _ _ _ _ _,RcNeAt.bool_bool _ _ _ _ _ _⟩
 | ii x y=>refine e11 (Rep.int_inv ha) fun t zz1=>?_;subst zz1;refine e11 (Rep.int_inv hb) fun t' zz1=>?_;subst zz1;exact⟨RcAt.int_int _ _ _ _ _ _ _ _,RcNeAt.int_int _ _ _ _ _ _ _ _⟩
 | ss x y=>refine e11 (Rep.str_inv ha) fun t zz1=>?_;subst zz1;refine e11 (Rep.str_inv hb) fun t' zz1=>?_;subst zz1;exact⟨RcAt.str_str _ _ _ _ _ _ _ _,RcNeAt.str_str _ _ _ _ _ _ _ _⟩
 | ll hl hj=>
  refine e42 (CRep.list_inv ha) fun a' k o vs zz4 L=>?_;subst zz4
  refine e42 (CRep.list_inv hb) fun b' k' o' us zz4 L'=>?_;subst zz4
  have x:=RcAt.lists (e:=fun z_=>true) (L.o.at (H.fits.exact L.at_ L.lk.nf.1)) (L'.o.at (H.fits.exact L'.at_ L'.lk.nf.1)) (L.r.sizes L'.r hl) hA (gf ih L.r L'.r hj)
  have y:=RcNeAt.lists (e:=fun z_=>true) (L.o.at (H.fits.exact L.at_ L.lk.nf.1)) (L'.o.at (H.fits.exact L'.at_ L'.lk.nf.1)) (L.r.sizes L'.r hl) hA (gf ih L.r L'.r hj)
  rw[q1r] at x y
  exact⟨x _ _ _ _,y _ _ _ _⟩
 | ln hl=>
  refine e42 (CRep.list_inv ha) fun a' k o vs zz4 L=>?_;subst zz4
  refine e42 (CRep.list_inv hb) fun b' k' o' us zz4 L'=>?_;subst zz4
  exact⟨RcAt.lists_lengths (L.o.at (H.fits.exact L.at_ L.lk.nf.1)) (L'.o.at (H.fits.exact L'.at_ L'.lk.nf.1)) (L.r.nsizes L'.r hl) hA _ _ _ _,RcNeAt.lists_lengths (L.o.at (H.fits.exact L.at_ L.lk.nf.1)) (L'.o.at (H.fits.exact L'.at_ L'.lk.nf.1)) (L.r.nsizes L'.r hl) hA _ _ _ _⟩
 | tt hl hj=>
  refine e32 (Rep.tup_inv ha) fun a' o vs zz3 L=>?_;subst zz3
  refine e32 (Rep.tup_inv hb) fun b' o' us zz3 L'=>?_;subst zz3
  have x:=RcAt.tuples (e:=fun z_=>true) (L.o.at (H.fits.exact L.at_ (jb rfl))) (L'.o.at (H.fits.exact L'.at_ (jb rfl))) hA (gf ih L.r L'.r hj)
  have y:=RcNeAt.tuples (e:=fun z_=>true) (L.o.at (H.fits.exact L.at_ (jb rfl))) (L'.o.at (H.fits.exact L'.at_ (jb rfl))) hA (gf ih L.r L'.r hj)
  rw[q1r,L.r.sizes L'.r hl,beq_self_eq_true,Bool.true_and] at x y
  exact⟨x _ _ _ _,y _ _ _ _⟩
structure In2(c:CC)(A:Around)(s:Shared)(u v:Value)(q:Bool):Prop where
 in_:∀{Q:Value->Shared->Prop},(∀s',Still s s'->Q (.bool q) s')->wpAny (model c.prog c.w) A (compareOp .In u v) Q no s
 notIn:∀{Q:Value->Shared->Prop},(∀s',Still s s'->Q (.bool (!q)) s')->wpAny (model c.prog c.w) A (compareOp .NotIn u v) Q no s
theorem qcl(H:Hp c g sg s){k t:T}(h:inT k t=some q)(ha:CRep c.w g u sh k)(hb:CRep c.w g v sh' t):In2 c A s u v q:=by
 have E:∀{vs:List Value}{x:Str}{t:Tok},(∀v∈vs,∃y t,v = .str y t)->∀y,y∈vs.toArray->EqAt A.in1 s y (.str x t) (isS x y):=by
  intro vs x t h y hy
  refine e21 (h y (by exact(hy).1)) fun z t' zz2=>?_;subst zz2
  exact EqAt.str_str _ _ _ _
 refine e12 (j9 h) fun x h1 h2=>?_
 obtain rfl:=T.str?_is h1
 refine e11 ha.str_inv fun t' zz1=>?_;subst zz1
 induction t using T.casesOn with
 | list xs=>
  refine e42 (CRep.list_inv hb) fun a' kk o vs zz4 L=>?_;subst zz4
  refine e02 (q7g L.r h2) fun a1 a2=>?_
  replace a1:=(Eq.symm List.any_toArray)▸a1
  have L1:=L.o.at (H.fits.exact L.at_ L.lk.nf.1)
  exact⟨fun k=>in_listAt _ L1 (E a2) (a1.symm▸k s (Still.of s)),fun k=>notIn_listAt _ L1 (E a2) (a1.symm▸k s (Still.of s))⟩
 | tup xs=>
  refine e32 (Rep.tup_inv hb) fun a' o vs zz3 L=>?_;subst zz3
  refine e02 (q7g L.r h2) fun a1 a2=>?_
  replace a1:=(Eq.symm List.any_toArray)▸a1
  have L1:=L.o.at (H.fits.exact L.at_ (jb rfl))
  exact⟨fun k=>in_tupleAt _ L1 (E a2) (a1.symm▸k s (Still.of s)),fun k=>notIn_tupleAt _ L1 (E a2) (a1.symm▸k s (Still.of s))⟩
 | dict es=>
  refine e42 (CRep.dict_inv hb) fun a' kk o en zz4 D=>?_;subst zz4
  have M:=um c.prog (H.fits.exact D.at_ D.lk.nf.1) D.o D.r
  have e:(findBy (strKind c.prog c.w).is en.toArray x).isSome=q:=by
   refine rwl (qd h2) ?_
   obtain⟨z1,z2⟩:=(D.r.map c.prog).2 x
   induction q:dget x es using qe with
   | none=>refine rwg (z1 q) ?_;rfl
   | some t=>obtain⟨v,z,_⟩:=z2 t q;refine rwg z ?_;rfl
  exact⟨fun k=>wpAny_in_of (mt _ _ _ _) (H.notSys D.at_ D.lk.nf.2) M (e.symm▸k _ (Still.tok s _)),fun k=>wpAny_notIn_of (mt _ _ _ _) (H.notSys D.at_ D.lk.nf.2) M (e.symm▸k _ (Still.tok s _))⟩
 | _=>exact(j6 h2).elim
theorem q2j{x:Option Bool}(h:noT x=some q):∃b,x=some b∧q=!b:=by
 refine e12 (j9 h) fun b h1 h2=>?_
 exact i12 b h1 (qd h2).symm
theorem qgs(H:Hp c g sg s)(R:Room A 1){op:CmpOp}{a b:T}(h:uu op a b=some q)(ha:CRep c.w g u sh a)(hb:CRep c.w g v sh' b){Q:Value->Shared->Prop}(k:∀s',Still s s'->Q (.bool q) s'):
  wpAny (model c.prog c.w) A (compareOp op u v) Q no s:=by
 induction op using CmpOp.casesOn with
 | Eq=>exact(qd6 H R h ha hb).eq (k s (Still.of s))
 | NotEq=>refine e12 (q2j h) fun b h1 zz2=>?_;subst zz2;exact(qd6 H R h1 ha hb).ne (k s (Still.of s))
 | Lt=>
  refine e12 (j9 h) fun i h1 h2=>?_
  refine e12 (j9 h2) fun j h3 h4=>?_
  obtain rfl:=T.int?_is h1
  obtain rfl:=T.int?_is h3
  obtain rfl:=qd h4
  refine e11 ha.int_inv fun t zz1=>?_;subst zz1;refine e11 hb.int_inv fun t' zz1=>?_;subst zz1
  exact PyProof.Rows.lt_int (k s (Still.of s))
 | Gt=>
  refine e12 (j9 h) fun i h1 h2=>?_
  refine e12 (j9 h2) fun j h3 h4=>?_
  obtain rfl:=T.int?_is h1
  obtain rfl:=T.int?_is h3
  obtain rfl:=qd h4
  refine e11 ha.int_inv fun t zz1=>?_;subst zz1;refine e11 hb.int_inv fun t' zz1=>?_;subst zz1
  exact PyProof.Rows.gt_int (k s (Still.of s))
 | Is=>
  refine e02 (jh h) fun h1 h2=>?_
  obtain rfl:=qd h2
  have hv:v=Value.none:=by have:=bc hb;rw[h1] at this;exact beq_iff_eq.mp this
  refine rwg hv ?_
  exact is_none (bc ha▸k s (Still.of s))
 | IsNot=>
  refine e02 (jh h) fun h1 h2=>?_
  obtain rfl:=qd h2
  have hv:v=Value.none:=by have:=bc hb;rw[h1] at this;exact beq_iff_eq.mp this
  refine rwg hv ?_
  exact isNot_none (bc ha▸k s (Still.of s))
 | In=>exact(qcl H h ha hb).in_ k
 | NotIn=>refine e12 (q2j h) fun b h1 zz2=>?_;subst zz2;exact(qcl H h1 ha hb).notIn k
 | _=>exact(j6 h).elim
end
theorem vh{e:qo}{E:Env}(h:okE e=true)(es:List qo):starEach (e::es) E=(false,qp e E)::starEach es E:=by
 induction e using Expr.casesOn with
 | Starred x p=>exact(jt h).elim
 | _=>rfl
theorem q6h{op:CmpOp}{e:qo}(h:okE e=true):behindInMarks op e=false:=by
 induction e using Expr.casesOn with
 | Set es p=>exact(jt h).elim
 | _=>rfl
section
variable {W:Cx}{f:Fns}{F:Fr'}{g:Gh}{st:St}{s:Shared}
theorem ow(H:Snd W f){pos:Pos}:∀{es:List qo}{st:St}{Q:List T->St->Prop}{g:Gh}{s:Shared}{K:List Value->Shared->Prop},evL (f.evalT F.sc) es st Q->Inv W.c F g st s ->
  (∀vs s' g' ts st',Inv W.c F g' st' s'->StepE g g'->RepL W.c.w g' vs ts->Q ts st'->K vs s')->WP W (spliced (backTo pos (starEach es F.E))) K s:=by
 intro es
 induction es with
 | nil=>
  intro st Q g s K h I k
  exact wpAny_items_nil (k _ _ g _ _ I (StepE.refl g) .nil h)
 | cons e es ih=>
  intro st Q g s K h I k
  have h:f.evalT F.sc e st (fun t st1=>evL (f.evalT F.sc) es st1 fun ts st2=>Q (t::ts) st2):=h
  refine wpAny_items_cons (H.evalT h I fun v s1 g1 t st1 I1 S1 z1 q1=>?_) (vh (H.okT h) es)
  exact ih q1 I1 fun vs s2 g2 ts st2 I2 S2 z2 q2=>k _ _ g2 _ _ I2 (S1.trans S2) (.cons (z1.mono S2.mono) z2) q2
theorem q8i(H:Snd W f){pos:Pos}:∀{es:List qo}{st:St}{Q:List T->St->Prop}{g:Gh}{s:Shared}{K:List Value->Shared->Prop},es.all quiet=true->evL (f.evalT F.sc) es st Q->Inv W.c F g st s ->
  (∀vs s' g' ts st',Inv W.c F g' st' s'->QStep g g'->RepL W.c.w g' vs ts->Q ts st'->K vs s')->WP W (spliced (backTo pos (starEach es F.E))) K s:=by
 intro es
 induction es with
 | nil=>
  intro st Q g s K _ h I k
  exact wpAny_items_nil (k _ _ g _ _ I (QStep.refl g) .nil h)
 | cons e es ih=>
  intro st Q g s K hq h I k
  have h:f.evalT F.sc e st (fun t st1=>evL (f.evalT F.sc) es st1 fun ts st2=>Q (t::ts) st2):=h
  refine e02 (qh.mp (List.all_cons▸hq)) fun hq1 hq2=>?_
  refine wpAny_items_cons (H.qT hq1 h I fun v s1 g1 t st1 I1 S1 z1 q1=>?_) (vh (H.okT h) es)
  exact ih hq2 q1 I1 fun vs s2 g2 ts st2 I2 S2 z2 q2=>k _ _ g2 _ _ I2 (S1.trans S2) (.cons (z1.mono S2.mono) z2) q2
theorem RepL.chk{w:World}{vs:List Value}{ts:List T}(r:RepL w g vs ts)(h:ts.length≤LIM):vs.length≤sizeLine:=by refine rwg r.len ?_;exact ws h
theorem ub{c:CC}{A:Around}{E:Env}{k:Const}{m:Nat}{p:Pos}{t:T}(h:me k=some t){Q:Value->Shared->Prop}(hQ:∀v s',Rep c.w g v t->Still s s'->Q v s'){Er:Value->Shared->Prop}:wpAny (model c.prog c.w) A (qp (.Constant k m p) E) Q Er s:=by
 induction k using Const.casesOn with
 | none=>obtain rfl:=qd h;exact wpAny_Constant_none (hQ _ _ .none (Still.of s))
 | bool b=>obtain rfl:=qd h;exact wpAny_Constant_bool (hQ _ _ (.bool _) (Still.of s))
 | int i=>obtain rfl:=qd h;exact wpAny_Constant_int (hQ _ _ (.int _ _) (Still.tok s _))
 | str x=>obtain rfl:=qd h;exact wpAny_Constant_str (hQ _ _ (.str _ _) (Still.tok s _))
 | _=>exact(j6 h).elim
theorem qfa(H:Snd W f){e:qo}{Q:Ent->St->Prop}{K:Value->Shared->Prop}(hq:quiet e=true)(h:ix f F.sc e st Q)(I:Inv W.c F g st s)(k:KRq W F g Q K):WP W (qp e F.E) K s:=by
 induction e using Expr.casesOn with
 | Name x p=>exact H.qT hq h I fun v s' g' t st' I' S z q=>k v s' g' (.val t) st' I' S z q
 | Constant c i p=>
  refine e12 (jd (by exact h:jk (me c) (fun t=>Q (.val t) st))) fun t h1 h2=>?_
  exact ub h1 fun v s' z w=>k v s' g (.val t) st (I.still w) (QStep.refl g) z h2
 | List es p=>
  induction es using qf with
  | cons e es=>exact(jt hq).elim
  | nil=>
   obtain⟨_,h2⟩:=jj (by exact h:gd (decide (([]:List T).length≤LIM)) (Q (.list []) st))
   refine wpAny_List (wpAny_items_nil ⟨Nat.zero_le _,?_⟩)
   exact k _ _ _ (.list []) st (I.push (.mine "#" .main) (fun z_ z_=>jb rfl) (o:=listOf [].toArray 0) rfl) (QStep.new I.fits.new) (i34 _ _ _ rfl jf ⟨0,rfl⟩ .nil) h2
 | _=>exact(jt hq).elim
theorem qf9(H:Snd W f){e:qo}{Q:T->St->Prop}{K:Value->Shared->Prop}(hq:quiet e=true)(h:fk f F.sc e st Q)(I:Inv W.c F g st s)(k:KTq W F g Q K):WP W (qp e F.E) K s:=by
 unfold fk at h
 induction q:zh e using qe with
 | none=>
  replace h:=q▸h
  exact H.qR hq h I fun v s' g' r st' I' S z q=>k v s' _ _ st' I'.frzTmp (S.trans (QStep.frz g' "#")) z.frz q
 | some x=>
  rw[q] at h
  refine e11 (xt q) fun p zz1=>?_;subst zz1
  have h:rz F.sc x st Q:=h
  unfold rz at h
  induction hk:q2x (jc F.sc x) using qg with
  | true=>
   refine e02 (jj (xi h hk)) fun a1 a2=>?_
   refine e12 (d7 a1) fun a ga hm=>?_
   exact vk I (bd hk) hm (k _ _ g _ _ I (QStep.refl g) (.glob ga) a2)
  | false=>
   refine e02 (jj (jy h hk)) fun a1 a2=>?_
   refine e12 (jd a2) fun r b1 b2=>?_
   exact yb I a1 b1 fun v z=>k _ _ _ _ _ (I.frz b1) (QStep.frz g x) z.frz b2
theorem qfb(H:Snd W f){e:qo}{Q:Ent->St->Prop}{K:Value->Shared->Prop}(hq:quiet e=true)(h:uw f F.sc e st Q)(I:Inv W.c F g st s)(k:KPq W F e g Q K):WP W (qp e F.E) K s:=by
 have other:(f.evalT F.sc e st fun t=>Q (.val t))->WP W (qp e F.E) K s:=fun h=>H.qT hq h I fun v s' g' t st' I' S z q=>k v s' g' _ st' I' S (.of_rep z) q
 unfold uw at h
 induction q:zh e using qe with
 | some x=>
  rw[q] at h
  have h:pw f F.sc x e st Q:=h
  skip
  induction hl:z8 (jc F.sc x) using qg with
  | false=>exact other (jy h hl)
  | true=>
   refine e12 (jd (xi h hl)) fun r h1 h2=>?_
   refine e11 (xt q) fun p zz1=>?_;subst zz1
   exact yb I hl h1 fun v z=>k _ _ g _ _ I (QStep.refl g) (.of_ent (I.fr.ne h1) z) h2
 | none=>
  replace h:=q▸h
  have h:orP (yk e) (fun q=>sr f F.sc q.o q.a st Q) (f.evalT F.sc e st fun t=>Q (.val t)):=h
  induction q2:yk e using qe with
  | none=>rw[q2] at h;exact other h
  | some a=>obtain rfl:=gv q2;exact(jt hq).elim
theorem qfc(H:Snd W f){e:qo}{Q:T->Bool->St->Prop}{K:Value->Shared->Prop}(hq:quiet e=true)(h:sv f F.sc e st Q)(I:Inv W.c F g st s)(k:KCq W F g Q K):WP W (qp e F.E) K s:=
 H.qP hq h I fun v s' g' z_ st' I' S p q=>e12 (jd q) fun t h1 h2=>k v s' g' t _ st' I' S (ua I'.toHp p h1) h2
theorem StepK.refl(x:Str)(g:Gh)(st:St):StepK x g g st st:=⟨QStep.refl g,fun z_ z_ z_ e=>e,rfl,rfl⟩
theorem qfy (H:Snd W f) {x:Str} {e:qo} {Q:T→St→Prop} {K:Value→Shared→Prop} (hq:ay F.sc x e=true) (hx:x≠"#") (h:fk f F.sc e st Q) (I:Inv W.c F g st s) (k:KTk W F x g st Q K):WP W (qp e F.E) K s:=by
 unfold fk at h
 induction q:zh e using qe with
 | none=>
  replace h:=q▸h
  exact H.kR hq hx h I fun v s' g' r st' I' S z q=>k v s' _ _ st' I'.frzTmp ⟨S.toQStep.trans (QStep.frz g' "#"),fun a p o e=>frz_other (S.own a p o e) fun p' w=>hx (by injection w),S.env,S.sg⟩ z.frz q
 | some y=>
  rw[q] at h
  refine e11 (xt q) fun p zz1=>?_;subst zz1
  have h:rz F.sc y st Q:=h
  unfold rz at h
  induction hk:q2x (jc F.sc y) using qg with
  | true=>
   refine e02 (jj (xi h hk)) fun a1 a2=>?_
   refine e12 (d7 a1) fun a ga hm=>?_
   exact vk I (bd hk) hm (k _ _ g _ _ I (StepK.refl x g st) (.glob ga) a2)
  | false=>
   refine e02 (jj (jy h hk)) fun a1 a2=>?_
   refine e12 (jd a2) fun r b1 b2=>?_
   have hy:y≠x:=by
    rcases Bool.or_eq_true_iff.mp hq with q | q
    ·exact of_decide_eq_true q
    ·have q:(!z8 (jc F.sc y))=true:=q
     rw[a1] at q;exact(jt q).elim
   exact yb I a1 b1 fun v z=>k _ _ _ _ _ (I.frz b1) ⟨QStep.frz g y,fun a p o e=>frz_other e fun p' w=>hy (by injection w with w1 _;exact w1.symm),za hy _ _,rfl⟩ z.frz b2
theorem qfz (H:Snd W f) {x:Str} {e:qo} {Q:Ent→St→Prop} {K:Value→Shared→Prop} (hq:ay F.sc x e=true) (hx:x≠"#") (h:ix f F.sc e st Q) (I:Inv W.c F g st s) (k:KRk W F x g st Q K):WP W (qp e F.E) K s:=by
 induction e using Expr.casesOn with
 | Name y p=>exact H.kT hq hx h I fun v s' g' t st' I' S z q=>k v s' g' (.val t) st' I' S z q
 | Constant c i p=>
  refine e12 (jd (by exact h:jk (me c) (fun t=>Q (.val t) st))) fun t h1 h2=>?_
  exact ub h1 fun v s' z w=>k v s' g (.val t) st (I.still w) (StepK.refl x g st) z h2
 | Attribute o a p=>
  refine H.kP (by refine rwg hq ?_;rfl) hx (by exact h:f.peek F.sc (.Attribute o a p) st (fun r st1=>jk r.val? fun t=>Q (.val t) st1)) I fun v s' g' r st' I' S z q=>?_
  refine e12 (jd q) fun t h1 h2=>?_
  induction r using Ent.casesOn with
  | val t'=>obtain rfl:=qd h1;exact k v s' g' (.val _) st' I' S z.val h2
  | _=>exact(j6 h1).elim
 | _=>exact(jt hq).elim
theorem qg0 (H:Snd W f) {x:Str} {e:qo} {Q:Ent→St→Prop} {K:Value→Shared→Prop} (hq:(ay F.sc x e || tu e)=true) (hx:x≠"#") (h:uw f F.sc e st Q) (I:Inv W.c F g st s) (k:KPk W F x e g st Q K):WP W (qp e F.E) K s:=by
 have other:ay F.sc x e=true->(f.evalT F.sc e st fun t=>Q (.val t))->WP W (qp e F.E) K s:=fun hq h=>H.kT hq hx h I fun v s' g' t st' I' S z q=>k v s' g' _ st' I' S (.of_rep z) q
 unfold uw at h
 induction q:zh e using qe with
 | some y=>
  rw[q] at h
  have h:pw f F.sc y e st Q:=h
  refine e11 (xt q) fun p zz1=>?_;subst zz1
  unfold pw at h
  induction hl:z8 (jc F.sc y) using qg with
  | false=>exact other (Bool.or_eq_true_iff.mpr (.inr (by(refine rwg hl ?_;rfl):(!z8 (jc F.sc y))=true))) (jy h hl)
  | true=>
   refine e12 (jd (xi h hl)) fun r h1 h2=>?_
   exact yb I hl h1 fun v z=>k _ _ g _ _ I (StepK.refl x g st) (.of_ent (I.fr.ne h1) z) h2
 | none=>
  replace h:=q▸h
  have h:orP (yk e) (fun q=>sr f F.sc q.o q.a st Q) (f.evalT F.sc e st fun t=>Q (.val t)):=h
  have hq':ay F.sc x e=true:=by
   rcases Bool.or_eq_true_iff.mp hq with z | z
   ·exact z
   ·cases e <;> first | exact(jt z).elim | exact(j6 (Eq.symm q)).elim
  induction q2:yk e using qe with
  | none=>replace h:=q2▸h;exact other hq' h
  | some a=>
   rw[q2] at h
   obtain rfl:=gv q2
   refine e02 (jj (by exact h:gd (zr a.o) (f.peek F.sc a.o st fun r st1=>jk (cf st1.sg a.a r) fun r'=>Q r' st1))) fun h1 h2=>?_
   have hn:tu a.o=true:=by
    rcases Bool.or_eq_true_iff.mp hq' with z | z
    ·exact z
    ·exact(jt z).elim
   refine ck h1 (H.kP (by exact rwg hn<|rwg (Bool.or_true _) rfl) hx h2 I fun v s1 g1 r st1 I1 S1 p1 q1=>?_)
   refine e12 (jd q1) fun r' h3 h4=>?_
   refine uy I1.toHp p1 h3 fun u p2=>k u _ g1 r' st1 I1.re S1 ?_ h4
   induction r' using Ent.casesOn with
   | val t=>exact .of_rep p2.val
   | list xs=>exact p2
   | dict es=>exact p2
   | inst C fs=>exact p2
theorem qbi(H:Snd W f){sc:Scope}{e:qo}{Q:Ent->St->Prop}(h:ix f sc e st Q):okE e=true:=by
 rcases e with ⟨⟩ <;> first | rfl | exact h.elim
theorem qbh(H:Snd W f){sc:Scope}{e:qo}{Q:T->St->Prop}(h:fk f sc e st Q):okE e=true:=by
 unfold fk at h
 induction q:zh e using qe with
 | none=>rw[q] at h;exact H.okR h
 | some x=>refine e11 (xt q) fun p zz1=>?_;subst zz1;rfl
theorem qbj(H:Snd W f){sc:Scope}{e:qo}{Q:Ent->St->Prop}(h:uw f sc e st Q):okE e=true:=by
 unfold uw at h
 induction q:zh e using qe with
 | some x=>refine e11 (xt q) fun p zz1=>?_;subst zz1;rfl
 | none=>
  rw[q] at h
  have h:orP (yk e) (fun q=>sr f sc q.o q.a st Q) (f.evalT sc e st fun t=>Q (.val t)):=h
  induction q2:yk e using qe with
  | none=>rw[q2] at h;exact H.okT h
  | some a=>obtain rfl:=gv q2;rfl
theorem qbl(H:Snd W f){sc:Scope}{e:qo}{Q:T->Bool->St->Prop}(h:sv f sc e st Q):okE e=true:=H.okP h
end
theorem dk{e:qo}{q:Cl}(h:li e=some q):e = .Call q.f q.as [] q.p:=by
 induction e using Expr.casesOn with
 | Call f as ks p=>
  refine e02 (jh (by exact h:grd ks.isEmpty (some (Cl.mk f as p))=some q)) fun h1 h2=>?_
  induction ks using qf with
  | nil=>exact rwl (qd h2) rfl
  | cons _ _=>exact(jt h1).elim
 | _=>exact(j6 h).elim
theorem qbk{W:Cx}{f:Fns}{st:St}(H:Snd W f){sc:Scope}{e:qo}{Q:List T->St->Prop}(h:r7 f sc e st Q):okE e=true:=by
 unfold r7 at h
 induction q:qf7 sc e using qe with
 | some x=>obtain⟨y,h1,_⟩:=j9 q;refine rwg (dk h1) ?_;rfl
 | none=>
  rw[q] at h
  have h:cnd (yd e) (f.peek sc e st fun r st1=>ask Ans.l? (q0u r) st1 Q) (f.evalT sc e st fun t st1=>ask Ans.l? (fj t) st1 Q):=h
  induction q2:yd e using qg with
  | true=>exact H.okP (xi h q2)
  | false=>exact H.okT (jy h q2)
theorem bw(slice:qo)(o i:Value):∃ops,subscripted slice false o i=operate ops (getItem o i):=by
 induction slice using Expr.casesOn with
 | Slice l u st p=>induction st using qe with
  | none=>exact⟨_,rfl⟩
  | some _=>exact⟨_,rfl⟩
 | _=>exact⟨_,rfl⟩
inductive IdxV(xs:List T)(i:Int)(t:T):Prop
 | pos:0≤i->i<2 ^ 63->xs[i.toNat]? = some t->IdxV xs i t
 | neg:i<0->-(xs.length:Int)≤i->-(2 ^ 63)≤i->xs[(i+xs.length).toNat]? = some t->IdxV xs i t
theorem qcm{xs:List T}{i:Int}{t:T}(h:idx xs i=some t):IdxV xs i t:=by
 unfold idx at h
 induction q:decide (0≤i) using qg with
 | true=>
  replace h:=q▸h
  refine e02 (jh h) fun h1 h2=>?_
  have h1:=of_decide_eq_true h1
  exact .pos (of_decide_eq_true q) (Int.lt_trans h1 (by decide)) h2
 | false=>
  replace h:=q▸h
  refine e02 (jh h) fun h1 h2=>?_
  obtain⟨a,b⟩:=qh.mp h1
  have a:=of_decide_eq_true a
  have b:=of_decide_eq_true b
  exact .neg (Int.not_le.mp (of_decide_eq_false q)) (by lia) (Int.le_trans (by decide) a) h2
theorem qb8{j:Int}{k:Nat}(h0:0≤j)(h1:j<k):seqIndex? j k=some j.toNat:=by
 unfold seqIndex?
 have:¬j<0:=Int.not_lt.mpr h0
 simp[this,h0,h1]
theorem qf2{j:Int}{k:Nat}(h0:j<0)(h1:-(k:Int)≤j):seqIndex? j k=some (j+k).toNat:=by
 unfold seqIndex?
 have a:0≤j+k:=by lia
 have b:j+k<k:=by lia
 simp[h0,a,b]
section
variable {W:Cx}{f:Fns}{F:Fr'}{g:Gh}{st:St}{s:Shared}{K:Value->Shared->Prop}
theorem qg1(I:Inv W.c F g st s){value slice:qo}{o i:Value}{sh:Bool}{b k t:T}(ho:CRep W.c.w g o sh b)(hi:Rep W.c.w g i k)(h:zu b k=some t)(hK:KV W F g st (.val t) K):WP W (subscriptTail value slice o i) K s:=by
 obtain⟨ops,hs⟩:=bw slice o i
 induction b using T.casesOn with
 | list xs=>
  refine e12 (j9 h) fun j h1 h2=>?_
  obtain rfl:=T.int?_is h1
  refine e42 (CRep.list_inv ho) fun a k' ob vs zz4 C=>?_;subst zz4
  refine e11 hi.int_inv fun tk zz1=>?_;subst zz1
  have L:=C.o.at (I.fits.exact C.at_ C.lk.nf.1)
  refine tail_any L.typeIs slot_list_getitem.lookup ?_ hs
  induction qcm h2 using IdxV.casesOn with
  | pos a1 a2 a3=>
   refine e12 (C.r.get a3) fun v e1 e2=>?_
   exact wpAny_getItem_list L a1 a2 (List.getElem?_toArray.trans e1) (xm I e2 hK)
  | neg a1 a2 a3 a4=>
   refine e12 (C.r.get a4) fun v e1 e2=>?_
   exact wpAny_getItem_list_neg L a1 (by refine rwg List.size_toArray<|rwg C.r.len ?_;exact a2) a3 (by refine rwg List.size_toArray<|rwg C.r.len ?_;exact List.getElem?_toArray.trans e1) (xm I e2 hK)
 | tup xs=>
  refine e12 (j9 h) fun j h1 h2=>?_
  obtain rfl:=T.int?_is h1
  refine e32 (Rep.tup_inv ho) fun a ob vs zz3 C=>?_;subst zz3
  refine e11 hi.int_inv fun tk zz1=>?_;subst zz1
  refine e11 (C.get I.fits) fun nn e0=>?_
  have L:IsTup s.heap a vs.toArray:=C.o.at (I.fits.exact C.at_ (jb rfl))
  refine tail_any (i12 _ e0 rfl) slot_tuple_getitem.lookup ?_ hs
  induction qcm h2 using IdxV.casesOn with
  | pos a1 a2 a3=>
   refine e12 (C.r.get a3) fun v e1 e2=>?_
   have lt:j.toNat<vs.length:=(List.getElem?_eq_some_iff.mp e1).1
   exact PyProof.Rows.getItem_tuple L (Int.le_trans (by decide) a1) a2 (qb8 a1 (by refine rwg List.size_toArray ?_;exact(Int.toNat_lt a1).mp lt)) (List.getElem?_toArray.trans e1) (xm I e2 hK)
  | neg a1 a2 a3 a4=>
   refine e12 (C.r.get a4) fun v e1 e2=>?_
   exact PyProof.Rows.getItem_tuple L a3 (Int.lt_trans a1 (by decide)) (qf2 a1 (by refine rwg List.size_toArray<|rwg C.r.len ?_;exact a2)) (by refine rwg List.size_toArray<|rwg C.r.len ?_;exact List.getElem?_toArray.trans e1) (xm I e2 hK)
 | dict es=>
  refine e12 (j9 h) fun x h1 h2=>?_
  obtain rfl:=T.str?_is h1
  refine e42 (CRep.dict_inv ho) fun a k' ob en zz4 C=>?_;subst zz4
  refine e11 hi.str_inv fun tk zz1=>?_;subst zz1
  have M:=um W.c.prog (I.fits.exact C.at_ C.lk.nf.1) C.o C.r
  obtain⟨v,e1,e2⟩:=((C.r.map W.c.prog).2 x).2 t h2
  exact tail_any M.typeIs slot_dict_getitem.lookup (wpAny_getItem_of (mt _ _ _ _) M e1 (xm I e2 hK)) hs
 | idict es=>
  refine e12 (j9 h) fun x h1 h2=>?_
  obtain rfl:=T.int?_is h1
  have ho:Rep W.c.w g o (.idict es):=ho
  cases ho with
  | idict b1 b3 b4=>
   refine e11 hi.int_inv fun tk zz1=>?_;subst zz1
   have M:=q4w W.c.prog (I.fits.exact b1 (jb rfl)) b3 b4
   obtain⟨v,e1,e2⟩:=((b4.map W.c.prog).2 x).2 t h2
   exact tail_any M.typeIs slot_dict_getitem.lookup (wpAny_getItem_of (qch _ _ _ _) M e1 (xm I e2 hK)) hs
 | _=>exact(j6 h).elim
end
section
variable {W:Cx}{f:Fns}{F:Fr'}{g:Gh}{st:St}{s:Shared}{K:Value->Shared->Prop}{Q:Ent->St->Prop}
theorem q87{e:qo}{q:Sl}(h:q4a e=some q):∃p,e = .Slice q.lo q.up q.st p:=by
 rcases e with ⟨⟩ <;> first | (cases h;exact⟨_,rfl⟩) | exact(j6 h).elim
theorem KR.of_kv(k:KR W F g Q K){g':Gh}{st':St}{r:Ent}(S:StepE g g')(q:Q r st'):KV W F g' st' r K:=fun v s'' g'' I'' S'' z=>k v s'' g'' r st' I'' (S.trans S'') z q
theorem qd2(H:Snd W f){l op r p}(h:qd5 f F.sc op l r st Q)(I:Inv W.c F g st s)(k:KR W F g Q K):WP W (qp (.BinOp l op r p) F.E) K s:=by
 refine wpAny_BinOp (H.evalT h I fun u s1 g1 a st1 I1 S1 z1 q1=>?_)
 refine H.evalT q1 I1 fun v s2 g2 b st2 I2 S2 z2 q2=>?_
 refine e22 (zc q2) fun x as h1 h2=>?_
 exact qgw h1 (I2.tell as) (z1.mono S2.mono) z2 (k.of_kv (S1.trans S2) h2)
theorem q5n(H:Snd W f){op x p}(h:qjb f F.sc op x st Q)(I:Inv W.c F g st s)(k:KR W F g Q K):WP W (qp (.UnaryOp op x p) F.E) K s:=by
 refine wpAny_UnaryOp (H.evalT h I fun u s1 g1 t st1 I1 S1 z1 q1=>?_)
 refine e12 (jd q1) fun t' h1 h2=>?_
 induction op using UnaryOp.casesOn with
 | USub=>
  refine e12 (j9 h1) fun i h3 h4=>?_
  obtain rfl:=T.int?_is h3
  obtain rfl:=qd h4
  refine e11 z1.int_inv fun t zz1=>?_;subst zz1
  exact PyProof.Rows.neg_int (k _ _ _ (.val (.int (-i))) _ (I1.still (Still.tok _ _)) S1 (.int _ _) h2)
 | Not=>
  refine e12 (j9 h1) fun i h3 h4=>?_
  obtain rfl:=T.bool?_is h3
  obtain rfl:=qd h4
  refine rwg z1.bool_inv ?_
  exact not_value (wpAny_truthy_bool (k _ _ _ (.val (.bool _)) _ I1 S1 (.bool _) h2))
 | _=>exact(j6 h1).elim
theorem q0b(H:Snd W f){op:CmpOp}{l r:qo}{Q:Bool->St->Prop}(h:qjm f F.sc op l r st Q)(I:Inv W.c F g st s):behindInMarks op r=false∨WP W (qp l F.E) (fun z_ z_=>False) s:=by
 induction q:okE r using qg with
 | true=>exact .inl (q6h q)
 | false=>exact .inr (H.peekC h I fun v s' g' t sh st' z_ z_ z_ q1=>by
   obtain⟨_,q2⟩:=jj q1
   rw[H.okC q2] at q;exact jt q.symm)
theorem ag(H:Snd W f){op:CmpOp}{l r:qo}{Q:Bool->St->Prop}{K:Value->Shared->Prop}(h:qjm f F.sc op l r st Q)(I:Inv W.c F g st s)(k:∀s' g' b st',Inv W.c F g' st' s'->StepE g g'->Q b st'->K (.bool b) s'):
  WP W (qp l F.E) (fun u s1=>WP W (qp r F.E) (fun v s2=>WP W (compareOp op u v) K s2) s1) s:=by
 refine H.peekC h I fun u s1 g1 a sa st1 I1 S1 z1 q1=>?_
 refine e02 (jj q1) fun h1 h2=>?_
 have fin:∀{v s2 g2 b sb st2},Inv W.c F g2 st2 s2->StepE g1 g2->(sa=false∨QStep g1 g2)->CRep W.c.w g2 v sb b->ask Ans.b? (uu op a b) st2 Q->WP W (compareOp op u v) K s2:=fun I2 S2 hs z2 q2=>by
  refine e22 (zc q2) fun x as h3 h4=>?_
  exact qgs I2.toHp H.R h3 (z1.step S2 hs) z2 fun s3 w=>k s3 _ x _ ((I2.tell as).still w) (S1.trans S2) h4
 induction sa using qg with
 | false=>exact H.peekC h2 I1 fun v s2 g2 b sb st2 I2 S2 z2 q2=>fin I2 S2 (.inl rfl) z2 q2
 | true=>exact H.qC h1 h2 I1 fun v s2 g2 b sb st2 I2 S2 z2 q2=>fin I2 S2.toStepE (.inr S2) z2 q2
theorem qgr{M:Model}{A:Around}{l r:qo}{op:CmpOp}{p:Pos}{E:Env}{Q:Value->Shared->Prop}{Er:Value->Shared->Prop}(h:wpAny M A (qp l E) (fun z_ z_=>False) Er s):wpAny M A (qp (.Compare l [op] [r] p) E) Q Er s:=fun Γ p hΓ=>by
 simp only [eval_Compare1,Sem.wp_bind']
 exact Sem.wp_mono M Γ _ (fun z_ z_ z_ h=>h.elim) (fun z_ z_ z_ h'=>h') _ _ (h Γ p hΓ)
theorem qdl{M:Model}{A:Around}{l r:qo}{op:CmpOp}{p:Pos}{E:Env}{w:Sem Value}{Q:Bool->Shared->Prop}{Er:Value->Shared->Prop}(h:wpAny M A (qp l E) (fun z_ z_=>False) Er s):wpAny M A (isTrue (.Compare l [op] [r] p) E w) Q Er s:=fun Γ p hΓ=>by
 simp only [isTrue_Compare1,Sem.wp_bind']
 exact Sem.wp_mono M Γ _ (fun z_ z_ z_ h=>h.elim) (fun z_ z_ z_ h'=>h') _ _ (h Γ p hΓ)
theorem q5o(H:Snd W f){l ops rs p}(h:iz f F.sc l ops rs st fun q=>Q (.val (.bool q)))(I:Inv W.c F g st s)(k:KR W F g Q K):WP W (qp (.Compare l ops rs p) F.E) K s:=by
 refine e12 (jd h) fun op h1 h2=>?_
 refine e12 (jd h2) fun r h3 h4=>?_
 obtain rfl:=vr h1
 obtain rfl:=vr h3
 rcases q0b H h4 I with m | m
 ·exact wpAny_Compare1 (ag H h4 I fun s' g' b st' I' S' q'=>k _ s' g' (.val (.bool b)) st' I' S' (.bool b) q') m
 ·exact qgr m
theorem q9l(H:Snd W f){op es p}(h:q5w f F.sc op es st Q)(I:Inv W.c F g st s)(k:KR W F g Q K):WP W (qp (.BoolOp op es p) F.E) K s:=by
 refine e12 (jd h) fun zz=>?_;obtain⟨x,y⟩:=zz;intro h1 h2
 obtain rfl:=yo h1
 have go:WP W (qp x F.E) (fun u s1=>∃b,u = .bool b∧(ba op b=true->K u s1)∧(ba op b=false->WP W (qp y F.E) K s1)) s:=H.evalT h2 I fun u s1 g1 t st1 I1 S1 z1 q1=>by
  refine e12 (jd q1) fun b h3 h4=>?_
  obtain rfl:=T.bool?_is h3
  refine i13 b z1.bool_inv (fun q=>?_) (fun q=>?_)
  ·exact k _ _ g1 (.val (.bool b)) st1 I1 S1 z1 (xi h4 q)
  ·exact H.evalT (jy h4 q) I1 fun v s2 g2 t st2 I2 S2 z2 q2=>k _ _ g2 (.val t) st2 I2 (S1.trans S2) z2 q2
 induction op using BoolOp.casesOn with
 | And=>
  refine wpAny_And2 (wpAny_mono go (fun u s1 zz=>e13 zz fun b e a1 a2=>?_) fun z_ z_ z=>z)
  subst e
  refine wpAny_truthy_bool ?_
  induction b using qg with
  | false=>exact a1 rfl
  | true=>exact a2 rfl
 | Or=>
  refine wpAny_Or2 (wpAny_mono go (fun u s1 zz=>e13 zz fun b e a1 a2=>?_) fun z_ z_ z=>z)
  subst e
  refine wpAny_truthy_bool ?_
  induction b using qg with
  | false=>exact a2 rfl
  | true=>exact a1 rfl
theorem qd1(H:Snd W f){t a b p}(h:qjc f F.sc t a b st Q)(I:Inv W.c F g st s)(k:KR W F g Q K):WP W (qp (.IfExp t a b p) F.E) K s:=by
 refine wpAny_IfExp (H.test h I fun q s1 g1 st1 I1 S1 q1=>?_)
 induction q using qg with
 | true=>exact H.eval q1 I1 fun v s2 g2 r st2 I2 S2=>k v s2 g2 r st2 I2 (S1.trans S2)
 | false=>exact H.eval q1 I1 fun v s2 g2 r st2 I2 S2=>k v s2 g2 r st2 I2 (S1.trans S2)
theorem qgi(H:Snd W f){es p}(h:iy f F.sc .list es st Q)(I:Inv W.c F g st s)(k:KR W F g Q K):WP W (qp (.List es p) F.E) K s:=
 wpAny_List (ow H h I fun vs s1 g1 ts st1 I1 S1 z1 q1=>by
  refine e02 (jj q1) fun h1 h2=>?_
  exact⟨z1.chk (of_decide_eq_true h1),gr (n:=0) I1 z1 (k.of_kv S1 h2)⟩)
theorem qd0(H:Snd W f){es c p}(h:iy f F.sc (fun ts=>.val (.tup ts)) es st Q)(I:Inv W.c F g st s)(k:KR W F g Q K):WP W (qp (.Tuple es c p) F.E) K s:=
 wpAny_Tuple (ow H h I fun vs s1 g1 ts st1 I1 S1 z1 q1=>by
  refine e02 (jj q1) fun h1 h2=>?_
  exact⟨z1.chk (of_decide_eq_true h1),q7o (n:=0) I1 z1 (k.of_kv S1 h2)⟩)
theorem q38{c i p}(h:jk (me c) fun t=>Q (.val t) st)(I:Inv W.c F g st s)(k:KR W F g Q K):WP W (qp (.Constant c i p) F.E) K s:=by
 refine e12 (jd h) fun t h1 h2=>?_
 exact ub h1 fun v s' z w=>k v s' g (.val t) st (I.still w) (StepE.refl g) z h2
theorem qgh(H:Snd W f){x p}(h:f.evalT F.sc (.Name x p) st fun t=>Q (.val t))(I:Inv W.c F g st s)(k:KR W F g Q K):WP W (qp (.Name x p) F.E) K s:=
 H.evalT h I fun v s' g' t st' I' S z q=>k v s' g' (.val t) st' I' S z q
theorem q17(H:Snd W f){v a p}(h:f.peek F.sc (.Attribute v a p) st fun r st1=>jk r.val? fun t=>Q (.val t) st1)(I:Inv W.c F g st s)(k:KR W F g Q K):WP W (qp (.Attribute v a p) F.E) K s:=
 H.peek h I fun v s' g' r st' I' S z q=>by
  refine e12 (jd q) fun t h1 h2=>?_
  induction r using Ent.casesOn with
  | val t'=>obtain rfl:=qd h1;exact k v s' g' (.val _) st' I' S z.val h2
  | _=>exact(j6 h1).elim
theorem qag{c:CC}{A:Around}{t:T}{b:Bool}{v:Value}(ht:qh8 t=some b)(hr:Rep c.w g v t){Q:Bool->Shared->Prop}(hQ:Q b s):wpAny (model c.prog c.w) A (truthy v) Q no s:=by
 induction t using T.casesOn with
 | none=>obtain rfl:=qd ht;refine rwg hr.none_inv ?_;exact fun z_ z_ z_=>hQ
 | bool x=>obtain rfl:=qd ht;refine rwg hr.bool_inv ?_;exact wpAny_truthy_bool hQ
 | _=>exact(j6 ht).elim
theorem q20(H:Snd W f){e:qo}{Q:Bool->St->Prop}{K:Bool->Shared->Prop}(he:isTrue e F.E (qp e F.E)=(do let v ←qp e F.E;standAt e.pos;holding [v] (truthy v)))(h:q6r f F.sc e st Q)(I:Inv W.c F g st s)(k:KB W F g Q K):WP W (PySem.isTrue e F.E (qp e F.E)) K s:=
 wpAny_isTrue_value (H.evalT h I fun v s1 g1 t st1 I1 S1 z1 q1=>by
  refine e22 (zc q1) fun b as h1 h2=>?_
  exact qag h1 z1 (k b s1 g1 _ (I1.tell as) S1 h2)) he
theorem qam(H:Snd W f){op:BoolOp}:∀{es:List qo}{st:St}{Q:Bool->St->Prop}{g:Gh}{s:Shared}{K:Bool->Shared->Prop},rx (f.test F.sc) op es st Q->Inv W.c F g st s->KB W F g Q K->WP W (allTrue op es F.E) K s:=by
 intro es
 induction es with
 | nil=>
  intro st Q g s K h I k
  induction op using BoolOp.casesOn with
  | And=>exact wpAny_allTrue_And_nil (k _ _ g st I (StepE.refl g) h)
  | Or=>exact wpAny_allTrue_Or_nil (k _ _ g st I (StepE.refl g) h)
 | cons e es ih=>
  intro st Q g s K h I k
  have h:f.test F.sc e st (fun b st1=>cnd (ba op b) (Q b st1) (rx (f.test F.sc) op es st1 Q)):=h
  have go:∀{s1 g1 st1},Inv W.c F g1 st1 s1->StepE g g1->rx (f.test F.sc) op es st1 Q->WP W (allTrue op es F.E) K s1:=fun I1 S1 q=>ih q I1 fun b s2 g2 st2 I2 S2=>k b s2 g2 st2 I2 (S1.trans S2)
  induction op using BoolOp.casesOn with
  | And=>
   refine wpAny_allTrue_And_cons (H.test h I fun b s1 g1 st1 I1 S1 q1=>?_)
   induction b using qg with
   | false=>exact k _ _ g1 st1 I1 S1 q1
   | true=>exact go I1 S1 q1
  | Or=>
   refine wpAny_allTrue_Or_cons (H.test h I fun b s1 g1 st1 I1 S1 q1=>?_)
   induction b using qg with
   | false=>exact go I1 S1 q1
   | true=>exact k _ _ g1 st1 I1 S1 q1
theorem q81(H:Snd W f){e:qo}{Q:Bool->St->Prop}{K:Bool->Shared->Prop}(h:qh9 f F.sc e st Q)(I:Inv W.c F g st s)(k:KB W F g Q K):WP W (PySem.isTrue e F.E (qp e F.E)) K s:=by
 induction e using Expr.casesOn with
 | Compare l ops rs p=>
  refine e12 (jd (by exact h:iz f F.sc l ops rs st Q)) fun op h1 h2=>?_
  refine e12 (jd h2) fun r h3 h4=>?_
  obtain rfl:=vr h1
  obtain rfl:=vr h3
  rcases q0b H h4 I with m | m
  ·exact wpAny_isTrue_Compare1 (ag H h4 I fun s' g' b st' I' S' q'=>wpAny_truthy_bool (k b s' g' st' I' S' q')) m
  ·exact qdl m
 | BoolOp op es p=>exact wpAny_isTrue_BoolOp (qam H (by exact h:rx (f.test F.sc) op es st Q) I k)
 | IfExp a b d p=>exact(by exact h:False).elim
 | UnaryOp op x p=>
  induction op using UnaryOp.casesOn with
  | Not=>exact wpAny_isTrue_Not (H.test (by exact h:f.test F.sc x st (fun b=>Q (!b))) I fun b s1 g1 st1 I1 S1 q1=>k _ _ g1 st1 I1 S1 q1)
  | _=>exact q20 H rfl h I k
 | _=>exact q20 H rfl h I k
theorem q5r(H:Snd W f){e:Option qo}{Q:Option T->St->Prop}(h:q5s f F.sc e st Q)(I:Inv W.c F g st s)(k:KO W F g Q K):WP W (evalPart e F.E) K s:=by
 induction e using qe with
 | none=>exact qx (k _ _ g none st I (StepE.refl g) rfl h)
 | some e=>exact H.evalT (by exact h:f.evalT F.sc e st (fun t=>Q (some t))) I fun v s' g' t st' I' S z q=>k v s' g' (some t) st' I' S z q
end
inductive q0e:Option T->Option Int->Prop
 | none:q0e none none
 | int (i:Int):q0e (some (.int i)) (some i)
theorem r8{w:World}{g:Gh}{t:Option T}{v:Value}{k:Option Int}(e:q0e t k)(h:OptR w g v t):IsPart v k:=by
 cases e with
 | none=>have h:v = .none:=h;subst h;exact .none
 | int i=>refine e11 (Rep.int_inv h) fun tk zz1=>?_;subst zz1;exact .int _ _
theorem RepL.take{w:World}{g:Gh}{vs:List Value}{ts:List T}(k:Nat)(h:RepL w g vs ts):RepL w g (vs.take k) (ts.take k):=by
 revert k
 refine RepL.ind (m:=fun vs ts=>∀k:Nat,RepL w g (vs.take k) (ts.take k)) (fun k=>?_) (fun h z_ ih k=>?_) h
 ·refine rwg List.take_nil<|rwg List.take_nil ?_;exact .nil
 ·induction k using Nat.casesOn with
  | zero=>exact .nil
  | succ k=>exact .cons h (ih k)
theorem RepL.drop{w:World}{g:Gh}{vs:List Value}{ts:List T}(k:Nat)(h:RepL w g vs ts):RepL w g (vs.drop k) (ts.drop k):=by
 revert k
 refine RepL.ind (m:=fun vs ts=>∀k:Nat,RepL w g (vs.drop k) (ts.drop k)) (fun k=>?_) (fun h r ih k=>?_) h
 ·refine rwg List.drop_nil<|rwg List.drop_nil ?_;exact .nil
 ·induction k using Nat.casesOn with
  | zero=>exact .cons h r
  | succ k=>exact ih k
theorem RepL.rev{w:World}{g:Gh}{vs:List Value}{ts:List T}(h:RepL w g vs ts):RepL w g vs.reverse ts.reverse:=by
 refine RepL.ind (m:=fun vs ts=>RepL w g vs.reverse ts.reverse) .nil (fun h z_ ih=>?_) h
 refine rwg List.reverse_cons<|rwg List.reverse_cons ?_;exact ih.app (.cons h .nil)
inductive av(xs:List T):Option T->Option T->Option T->List T->Prop
 | upto {u:Int}:0≤u->av xs none (some (.int u)) none (xs.take u.toNat)
 | «from» {u:Int}:0≤u->av xs (some (.int u)) none none (xs.drop u.toNat)
 | rev:av xs none none (some (.int (-1))) xs.reverse
theorem vw{α:Type}{x:Option α}(h:x.isNone=true):x=none:=by
 induction x using qe with
 | none=>rfl
 | some a=>exact(jt h).elim
theorem q49{xs ys:List T}{lo up stp:Option T}(h:wa xs lo up stp=some ys):xs.length≤LIM∧av xs lo up stp ys:=by
 refine e02 (jh h) fun h1 h2=>?_
 refine⟨of_decide_eq_true h1,?_⟩
 induction lo using qe with
 | some l=>
  refine e02 (jh (by exact h2:grd (up.isNone&&stp.isNone) (opt l.int? fun l=>grd (decide (0≤l)) (some (xs.drop l.toNat)))=some ys)) fun h3 h4=>?_
  obtain⟨h5,h6⟩:=qh.mp h3
  refine e12 (j9 h4) fun i h7 h8=>?_
  refine e02 (jh h8) fun h9 h10=>?_
  obtain rfl:=T.int?_is h7
  obtain rfl:=vw h5
  obtain rfl:=vw h6
  obtain rfl:=qd h10
  exact .from (of_decide_eq_true h9)
 | none=>
  induction up using qe with
  | some u=>
   refine e02 (jh (by exact h2:grd stp.isNone (opt u.int? fun u=>grd (decide (0≤u)) (some (xs.take u.toNat)))=some ys)) fun h3 h4=>?_
   refine e12 (j9 h4) fun i h7 h8=>?_
   refine e02 (jh h8) fun h9 h10=>?_
   obtain rfl:=T.int?_is h7
   obtain rfl:=vw h3
   obtain rfl:=qd h10
   exact .upto (of_decide_eq_true h9)
  | none=>
   refine e12 (j9 (by exact h2:opt stp (fun s=>opt s.int? fun s=>grd (decide (s=-1)) (some xs.reverse))=some ys)) fun d h3 h4=>?_
   refine e12 (j9 h4) fun i h7 h8=>?_
   refine e02 (jh h8) fun h9 h10=>?_
   obtain rfl:=T.int?_is h7
   obtain rfl:=of_decide_eq_true h9
   obtain rfl:=qd h10
   refine rwg h3 ?_
   exact .rev
structure qjy(w:World)(g:Gh)(vs:List Value)(lo up stp:Option T)(ys:List T)(a b d:Option Int)(us:List Value):Prop where
 lo:q0e lo a
 up:q0e up b
 st:q0e stp d
 nz:d≠some 0
 pick:slicePick vs.toArray a b d=List.toArray us
 r:RepL w g us ys
theorem qaz{w:World}{g:Gh}{xs ys:List T}{lo up stp:Option T}{vs:List Value}(h:av xs lo up stp ys)(r:RepL w g vs xs):∃a b d us,qjy w g vs lo up stp ys a b d us:=by
 cases h with
 | @upto u hu=>
  refine i41 none (some u) none (vs.take u.toNat) ⟨.none,.int _,.none,(fun h=>(j6 h).elim),?_,r.take _⟩
  have:=slicePick_upto' vs.toArray u.toNat
  rw[Int.toNat_of_nonneg hu] at this
  exact this
 | @«from» u hu=>
  refine i41 (some u) none none (vs.drop u.toNat) ⟨.int _,.none,.none,(fun h=>(j6 h).elim),?_,r.drop _⟩
  have:=slicePick_from' vs.toArray u.toNat
  rw[Int.toNat_of_nonneg hu] at this
  exact this
 | rev=>exact i41 none none (some (-1)) vs.reverse ⟨.none,.none,.int _,by decide,by exact rwg (PySem.W.krv_pick _) rfl,r.rev⟩
section
variable {W:Cx}{f:Fns}{F:Fr'}{g:Gh}{st:St}{s:Shared}{K:Value->Shared->Prop}{Q:Ent->St->Prop}
theorem qb0(I:Inv W.c F g st s){value slice:qo}{o vl vu vt:Value}{sh:Bool}{xs ys:List T}{lo up stp:Option T}(z:CRep W.c.w g o sh (.list xs))(z2:OptR W.c.w g vl lo)(z3:OptR W.c.w g vu up)(z4:OptR W.c.w g vt stp)
  (h:wa xs lo up stp=some ys) (k:KV W F g st (.list ys) K):WP W (subscriptTail value slice o (.ref s.heap.objs.size)) K { s with heap:=s.heap.push { cls:=.type "slice",data:=.fields #[vl,vu,vt] } }:=by
 refine e02 (q49 h) fun hl hv=>?_
 refine e42 (CRep.list_inv z) fun aL kL oL vs zz4 C=>?_;subst zz4
 refine e41 (qaz hv C.r) fun pa pb pd us R=>?_
 have K1:KeepF g (jp g s.heap.objs.size .still { cls:=.type "slice",data:=.fields #[vl,vu,vt] }):=KeepF.new I.fits.new
 have I5:=I.push .still nofun (o:={ cls:=.type "slice",data:=.fields #[vl,vu,vt] }) rfl (s':={ s with heap:=s.heap.push { cls:=.type "slice",data:=.fields #[vl,vu,vt] } })
 have L:=C.o.at (qw { cls:=.type "slice",data:=.fields #[vl,vu,vt] } (I.fits.exact C.at_ C.lk.nf.1))
 refine e11 (bw slice (.ref aL) (.ref s.heap.objs.size)) fun ops hs=>?_
 refine tail_any (s:={ s with heap:=s.heap.push { cls:=.type "slice",data:=.fields #[vl,vu,vt] } }) L.typeIs slot_list_getitem.lookup ?_ hs
 refine wpAny_getItem_list_slice L (Heap.IsSliceOf.new _ _ _ _) (r8 R.lo z2) (r8 R.up z3) (r8 R.st z4) R.nz ?_ (by refine rwg List.size_toArray<|rwg C.r.len ?_;exact ws hl)
 refine rwg R.pick ?_
 exact gr (n:=0) I5 (R.r.mono K1.step.mono) fun v s' g' I' S' z'=>k v s' g' I' (K1.step.trans S') z'
theorem OptR.mono{w:World}{g g':Gh}{v:Value}{t:Option T}(m:Mono g g')(h:OptR w g v t):OptR w g' v t:=by
 induction t using qe with
 | none=>exact h
 | some t=>exact Rep.mono m h
theorem q15(H:Snd W f){v k p}(h:qd3 f F.sc v k st Q)(I:Inv W.c F g st s)(kk:KR W F g Q K):WP W (qp (.Subscript v k p) F.E) K s:=by
 refine Subscript_ (H.peekC h I fun o s1 g1 c sh st1 I1 S1 z1 q1=>?_)
 induction hq:q4a k using qe with
 | some q=>
  rw[hq] at q1
  refine e11 (q87 hq) fun p' zz1=>?_;subst zz1
  refine e02 (jj (by exact q1:gd (!sh) (q7n f F.sc c q st1 Q))) fun hsh q1=>?_
  refine wpAny_Slice (H.evOpt q1 I1 fun vl s2 g2 a st2 I2 S2 z2 q2=>?_)
  refine H.evOpt q2 I2 fun vu s3 g3 b st3 I3 S3 z3 q3=>?_
  refine H.evOpt q3 I3 fun vt s4 g4 d st4 I4 S4 z4 q4=>?_
  refine e12 (jd q4) fun xs h1 h2=>?_
  refine e22 (zc h2) fun ys as h3 h4=>?_
  obtain rfl:=T.list?_is h1
  have z:=((z1.step S2 (.inl (by simpa using hsh))).step S3 (.inl (by simpa using hsh))).step S4 (.inl (by simpa using hsh))
  exact qb0 (I4.tell as) z (z2.mono (S3.trans S4).mono) (z3.mono S4.mono) z4 h3 (kk.of_kv (S1.trans (S2.trans (S3.trans S4))) h4)
 | none=>
  rw[hq] at q1
  refine e02 (jj (by exact q1:gd (!sh || quiet k) (qd4 f F.sc c k st1 Q))) fun hsh q0=>?_
  have fin:∀{iv s2 g2 i st2},Inv W.c F g2 st2 s2->StepE g1 g2->(sh=false∨QStep g1 g2)->Rep W.c.w g2 iv i->ask Ans.t? (zu c i) st2 (fun t=>Q (.val t))->WP W (subscriptTail v k o iv) K s2:=fun I2 S2 hs z2 q2=>by
   refine e22 (zc q2) fun t as h1 h2=>?_
   exact qg1 (I2.tell as) (z1.step S2 hs) z2 h1 (kk.of_kv (S1.trans S2) h2)
  induction sh using qg with
  | false=>exact H.evalT q0 I1 fun iv s2 g2 i st2 I2 S2 z2 q2=>fin I2 S2 (.inl rfl) z2 q2
  | true=>exact H.qT hsh q0 I1 fun iv s2 g2 i st2 I2 S2 z2 q2=>fin I2 S2.toStepE (.inr S2) z2 q2
end
inductive ItAt(w:World)(g:Gh)(it:Addr):List T->Prop
 | list {l:Addr} {o oi:Obj} {vs:List Value} {xs:List T} {i:Nat}:g it=some (.still,oi)→oi.cls = .type "list_iterator"→oi.data = .fields #[.ref l,.int i 0]→g l=some (.froz,o)→OList o vs→RepL w g vs xs→ItAt w g it (xs.drop i)
 | rev {l:Addr} {o oi:Obj} {vs:List Value} {xs:List T} {i:Nat}:g it=some (.still,oi)→oi.cls = .type "list_reverseiterator"→oi.data = .fields #[.ref l,rawInt ((i:Int)-1)]→g l=some (.froz,o)→OList o vs→RepL w g vs xs→i≤xs.length →
   ItAt w g it (xs.take i).reverse
 | range {x:Int} {left:Nat} {oi:Obj}:g it=some (.still,{ cls:=.type "range_iterator",data:=.fields #[rawInt x,rawInt (left:Int),rawInt 1] })→ItAt w g it ((List.range left).map fun(k:Nat)=>.int (x+k))
 | dict {d:Addr} {o oi:Obj} {en:List DictEntry} {es:List (Str×T)} {i ep:Nat}:g it=some (.still,oi)→oi.cls = .type "dict_keyiterator"→oi.data = .fields #[.ref d,.int i 0,.int es.length 0,.int ep 0]→g d=some (.froz,o)→o=dictOf en ep→RepD w g en es→(es.map (·.1)).Nodup →
   ItAt w g it ((es.drop i).map fun p=>.str p.1)
theorem ItAt.mono{w:World}{g g':Gh}{it:Addr}{xs:List T}(m:Mono g g')(k:∀o,g it=some (.still,o)->g' it=some (.still,o))(h:ItAt w g it xs):ItAt w g' it xs:=by
 cases h with
 | list a b d e f r=>exact .list (k _ a) b d (m.froz _ _ e) f (r.mono m)
 | rev a b d e f r z=>exact .rev (k _ a) b d (m.froz _ _ e) f (r.mono m) z
 | range a=>exact .range (oi:=default) (k _ a)
 | dict a b d e f r z=>exact .dict (k _ a) b d (m.froz _ _ e) f (r.mono m) z
structure KeepIt(it:Addr)(g g':Gh):Prop where
 keep:∀a k o,a≠it->g a=some (k,o)->g' a=some (k,o)
 it:∀o,g it=some (.still,o)->∃o',g' it=some (.still,o')
section
variable {c:CC}{n:Nat}{g:Gh}{sg:List SO}{s:Shared}{A:Around}
theorem DKV.keys{κ:Type}{w:World}{g:Gh}{a:List (κ×Value)}{b:List (κ×T)}(h:DKV w g a b):a.map (·.1)=b.map (·.1):=by
 induction h with
 | nil=>rfl
 | cons _ _ ih=>exact congrArg (_::·) ih
theorem RepD.kv{w:World}{g:Gh}(prog:Program){en:List DictEntry}{es:List (Str×T)}(h:RepD w g en es):∃kvs:List (Str×Value),Pairs (strKind prog w) en kvs∧DKV w g kvs es:=(h.ekv prog).kv
theorem RepD.pairs{w:World}(prog:Program){en:List DictEntry}{es:List (Str×T)}(h:RepD w g en es):∃kvs:List (Str×Value),Pairs (strKind prog w) en kvs∧kvs.map (·.1)=es.map (·.1):=e12 (h.kv prog) fun kvs p q=>(i12 kvs p q.keys)
theorem vb{it:Addr}{o o':Obj}{h':Heap}(H:Hp c g sg s)(e:g it=some (.still,o))(hb:c.base.get? it=none)(hs:Heap.SameBut it s.heap h')(ho:h'.get? it=some o'){s':Shared}(h1:s'.heap=h')(h2:s'.gens=s.gens)(h3:s'.os=s.os):
  Hp c (jp g it .still o') sg s':=by
 refine⟨h1▸H.fits.upd .still hs ho,H.gd,fun a x q=>?_,?_,h2.trans H.gens,h3.trans H.os⟩
 ·have:=H.base a x q
  by_cases z:a=it
  ·subst z;replace q:=hb▸q;exact(j6 q).elim
  ·refine rwg (je z) ?_;exact this
 ·refine H.sig.mono ⟨fun a x q=>?_,fun a x q=>?_,fun a i p x q=>⟨x,?_⟩⟩ fun a i p x=>?_
  ·exact(je (fun z=>by rw[z,e] at q;exact nomatch q)).trans q
  ·exact(je (fun z=>by rw[z,e] at q;exact nomatch q)).trans q
  ·exact(je (fun z=>by rw[z,e] at q;exact nomatch q)).trans q
  ·by_cases z:a=it
   ·subst z;rw[jf,e];exact⟨nofun,nofun⟩
   ·rw[je z]
theorem KeepIt.set{it:Addr}{o':Obj}:KeepIt it g (jp g it .still o'):=⟨fun a k o h e=>(je h).trans e,fun o e=>⟨o',jf⟩⟩
theorem kg{it:Addr}{o o':Obj}(e:g it=some (.still,o)):Mono g (jp g it .still o'):=
 ⟨fun a x q=>(je (fun z=>by rw[z,e] at q;exact nomatch q)).trans q,fun a x q=>(je (fun z=>by rw[z,e] at q;exact nomatch q)).trans q,fun a i p x q=>⟨x,(je (fun z=>by rw[z,e] at q;exact nomatch q)).trans q⟩⟩
set_option tactic.hygienic true in
theorem nw{it:Addr}{t:T}{rem:List T}(H:Hp c g sg s)(hb:c.base.get? it=none)(h:ItAt c.w g it (t::rem)){Q:Option Value->Shared->Prop}{Er:Value->Shared->Prop}
  (hQ:∀v s' o',Rep c.w g v t->Hp c (jp g it .still o') sg s'->Heap.SameBut it s.heap s'.heap->ItAt c.w (jp g it .still o') it rem->Q (some v) s'):wpAny (model c.prog c.w) A (pyNext (.ref it)) Q Er s:=by
 generalize hxs:t::rem=xs at h
 cases h with
 | list a b d e f r=>
  rename_i l o oi vs xs i
  have hx:xs[i]? = some t:=by
   have:=congrArg List.head? hxs
   rw[List.head?_drop] at this;simpa using this.symm
  refine e12 (r.get hx) fun v e1 e2=>?_
  refine wpAny_pyNext_list_item (i13 oi (H.fits.exact a (jb rfl)) b d) (f.at (H.fits.exact e (jb rfl))) (by simpa using e1) fun h' hi hs=>?_
  refine e13 hi fun o' q1 q2 q3=>?_;clear hi
  refine hQ v _ o' e2 (vb H a hb hs q1 rfl rfl rfl) hs ?_
  have hr:rem=xs.drop (i+1):=by
   have:=congrArg List.tail hxs
   simpa using this
  have m:=kg (o':=o') a
  refine rwg hr ?_
  exact .list jf q2 q3 (m.froz _ _ e) f (r.mono m)
 | rev a b d e f r z=>
  rename_i l o oi vs xs i
  induction i using Nat.casesOn with
  | zero=>trivial
  | succ i=>
   have hi:i<xs.length:=z
   have hx:xs[i]? = some xs[i]:=qt hi
   have ht:xs.take (i+1)=xs.take i++[xs[i]]:=by refine rwg List.take_succ<|rwg hx ?_;rfl
   rw[ht,List.reverse_append] at hxs
   simp only [List.reverse_cons,List.reverse_nil,List.nil_append,List.singleton_append,List.cons.injEq] at hxs
   refine e02 hxs fun zz0 zz1=>?_;clear hxs;subst zz0;subst zz1
   refine e12 (r.get hx) fun v e1 e2=>?_
   have e0:((i+1:Nat):Int)-1=(i:Int):=by lia
   have d':oi.data = .fields #[.ref l,rawInt (i:Int)]:=by exact rwg d<|rwg e0 rfl
   refine wpAny_pyNext_rev_item (i13 oi (H.fits.exact a (jb rfl)) b d') (f.at (H.fits.exact e (jb rfl))) (by simpa using e1) fun h' hi' hs=>?_
   refine e13 hi' fun o' q1 q2 q3=>?_;clear hi'
   have m:=kg (o':=o') a
   exact hQ v _ o' e2 (vb H a hb hs q1 rfl rfl rfl) hs (.rev jf q2 q3 (m.froz _ _ e) f (r.mono m) (j4 hi))
 | range a=>
  rename_i x left oi
  induction left using Nat.casesOn with
  | zero=>simp at hxs
  | succ left=>
   refine wpAny_pyNext_range_item (x:=x) (left:=((left+1:Nat):Int)) (step:=1) (H.fits.exact a (jb rfl)) (by exact Int.ofNat_lt.mpr (Nat.succ_pos _)) fun h' hi hs=>?_
   have hx:t = .int x∧rem=(List.range left).map fun(k:Nat)=>T.int (x+1+k):=by
    rw[List.range_succ_eq_map,qv,List.cons.injEq] at hxs
    refine⟨by refine rwg hxs.1 ?_;simp,?_⟩
    refine rwg hxs.2<|rwg List.map_map ?_
    apply List.map_congr_left
    intro k _
    refine congrArg T.int ?_
    refine(?_:x+((k+1:Nat):Int)=x+1+(k:Int))
    lia
   refine e02 hx fun zz0 zz1=>?_;clear hx;subst zz0;subst zz1
   have e0:((left+1:Nat):Int)-1=(left:Int):=by push_cast;exact Int.add_sub_cancel _ _
   rw[e0] at hi
   exact hQ _ _ _ (.int _ _) (vb H a hb hs hi rfl rfl rfl) hs (.range (oi:=default) jf)
 | dict a b d e f r z=>
  rename_i dd o oi en es i ep
  refine e12 (r.pairs c.prog) fun kvs p1 p2=>?_
  have hlen:kvs.length=es.length:=by have:=congrArg List.length p2;simpa using this
  have D:s.heap.DictAt (strKind c.prog c.w) dd kvs ep:=i26 o en.toArray (H.fits.exact e (jb rfl)) (by subst f;exact i03 rfl rfl rfl) (by subst f;rfl) (fun x hx=>(r.map c.prog).1 x (by simpa using hx)) (by exact p1) (by refine rwg p2 ?_;exact z)
  induction hd:es.drop i using qf with
  | nil=>replace hxs:=hd▸hxs;exact nomatch hxs
  | cons q qs=>
   rw[hd,qv,List.cons.injEq] at hxs
   refine e02 hxs fun zz0 zz1=>?_;clear hxs;subst zz0;subst zz1
   have hq:es[i]? = some q:=by have:=congrArg List.head? hd;rw[List.head?_drop] at this;simpa using this
   have hk:∃v,kvs[i]? = some (q.1,v):=by
    have h1:(kvs.map (·.1))[i]? = some q.1:=by refine rwg p2<|rwg List.getElem?_map<|rwg hq ?_;rfl
    rw[List.getElem?_map] at h1
    induction hkv:kvs[i]? using qe with
    | none=>rw[hkv] at h1;exact(j6 h1).elim
    | some kv=>rw[hkv] at h1;have h1:kv.1=q.1:=qd h1;exact⟨kv.2,by exact rwl h1 rfl⟩
   obtain⟨v,hk⟩:=hk
   refine wpAny_pyNext_dict_item (i13 oi (H.fits.exact a (jb rfl)) b (by rewrite[hlen];exact d)) D hk fun key h' hkey hi hs=>?_
   refine e13 hi fun o' q1 q2 q3=>?_;clear hi
   refine e11 (Value.isStrOf_shape hkey) fun tk zz1=>?_;subst zz1
   have m:=kg (o':=o') a
   have hqs:qs=es.drop (i+1):=by have:=congrArg List.tail hd;simpa using this.symm
   exact hQ _ _ o' (.str _ _) (vb H a hb hs q1 rfl rfl rfl) hs (hqs ▸ .dict jf q2 (by exact rwg q3<|rwg hlen rfl) (m.froz _ _ e) f (r.mono m) z)
set_option tactic.hygienic true in
theorem q2k{it:Addr}(H:Hp c g sg s)(R:Room A n)(h:ItAt c.w g it []){Q:Option Value->Shared->Prop}{Er:Value->Shared->Prop}
  (hQ:∀h',Heap.ExtBut it s.heap h'->Q none { s with heap:=h' }):wpAny (model c.prog c.w) A (pyNext (.ref it)) Q Er s:=by
 generalize hxs:([]:List T)=xs at h
 cases h with
 | list a b d e f r=>
  rename_i l o oi vs xs i
  have hx:xs.length≤i:=by have:=congrArg List.length hxs;simp at this;exact a9 this
  exact wpAny_pyNext_list_end R.handled (i13 oi (H.fits.exact a (jb rfl)) b d) (f.at (H.fits.exact e (jb rfl))) (by simp[r.len];exact hx) hQ
 | rev a b d e f r z=>
  rename_i l o oi vs xs i
  have hx:i=0:=by have:=congrArg List.length hxs;simp at this;lia
  subst hx
  exact wpAny_pyNext_rev_end R.handled (i13 oi (H.fits.exact a (jb rfl)) b d) hQ
 | range a=>
  rename_i x left oi
  have hx:left=0:=by have:=congrArg List.length hxs;simpa using this.symm
  subst hx
  exact wpAny_pyNext_range_end R.handled (x:=x) (left:=0) (step:=1) (H.fits.exact a (jb rfl)) (by lia) hQ
 | dict a b d e f r z=>
  rename_i dd o oi en es i ep
  refine e12 (r.pairs c.prog) fun kvs p1 p2=>?_
  have hlen:kvs.length=es.length:=by have:=congrArg List.length p2;simpa using this
  have D:s.heap.DictAt (strKind c.prog c.w) dd kvs ep:=i26 o en.toArray (H.fits.exact e (jb rfl)) (by subst f;exact i03 rfl rfl rfl) (by subst f;rfl) (fun x hx=>(r.map c.prog).1 x (by simpa using hx)) (by exact p1) (by refine rwg p2 ?_;exact z)
  have hx:es.length≤i:=by have:=congrArg List.length hxs;simp at this;exact a9 this
  exact wpAny_pyNext_dict_end R.handled (i13 oi (H.fits.exact a (jb rfl)) b (by rewrite[hlen];exact d)) D (by simp[hlen];exact hx) hQ
theorem qil(k:Int):rng k=(List.range k.toNat).map fun(i:Nat)=>T.int (0+i):=by unfold rng;simp
set_option tactic.hygienic true in
theorem c9{v:Value}{items:List T}(H:Hp c g sg s)(h:wl c.w g v items){Q:Value->Shared->Prop}{Er:Value->Shared->Prop}
  (hQ:∀it g' s',KeepF g g'→Hp c g' sg s'→c.base.get? it=none→(∀k o,g it=some (k,o)→∃p,k = .mine "#" p)→ItAt c.w g' it items→Q (.ref it) s'):wpAny (model c.prog c.w) A (pyIter v) Q Er s:=by
 have new:∀(o:Obj),o.isFreed=false→KeepF g (jp g s.heap.objs.size .still o)∧Hp c (jp g s.heap.objs.size .still o) sg { s with heap:=s.heap.push o }∧c.base.get? s.heap.objs.size=none∧(∀k x,g s.heap.objs.size=some (k,x)→∃p,k = .mine "#" p):=by
  intro o hf
  have e:=H.fits.new
  refine i04 (KeepF.new e) (H.turn (H.fits.push .still hf) (KeepF.new e) (yr e (fun z_ z_=>jb rfl)) rfl rfl) ?_ (fun k x q=>by rw[e] at q;exact(j6 q).elim)
  induction q:c.base.get? s.heap.objs.size using qe with
  | none=>rfl
  | some x=>have:=H.base _ _ q;rw[e] at this;exact(j6 this).elim
 cases h with
 | @rep _ t _ hr hi=>
  induction t using T.casesOn with
  | list xs=>
   obtain rfl:=qd hi
   refine e32 hr.list_inv fun a o vs zz3 L=>?_;subst zz3
   refine e04 (new { cls:=.type "list_iterator",data:=.fields #[.ref a,.int 0 0] } rfl) fun k1 k2 k3 k4=>?_
   refine wpAny_pyIter_list (L.o.at (H.fits.exact L.at_ (jb rfl))) (hQ _ _ _ k1 k2 k3 k4 ?_)
   exact .list (i:=0) jf rfl rfl (k1.step.froz _ _ L.at_) L.o (L.r.mono k1.step.mono)
  | dict es=>
   refine e02 (jh hi) fun hnd hi=>?_
   obtain rfl:=qd hi
   have hnd:=of_decide_eq_true hnd
   cases hr with
   | @dict a o en _ h1 h2 h3=>
    refine e11 h2 fun ep zz1=>?_;clear h2;subst zz1
    refine e12 (h3.pairs c.prog) fun kvs p1 p2=>?_
    have hlen:kvs.length=es.length:=by have:=congrArg List.length p2;simpa using this
    have D:s.heap.DictAt (strKind c.prog c.w) a kvs ep:=i26 _ en.toArray (H.fits.exact h1 (jb rfl)) (i03 rfl rfl rfl) rfl (fun x hx=>(h3.map c.prog).1 x (by simpa using hx)) (by exact p1) (by refine rwg p2 ?_;exact hnd)
    refine e04 (new { cls:=.type "dict_keyiterator",data:=.fields #[.ref a,.int 0 0,.int kvs.length 0,.int ep 0] } rfl) fun k1 k2 k3 k4=>?_
    refine wpAny_pyIter_dict (H.notSys h1 (jb rfl)) D (hQ _ _ _ k1 k2 k3 k4 ?_)
    exact .dict (i:=0) (es:=es) jf rfl (by refine rwg hlen ?_;rfl) (k1.step.froz _ _ h1) rfl (h3.mono k1.step.mono) hnd
  | _=>exact(j6 hi).elim
 | range h1 h0 h2=>
  rename_i a k t u v
  have hL:(LIM:Int)=4000:=rfl
  have hsize:Builtin.Range.rangeSize 0 k 1=(k.toNat:Int):=by refine rwg (rangeSize_one _ _) ?_;split <;> lia
  refine e04 (new { cls:=.type "range_iterator",data:=.fields #[rawInt 0,rawInt (k.toNat:Int),rawInt 1] } rfl) fun k1 k2 k3 k4=>?_
  refine wpAny_pyIter_range (a:=0) (b:=k) (c:=1) (H.fits.exact h1 (jb rfl)) ?_ ?_
  ·exact small_one (by exact(by decide)) (by exact(by decide)) (by lia) (by lia)
  ·refine rwg hsize ?_
   refine hQ _ _ _ k1 k2 k3 k4 ?_
   refine rwg (qil _) ?_
   exact .range (oi:=default) jf
 | rev h1 h2 h3 h4=>
  rename_i a l o vs xs
  have hb:c.base.get? a=none:=by
   induction q:c.base.get? a using qe with
   | none=>rfl
   | some x=>have:=H.base _ _ q;rw[h1] at this;exact nomatch this
  have h0:=H.fits.exact h1 (jb rfl)
  have K:KeepF g (jp g a .still { cls:=.type "list_reverseiterator",data:=.fields #[.ref l,rawInt ((vs.length:Int)-1)] }):=KeepF.tmp h1
  have H':Hp c (jp g a .still { cls:=.type "list_reverseiterator",data:=.fields #[.ref l,rawInt ((vs.length:Int)-1)] }) sg s:=H.turn (H.fits.upd .still (Heap.SameBut.refl _ _) h0) K (qey h1 (fun z_ z_=>jb rfl)) rfl rfl
  refine PySem.wpAny_pyIter_revIter (i13 _ h0 rfl rfl) (hQ a _ s K H' hb (fun k x q=>by rw[h1] at q;replace q:=qd q;cases q;exact⟨_,rfl⟩) ?_)
  have:=ItAt.rev (w:=c.w) (i:=xs.length) jf rfl (by exact rwg h4.len rfl) (K.step.froz _ _ h2) h3 (h4.mono K.step.mono) (Nat.le_refl _)
  rwa [List.take_length] at this
end
noncomputable def give(g:Gh)(x y:Str):Gh:=fun a=>match g a with
 | some (.mine z p,o)=>if z=x then some (.mine y p,o) else some (.mine z p,o)
 | r=>r
theorem xf{g:Gh}{x y:Str}{a:Addr}{k:Kd}{o:Obj}(e:g a=some (k,o))(h:∀p,k ≠ .mine x p):give g x y a=some (k,o):=by
 unfold give
 refine rwg e ?_
 induction k using Kd.casesOn with
 | mine z p=>
  have:z≠x:=fun q=>h p (by exact rwg q rfl)
  exact if_neg this
 | _=>rfl
theorem oj{g:Gh}{x y:Str}{a:Addr}{p:Part}{o:Obj}(e:g a=some (.mine x p,o)):give g x y a=some (.mine y p,o):=by
 unfold give;refine rwg e ?_;exact if_pos rfl
set_option tactic.hygienic true in
theorem q31{g:Gh}{x y:Str}{a:Addr}{k:Kd}{o:Obj}(e:give g x y a=some (k,o)):g a=some (k,o)∨∃p,k = .mine y p∧g a=some (.mine x p,o):=by
 unfold give at e
 split at e
 ·rename_i z p o' h
  split at e
  ·rename_i q;replace e:=qd e;cases e;subst q;exact .inr (i12 p rfl h)
  ·replace e:=qd e;cases e;exact .inl h
 ·exact .inl e
theorem Fits.give{g:Gh}{h:Heap}(H:Fits g h)(x y:Str):Fits (give g x y) h:=by
 intro a k o e
 rcases q31 e with q | ⟨p,rfl,q⟩
 ·exact H a k o q
 ·exact i12 o (H.exact q (jb rfl)) rfl
theorem y4(g:Gh)(x y:Str):Mono g (give g x y):=⟨fun a o e=>xf e (fun z_=>jb rfl),fun a o e=>xf e (fun z_=>jb rfl),fun a i p o e=>⟨o,xf e (fun z_=>jb rfl)⟩⟩
theorem StepS.give(g:Gh)(x y:Str):StepS g (give g x y):=⟨fun a o e=>xf e (fun z_=>jb rfl),fun a o e=>xf e (fun z_=>jb rfl),fun a o e=>xf e (fun z_=>jb rfl),fun a i p o e=>⟨o,xf e (fun z_=>jb rfl)⟩⟩
theorem qco(g:Gh)(x y:Str):∀a i p o,g a=some (.shr i p,o)↔give g x y a=some (.shr i p,o):=fun a i p o=>⟨fun e=>xf e (fun z_=>jb rfl),fun e=>by
 rcases q31 e with q | ⟨p',q,_⟩
 ·exact q
 ·exact Kd.noConfusion q⟩
theorem Hp.give{c:CC}{g:Gh}{sg:List SO}{s:Shared}(H:Hp c g sg s)(x y:Str):Hp c (give g x y) sg s:=
 H.same (H.fits.give x y) (StepS.give g x y).still (y4 g x y) (qco g x y)
theorem EntR.kd{w:World}{g g':Gh}{kd kd':Part->Kd}{v:Value}{e:Ent}(m:Mono g g')(hk:∀a p o,g a=some (kd p,o)->g' a=some (kd' p,o))(h:EntR w g kd v e):EntR w g' kd' v e:=by
 induction e using Ent.casesOn with
 | val t=>exact Rep.mono m h
 | list xs=>refine e34 h fun a o vs h1 h2 h3 h4=>?_;clear h;exact i34 a o vs h1 (hk _ _ _ h2) h3 (h4.mono m)
 | dict es=>refine e34 h fun a o vs h1 h2 h3 h4=>?_;clear h;exact i34 a o vs h1 (hk _ _ _ h2) h3 (h4.mono m)
 | inst cn fs=>refine e12 h fun a h1 zz2=>?_;clear h;refine e45 zz2 fun C dx o en h3 h4 h5 h6 h7=>?_;clear zz2;exact i12 a h1 (i45 C dx o en h3 (hk _ _ _ h4) (hk _ _ _ h5) h6 (h7.kd m fun a z_ o=>hk a _ o))
theorem tq{k:Option NameKind}(h:u5 k=true):k=some .local∨k=some .cell:=by
 induction k using qe with
 | none=>exact Bool.noConfusion h
 | some k=>rcases k with ⟨⟩ <;> first | exact .inl rfl | exact .inr rfl | exact Bool.noConfusion h
theorem q2v{k:Option NameKind}(h:u5 k=true):z8 k=true:=by rcases tq h with rfl | rfl <;> rfl
section
variable {c:CC}{F:Fr'}{g:Gh}{s:Shared}{A:Around}{st:St}
theorem Inv.slot{sg:List SO}{a:Addr}{k:Kd}{o o':Obj}{h':Heap}(H:Hp c g sg s)(e:g a=some (k,o))(hk:k = .frm∨∃x,k = .cel x)(hs:Heap.SameBut a s.heap h')(ho:h'.get? a=some o'){s':Shared}(h1:s'.heap=h')(h2:s'.gens=s.gens)(h3:s'.os=s.os):
  Hp c (jp g a k o') sg s'∧StepS g (jp g a k o'):=by
 have ne:∀{b:Addr}{k':Kd}{x:Obj},g b=some (k',x)->(k'≠k)->jp g a k o' b=some (k',x):=fun q n=>(je (fun z=>by(replace q:=z▸q;rewrite[e] at q);replace q:=qd q;cases q;exact n rfl)).trans q
 have nk:∀{k':Kd},k' ≠ .frm->(∀x,k' ≠ .cel x)->k'≠k:=fun n1 n2 z=>by
  rcases hk with rfl | ⟨y,rfl⟩
  ·exact n1 z
  ·exact n2 y z
 have S:StepS g (jp g a k o'):=⟨fun b x q=>ne q (nk nofun nofun),fun b x q=>ne q (nk nofun nofun),fun b x q=>ne q (nk nofun nofun),fun b i p x q=>⟨x,ne q (nk nofun nofun)⟩⟩
 refine⟨⟨h1▸H.fits.upd k hs ho,H.gd,fun b x q=>S.still _ _ (H.base b x q),H.sig.mono S.mono fun b i p x=>⟨fun q=>ne q (nk nofun nofun),fun q=>?_⟩,h2.trans H.gens,h3.trans H.os⟩,S⟩
 by_cases z:b=a
 ·(replace q:=z▸q;replace q:=jf▸q);exact absurd (congrArg Prod.fst (qd q)).symm (nk nofun nofun)
 ·rw[je z] at q;exact q
structure Slot(g g':Gh)(x:Str)(a:Addr):Prop where
 keep:∀b k o,b≠a→g b=some (k,o)→(∀p,k ≠ .mine "#" p)→g' b=some (k,o)
 kd:∀{w:World} {y:Str} {u:Value} {d:Ent},y≠"#"→EntR w g (.mine y) u d→EntR w g' (.mine y) u d
 tmp:∀{w:World} {u:Value} {d:Ent},EntR w g (.mine "#") u d→EntR w g' (.mine x) u d
theorem Slot.mk' {a:Addr} {k:Kd} {o o':Obj} {x:Str} (e:g a=some (k,o)) (hk:k = .frm∨∃x,k = .cel x) (S:StepS (give g "#" x) (jp (give g "#" x) a k o')):Slot g (jp (give g "#" x) a k o') x a:=by
 have nm:∀y p,k ≠ .mine y p:=fun y p=>by rcases hk with rfl | ⟨y,rfl⟩ <;> nofun
 have k2:∀{w:World} {y:Str} {u:Value} {d:Ent},EntR w (give g "#" x) (.mine y) u d→EntR w (jp (give g "#" x) a k o') (.mine y) u d:=fun h=>h.kd S.mono fun b p z q=>(je (fun w=>by
  rw[w,xf e (nm "#")] at q;exact nm _ p (congrArg Prod.fst (qd q)))).trans q
 exact⟨fun b k' o n q z=>(je n).trans (xf q z),fun hy h=>k2 (h.kd (y4 g "#" x) fun a p o q=>xf q fun p' z=>hy (by injection z)),fun h=>k2 (h.kd (y4 g "#" x) fun a p o q=>oj q)⟩
theorem ur{k:Kd}{x:Str}(z:k = .cel x∨k = .still∨k = .froz):(∀y p,k ≠ .mine y p)∧k ≠ .frm:=by rcases z with rfl | rfl | rfl <;> exact⟨nofun,nofun⟩
theorem q3l{g':Gh}{x y:Str}{a:Addr}(Z:Slot g g' x a)(tmp:FrR c.w g F st.env){e:Ent}(hxy:x≠y){cc:Addr}{k:Kd}{o:Obj}{ov:Option Value}(C:qac c.w g F st.env y cc k o ov)(na:cc≠a):qac c.w g' F (v0 x e st.env) y cc k o ov:=by
 refine⟨C.cell,Z.keep _ _ _ na C.at_ ((ur C.kd).1 _),C.data,C.kd,C.own,fun e' hy=>?_⟩
 rw[za hxy] at hy
 refine e13 (C.ent e' hy) fun u f1 f2 f3=>?_
 exact i13 u f1 (Z.kd (tmp.ne hy) f2) f3
theorem y7 {x:Str} {v:Value} {e:Ent} (I:Inv c F g st s) (hl:u5 (jc F.sc x)=true) (he:EntR c.w g (.mine "#") v e) {Q:Unit→Shared→Prop} {Er:Value→Shared→Prop}
  (hQ:∀g' s',Inv c F g' ⟨v0 x e st.env,st.sg,st.as⟩ s'->StepS g g'->Q () s'):wpAny (model c.prog c.w) A (storeName F.E x v) Q Er s:=by
 have hx:x≠"#":=by
  rintro rfl
  rw[I.fs.hsh] at hl;exact jt hl
 have H1:=I.toHp.give "#" x
 have S1:=StepS.give g "#" x
 refine e02 (I.fs.kindLoc (q2v hl)) fun zz=>?_;refine e11 zz fun kk hk1=>?_;clear zz;intro hk2
 have tmp:jn "#" (v0 x e st.env)=none:=by refine rwg (za hx _ _) ?_;exact I.fr.tmp
 refine e21 I.fr.loc fun o m L=>?_
 have cell:F.E.kindOf x=some .cell->wpAny (model c.prog c.w) A (storeName F.E x v) Q Er s:=fun hcel=>by
  refine e41 (I.fr.cel x (.inl hcel)) fun cc k ob ov C=>?_
  obtain rfl:k = .cel x:=C.own (by rcases tq hl with q | q <;> rw[q] <;> nofun)
  refine wpAny_storeName_cell I.fs.kind hcel C.cell (i12 ob (I.fits.exact C.at_ (jb rfl)) C.data) fun h' hc hs=>?_
  refine e12 hc fun o' q1 q2=>?_;clear hc
  refine e02 (Inv.slot (s':={ s with heap:=h' }) H1 (xf C.at_ nofun) (.inr ⟨x,rfl⟩) hs q1 rfl rfl rfl) fun H2 S2=>?_
  have Z:=Slot.mk' C.at_ (.inr ⟨x,rfl⟩) S2
  have nl:F.E.locals≠cc:=fun w=>by have:=L.at_;rw[w,C.at_] at this;exact nomatch this
  refine hQ _ _ ⟨H2,I.fs,⟨tmp,(i21 o m ⟨Z.keep _ _ _ nl L.at_ nofun,L.ns,fun y e' hy hky=>?_⟩),fun y hky=>?_⟩⟩ (S1.trans S2)
  ·have hxy:x≠y:=by rintro rfl;rw[hcel] at hky;exact nomatch hky
   rw[za hxy] at hy
   refine e12 (L.ent y e' hy hky) fun u f1 f2=>?_
   exact i12 u f1 (Z.kd (I.fr.ne hy) f2)
  ·by_cases hxy:x=y
   ·subst hxy
    refine i41 cc (.cel x) o' (some v) ⟨C.cell,jf,q2,.inl rfl,fun z_=>rfl,fun e' hy=>?_⟩
    rw[gt] at hy;obtain rfl:=qd hy
    exact i13 v rfl (Z.tmp he) (fun h=>absurd rfl h)
   ·refine e41 (I.fr.cel y hky) fun cc' k' ob' ov' C'=>?_
    refine i41 cc' k' ob' ov' (q3l Z I.fr hxy C' fun w=>?_)
    have q:=C'.at_
    rw[w,C.at_] at q
    obtain rfl:=congrArg Prod.fst (qd q)
    rcases C'.kd with q | q | q
    ·exact hxy (by injection q)
    ·exact Kd.noConfusion q
    ·exact Kd.noConfusion q
 induction hk2 using LocK.casesOn with
 | loc hloc=>
  refine wpAny_storeName_local hloc (L.ns.at (I.fits.exact L.at_ (jb rfl))) (fun h' hn hs=>?_) (by
   have:F.E.scope.kind = .function:=I.fs.kind
   refine rwg this ?_;rfl)
  refine e12 (gz hn) fun o' q1 q2=>?_
  refine e02 (Inv.slot (s':={ s with heap:=h',toks:=s.toks+1 }) H1 (xf L.at_ (fun z_=>jb rfl)) (.inl rfl) hs q1 rfl rfl rfl) fun H2 S2=>?_
  have Z:=Slot.mk' L.at_ (.inl rfl) S2
  refine hQ _ _ ⟨H2,I.fs,⟨tmp,(i21 o' _ ⟨jf,q2,fun y e' hy hky=>?_⟩),fun y hky=>?_⟩⟩ (S1.trans S2)
  ·by_cases hxy:x=y
   ·subst hxy
    rw[gt] at hy;obtain rfl:=qd hy
    exact i12 v (if_pos rfl) (Z.tmp he)
   ·rw[za hxy] at hy
    refine e12 (L.ent y e' hy hky) fun u e1 e2=>?_
    exact i12 u ((if_neg (Ne.symm hxy)).trans e1) (Z.kd (I.fr.ne hy) e2)
  ·refine e41 (I.fr.cel y hky) fun cc k ob ov C=>?_
   have hxy:x≠y:=by rintro rfl;rcases hky with q | q <;> rw[hloc] at q <;> exact nomatch q
   exact i41 cc k ob ov (q3l Z I.fr hxy C fun w=>by have q:=C.at_;rw[w,L.at_] at q;exact(ur C.kd).2 (congrArg Prod.fst (qd q)).symm)
 | cel h=>exact cell h
 | fre q=>
  refine e12 (I.fs.names x _ hk1) fun k' f1 f2=>?_
  rw[q] at f1;obtain rfl:=qd f1
  rcases f2 with f2 | ⟨_,f2⟩
  ·(replace hl:=hk1▸hl;replace hl:=(Eq.symm f2)▸hl);exact(jt hl).elim
  ·exact NameKind.noConfusion f2
end
theorem nf{M:Model}{A:Around}{α:Type}{t:Sem α}{Q:α->Shared->Prop}{s:Shared}{Er:Value->Shared->Prop}(h:wpAny M A t Q no s):wpAny M A t Q Er s:=wpAny_mono h (fun z_ z_ z=>z) fun z_ z_ z=>z.elim
section
variable {c:CC}{F:Fr'}{g:Gh}{s:Shared}{A:Around}{st:St}{n:Nat}
theorem Hp.extBut{sg:List SO}{h':Heap}{a:Addr}(H:Hp c g sg s)(ha:g a=none)(hs:Heap.ExtBut a s.heap h'){s':Shared}(h1:s'.heap=h')(h2:s'.gens=s.gens)(h3:s'.os=s.os):Hp c g sg s':=
 ⟨h1▸fun b k o e=>by
  refine e12 (H.fits b k o e) fun o' e1 e2=>?_
  exact(i12 o' (hs b o' (fun q=>by rw[q,ha] at e;exact(j6 e).elim) e1) e2),H.gd,H.base,H.sig,h2.trans H.gens,h3.trans H.os⟩
theorem sq:∀{xs:List Str}{ts:List T}{env env':Loc},pt xs ts env=some env'->xs.length=ts.length
 | [],[],_,_,_=>rfl
 | _::xs,_::ts,_,_,h=>by exact rwg qj<|rwg qj<|rwg (sq (by exact h:pt xs ts _=some _)) rfl
 | [],_::_,_,_,h=>(j6 h).elim
 | _::_,[],_,_,h=>(j6 h).elim
structure Each(E:Env)(es:List qo)(xs:List Str)(ps:List Pos):Prop where
 len:(assignEach es E).length=xs.length
 star:(assignEach es E).findIdx? (·.1)=none
 each:(assignEach es E).map (·.2)=(xs.zip ps).map (fun p v=>(do standAt p.2;bindName E p.1 v))
 ps:ps.length=xs.length
theorem q0p{E:Env}:∀{es:List qo}{xs:List Str},my es=some xs->∃ps,Each E es xs ps:=by
 intro es
 induction es with
 | nil=>
  intro xs h
  obtain rfl:=qd h;exact⟨[],rfl,rfl,rfl,rfl⟩
 | cons e es ih=>
  intro xs h
  refine e12 (j9 (by exact h:opt (zh e) (fun x=>opt (my es) fun l=>some (x::l))=some xs)) fun x h1 h2=>?_
  refine e12 (j9 h2) fun ys h3 h4=>?_
  refine e11 (xt h1) fun p zz1=>?_;subst zz1
  obtain rfl:=qd h4
  obtain⟨ps,Z⟩:=ih h3
  have e0:assignEach (.Name x p::es) E=(false,assign (.Name x p) E)::assignEach es E:=rfl
  exact⟨p::ps,⟨by exact rwg e0<|rwg qj<|rwg qj<|rwg Z.len rfl,by refine rwg e0<|rwg List.findIdx?_cons ?_;simp[Z.star],by refine rwg e0<|rwg qv<|rwg Z.each ?_;rfl,by exact rwg qj<|rwg qj<|rwg Z.ps rfl⟩⟩
theorem i4:∀{xs:List Str}{ps:List Pos}{ts:List T}{vs:List Value}{st:St}{env':Loc}{g:Gh}{s:Shared},ps.length=xs.length->pt xs ts st.env=some env'->(∀x∈xs,u5 (jc F.sc x)=true)->RepL c.w g vs ts->Inv c F g st s ->
  ∀{K:Unit->Shared->Prop},(∀g' s',Inv c F g' ⟨env',st.sg,st.as⟩ s'->StepS g g'->K () s')->wpAny (model c.prog c.w) A (assignInOrder ((xs.zip ps).map (fun p v=>(do standAt p.2;bindName F.E p.1 v))) vs) K no s
 | [],ps,ts,vs,st,env',g,s,hp,h,hx,r,I,K,k=>by
  cases r with
  | nil=>obtain rfl:=qd h;exact qx (k g s I (StepS.refl g))
  | cons _ _=>exact(j6 h).elim
 | x::xs,[],ts,vs,st,env',g,s,hp,h,hx,r,I,K,k=>nomatch hp
 | x::xs,p::ps,ts,vs,st,env',g,s,hp,h,hx,r,I,K,k=>by
  cases r with
  | nil=>exact(j6 h).elim
  | @cons v t vs ts hv hr=>
   have h:pt xs ts (v0 x (.val t) st.env)=some env':=h
   refine(?_:wpAny _ _ (holding _ (do standAt p;bindName F.E x _) >>= fun z_=>assignInOrder _ _) _ _ _)
   refine qm (wpAny_holding (qm (wpAny_standAt (wpAny_bindName ?_))))
   refine y7 (e:=.val _) I (hx x (.head _)) hv fun g' s' I' S'=>?_
   exact i4 (st:=⟨v0 x (.val t) st.env,st.sg,st.as⟩) (Nat.succ.inj hp) h (fun y hy=>hx y (.tail _ hy)) (hr.mono S'.mono) I' fun g'' s'' I'' S''=>k g'' s'' I'' (S'.trans S'')
theorem uk{tg:qo}{t:T}{v:Value}{env':Loc}(R:Room A n)(I:Inv c F g st s)(h:q0g F.sc tg t st.env=some env')(hv:Rep c.w g v t){K:Unit->Shared->Prop}
  (k:∀g' s',Inv c F g' ⟨env',st.sg,st.as⟩ s'->StepS g g'->K () s'):wpAny (model c.prog c.w) A (assign tg F.E v) K no s:=by
 induction tg using Expr.casesOn with
 | Name x p=>
  refine e02 (jh (by exact h:grd (u5 (jc F.sc x)) (some (v0 x (.val t) st.env))=some env')) fun hl h=>?_
  obtain rfl:=qd h
  rw[arm_assign_Name]
  exact qm (wpAny_standAt (wpAny_bindName (y7 (e:=.val t) I hl hv k)))
 | Tuple es m p=>
  refine e12 (j9 (by exact h:opt (my es) (fun xs=>opt t.tup? fun ts=>grd (xs.all fun x=>u5 (jc F.sc x)) (pt xs ts st.env))=some env')) fun xs hn h=>?_
  refine e12 (j9 h) fun ts h1 h2=>?_
  refine e02 (jh h2) fun hx h3=>?_
  obtain rfl:=T.tup?_is h1
  refine e32 hv.tup_inv fun a o vs zz3 C=>?_;subst zz3
  refine e11 (q0p (E:=F.E) hn) fun ps Z=>?_
  have ht:=C.o.at (I.fits.exact C.at_ (jb rfl))
  rw[arm_assign_Tuple]
  refine qm (wpAny_standAt (PyProof.Rows.unpack_tuple R.handled ht (by exact rwg Z.len<|rwg (sq h3)<|rwg List.size_toArray<|rwg C.r.len rfl) Z.star fun h' hs=>?_))
  refine rwg Z.each ?_
  exact i4 (s:={ s with heap:=h' }) Z.ps h3 (fun x hx'=>qy.mp hx x hx') C.r ⟨I.toHp.extBut I.fits.new hs rfl rfl rfl,I.fs,I.fr⟩ k
 | _=>exact(j6 h).elim
structure ItO(g:Gh)(it:Addr)(oi:Obj):Prop where
 at_:g it=some (.still,oi)
 nocel:∀ov,oi.data ≠ .cell ov
theorem ItAt.obj{it:Addr}{w:World}{rem:List T}(h:ItAt w g it rem):∃oi,ItO g it oi:=by
 cases h with
 | list a b d _ _ _=>exact⟨_,⟨a,fun ov=>by refine rwg d ?_;nofun⟩⟩
 | rev a b d _ _ _ _=>exact⟨_,⟨a,fun ov=>by refine rwg d ?_;nofun⟩⟩
 | range a=>exact⟨_,a,fun ov=>nofun⟩
 | dict a b d _ _ _ _=>exact⟨_,⟨a,fun ov=>by refine rwg d ?_;nofun⟩⟩
theorem q52{it:Addr}{tg:qo}{v:Value}{rem:List T}{sg:List SO}(H:Hp c g sg s)(h:ItAt c.w g it rem){Q:Unit->Shared->Prop}{Er:Value->Shared->Prop}(hQ:Q () s):wpAny (model c.prog c.w) A (letOwnedTupleGo tg (.ref it) v) Q Er s:=by
 unfold letOwnedTupleGo
 have fin:wpAny (model c.prog c.w) A (do
   let (.ref r,.ref a):=((Value.ref it),v) | return
   let o ←load r
   match o.cls,o.data with
   | .type n,.fields vs=>
    if ["enumerate","zip","dict_itemiterator","dict_reverseitemiterator","odict_iterator","itertools.zip_longest","itertools.pairwise"].contains n&&vs[0]? == some (rawInt a) then
     rule "for.unpacks-the-owned-tuple"
     updateField r 0 .none
   | _,_=>pure ()) Q Er s:=by
  induction v using Value.casesOn with
  | ref a=>
   dsimp only
   cases h with
   | list a1 b d _ _ _=>refine qm (wpAny_load (H.fits.exact a1 (jb rfl)) ?_);refine rwg b<|rwg d ?_;exact qx hQ
   | rev a1 b d _ _ _ _=>refine qm (wpAny_load (H.fits.exact a1 (jb rfl)) ?_);refine rwg b<|rwg d ?_;exact qx hQ
   | range a1=>refine qm (wpAny_load (H.fits.exact a1 (jb rfl)) ?_);exact qx hQ
   | dict a1 b d _ _ _ _=>refine qm (wpAny_load (H.fits.exact a1 (jb rfl)) ?_);refine rwg b<|rwg d ?_;exact qx hQ
  | _=>exact qx hQ
 induction tg using Expr.casesOn with
 | Tuple _ _=>exact fin
 | List _ _=>exact fin
 | _=>exact qx hQ
theorem FrR.but{w:World}{env:Loc}{g':Gh}{it:Addr}{oi:Obj}(H:FrR w g F env)(h0:ItO g it oi)(h2:∀a k o,a≠it->g a=some (k,o)->g' a=some (k,o)):FrR w g' F env:=by
 have ne:∀{a:Addr}{k:Kd}{o:Obj},g a=some (k,o)->k ≠ .still->g' a=some (k,o):=fun e n=>h2 _ _ _ (fun z=>by(replace e:=z▸e;rewrite[h0.at_] at e);replace e:=qd e;cases e;exact n rfl) e
 have m:Mono g g':=⟨fun a o e=>ne e (jb rfl),fun a o e=>ne e (jb rfl),fun a i p o e=>⟨o,ne e (jb rfl)⟩⟩
 have ent:∀{y:Str}{v:Value}{e:Ent},EntR w g (.mine y) v e->EntR w g' (.mine y) v e:=fun h=>h.kd m fun a p o e=>ne e (jb rfl)
 refine⟨H.tmp,?_,fun y hy=>?_⟩
 ·refine e21 H.loc fun o mm L=>?_
  exact i21 o mm ⟨ne L.at_ (jb rfl),L.ns,fun x e hx hk=>e12 (L.ent x e hx hk) fun v p q=>i12 v p (ent q)⟩
 ·refine e41 (H.cel y hy) fun cc k o ov C=>?_
  exact i41 cc k o ov ⟨C.cell,h2 _ _ _ (fun z=>by have b:=C.at_;rw[z,h0.at_] at b;replace b:=qd b;cases b;exact h0.nocel _ C.data) C.at_,C.data,C.kd,C.own,fun x hx=>e13 (C.ent x hx) fun v p z u=>i13 v p (ent z) u⟩
noncomputable def gdrop(g:Gh)(a:Addr):Gh:=fun b=>if b=a then none else g b
theorem k7{a b:Addr}(h:b≠a):gdrop g a b=g b:=if_neg h
theorem zv{a b:Addr}{x:Kd×Obj}(h:gdrop g a b=some x):b≠a∧g b=some x:=by
 by_cases z:b=a
 ·rw[show gdrop g a b=none from if_pos z] at h;exact(j6 h).elim
 ·exact⟨z,by rw[k7 z] at h;exact h⟩
theorem Hp.gdrop{sg:List SO}{it:Addr}{oi:Obj}{h':Heap}(H:Hp c g sg s)(h0:ItO g it oi)(hb:c.base.get? it=none)(hs:Heap.ExtBut it s.heap h'){s':Shared}(h1:s'.heap=h')(h2:s'.gens=s.gens)(h3:s'.os=s.os):Hp c (Mine.gdrop g it) sg s':=by
 have ne:∀{a:Addr}{k:Kd}{o:Obj},g a=some (k,o)->k ≠ .still->Mine.gdrop g it a=some (k,o):=fun e n=>(k7 (fun z=>by(replace e:=z▸e;rewrite[h0.at_] at e);replace e:=qd e;cases e;exact n rfl)).trans e
 refine⟨h1▸fun a k o e=>?_,H.gd,fun a o e=>?_,H.sig.mono ⟨fun a o e=>ne e (jb rfl),fun a o e=>ne e (jb rfl),fun a i p o e=>⟨o,ne e (jb rfl)⟩⟩ fun a i p o=>⟨fun e=>ne e (jb rfl),fun e=>(zv e).2⟩,h2.trans H.gens,h3.trans H.os⟩
 ·refine e02 (zv e) fun z e=>?_
  refine e12 (H.fits a k o e) fun o' e1 e2=>?_
  exact i12 o' (hs a o' z e1) e2
 ·exact(k7 (fun z=>by rw[z,hb] at e;exact(j6 e).elim)).trans (H.base a o e)
structure Since(g0 g:Gh):Prop where
 old:∀a k o,g0 a=some (k,o)->k = .still∨k = .froz∨k = .fdict->g a=some (k,o)
 shr:∀a i p o,g0 a=some (.shr i p,o)->∃o',g a=some (.shr i p,o')
theorem Since.step{g0:Gh}(h:Since g0 g):StepS g0 g:=⟨fun a o e=>h.old a _ o e (.inl rfl),fun a o e=>h.old a _ o e (.inr (.inl rfl)),fun a o e=>h.old a _ o e (.inr (.inr rfl)),h.shr⟩
theorem Since.of{g0:Gh}(h:StepS g0 g):Since g0 g:=⟨fun a k o e z=>by rcases z with rfl | rfl | rfl;exact h.still _ _ e;exact h.froz _ _ e;exact h.fdict _ _ e,h.shr⟩
theorem Since.but {g0 g':Gh} {it:Addr} (h:Since g0 g) (h0:∀k o,g0 it=some (k,o)→∃p,k = .mine "#" p) (h2:∀a k o,a≠it→g a=some (k,o)→g' a=some (k,o)):Since g0 g':=by
 have na:∀{a k o},g0 a=some (k,o)→(∀p,k ≠ .mine "#" p)→a≠it:=fun e n z=>by
  subst z
  obtain⟨p,rfl⟩:=h0 _ _ e
  exact n p rfl
 refine⟨fun a k o e z=>h2 _ _ _ (na e fun p q=>by rcases z with z | z | z <;> rw[z] at q <;> exact Kd.noConfusion q) (h.old a k o e z),fun a i p o e=>?_⟩
 obtain⟨o',e'⟩:=h.shr a i p o e
 exact⟨o',h2 _ _ _ (na e (fun z_=>jb rfl)) e'⟩
end
theorem Ended.st{α:Type}{a a':α}{env':Loc}{sg':List SO}{st:St}(h:Ended a a' env' st.env sg' st.sg st.as):a'=a∧st=⟨env',sg',[]⟩:=by
 obtain⟨env,sg,as⟩:=st
 obtain⟨h1,h2,h3,h4⟩:=h
 cases h1;cases h2;cases h3;cases h4
 exact⟨rfl,rfl⟩
section
variable {W:Cx}{f:Fns}{F:Fr'}{g:Gh}{st:St}{s:Shared}
theorem xy(H:Snd W f):∀{b:List Stmt}{st:St}{Q:Fl->St->Prop}{g:Gh}{s:Shared}{K:Flow->Shared->Prop},wb (f.exec F.sc) b st Q->Inv W.c F g st s->KS W F g Q K->WP W (execs b F.E) K s:=by
 intro b
 induction b with
 | nil=>
  intro st Q g s K h I k
  exact wpAny_execs_nil (k .next s g .next st I (StepS.refl g) .next h)
 | cons b bs ih=>
  intro st Q g s K h I k
  have h:f.exec F.sc b st (fun fl st1=>match fl with
   | .next=>wb (f.exec F.sc) bs st1 Q
   | .ret v=>Q (.ret v) st1):=h
  refine rwg (execs_cons _ _ _) ?_
  refine qm (H.exec h I fun fl s1 g1 fl' st1 I1 S1 z1 q1=>?_)
  cases z1 with
  | next=>exact ih q1 I1 fun fl s2 g2 fl' st2 I2 S2=>k fl s2 g2 fl' st2 I2 (S1.trans S2)
  | ret z=>exact qx (k _ s1 g1 _ st1 I1 S1 (.ret z) q1)
theorem qge{p}{Q:Fl->St->Prop}{K:Flow->Shared->Prop}(h:Q .next st)(I:Inv W.c F g st s)(k:KS W F g Q K):WP W (PySem.exec (.Pass p) F.E) K s:=wpAny_Pass (k .next s g .next st I (StepS.refl g) .next h)
theorem qcr (H:Snd W f) {tg:qo} {b:List Stmt} {it:Addr} {g0:Gh} {fl:Fl} {env':Loc} {sg':List SO} (hbase:W.c.base.get? it=none) (hg0:∀k o,g0 it=some (k,o)→∃p,k = .mine "#" p)
  {items:List T} {env:Loc} {sg:List SO} {g:Gh} {s:Shared} (h:LoopR (d8 f F.sc tg b) items env sg fl env' sg') (I:Inv W.c F g ⟨env,sg,[]⟩ s) (hS:Since g0 g) (hit:ItAt W.c.w g it items) {K:Result->Shared->Prop}
  (k:∀f s' g',Inv W.c F g' ⟨env',sg',[]⟩ s'->StepS g0 g'->FlR W.c.w g' f fl->K (.ok f) s'):codeAny (model W.c.prog W.c.w) W.A (.forLoop tg (.ref it) b [] F.E) K s:=by
 refine codeAny_forLoop_any (R:=K) (fun n s=>∃items env sg g,items.length=n∧LoopR (d8 f F.sc tg b) items env sg fl env' sg'∧Inv W.c F g ⟨env,sg,[]⟩ s∧Since g0 g∧ItAt W.c.w g it items) ?_ items.length (i45 items env sg g rfl h I hS hit)
 clear h I hS hit
 rintro n s ⟨items,env,sg,g,rfl,h,I,hS,hit⟩
 refine e11 hit.obj fun oi Z=>?_
 cases h with
 | nil=>
  refine q2k I.toHp H.R hit fun h' hs=>?_
  have hne:∀a k o,a≠it->g a=some (k,o)->gdrop g it a=some (k,o):=fun a k o n e=>(k7 n).trans e
  exact wpAny_execs_nil (k .next _ _ ⟨I.toHp.gdrop Z hbase hs rfl rfl rfl,I.fs,I.fr.but Z hne⟩ (hS.but hg0 hne).step .next)
 | @next t rem _ env1 _ _ sg1 _ _ he hr=>
  refine nw I.toHp hbase hit fun v s1 o1 hv H1 hs1 hit1=>?_
  have hne:∀a k o,a≠it->g a=some (k,o)->jp g it .still o1 a=some (k,o):=fun a k o n e=>(je n).trans e
  have hS1:=hS.but hg0 hne
  refine q52 H1 hit1 ?_
  refine e11 he fun as hx=>?_;clear he
  refine e12 (jd hx) fun env2 h1 h2=>?_
  have I1:Inv W.c F (jp g it .still o1) ⟨env,sg,as⟩ s1:=⟨H1,I.fs,I.fr.but Z hne⟩
  refine nf (uk H.R I1 h1 (hv.mono (kg Z.at_)) fun g2 s2 I2 S2=>?_)
  refine nf (xy H h2 I2 fun fl' s3 g3 fl3 st3 I3 S3 z3 q3=>?_)
  refine e02 q3.st fun zz0 zz1=>?_;subst zz0;subst zz1
  cases z3
  have S12:=S2.trans S3
  exact i12 rem.length (Nat.lt_succ_self _) (i45 rem _ _ g3 rfl hr I3 (Since.of (hS1.step.trans S12)) (hit1.mono S12.mono fun o e=>S12.still _ _ e))
 | @ret t rem _ env1 _ sg1 v he=>
  refine nw I.toHp hbase hit fun v s1 o1 hv H1 hs1 hit1=>?_
  have hne:∀a k o,a≠it->g a=some (k,o)->jp g it .still o1 a=some (k,o):=fun a k o n e=>(je n).trans e
  have hS1:=hS.but hg0 hne
  refine q52 H1 hit1 ?_
  refine e11 he fun as hx=>?_;clear he
  refine e12 (jd hx) fun env2 h1 h2=>?_
  have I1:Inv W.c F (jp g it .still o1) ⟨env,sg,as⟩ s1:=⟨H1,I.fs,I.fr.but Z hne⟩
  refine nf (uk H.R I1 h1 (hv.mono (kg Z.at_)) fun g2 s2 I2 S2=>?_)
  refine nf (xy H h2 I2 fun fl' s3 g3 fl3 st3 I3 S3 z3 q3=>?_)
  refine e02 q3.st fun zz0 zz1=>?_;subst zz0;subst zz1
  cases z3 with
  | ret z=>exact k _ s3 g3 I3 (hS1.step.trans (S2.trans S3)) (.ret z)
end
theorem q03(x y:Str):∀env:Loc,jn y (eh x env)=if x=y then none else jn y env:=by
 intro env
 induction env with
 | nil=>
  refine(?_:none=if x=y then none else none)
  exact rwg (ite_self _) rfl
 | cons zz r ih=>
  obtain⟨a,u⟩:=zz
  by_cases h:a=x
  ·subst h
   refine(?_:jn y (if a=a then _ else _)=_)
   refine rwg (if_pos rfl) ?_
   refine(?_:(if a=y then none else jn y (eh a r))=if a=y then none else if a=y then u else jn y r)
   refine rwg (ih) ?_
   by_cases q:a=y
   ·exact rwg (if_pos q)<|rwg (if_pos q) rfl
   ·exact rwg (if_neg q)<|rwg (if_neg q)<|rwg (if_neg q)<|rwg (if_neg q) rfl
  ·refine(?_:jn y (if a=x then _ else _)=_)
   refine rwg (if_neg h) ?_
   refine(?_:(if a=y then u else jn y (eh x r))=if x=y then none else if a=y then u else jn y r)
   by_cases q:a=y
   ·exact rwg (if_pos q)<|rwg (if_pos q)<|rwg (if_neg fun z=>h (q.trans z.symm)) rfl
   ·refine rwg (if_neg q)<|rwg (if_neg q) ?_;exact ih
section
variable {W:Cx}{f:Fns}{F:Fr'}{g:Gh}{st:St}{s:Shared}{Q:Fl->St->Prop}{K:Flow->Shared->Prop}
theorem Inv.move {c:CC} {x:Str} (I:Inv c F g st s):Inv c F (give g x "#") ⟨eh x st.env,st.sg,st.as⟩ s:=by
 have look:∀{y:Str}{d:Ent},jn y (eh x st.env)=some d->y≠x∧jn y st.env=some d:=fun {y d} h=>by
  rw[q03] at h
  by_cases q:x=y
  ·rw[if_pos q] at h;exact(j6 h).elim
  ·rw[if_neg q] at h;exact⟨Ne.symm q,h⟩
 have ht:jn "#" (eh x st.env)=none:=by
  refine rwg (q03 _ _ _) ?_;by_cases q:x="#"
  ·exact rwg (if_pos q) rfl
  ·refine rwg (if_neg q) ?_;exact I.fr.tmp
 refine⟨I.toHp.give x "#",I.fs,I.fr.turn ht (fun a o e=>xf e (fun z_=>jb rfl)) (fun a y k o z e=>xf e fun p q=>(ur z).1 _ _ q) fun y e' hy=>?_⟩
 refine e02 (look hy) fun h1 h2=>?_
 exact i13 e' h2 (fun v h=>h.kd (y4 g x "#") fun a p o q=>xf q fun p' z=>h1 (by injection z)) id
theorem qfd{sc:Scope}{e:qo}{p:Str×Ent}(h:qfe sc st e=some p):∃xp,e = .Name p.1 xp∧z8 (jc sc p.1)=true∧jn p.1 st.env=some p.2:=by
 refine e12 (j9 h) fun x h1 h2=>?_
 refine e02 (jh h2) fun h3 h4=>?_
 refine e12 (j9 h4) fun r h5 h6=>?_
 refine e02 (jh h6) fun h7 h8=>?_
 obtain rfl:=qd h8
 refine e11 (xt h1) fun xp zz1=>?_;subst zz1
 exact i13 xp rfl h3 h5
theorem q9g(H:Snd W f){v p}(h:qhn f F.sc v st Q)(I:Inv W.c F g st s)(k:KS W F g Q K):WP W (PySem.exec (.Return v p) F.E) K s:=by
 induction v using qe with
 | none=>exact wpAny_Return_none (k (.ret .none) s g (.ret (.val .none)) st I (StepS.refl g) (.ret (r:=.val .none) .none) h)
 | some e=>
  refine wpAny_Return_some ?_
  have h:orP (qfe F.sc st e) (fun p=>Q (.ret p.2) ⟨eh p.1 st.env,st.sg,st.as⟩) (f.eval F.sc e st fun r=>Q (.ret r.handed)):=h
  induction q:qfe F.sc st e using qe with
  | some x=>
   rw[q] at h
   refine e13 (qfd q) fun xp zz1 h1 h2=>?_;subst zz1
   exact yb I h1 h2 fun v z=>k _ _ (give g x.1 "#") _ _ I.move (StepS.give g x.1 "#") (.ret (z.kd (y4 g x.1 "#") fun a p o e=>oj e)) h
  | none=>
   rw[q] at h
   refine H.eval h I fun v s1 g1 r st1 I1 S1 z1 q1=>?_
   induction r using Ent.casesOn with
   | inst C fs=>exact k _ _ _ _ _ I1.frzTmp (S1.s.trans (StepE.frz g1 "#").s) (.ret (r:=.val (Ent.fz (.inst C fs))) z1.frz) q1
   | val t=>exact k _ _ g1 _ _ I1 S1.s (.ret z1) q1
   | list xs=>exact k _ _ g1 _ _ I1 S1.s (.ret z1) q1
   | dict es=>exact k _ _ g1 _ _ I1 S1.s (.ret z1) q1
theorem qkx(H:Snd W f){t b o p}(h:qky f F.sc t b o st Q)(I:Inv W.c F g st s)(k:KS W F g Q K):WP W (PySem.exec (.If t b o p) F.E) K s:=by
 refine wpAny_If (H.test h I fun q s1 g1 st1 I1 S1 q1=>?_)
 have go:WP W (execs (cond q b o) F.E) K s1:=xy H q1 I1 fun fl s2 g2 fl' st2 I2 S2=>k fl s2 g2 fl' st2 I2 (S1.s.trans S2)
 induction q using qg with
 | true=>exact go
 | false=>exact go
inductive rp(Y:St->(Bool->St->Prop)->Prop)(X:St->(Fl->St->Prop)->Prop):Nat->Loc->List SO->Fl->Loc->List SO->Prop
 | done {env env1:Loc} {sg sg1:List SO}:wq Y env sg false env1 sg1->rp Y X 0 env sg .next env1 sg1
 | next {n:Nat} {env env1 env2 env3:Loc} {sg sg1 sg2 sg3:List SO} {fl:Fl}:wq Y env sg true env1 sg1->wq X env1 sg1 .next env2 sg2->rp Y X n env2 sg2 fl env3 sg3->rp Y X (n+1) env sg fl env3 sg3
 | ret {env env1 env2:Loc} {sg sg1 sg2:List SO} {v:Ent}:wq Y env sg true env1 sg1->wq X env1 sg1 (.ret v) env2 sg2->rp Y X 0 env sg (.ret v) env2 sg2
theorem WhileR.n{Y:St->(Bool->St->Prop)->Prop}{X:St->(Fl->St->Prop)->Prop}{env env':Loc}{sg sg':List SO}{fl:Fl}(h:WhileR Y X env sg fl env' sg'):∃n,rp Y X n env sg fl env' sg':=by
 induction h with
 | done h=>exact⟨0,.done h⟩
 | next h1 h2 _ ih=>obtain⟨n,h3⟩:=ih;exact⟨n+1,.next h1 h2 h3⟩
 | ret h1 h2=>exact⟨0,.ret h1 h2⟩
theorem qcx(H:Snd W f){t b o p}(h:q7m f F.sc t b o st Q)(I:Inv W.c F g st s)(k:KS W F g Q K):WP W (PySem.exec (.While t b o p) F.E) K s:=by
 refine e02 (jj h) fun ho h=>?_
 refine e42 (lc h) fun fl env' sg' as' h1 h2=>?_
 refine e11 h1.n fun n h3=>?_
 obtain rfl:o=[]:=by
  induction o using qf with
  | nil=>rfl
  | cons _ _=>exact(jt ho).elim
 refine wpAny_While ?_
 refine codeAny_mono (codeAny_whileLoop (R:=fun r s'=>∃x,r = .ok x∧K x s') (fun n s=>∃env sg g1,rp (f.test F.sc t) (wb (f.exec F.sc) b) n env sg fl env' sg'∧Inv W.c F g1 ⟨env,sg,[]⟩ s∧StepS g g1) ?_ n (i33 st.env st.sg g h3 (I.tell []) (StepS.refl g))) ?_
 ·rintro n s ⟨env,sg,g1,h,I,S⟩
  cases h with
  | done e=>
   refine e11 e fun as hx=>?_;clear e
   refine nf (H.test hx (I.tell as) fun q s1 g2 st1 I2 S2 q2=>?_)
   refine e02 q2.st fun zz0 zz1=>?_;subst zz0;subst zz1
   exact wpAny_execs_nil (i12 _ rfl (k .next _ g2 _ _ (I2.tell as') (S.trans S2.s) .next h2))
  | @next m _ env1 env2 _ _ sg1 sg2 _ _ e e' hr=>
   refine e11 e fun as hx=>?_;clear e
   refine nf (H.test hx (I.tell as) fun q s1 g2 st1 I2 S2 q2=>?_)
   refine e02 q2.st fun zz0 zz1=>?_;subst zz0;subst zz1
   refine e11 e' fun as2 hx2=>?_;clear e'
   refine nf (xy H hx2 (I2.tell as2) fun f s2 g3 fl3 st3 I3 S3 z3 q3=>?_)
   refine e02 q3.st fun zz0 zz1=>?_;subst zz0;subst zz1
   cases z3
   exact i12 m (Nat.lt_succ_self m) (i33 _ _ g3 hr I3 ((S.trans S2.s).trans S3))
  | ret e e'=>
   refine e11 e fun as hx=>?_;clear e
   refine nf (H.test hx (I.tell as) fun q s1 g2 st1 I2 S2 q2=>?_)
   refine e02 q2.st fun zz0 zz1=>?_;subst zz0;subst zz1
   refine e11 e' fun as2 hx2=>?_;clear e'
   refine nf (xy H hx2 (I2.tell as2) fun f s2 g3 fl3 st3 I3 S3 z3 q3=>?_)
   refine e02 q3.st fun zz0 zz1=>?_;subst zz0;subst zz1
   cases z3 with
   | ret z=>exact i12 _ rfl (k _ _ g3 _ _ (I3.tell as') ((S.trans S2.s).trans S3) (.ret z) h2)
 ·rintro r s' ⟨x,rfl,h⟩
  exact h
theorem qj3(H:Snd W f){fin:List Stmt}{fl:Flow}{fl':Fl}(I:Inv W.c F g st s)(z:FlR W.c.w g fl fl')(h:wb (f.exec F.sc) fin st fun fl2 st2=>gd fl2.next? (Q fl'.fz st2))(k:KS W F g Q K){Er:Value->Shared->Prop}:
  wpAny (model W.c.prog W.c.w) W.A (execs fin F.E) (fun g s'=>match g with | .next=>K fl s' | g=>K g s') Er s:=by
 have go:∀{g0:Gh},StepS g g0->Inv W.c F g0 st s->FlR W.c.w g0 fl fl'.fz->(∀{g':Gh},StepS g0 g'->FlR W.c.w g0 fl fl'.fz->FlR W.c.w g' fl fl'.fz)->wpAny (model W.c.prog W.c.w) W.A (execs fin F.E) (fun g s'=>match g with | .next=>K fl s' | g=>K g s') Er s:=fun S0 I0 z0 m=>by
  refine nf (xy H h I0 fun f2 s2 g2 fl2 st2 I2 S2 z2 q2=>?_)
  refine e02 (jj q2) fun q3 q4=>?_
  cases z2 with
  | next=>exact k fl s2 g2 _ st2 I2 (S0.trans S2) (m S2 z0) q4
  | ret z=>exact(jt q3).elim
 cases z with
 | next=>exact go (StepS.refl g) I .next fun z_ z_=>.next
 | @ret v r z=>exact go (StepE.frz g "#").s I.frzTmp (.ret (r:=.val r.fz) z.frz) fun S z_=>.ret (r:=.val r.fz) (Rep.mono S.mono z.frz)
theorem qj6(H:Snd W f){b hs o fin p}(h:qcy f F.sc b o fin st Q)(I:Inv W.c F g st s)(k:KS W F g Q K):WP W (PySem.exec (.Try b hs o fin p) F.E) K s:=by
 refine e02 (jj h) fun h1 h2=>?_
 obtain⟨ho,hf⟩:=qh.mp h1
 obtain rfl:o=[]:=by
  induction o using qf with
  | nil=>rfl
  | cons _ _=>exact(jt ho).elim
 induction fin using qf with
 | nil=>exact(jt hf).elim
 | cons f0 fs=>
  have nx:∀{s1 g1 st1 fl fl'},Inv W.c F g1 st1 s1->StepS g g1->FlR W.c.w g1 fl fl'->(wb (f.exec F.sc) (f0::fs) st1 fun fl2 st2=>gd fl2.next? (Q fl'.fz st2))->∀{Er:Value->Shared->Prop},wpAny (model W.c.prog W.c.w) W.A (execs (f0::fs) F.E) (fun g s'=>match g with | .next=>K fl s' | g=>K g s') Er s1:=
   fun I1 S1 z1 q1=>qj3 H I1 z1 q1 fun f2 s2 g2 fl2 st2 I2 S2=>k f2 s2 g2 fl2 st2 I2 (S1.trans S2)
  induction hs using qf with
  | nil=>
   refine wpAny_Try_finally (nf (xy H h2 I fun fl s1 g1 fl' st1 I1 S1 z1 q1=>?_))
   cases z1 with
   | next=>exact wpAny_execs_nil (nx I1 S1 .next q1)
   | ret z=>exact nx I1 S1 (.ret z) q1
  | cons a hs=>
   refine wpAny_Try_except_finally (nf (xy H h2 I fun fl s1 g1 fl' st1 I1 S1 z1 q1=>?_))
   cases z1 with
   | next=>exact wpAny_execs_nil (nx I1 S1 .next q1)
   | ret z=>exact nx I1 S1 (.ret z) q1
end
section
variable {W:Cx}{f:Fns}{F:Fr'}{g:Gh}{st:St}{s:Shared}{Q:Fl->St->Prop}{K:Flow->Shared->Prop}{c:CC}
theorem Inv.shareList {a:Addr} {o:Obj} {vs:List Value} {xs:List T} (I:Inv c F g st s) (h1:g a=some (.mine "#" .main,o)) (h2:OList o vs) (h3:RepL c.w g vs xs) :
  Inv c F (jp g a (.shr st.sg.length .main) o) ⟨st.env,st.sg++[.list xs],st.as⟩ s∧StepE g (jp g a (.shr st.sg.length .main) o):=by
 have K:KeepF g (jp g a (.shr st.sg.length .main) o):=KeepF.tmp h1
 have ha:=I.fits.exact h1 (jb rfl)
 have old:∀{b:Addr}{i:Nat}{p:Part}{x:Obj},g b=some (.shr i p,x)->jp g a (.shr st.sg.length .main) o b=some (.shr i p,x):=fun e=>(je (fun q=>by rw[q,h1] at e;exact nomatch e)).trans e
 have inv:∀{b:Addr}{i:Nat}{p:Part}{x:Obj},jp g a (.shr st.sg.length .main) o b=some (.shr i p,x)->(b=a∧i=st.sg.length)∨(g b=some (.shr i p,x)∧i<st.sg.length):=fun {b i p x} e=>by
  by_cases q:b=a
  ·subst q;rw[jf] at e;cases e;exact .inl ⟨rfl,rfl⟩
  ·rw[je q] at e;exact .inr ⟨e,I.sig.lt _ _ _ _ e⟩
 refine⟨⟨⟨I.fits.upd _ (Heap.SameBut.refl _ _) ha,I.gd,fun b x q=>K.step.still b x (I.base b x q),⟨fun i so q=>?_,fun i b b' x x' e e'=>?_,fun i p b x e=>?_⟩,I.gens,I.os⟩,I.fs,I.fr.keepF K⟩,K.step⟩
 ·by_cases hi:i<st.sg.length
  ·rw[List.getElem?_append_left hi] at q
   obtain⟨b,z⟩:=I.sig.at_ i so q
   exact⟨b,z.mono K.step.mono fun z_ z_ z_ e=>old e⟩
  ·obtain⟨hl,_⟩:=List.getElem?_eq_some_iff.mp q
   obtain rfl:i=st.sg.length:=Nat.le_antisymm (Nat.le_of_lt_succ (by replace hl:=qk▸hl;exact hl)) (Nat.le_of_not_lt hi)
   rw[List.getElem?_append_right (Nat.le_refl _),Nat.sub_self] at q
   obtain rfl:=qd q
   exact i33 a o vs jf h2 (h3.mono K.step.mono)
 ·rcases inv e with ⟨z1,z2⟩ | ⟨z1,z2⟩ <;> rcases inv e' with ⟨y1,y2⟩ | ⟨y1,y2⟩
  ·exact rwg z1<|rwg y1 rfl
  ·exact absurd z2 (Nat.ne_of_lt y2)
  ·exact absurd y2 (Nat.ne_of_lt z2)
  ·exact I.sig.one _ _ _ _ _ z1 y1
 ·refine(?_:i<(st.sg++[SO.list xs]).length)
  refine rwg qk ?_
  rcases inv e with ⟨_,z2⟩ | ⟨_,z2⟩
  ·refine rwg z2 ?_;exact Nat.lt_succ_self _
  ·exact Nat.lt_succ_of_lt z2
noncomputable def qkr:qo->Bool
 | .ListComp _ _ _ _=>true
 | _=>false
theorem q98{e:qo}{E:Env}(h:okE e=true)(hn:qkr e=false)(tg:Option qo)(k:Nat):swapsWith e tg k E=pure false:=by
 induction e using Expr.casesOn with
 | ListComp a b d p=>exact(jt hn.symm).elim
 | SetComp=>exact(jt h).elim
 | DictComp=>exact(jt h).elim
 | _=>rfl
theorem q0d {A:Around} {x:Str} {v:Value} {r:Ent} (I:Inv c F g st s) (hl:u5 (jc F.sc x)=true) (z:EntR c.w g (.mine "#") v r) {K:Unit→Shared→Prop} (k:∀g' s',Inv c F g' (putName F.sc x r st) s'→StepS g g'→K () s') :
  wpAny (model c.prog c.w) A (storeName F.E x v) K no s:=by
 have nat:putName F.sc x r st=⟨v0 x r st.env,st.sg,st.as⟩->wpAny (model c.prog c.w) A (storeName F.E x v) K no s:=fun e=>y7 I hl z fun g' s' I' S'=>k g' s' (e▸I') S'
 induction q:se F.sc x using qg with
 | false=>exact nat (by unfold putName;exact rwg q rfl)
 | true=>
  have e:putName F.sc x r st=i7 x r st:=by unfold putName;exact rwg q rfl
  induction r using Ent.casesOn with
  | list xs=>
   refine e34 z fun a o vs zz3 h1 h2 h3=>?_;clear z;subst zz3
   refine e02 (I.shareList h1 h2 h3) fun I' S'=>?_
   exact y7 (e:=.val (.sh st.sg.length)) I' hl (.sh jf) fun g' s' I'' S''=>k g' s' (e▸I'') (S'.s.trans S'')
  | _=>exact nat e
theorem p0(H:Snd W f){x xp e p}(h:q6j f F.sc x e st Q)(I:Inv W.c F g st s)(k:KS W F g Q K)(hn:swapsWith e (some (.Name x xp)) p.line F.E=pure false):WP W (PySem.exec (.Assign [.Name x xp] e p) F.E) K s:=by
 refine e02 (jj h) fun hl h=>?_
 exact wpAny_Assign_Name (H.eval h I fun v s1 g1 r st1 I1 S1 z1 q1=>q0d I1 hl z1 fun g2 s2 I2 S2=>k .next s2 g2 .next _ I2 (S1.s.trans S2) .next q1) hn
theorem ou(H:Snd W f){es m tp e p}(h:qhy f F.sc (.Tuple es m tp) e st Q)(I:Inv W.c F g st s)(k:KS W F g Q K):WP W (PySem.exec (.Assign [.Tuple es m tp] e p) F.E) K s:=by
 refine e02 (jj h) fun hw h=>?_
 refine Assign_Tuple (H.evalT h I fun v s1 g1 t st1 I1 S1 z1 q1=>?_) ?_ ?_
 ·refine e12 (jd q1) fun env' h1 h2=>?_
  exact uk H.R I1 h1 z1 fun g2 s2 I2 S2=>k .next s2 g2 .next _ I2 (S1.s.trans S2) .next h2
 ·refine(?_:swapsWith e (some (.Tuple es m tp)) p.line F.E=pure false)
  induction e using Expr.casesOn with
  | ListComp=>rfl
  | SetComp=>rfl
  | DictComp=>rfl
  | _=>rfl
 ·induction e using Expr.casesOn with
  | Tuple a b d=>exact(jt hw).elim
  | _=>rfl
theorem q5i(H:Snd W f){x xp op e p}(h:qea f F.sc x op e st Q)(I:Inv W.c F g st s)(k:KS W F g Q K):WP W (PySem.exec (.AugAssign (.Name x xp) op e p) F.E) K s:=by
 refine e02 (jj h) fun hl h1=>?_
 refine e12 (jd h1) fun u h2 h3=>?_
 refine e12 (jd h3) fun t h4 h5=>?_
 refine e12 (jd h5) fun i h6 h7=>?_
 obtain rfl:=T.int?_is h6
 refine wpAny_AugAssign_Name (q2r I (q2v hl) h2 fun v z=>?_)
 obtain rfl:u = .val (.int i):=by
  induction u using Ent.casesOn with
  | val t=>exact congrArg Ent.val (qd h4)
  | _=>exact(j6 h4).elim
 refine e11 (Rep.int_inv (by exact z:Rep W.c.w g v (.int i))) fun t zz1=>?_;subst zz1
 refine H.evalT h7 I fun v s1 g1 t' st1 I1 S1 z1 q1=>?_
 refine e12 (jd q1) fun j h8 h9=>?_
 obtain rfl:=T.int?_is h8
 refine e11 z1.int_inv fun t' zz1=>?_;subst zz1
 refine e12 (jd h9) fun r h10 h11=>?_
 have fin:∀{y:Int}{s2:Shared},r = .val (.int y)->Inv W.c F g1 st1 s2->WP W (storeName F.E x (.int y s1.toks)) (fun z_=>K .next) s2:=
  fun e I2=>y7 (e:=.val (.int _)) I2 hl (.int _ _) fun g' s' I' S'=>k .next s' g' .next _ I' (S1.s.trans S') .next (e▸h11)
 induction op using Operator.casesOn with
 | Add=>exact iadd_int (fin (qd h10).symm I1.re)
 | Sub=>exact isub_int (fin (qd h10).symm I1.re)
 | Mod=>
  refine e12 (j9 (by exact h10:opt (grd (small j) (some (Int.fmod i j))) (fun k=>some (Ent.val (.int k)))=some r)) fun y h12 h13=>?_
  refine e02 (jh h12) fun h14 h15=>?_
  obtain rfl:=qd h15
  exact PySem.AutoIntOps.imod_1 (by have:=(mu h14).1;simp;omega) (fin (qd h13).symm I1.re)
 | FloorDiv=>
  refine e12 (j9 (by exact h10:opt (grd (small j) (some (Int.fdiv i j))) (fun k=>some (Ent.val (.int k)))=some r)) fun y h12 h13=>?_
  refine e02 (jh h12) fun h14 h15=>?_
  obtain rfl:=qd h15
  have:=mu h14
  exact PySem.AutoIntOps.ifloordiv_1 (by simp;omega) (by refine rwg (PyProof.noPylong_small (by omega)) ?_;simp) (fin (qd h13).symm I1.re)
 | _=>exact(j6 h10).elim
theorem q9e{A:Around}{n:Nat}(R:Room A n){v:Value}{tg:qo}{b:List Stmt}(I:Inv c F g st s)(z:CRep c.w g v true (.dict [])){K:Result->Shared->Prop}(k:∀s',Inv c F g st s'->K (.ok .next) s'):
  wpAny (model c.prog c.w) A (pyIter v) (fun it s2=>codeAny (model c.prog c.w) A (.forLoop tg it b [] F.E) K s2) no s:=by
 refine e42 (CRep.dict_inv z) fun a kk o en zz4 D0=>?_;subst zz4
 refine e11 D0.o fun ep zz1=>?_;subst zz1
 have r:=D0.r
 cases r
 have D:s.heap.DictAt (strKind c.prog c.w) a ([]:List (Str×Value)) ep:=i26 _ #[] (I.fits.exact D0.at_ D0.lk.nf.1) (i03 rfl rfl rfl) rfl (fun x hx=>by simp at hx) .nil .nil
 refine wpAny_pyIter_dict (I.toHp.notSys D0.at_ D0.lk.nf.2) D ?_
 have D':(s.heap.push { cls:=.type "dict_keyiterator",data:=.fields #[.ref a,.int 0 0,.int ((0:Nat):Int) 0,.int ep 0] }).DictAt (strKind c.prog c.w) a ([]:List (Str×Value)) ep:=by
  refine e22 D fun o en e1 e2=>?_;clear D
  exact i22 o en (qw _ e1) e2
 refine codeAny_forLoop_any (R:=K) (fun k s2=>s2={ s with heap:=s.heap.push { cls:=.type "dict_keyiterator",data:=.fields #[.ref a,.int 0 0,.int ((0:Nat):Int) 0,.int ep 0] } }) ?_ 0 rfl
 rintro n s2 rfl
 have hit:(s.heap.push { cls:=.type "dict_keyiterator",data:=.fields #[.ref a,.int 0 0,.int ((0:Nat):Int) 0,.int ep 0] }).get? s.heap.objs.size=some { cls:=.type "dict_keyiterator",data:=.fields #[.ref a,.int 0 0,.int ((0:Nat):Int) 0,.int ep 0] }:=Heap.get?_push_size _ rfl
 refine wpAny_pyNext_dict_end (i:=0) (kvs:=([]:List (Str×Value))) R.handled (i13 _ hit rfl rfl) D' rfl fun h' hs=>?_
 refine wpAny_execs_nil (k _ ⟨⟨fun b k x q=>?_,I.gd,I.base,I.sig,I.gens,I.os⟩,I.fs,I.fr⟩)
 refine e12 (I.fits b k x q) fun o' q1 q2=>?_
 exact i12 o' (hs b o' (fun z=>by rw[z,I.fits.new] at q;exact j6 q) (qw _ q1)) q2
theorem qj7(H:Snd W f){tg it b o p}(h:qho f F.sc tg it b o st Q)(I:Inv W.c F g st s)(k:KS W F g Q K):WP W (PySem.exec (.For tg it b o p) F.E) K s:=by
 refine e02 (jj h) fun ho h=>?_
 obtain rfl:o=[]:=by
  induction o using qf with
  | nil=>rfl
  | cons _ _=>exact(jt ho).elim
 have hok:=H.okI h
 refine wpAny_For (H.iterS h I fun v s1 g1 items st1 I1 S1 z1 q1=>?_) (fun x=>by
  induction it using Expr.casesOn with
  | Set=>exact(jt hok).elim
  | _=>rfl)
 refine e42 (lc q1) fun fl env' sg' as' h1 h2=>?_
 rcases z1 with z1 | ⟨_,rfl,z1⟩
 ·refine c9 I1.toHp z1 fun it g2 s2 K2 H2 hb h0 hit=>?_
  exact qcr H hb h0 h1 ⟨H2,I1.fs,I1.fr.keepF K2⟩ (Since.of K2.step.s) hit fun f s3 g3 I3 S3 z3=>k f s3 g3 fl _ (I3.tell as') (S1.s.trans S3) z3 h2
 ·cases h1
  exact q9e H.R I1 z1 fun s3 I3=>k .next s3 g1 .next _ (I3.tell as') S1.s .next h2
end
section
variable {c:CC}{F:Fr'}{g:Gh}{s:Shared}{A:Around}{st:St}
inductive At(E:Env)(h:Heap)(x:Str)(v:Value):Prop
 | loc {m:Str->Option Value}:E.kindOf x=some .local->h.Ns E.locals m->m x=some v->At E h x v
 | cel {a:Addr}:(E.kindOf x=some .cell∨E.kindOf x=some .free)->E.cells.lookup x=some a->h.IsCell a (some v)->At E h x v
theorem yv{h:Heap}{a:Addr}{m m':Str->Option Value}(H:h.Ns a m)(H':h.Ns a m')(x:Str):m x=m' x:=by
 refine e12 (gz H) fun o e1 e2=>?_
 refine e12 (gz H') fun o' f1 f2=>?_
 rw[e1] at f1;replace f1:=qd f1;cases f1
 refine e22 e2 fun es ep d zz3=>?_;clear e2;obtain⟨_,q⟩:=zz3
 refine e22 f2 fun es' ep' d' zz3=>?_;clear f2;obtain⟨_,q'⟩:=zz3
 rw[d] at d';cases d'
 exact rwl (q _)<|rwl (q' _) rfl
theorem vg{x:Str}{e:Ent}(I:Inv c F g st s)(hk:z8 (jc F.sc x)=true)(he:jn x st.env=some e):∃v,At F.E s.heap x v∧EntR c.w g (.mine x) v e:=by
 have cel:(F.E.kindOf x=some .cell∨F.E.kindOf x=some .free)->∃v,At F.E s.heap x v∧EntR c.w g (.mine x) v e:=fun k2=>by
  refine e41 (I.fr.cel x k2) fun c' kk o ov C=>?_
  refine e12 (C.ent e he) fun v zz1 zz2=>?_;subst zz1;obtain⟨e2,_⟩:=zz2
  exact i12 v (.cel k2 C.cell (cj I.fits C.at_ C.kd C.data)) e2
 induction (I.fs.kindLoc hk).2 using LocK.casesOn with
 | loc hl=>
  refine e21 I.fr.loc fun o m L=>?_
  refine e12 (L.ent x e he hl) fun v e1 e2=>?_
  exact i12 v (.loc hl (L.ns.at (I.fits.exact L.at_ (jb rfl))) e1) e2
 | cel k=>exact cel (.inl k)
 | fre k=>exact cel (.inr k)
theorem lx{E:Env}{x:Str}(h:E.kindOf x=some .local)(h':E.kindOf x=some .cell∨E.kindOf x=some .free):False:=by rcases h' with q | q <;> rw[h] at q <;> exact nomatch q
theorem At.uniq{E:Env}{x:Str}{h:Heap}{v v':Value}(H:At E h x v)(H':At E h x v'):v=v':=by
 induction H using At.casesOn with
 | loc k a b=>
  induction H' using At.casesOn with
  | loc _ a' b'=>exact qd (b.symm.trans ((yv a a' x).trans b'))
  | cel k' _ _=>exact(lx k k').elim
 | cel k a b=>
  induction H' using At.casesOn with
  | loc k' _ _=>exact(lx k' k).elim
  | cel _ a' b'=>
   rw[a] at a';replace a':=qd a';cases a'
   refine e12 b fun o q1 q2=>?_;clear b
   refine e12 b' fun o' q1' q2'=>?_;clear b'
   rw[q1] at q1';replace q1':=qd q1';cases q1'
   rw[q2] at q2';replace q2':=Data.cell.inj q2';replace q2':=qd q2';cases q2';rfl
theorem qfo{x:Str}{v:Value}{M:Model}{Q:Value->Shared->Prop}{Er:Value->Shared->Prop}(I:Inv c F g st s)(hk:z8 (jc F.sc x)=true)(H:At F.E s.heap x v)(h:Q v s):wpAny M A (loadName F.E x) Q Er s:=by
 induction H using At.casesOn with
 | loc k a b=>exact wpAny_loadName_local I.fs.kind k a b h
 | cel k a b=>
  rcases k with k | k
  ·exact wpAny_loadName_cell I.fs.kind k a b h
  ·obtain⟨⟨_,k1⟩,_⟩:=I.fs.kindLoc hk
   exact wpAny_loadName_free I.fs.kind k a b h (I.fs.ncd k1)
theorem wv{x:Str}{p:Pos}{v:Value}{M:Model}{Q:Value->Shared->Prop}{Er:Value->Shared->Prop}(I:Inv c F g st s)(hk:z8 (jc F.sc x)=true)(H:At F.E s.heap x v)(h:Q v s):wpAny M A (qp (.Name x p) F.E) Q Er s:=
 wpAny_Name (qfo I hk H h) (let ⟨⟨_,k1⟩,_⟩:=I.fs.kindLoc hk;I.fs.ndbg k1)
theorem Inv.own{x:Str}{e e':Ent}{g':Gh}{s':Shared}(I:Inv c F g st s)(he:jn x st.env=some e)(hv:∀t,e ≠ .val t)
  (K:∀a k o,g a=some (k,o)→(∀p,k ≠ .mine x p)→(∀p,k ≠ .mine "#" p)→g' a=some (k,o)) (hs:∀a i p o,g' a=some (.shr i p,o)→g a=some (.shr i p,o))
  (hf:Fits g' s'.heap) (hE:∀v,At F.E s.heap x v->EntR c.w g (.mine x) v e->EntR c.w g' (.mine x) v e') (h2:s'.gens=s.gens:=by rfl) (h3:s'.os=s.os:=by rfl) :
  Inv c F g' ⟨v0 x e' st.env,st.sg,st.as⟩ s'∧StepS g g':=by
 have S:StepS g g':=⟨fun a o q=>K a _ o q (fun z_=>jb rfl) (fun z_=>jb rfl),fun a o q=>K a _ o q (fun z_=>jb rfl) (fun z_=>jb rfl),fun a o q=>K a _ o q (fun z_=>jb rfl) (fun z_=>jb rfl),fun a i p o q=>⟨o,K a _ o q (fun z_=>jb rfl) (fun z_=>jb rfl)⟩⟩
 have ent:∀{y:Str} {u:Value} {d:Ent},y≠x→y≠"#"→EntR c.w g (.mine y) u d→EntR c.w g' (.mine y) u d:=fun hy hy' h=>h.mono S.mono fun a p o q=>K a _ o q (fun p' z=>hy (by injection z)) (fun p' z=>hy' (by injection z))
 have hx:x≠"#":=I.fr.ne he
 refine⟨⟨⟨hf,I.gd,fun a o q=>S.still a o (I.base a o q),I.sig.mono S.mono fun a i p o=>⟨fun q=>K a _ o q (fun z_=>jb rfl) (fun z_=>jb rfl),hs a i p o⟩,h2.trans I.gens,h3.trans I.os⟩,I.fs,⟨by refine rwg (za hx _ _) ?_;exact I.fr.tmp,?_,fun y hy=>?_⟩⟩,S⟩
 ·refine e21 I.fr.loc fun o mm L=>?_
  refine i21 o mm ⟨K _ _ _ L.at_ (fun z_=>jb rfl) (fun z_=>jb rfl),L.ns,fun y ey hy hk=>?_⟩
  by_cases q:x=y
  ·subst q
   rw[gt] at hy
   obtain rfl:=qd hy
   refine e12 (L.ent _ _ he hk) fun v q1 q2=>?_
   exact i12 v q1 (hE v (.loc hk (L.ns.at (I.fits.exact L.at_ (jb rfl))) q1) q2)
  ·rw[za q] at hy
   refine e12 (L.ent y ey hy hk) fun v q1 q2=>?_
   exact i12 v q1 (ent (Ne.symm q) (I.fr.ne hy) q2)
 ·refine e41 (I.fr.cel y hy) fun cc k o ov C=>?_
  refine i41 cc k o ov ⟨C.cell,K _ _ _ C.at_ ((ur C.kd).1 _) ((ur C.kd).1 _),C.data,C.kd,C.own,fun ey hy'=>?_⟩
  by_cases q:x=y
  ·subst q
   rw[gt] at hy'
   obtain rfl:=qd hy'
   refine e13 (C.ent _ he) fun v p z u=>?_
   refine i13 v p (hE v (.cel hy C.cell (cj I.fits C.at_ C.kd (p▸C.data))) z) (fun w=>?_)
   obtain⟨t,z⟩:=u w
   exact absurd z (hv t)
  ·rw[za q] at hy'
   refine e13 (C.ent ey hy') fun v p z u=>?_
   exact i13 v p (ent (Ne.symm q) (I.fr.ne hy') z) u
structure ShrK(g g':Gh)(i:Nat):Prop where
 keep:∀a k o,g a=some (k,o)→(∀p,k ≠ .shr i p)→(∀p,k ≠ .mine "#" p)→g' a=some (k,o)
 shr:∀a p o,g a=some (.shr i p,o)->∃o',g' a=some (.shr i p,o')
 main:∀a j o,g' a=some (.shr j .main,o)->∃o',g a=some (.shr j .main,o')
 old:∀a j p o,g' a=some (.shr j p,o)->j=i∨∃o',g a=some (.shr j p,o')
theorem ShrK.f{g':Gh}{i:Nat}(K:ShrK g g' i):KeepF g g':=⟨fun a k o q n m=>K.keep a k o q (fun p=>m i p) n,fun a j p o q=>by
 by_cases z:j=i
 ·subst z;exact K.shr a p o q
 ·exact⟨o,K.keep a _ o q (fun p' w=>z (by injection w)) (fun z_=>jb rfl)⟩⟩
theorem Hp.shrTurn{i:Nat}{so':SO}{sg:List SO}{g':Gh}{s':Shared}(H:Hp c g sg s)(K:ShrK g g' i)(hi:i<sg.length)(hf:Fits g' s'.heap)(hE:∃a,SOR c.w g' i a so')(h2:s'.gens=s.gens:=by rfl)(h3:s'.os=s.os:=by rfl):
  Hp c g' (sg.set i so') s':=by
 refine⟨hf,H.gd,fun a o q=>K.f.step.still a o (H.base a o q),⟨fun j so q=>?_,fun j a a' o o' e e'=>?_,fun j p a o e=>?_⟩,h2.trans H.gens,h3.trans H.os⟩
 ·by_cases z:j=i
  ·subst z
   rw[List.getElem?_set_self hi] at q;replace q:=qd q;cases q
   exact hE
  ·rw[List.getElem?_set_ne (Ne.symm z)] at q
   obtain⟨a,w⟩:=H.sig.at_ j so q
   exact⟨a,w.mono K.f.step.mono fun a p o q=>K.keep a _ o q (fun p' w=>z (by injection w)) (fun z_=>jb rfl)⟩
 ·refine e11 (K.main _ _ _ e) fun o1 w1=>?_
  refine e11 (K.main _ _ _ e') fun o2 w2=>?_
  exact H.sig.one _ _ _ _ _ w1 w2
 ·refine rwg List.length_set ?_
  rcases K.old _ _ _ _ e with rfl | ⟨o',w⟩
  ·exact hi
  ·exact H.sig.lt _ _ _ _ w
noncomputable def qlz(w:World)(g:Gh)(kd:Part->Kd)(f:Str)(v:Value):Mine.F->Prop
 | .val t=>Rep w g v t
 | .dict es=>∃b o en,v = .ref b∧g b=some (kd (.fld f),o)∧kq o en∧RepD w g en es
set_option tactic.hygienic true in
theorem RepFF.put{w:World}{kd:Part->Kd}{f:Str}{v:Value}{F0:Mine.F}{tk:Tok}(hf:fieldNames.contains f=true)(hv:qlz w g kd f v F0):∀{en:List DictEntry}{fs:List (Str×Mine.F)},RepFF w g kd en fs->RepFF w g kd (putL f (hashStr w f) (.str f tk) v en) (vy f F0 fs):=by
 have one:∀{e:DictEntry}{en:List DictEntry}{fs:List (Str×Mine.F)},KeyS w e f->e.val=v->RepFF w g kd en fs->RepFF w g kd (e::en) ((f,F0)::fs):=by
  intro e en fs k hev r
  induction F0 using F.casesOn with
  | val t=>exact .val hf k (hev▸hv) r
  | dict es=>refine e34 hv fun b o en' zz3 h1 h2 h3=>?_;clear hv;subst zz3;exact .dict hf k hev h1 h2 h3 r
 intro en fs h
 induction h with
 | nil=>exact one ⟨⟨_,rfl⟩,rfl⟩ rfl .nil
 | val z k h r ih=>
  rename_i e a t en fs
  simp only [putL,vy]
  refine rwg (we k _) ?_
  by_cases q:a=f
  ·subst q;simp only [decide_true,if_true];exact one ⟨k.1,k.2⟩ rfl r
  ·refine rwg (if_neg q)<|rwg (decide_eq_false q) ?_;exact .val z k h ih
 | dict z k e b o h r ih=>
  rename_i e' a b' o' en' es en fs
  simp only [putL,vy]
  refine rwg (we k _) ?_
  by_cases q:a=f
  ·subst q;simp only [decide_true,if_true];exact one ⟨k.1,k.2⟩ rfl r
  ·refine rwg (if_neg q)<|rwg (decide_eq_false q) ?_;exact .dict z k e b o h ih
theorem RepFF.flds{w:World}{g':Gh}{kd:Part->Kd}(m:Mono g g')(hk:∀a f o,g a=some (kd (.fld f),o)->g' a=some (kd (.fld f),o)){en:List DictEntry}{fs:List (Str×Mine.F)}(h:RepFF w g kd en fs):RepFF w g' kd en fs:=h.kd m hk
theorem RepFF.len{w:World}{kd:Part->Kd}{en:List DictEntry}{fs:List (Str×Mine.F)}(h:RepFF w g kd en fs):en.length=fs.length:=by
 induction h with
 | nil=>rfl
 | val _ _ _ _ ih=>exact congrArg (·+1) ih
 | dict _ _ _ _ _ _ _ ih=>exact congrArg (·+1) ih
theorem RepF.len{w:World}{en:List DictEntry}{fs:List (Str×T)}(h:RepF w g en fs):en.length=fs.length:=RepF.ind (m:=fun a b=>a.length=b.length) rfl (fun z_ z_ z_ z_ ih=>congrArg (·+1) ih) h
theorem q2d(f:Str)(h:Int)(k v:Value):∀en:List DictEntry,(putL f h k v en).length≤en.length+1:=by
 intro en
 induction en with
 | nil=>
  exact Nat.le_refl _
 | cons e r ih=>
  simp only [putL]
  split
  ·simp
  ·have:=ih;simp;exact this
theorem All2.len'{en en':List DictEntry}(h:All2 EntLike en en'):en'.length=en.length:=h.len.symm
theorem nj{a C dx:Addr}{cn:Str}{en:List DictEntry}{m:Nat}{f:Str}{v:Value}{Q:Unit->Shared->Prop}{Er:Value->Shared->Prop}(G:Gd c s.heap)(hc:ji cn cAddrs=some C)
  (I:InstAt s.heap a (instObj C dx) C (some (dictOf en m))) (hf:fieldNames.contains f=true) (hr:∀e∈en,e.refKey=false) (hz:en.length≤999)
  (h:∀h' n' tk,Heap.SameBut dx s.heap h'->h'.get? dx=some (dictOf (putL f (hashStr c.w f) (.str f tk) v en) n')->(en.any (·.key.isStr f)=true->n'=m)->Q () { s with heap:=h',toks:=s.toks+2 }) :
  wpAny (model c.prog c.w) A (PySem.setAttr (.ref a) f v) Q Er s:=by
 have F:=wg c.kf hc
 refine set_plain G.X I F.set ?_
 refine osa_open (s:={ s with toks:=s.toks+1 }) G.X I F.over (F.fld f hf).2 fun b=>?_
 refine e12 (any_some F.dict) fun cd hcd hd'=>?_
 have D:s.heap.get? dx=some (dictOf en m):=I.dict
 have hlen:=q2d f (PyData.keyHash c.w.params f) (.str f (s.toks+1)) v en
 have e:=putName_dict f (PyData.keyHash c.w.params f) (.str f (s.toks+1)) v en m
 have D':(s.heap.update dx (Obj.putName f (PyData.keyHash c.w.params f) (.str f (s.toks+1)) v)).get? dx=some (dictOf (putL f (PyData.keyHash c.w.params f) (.str f (s.toks+1)) v en) (putN f en m)):=e▸Heap.get?_update_self _ D (by refine rwg e ?_;rfl)
 obtain⟨hx,hcl,hn,-⟩:=I
 refine qm (qx (qm (qm (wpAny_loadPart hx (qm (Looks.here (s:={ s with toks:=s.toks+1 }) (looks_clsIn G.X hcd) ?_))))))
 refine rwg hd' ?_
 refine qx (a:=some dx) (qm (qx (qm ?_)))
 refine rwg (nsSet.eq_1 _ _ _) ?_
 refine qm (qm (wpAny_askSetting (qx (qm (wpAny_mkText (qm (wpAny_loadPart D ?_)))))))
 dsimp only [dictOf]
 have cc:aRefKeyMayBeTheName f en.toArray=false:=by
  refine rwg (aRefKeyMayBeTheName_at _ _) ?_
  have:en.toArray.any (·.refKey)=false:=by
   refine rwl Array.any_toList ?_
   exact List.any_eq_false.mpr fun x hx=>by simpa using hr x (by simpa using hx)
  exact rwg this<|rwg (Bool.and_false _) rfl
 refine rwg cc ?_
 refine wpAny_updatePart D ?_
 refine qm (wpAny_lookBehind D' (pastItsLine_dict (by refine rwg List.size_toArray<|rwg sizeLine_eq ?_;exact leK (qr hlen (Nat.succ_le_succ hz)) rfl)) ?_)
 refine qx (h _ _ _ ⟨Heap.size_update ..,fun b hb=>Heap.get?_update_ne _ _ _ _ hb⟩ D' fun q=>?_)
 unfold putN;refine rwg q ?_;rfl
end
theorem q10{p p':Part}{i:Nat}:fzk p ≠ .shr i p':=by rcases p with ⟨⟩ <;> nofun
theorem At.step{c:CC}{F:Fr'}{g g':Gh}{s s':Shared}{x:Str}{v:Value}{st1 st2:St}(I:Inv c F g st1 s)(I':Inv c F g' st2 s')(S:StepE g g')(H:At F.E s.heap x v):At F.E s'.heap x v:=by
 induction H using At.casesOn with
 | loc k a b=>
  refine e21 I.fr.loc fun o m' L=>?_
  exact .loc k (L.ns.at (I'.fits.exact (S.frm _ _ L.at_) (jb rfl))) (by refine rwl b ?_;exact yv (L.ns.at (I.fits.exact L.at_ (jb rfl))) a x)
 | @cel a k b d=>
  refine e41 (I.fr.cel x k) fun cc kk ob ov C=>?_
  refine e12 d fun o d1 d2=>?_;clear d
  obtain rfl:a=cc:=qd (b.symm.trans C.cell)
  obtain rfl:o=ob:=qd (d1.symm.trans (I.fits.exact C.at_ (q6d C.kd)))
  have e2':g' a=some (kk,o):=by
   have e2:=C.at_
   rcases C.kd with rfl | rfl | rfl
   ·exact S.cel _ _ _ e2
   ·exact S.still _ _ e2
   ·exact S.froz _ _ e2
  exact .cel k b (i12 o (I'.fits.exact e2' (q6d C.kd)) d2)
theorem At.same{c:CC}{F:Fr'}{g:Gh}{s:Shared}{st:St}{a:Addr}{k:Kd}{o:Obj}{h':Heap}(I:Inv c F g st s)(e:g a=some (k,o))(h1:k ≠ .frm)(h2:∀x,¬(k = .cel x∨k = .still∨k = .froz))(hs:Heap.SameBut a s.heap h'){y:Str}{w:Value}(H:At F.E s.heap y w):At F.E h' y w:=by
 induction H using At.casesOn with
 | loc k' b d=>
  refine e21 I.fr.loc fun o' m L=>?_
  have n:F.E.locals≠a:=fun z=>by have q:=L.at_;rw[z,e] at q;exact h1 (congrArg Prod.fst (qd q))
  have L':=L.ns.at ((hs.2 _ n).trans (I.fits.exact L.at_ (jb rfl)))
  exact .loc k' L' (by refine rwl d ?_;exact yv (L.ns.at (I.fits.exact L.at_ (jb rfl))) b y)
 | @cel b k' d q=>
  refine e41 (I.fr.cel y k') fun cc kk ob ov C=>?_
  obtain rfl:b=cc:=qd (d.symm.trans C.cell)
  have n:b≠a:=fun z=>by have q:=C.at_;rw[z,e] at q;obtain rfl:=congrArg Prod.fst (qd q);exact h2 y C.kd
  refine e12 q fun o q1 q2=>?_;clear q
  exact .cel k' d (i12 o ((hs.2 _ n).trans q1) q2)
structure Put(w:World)(g g2:Gh)(h:Heap)(kd:Part->Kd)(f:Str)(v:Value)(u:Mine.F):Prop where
 keep:∀a k o,g a=some (k,o)→(∀p,k ≠ .mine "#" p)→g2 a=some (k,o)
 fld:qlz w g2 kd f v u
 fits:Fits g2 h
 back:∀a k o,g2 a=some (k,o)->g a=some (k,o)∨k=kd (.fld f)∨∃p,k=fzk p
theorem Put.mono{w:World}{g g2:Gh}{h:Heap}{kd:Part->Kd}{f:Str}{v:Value}{u:Mine.F}(P:Put w g g2 h kd f v u):Mono g g2:=⟨fun a o e=>P.keep _ _ _ e (fun z_=>jb rfl),fun a o e=>P.keep _ _ _ e (fun z_=>jb rfl),fun a i p o e=>⟨o,P.keep _ _ _ e (fun z_=>jb rfl)⟩⟩
section
variable {c:CC}{F:Fr'}{g:Gh}{s:Shared}{A:Around}{st:St}{r:Ent}
theorem qai {w:World} {h:Heap} (H:Fits g h) {kd:Part→Kd} {f:Str} {v:Value} (hk:kd (.fld f) ≠ .fdict) (z:EntR w g (.mine "#") v r):∃g2,Put w g g2 h kd f v (toF r):=by
 have val:∀{t:T},Rep w (frz g "#") v t→∃g2,Put w g g2 h kd f v (.val t):=fun w=>
  ⟨frz g "#",⟨fun a k o e q=>frz_other e q,w,H.frz "#",fun a k o e=>(q11 e).2.imp id fun zz=>e12 zz fun p q z_=>.inr ⟨p,q⟩⟩⟩
 induction r using Ent.casesOn with
 | dict es=>
  refine e34 z fun a o en zz3 h1 h2 h3=>?_;clear z;subst zz3
  have K:KeepF g (jp g a (kd (.fld f)) o):=KeepF.tmp h1
  refine⟨jp g a (kd (.fld f)) o,⟨fun b k x e q=>(je (fun w=>by(replace e:=w▸e;rewrite[h1] at e);replace e:=qd e;cases e;exact q _ rfl)).trans e,(i34 a o en rfl jf h2 (h3.mono K.step.mono)),H.upd _ (Heap.SameBut.refl _ _) (H.exact h1 (jb rfl)),fun b k x e=>?_⟩⟩
  by_cases w:b=a
  ·(replace e:=w▸e;replace e:=jf▸e);exact .inr (.inl (congrArg Prod.fst (qd e)).symm)
  ·rw[je w] at e;exact .inl e
 | val t=>exact val z.frz
 | list xs=>exact val z.frz
 | inst C fs=>exact val z.frz
theorem KeyS.noref{w:World}{e:DictEntry}{f:Str}(k:KeyS w e f):e.refKey=false:=by
 obtain⟨⟨t,k⟩,_⟩:=k;unfold DictEntry.refKey;exact rwg k rfl
theorem yc{e:DictEntry}{en:List DictEntry}(h1:e.refKey=false)(h2:∀e∈en,e.refKey=false):∀e'∈e::en,e'.refKey=false:=fun z_ h=>(ql.mp h).elim (fun q=>q▸h1) (h2 _)
theorem ic:∀e∈([]:List DictEntry),e.refKey=false:=fun z_ h=>absurd h j5
theorem RepFF.noref{w:World}{kd:Part->Kd}{en:List DictEntry}{fs:List (Str×Mine.F)}(h:RepFF w g kd en fs):∀e∈en,e.refKey=false:=by
 induction h with
 | nil=>exact ic
 | val _ k _ _ ih=>exact yc k.noref ih
 | dict _ k _ _ _ _ _ ih=>exact yc k.noref ih
theorem cr(e:qo){E:Env}{o:qo}{f:Str}{p:Pos}(k:Nat):swapsWith e (some (.Attribute o f p)) k E=pure false:=by rcases e with ⟨⟩ <;> rfl
theorem i0(e:qo){E:Env}{o i:qo}{p:Pos}(k:Nat):swapsWith e (some (.Subscript o i p)) k E=pure false:=by rcases e with ⟨⟩ <;> rfl
theorem gb{x:Str}{p:Part}{a:Addr}{o o':Obj}(h1:g a=some (.mine x p,o)):Mono g (jp g a (.mine x p) o'):=
 ⟨fun b y e=>(je (fun q=>by rw[q,h1] at e;exact nomatch e)).trans e,fun b y e=>(je (fun q=>by rw[q,h1] at e;exact nomatch e)).trans e,fun b i p y e=>⟨y,(je (fun q=>by rw[q,h1] at e;exact nomatch e)).trans e⟩⟩
theorem u3{i:Nat}{p:Part}{a:Addr}{o o':Obj}(h1:g a=some (.shr i p,o)):Mono g (jp g a (.shr i p) o'):=
 ⟨fun b y e=>(je (fun q=>by rw[q,h1] at e;exact nomatch e)).trans e,fun b y e=>(je (fun q=>by rw[q,h1] at e;exact nomatch e)).trans e,fun b j pp y e=>by
  by_cases w:b=a
  ·subst w;rw[h1] at e;cases e;exact⟨_,jf⟩
  ·exact⟨y,(je w).trans e⟩⟩
theorem wz{kd:Part->Kd}{g2:Gh}{dx:Addr}{o o':Obj}(e:g2 dx=some (kd .dict,o)){b:Addr}{k:Kd}{y:Obj}(q:g2 b=some (k,y))(n:k≠kd .dict):jp g2 dx (kd .dict) o' b=some (k,y):=
 (je (fun w=>by(replace q:=w▸q;rewrite[e] at q);exact n (congrArg Prod.fst (qd q)).symm)).trans q
theorem q2g {x f:Str} {v:Value} {C:Str} {fs:List (Str×Mine.F)} {u:Value} (I:Inv c F g st s) (z:EntR c.w g (.mine "#") v r) (hx:z8 (jc F.sc x)=true) (he:jn x st.env=some (.inst C fs)) (hf:fieldNames.contains f=true) (hz:fs.length≤100)
  (hu:At F.E s.heap x u) {K:Unit->Shared->Prop} (k:∀g' s',Inv c F g' ⟨v0 x (.inst C (vy f (toF r) fs)) st.env,st.sg,st.as⟩ s'->StepS g g'->(∀y w,At F.E s.heap y w->At F.E s'.heap y w)->K () s'):wpAny (model c.prog c.w) A (PySem.setAttr u f v) K no s:=by
 refine e12 (vg I hx he) fun u' a1 b1=>?_
 obtain rfl:=At.uniq hu a1
 refine e12 b1 fun a zz1 zz2=>?_;clear b1;subst zz1;refine e45 zz2 fun CA dx o en h1 h2 h3 h4 h5=>?_;clear zz2
 have hxt:x≠"#":=I.fr.ne he
 refine e11 (qai I.fits (kd:=.mine x) (f:=f) (jb rfl) z) fun g2 P=>?_
 refine e23 (kj (w:=c.w) I.fits h2 (jb rfl) h3 h4) fun en' m q1 q2 q3=>?_
 obtain rfl:=q3 (jb rfl)
 have hxp:∀{p} p',Kd.mine x p ≠ .mine "#" p':=fun p' w=>hxt (by injection w)
 have h3':=P.keep _ _ _ h3 hxp
 refine nj I.here h1 q1 hf h5.noref (by refine rwg h5.len ?_;exact leK hz rfl) fun h' n' tk hs ho z_=>?_
 have m3:Mono g2 (jp g2 dx (.mine x .dict) (dictOf (putL f (hashStr c.w f) (.str f tk) v en') n')):=gb h3'
 obtain⟨I',S'⟩:=I.own (s':={ s with heap:=h',toks:=s.toks+2 }) (e':=.inst C (vy f (toF r) fs)) he nofun (fun b k y e w1 w2=>wz (kd:=.mine x) (o':=dictOf (putL f (hashStr c.w f) (.str f tk) v en') n') h3' (P.keep b k y e w2) (w1 _)) (fun b i p y e=>by
  have nb:b≠dx:=fun w=>by(replace e:=w▸e;replace e:=jf▸e);exact nomatch e
  rw[je nb] at e
  rcases P.back _ _ _ e with e | e | ⟨p',e⟩
  ·exact e
  ·exact Kd.noConfusion e
  ·exact(q10 e.symm).elim) (P.fits.upd _ hs ho) fun w hw z_=>by
   obtain rfl:=At.uniq hu hw
   refine i12 a rfl (i45 CA dx _ _ h1 (wz (kd:=.mine x) h3' (P.keep _ _ _ h2 hxp) (fun q=>by exact nomatch q)) jf ⟨n',rfl⟩ ?_)
   exact(RepFF.put hf P.fld (h5.flds P.mono fun b f' y e=>P.keep _ _ _ e hxp)).flds m3 fun b f' y e=>wz (kd:=.mine x) h3' e (fun q=>by exact nomatch q)
 exact k _ _ I' S' fun y w=>At.same I h3 (jb rfl) (by exact fun z_ h=>h.elim (jb rfl) fun h=>h.elim (jb rfl) (jb rfl)) hs
theorem q0x{α:Type}{l:List α}{i:Nat}{a:α}(h:l[i]? = some a):i<l.length:=(List.getElem?_eq_some_iff.mp h).1
theorem ShrK.dict{i:Nat}{g2:Gh}{h:Heap}{f:Str}{v:Value}{u:Mine.F}{dx:Addr}{o o':Obj}(P:Put c.w g g2 h (.shr i) f v u)(e:g2 dx=some (.shr i .dict,o)):ShrK g (jp g2 dx (.shr i .dict) o') i:=by
 have back:∀{b:Addr}{k:Kd}{y:Obj},jp g2 dx (.shr i .dict) o' b=some (k,y)->(k = .shr i .dict∨k = .shr i (.fld f)∨∃p,k=fzk p)∨g b=some (k,y):=fun {b k y} q=>by
  by_cases w:b=dx
  ·(replace q:=w▸q;replace q:=jf▸q);exact .inl (.inl (congrArg Prod.fst (qd q)).symm)
  ·rw[je w] at q
   rcases P.back _ _ _ q with q | q
   ·exact .inr q
   ·exact .inl (.inr q)
 refine⟨fun b k y q w1 w2=>wz e (P.keep b k y q w2) (w1 _),fun b p y q=>?_,fun b j y q=>?_,fun b j p y q=>?_⟩
 ·have q:=P.keep _ _ _ q (fun z_=>jb rfl)
  by_cases w:b=dx
  ·rw[w,e] at q;cases q;refine rwg w ?_;exact⟨o',jf⟩
  ·exact⟨y,(je w).trans q⟩
 ·rcases back q with (w | w | ⟨p,w⟩) | w
  ·cases w
  ·cases w
  ·exact(q10 w.symm).elim
  ·exact⟨y,w⟩
 ·rcases back q with (w | w | ⟨p,w⟩) | w
  ·cases w;exact .inl rfl
  ·cases w;exact .inl rfl
  ·exact(q10 w.symm).elim
  ·exact .inr ⟨y,w⟩
theorem l9 {f:Str} {v:Value} {i:Nat} {C:Str} {fs:List (Str×Mine.F)} {u:Value} (I:Inv c F g st s) (z:EntR c.w g (.mine "#") v r) (hu:Rep c.w g u (.sh i)) (he:st.sg[i]? = some (.inst C fs)) (hf:fieldNames.contains f=true) (hz:fs.length≤100)
  {K:Unit->Shared->Prop} (k:∀g' s',Inv c F g' ⟨st.env,st.sg.set i (.inst C (vy f (toF r) fs)),st.as⟩ s'->StepS g g'->(∀y w,At F.E s.heap y w->At F.E s'.heap y w)->K () s'):wpAny (model c.prog c.w) A (PySem.setAttr u f v) K no s:=by
 refine e12 (I.toHp.shInst hu he) fun a zz1 zz2=>?_;subst zz1;refine e45 zz2 fun CA dx o en h1 h2 h3 h4 h5=>?_;clear zz2
 refine e11 (qai I.fits (kd:=.shr i) (f:=f) (jb rfl) z) fun g2 P=>?_
 refine e23 (kj (w:=c.w) I.fits h2 (jb rfl) h3 h4) fun en' m q1 q2 q3=>?_
 obtain rfl:=q3 (jb rfl)
 have h3':=P.keep _ _ _ h3 (fun z_=>jb rfl)
 have h2':=P.keep _ _ _ h2 (fun z_=>jb rfl)
 refine nj I.here h1 q1 hf h5.noref (by refine rwg h5.len ?_;exact leK hz rfl) fun h' n' tk hs ho z_=>?_
 have K':ShrK g (jp g2 dx (.shr i .dict) (dictOf (putL f (hashStr c.w f) (.str f tk) v en') n')) i:=ShrK.dict P h3'
 have m3:Mono g2 (jp g2 dx (.shr i .dict) (dictOf (putL f (hashStr c.w f) (.str f tk) v en') n')):=u3 h3'
 have H':=I.toHp.shrTurn (i:=i) (so':=.inst C (vy f (toF r) fs)) (s':={ s with heap:=h',toks:=s.toks+2 }) K' (q0x he) (P.fits.upd _ hs ho)
  (i55 a CA dx _ _ h1 (wz (kd:=.shr i) h3' h2' (fun q=>by exact nomatch q)) jf ⟨n',rfl⟩ ((RepFF.put hf P.fld (h5.flds P.mono fun b f' y e=>P.keep _ _ _ e fun p q=>by exact Kd.noConfusion q)).flds m3 fun b f' y e=>wz (kd:=.shr i) h3' e (fun q=>by exact nomatch q)))
 exact k _ _ ⟨H',I.fs,I.fr.keepF K'.f⟩ K'.f.step.s fun y w=>At.same I h3 (jb rfl) (by exact fun z_ h=>h.elim (jb rfl) fun h=>h.elim (jb rfl) (jb rfl)) hs
theorem q8j {w:World} {v k:Value} {en en':List DictEntry} {fs:List (Str×T)} (r:RepF w g en fs):All2 EntLike en en'→(fget "shared" fs).isSome=true→∀h,All2 EntLike en (putL "shared" h k v en'):=by
 revert en'
 refine RepF.ind (m:=fun en fs=>∀{en'},All2 EntLike en en'→(fget "shared" fs).isSome=true→∀h,All2 EntLike en (putL "shared" h k v en')) (fun z_ q=>(Bool.noConfusion q)) (fun {e f t en fs} z ky hv _ ih en' q q2 h=>?_) r
 refine e23 q.cons_inv fun e' en' zz2 l ls=>?_;subst zz2
 simp only [putL]
 refine rwg (we (ky.like l) _) ?_
 by_cases y:f=("shared":Str)
 ·refine rwg (decide_eq_true y)<|rwg (if_pos rfl) ?_
  exact .cons (i03 l.1 l.2.1 (fun e=>by rw[we ky,decide_eq_true y] at e;exact Bool.noConfusion e)) ls
 ·refine rwg (decide_eq_false y) ?_
  exact .cons l (ih ls ((congrArg Option.isSome (if_neg y)).symm.trans q2) h)
theorem qbv {w:World} {en en':List DictEntry} {fs:List (Str×T)} (r:RepF w g en fs):All2 EntLike en en'→(fget "shared" fs).isSome=true→en'.any (·.key.isStr "shared")=true:=by
 revert en'
 refine RepF.ind (m:=fun en fs=>∀{en'},All2 EntLike en en'→(fget "shared" fs).isSome=true→en'.any (·.key.isStr "shared")=true) (fun z_ q=>(Bool.noConfusion q)) (fun {e f t en fs} z ky hv _ ih en' q q2=>?_) r
 refine e23 q.cons_inv fun e' en' zz2 l ls=>?_;subst zz2
 refine rwg List.any_cons<|rwg (we (ky.like l) _) ?_
 by_cases y:f=("shared":Str)
 ·refine rwg (decide_eq_true y) ?_;rfl
 ·replace q2:=(congrArg Option.isSome (if_neg y)).symm.trans q2;exact rwg (ih ls q2)<|rwg (Bool.or_true _) rfl
theorem q51{w:World}{en en':List DictEntry}{fs:List (Str×T)}(r:RepF w g en fs):All2 EntLike en en'->∀e∈en',e.refKey=false:=by
 revert en'
 refine RepF.ind (m:=fun en fs=>∀{en'},All2 EntLike en en'->∀e∈en',e.refKey=false) (fun q=>by refine rwg q.nil_inv ?_;exact ic) (fun z_ ky z_ z_ ih en' q=>?_) r
 refine e23 q.cons_inv fun e' en' zz2 l ls=>?_;subst zz2
 exact yc (ky.like l).noref (ih ls)
theorem qfn {v u:Value} {C:Str} {fs:List (Str×T)} (I:Inv c F g st s) (hu:Rep c.w g u (.inst C fs)) (hf:(fget "shared" fs).isSome=true) (hz:fs.length≤100) {K:Unit→Shared→Prop} (k:∀s',Inv c F g st s'→(∀y w,At F.E s.heap y w→At F.E s'.heap y w)→K () s'):wpAny (model c.prog c.w) A (PySem.setAttr u "shared" v) K no s:=by
 cases hu with
 | @inst a CA dx o en _ _ h1 h2 h3 h4 h5=>
  refine e23 (kj (w:=c.w) I.fits h2 (jb rfl) h3 h4) fun en' m q1 q2 q3=>?_
  refine nj I.here h1 q1 (by decide +kernel) (q51 h5 q2) (by refine rwg q2.len'<|rwg h5.len ?_;exact leK hz rfl) fun h' n' tk hs ho hn=>?_
  obtain rfl:=hn (qbv h5 q2 hf)
  refine k _ ⟨⟨fun b k y e=>?_,I.gd,I.base,I.sig,I.gens,I.os⟩,I.fs,I.fr⟩ fun y w=>At.same I h3 (jb rfl) (by exact fun z_ h=>h.elim (jb rfl) fun h=>h.elim (jb rfl) (jb rfl)) hs
  refine e12 (I.fits b k y e) fun y' e1 e2=>?_
  by_cases w:b=dx
  ·subst w
   rw[h3] at e;replace e:=qd e;cases e
   refine e11 h4 fun m0 zz1=>?_;clear h4;subst zz1
   refine i12 _ ho (.inr (i33 _ _ n' ?_ rfl (q8j h5 q2 hf _)))
   refine e12 (I.fits b .fdict _ h3) fun o' f1 f2=>?_
   have f3:s.heap.get? b=some (dictOf en' n'):=q1.dict
   rw[f1] at f3;replace f3:=qd f3;cases f3
   rcases f2 with f2 | ⟨es,es',m',z1,z2,_⟩
   ·obtain⟨_,f2⟩:=yi f2;exact rwg f2 rfl
   ·obtain⟨_,z1⟩:=yi z1;obtain⟨_,z2⟩:=yi z2;exact rwg z1<|rwg z2 rfl
  ·exact i12 y' ((hs.2 b w).trans e1) e2
end
inductive TgV(x:Str)(st:St):Tg->Prop
 | own {q:In}:jn x st.env=some (.inst q.C q.fs)->TgV x st (.own q)
 | sh {i:Nat} {q:In}:jn x st.env=some (.val (.sh i))->st.sg[i]? = some (.inst q.C q.fs)->TgV x st (.sh i q)
theorem q6q{x:Str}{st:St}{q:Tg}(h:qal x st=some q):TgV x st q:=by
 refine e12 (j9 h) fun e h1 h2=>?_
 induction e using Ent.casesOn with
 | inst C fs=>obtain rfl:=qd h2;exact .own h1
 | val t=>
  refine e12 (j9 h2) fun i h3 h4=>?_
  obtain rfl:=T.sh?_is h3
  refine e12 (j9 h4) fun o h5 h6=>?_
  refine e12 (j9 h6) fun q' h7 h8=>?_
  obtain rfl:=qd h8
  exact .sh h1 (h5.trans (congrArg some (SO.inst?_is h7)))
 | _=>exact(j6 h2).elim
section
variable {W:Cx}{f:Fns}{F:Fr'}{g:Gh}{st:St}{s:Shared}{Q:Fl->St->Prop}{K:Flow->Shared->Prop}
theorem q5f {a:Str} {u:Ent} (h:ce a u=true):∃C fs,u = .val (.inst C fs)∧a="shared"∧(fget a fs).isSome=true∧fs.length≤100:=by
 induction u using Ent.casesOn with
 | val t=>
  induction t using T.casesOn with
  | inst C fs=>
   obtain⟨h1,h2⟩:=qh.mp (by exact h:(decide (a="shared")&&(fget a fs).isSome&&decide (fs.length≤100))=true)
   obtain⟨h3,h4⟩:=qh.mp h1
   exact i24 C fs rfl (of_decide_eq_true h3) h4 (of_decide_eq_true h2)
  | _=>exact(jt h).elim
 | _=>exact(jt h).elim
theorem q7r(H:Snd W f){x a:Str}{e:qo}{xp ap p:Pos}{Q:St->Prop}(hf:fieldNames.contains a=true)(hx:z8 (jc F.sc x)=true)(h:f.eval F.sc e st fun r st1=>setAttr a x r st1 Q)(I:Inv W.c F g st s)
  (k:∀s' g' st',Inv W.c F g' st' s'->StepS g g'->(∀y w,At F.E s.heap y w->At F.E s'.heap y w)->Q st'->K .next s'):WP W (PySem.exec (.Assign [.Attribute (.Name x xp) a ap] e p) F.E) K s:=by
 refine plainObj_wpAny_Assign_Attribute (H.eval h I fun v s1 g1 r st1 I1 S1 z1 q1=>?_) (cr e _)
 have fin:∀g2 s2 st2,Inv W.c F g2 st2 s2->StepS g1 g2->(∀y w,At F.E s1.heap y w->At F.E s2.heap y w)->Q st2->K .next s2:=fun g2 s2 st2 I2 S2 T q2=>k s2 g2 st2 I2 (S1.s.trans S2) (fun y w z=>T y w (At.step I I1 S1 z)) q2
 have q1:orP (qal x st1) (fun q=>gd (decide (q.q.fs.length≤100)) (Q (q6z x (vy a (toF r) q.q.fs) st1 q))) (jk (jn x st1.env) fun u=>gd (ce a u) (Q st1)):=q1
 induction q:qal x st1 using qe with
 | some t=>
  rw[q] at q1
  obtain⟨hz,q2⟩:=jj (by exact q1:gd (decide (t.q.fs.length≤100)) (Q (q6z x (vy a (toF r) t.q.fs) st1 t)))
  have hz:=of_decide_eq_true hz
  cases q6q q with
  | own he=>
   refine e12 (vg I1 hx he) fun u a1 b1=>?_
   exact wv I1 hx a1 (q2g I1 z1 hx he hf hz a1 fun g2 s2 I2 S2 T=>fin g2 s2 _ I2 S2 T q2)
  | sh he hg=>
   refine e12 (vg I1 hx he) fun u a1 b1=>?_
   exact wv I1 hx a1 (l9 I1 z1 b1 hg hf hz fun g2 s2 I2 S2 T=>fin g2 s2 _ I2 S2 T q2)
 | none=>
  rw[q] at q1
  refine e12 (jd (by exact q1:jk (jn x st1.env) (fun u=>gd (ce a u) (Q st1)))) fun u he q2=>?_
  refine e02 (jj q2) fun q3 q4=>?_
  refine e24 (q5f q3) fun C fs zz2 zz3 q5 q6=>?_;subst zz2;subst zz3
  refine e12 (vg I1 hx he) fun u a1 b1=>?_
  exact wv I1 hx a1 (qfn I1 b1 q5 q6 fun s2 I2 T=>fin g1 s2 _ I2 (StepS.refl g1) T q4)
theorem ec(H:Snd W f){x xp a ap e p}(h:q6k f F.sc x a e st Q)(I:Inv W.c F g st s)(k:KS W F g Q K):WP W (PySem.exec (.Assign [.Attribute (.Name x xp) a ap] e p) F.E) K s:=by
 refine e02 (jj h) fun h0 h=>?_
 obtain⟨hf,hx⟩:=qh.mp h0
 exact q7r H hf hx h I fun s' g' st' I' S' z_ q=>k .next s' g' .next st' I' S' .next q
end
theorem DKV.repD{w:World}{g:Gh}{prog:Program}{en:List DictEntry}{kvs:List (Str×Value)}{es:List (Str×T)}(p:Pairs (strKind prog w) en kvs)(h:∀e∈en,∃k,(strKind prog w).is k e.key=true∧e.hash=(strKind prog w).hash k)(q:DKV w g kvs es):RepD w g en es:=(DKV.ekv p h q).repD
theorem RepD.dictOf{w:World}{g:Gh}(prog:Program){h:Heap}{a:Addr}{o:Obj}{en:List DictEntry}{es:List (Str×T)}(e:h.get? a=some o)(ho:kq o en)(r:RepD w g en es)(hn:(es.map (·.1)).Nodup):
  ∃kvs,h.DictOf (strKind prog w) a kvs∧DKV w g kvs es:=by
 refine e11 ho fun ep zz1=>?_;clear ho;subst zz1
 refine e12 (r.kv prog) fun kvs p1 p2=>?_
 exact i12 kvs (i36 _ en.toArray ep e ⟨rfl,rfl,rfl⟩ rfl (fun x hx=>(r.map prog).1 x (by exact(hx).1)) (by simpa using p1) (by refine rwg p2.keys ?_;exact hn)) p2
theorem sy{w:World}{g:Gh}{prog:Program}{h:Heap}{a:Addr}{kvs:List (Str×Value)}{es:List (Str×T)}(D:h.DictOf (strKind prog w) a kvs)(q:DKV w g kvs es):∃o en,h.get? a=some o∧kq o en∧RepD w g en es:=by
 refine e35 D fun o en ep e x d k zz7=>?_;clear D;obtain⟨p,_⟩:=zz7
 refine i23 o en.toList e ⟨ep,?_⟩ (DKV.repD p (fun x hx=>k x (by simpa using hx)) q)
 refine e03 x fun x1 x2 x3=>?_;clear x
 obtain⟨oc,od,oda,os⟩:=o
 dsimp only at x1 x2 x3 d
 subst x1 x2 x3 d
 simp[dictOf]
theorem nh{κ:Type}[DecidableEq κ]{w:World}{g:Gh}{k:κ}{v:Value}{t:T}(hv:Rep w g v t):∀{kvs:List (κ×Value)}{es:List (κ×T)},DKV w g kvs es->(es.map (·.1)).Nodup->DKV w g (stored kvs k v) (dput k t es):=by
 intro kvs es h
 induction h with
 | nil=>intro _;exact .cons hv .nil
 | @cons a u t' kvs es r q ih=>
  intro hn
  rw[qv,List.nodup_cons] at hn
  replace ih:=ih hn.2
  refine(?_:DKV w g _ (if a=k then (a,t)::es else (a,t')::dput k t es))
  by_cases z:a=k
  ·subst z
   refine rwg (if_pos rfl) ?_
   have:stored ((a,u)::kvs) a v=(a,v)::kvs:=by
    unfold stored
    refine rwg (if_pos (by simp))<|rwg qv<|rwg (if_pos rfl) ?_
    congr 1
    rw[List.map_congr_left (g:=id)]
    ·simp
    ·intro x hx
     rw[if_neg]
     ·rfl
     ·intro w'
      apply hn.1
      refine rwl q.keys<|rwl w' ?_
      exact List.mem_map_of_mem hx
   refine rwg this ?_
   exact .cons hv q
  ·refine rwg (if_neg z) ?_
   have:stored ((a,u)::kvs) k v=(a,u)::stored kvs k v:=by
    unfold stored
    refine rwg List.any_cons ?_
    simp only [z,decide_false,Bool.false_or]
    split
    ·exact rwg qv<|rwg (if_neg z) rfl
    ·rfl
   refine rwg this ?_
   exact .cons r ih
theorem DKV.len{κ:Type}{w:World}{g:Gh}{kvs:List (κ×Value)}{es:List (κ×T)}(h:DKV w g kvs es):kvs.length=es.length:=by have:=congrArg List.length h.keys;simpa using this
theorem q1c{c:CC}{g:Gh}{A:Around}{s:Shared}{a:Addr}{o:Obj}{en:List DictEntry}{es:List (Str×T)}{k:Str}{u v:Value}{t:T}{Q:Unit->Shared->Prop}{Er:Value->Shared->Prop}(e:s.heap.get? a=some o)(ho:kq o en)(r:RepD c.w g en es)(hn:(es.map (·.1)).Nodup)(hl:es.length<LIM)
  (hk:Rep c.w g u (.str k)) (hv:Rep c.w g v t) (h:∀h' o' en',Heap.SameBut a s.heap h'->h'.get? a=some o'->kq o' en'->RepD c.w g en' (dput k t es)->Q () { s with heap:=h',toks:=s.toks+1 }) :
  wpAny (model c.prog c.w) A (setItem (.ref a) u v) Q Er s:=by
 refine e11 hk.str_inv fun tk zz1=>?_;subst zz1
 refine e12 (r.dictOf c.prog e ho hn) fun kvs D q=>?_
 refine wpAny_setItem_pairs (mt c.prog c.w k tk) D (fun h' D' hs=>?_) (by refine rwg q.len ?_;exact ws (j4 hl))
 refine e23 (sy D' (nh hv q hn)) fun o' en' e1 e2 e3=>?_
 exact h h' o' en' hs e1 e2 e3
section
variable {c:CC}{F:Fr'}{g:Gh}{s:Shared}{A:Around}{st:St}{r:Ent}
theorem Inv.ownAt{x:Str}{p:Part}{e e':Ent}{a:Addr}{o o':Obj}{h':Heap}{k:Nat}(I:Inv c F g st s)(he:jn x st.env=some e)(hv:∀t,e ≠ .val t)(h1:g a=some (.mine x p,o))(hs:Heap.SameBut a s.heap h')(ho:h'.get? a=some o')
  (hE:∀v,At F.E s.heap x v->EntR c.w g (.mine x) v e->EntR c.w (jp g a (.mine x p) o') (.mine x) v e') :
  Inv c F (jp g a (.mine x p) o') ⟨v0 x e' st.env,st.sg,st.as⟩ { s with heap:=h',toks:=k }∧StepS g (jp g a (.mine x p) o'):=
 I.own (s':={ s with heap:=h',toks:=k }) he hv (fun b k y e w1 w2=>(je (fun q=>by(replace e:=q▸e;rewrite[h1] at e);replace e:=qd e;cases e;exact w1 _ rfl)).trans e)
  (fun b i q y e=>by
   by_cases w:b=a
   ·subst w;rw[jf] at e;exact nomatch e
   ·rw[je w] at e;exact e) (I.fits.upd _ hs ho) hE
theorem ShrK.at{i:Nat}{p:Part}{a:Addr}{o o':Obj}(h1:g a=some (.shr i p,o)):ShrK g (jp g a (.shr i p) o') i:=by
 have back:∀{y:Addr}{kk:Kd}{oo:Obj},jp g a (.shr i p) o' y=some (kk,oo)->∃o1,g y=some (kk,o1):=fun {y kk oo} q=>by
  by_cases w:y=a
  ·subst w;rw[jf] at q;replace q:=qd q;cases q;exact⟨_,h1⟩
  ·rw[je w] at q;exact⟨_,q⟩
 exact⟨fun y kk oo q n1 n2=>(je (fun w=>by(replace q:=w▸q;rewrite[h1] at q);replace q:=qd q;cases q;exact n1 _ rfl)).trans q,fun y pp oo q=>(u3 h1).shr _ _ _ _ q,fun y j oo q=>back q,fun y j pp oo q=>.inr (back q)⟩
theorem Inv.shrAt{i:Nat}{p:Part}{so':SO}{a:Addr}{o o':Obj}{h':Heap}{k:Nat}(I:Inv c F g st s)(h1:g a=some (.shr i p,o))(hs:Heap.SameBut a s.heap h')(ho:h'.get? a=some o')
  (hE:∃b,SOR c.w (jp g a (.shr i p) o') i b so'):Inv c F (jp g a (.shr i p) o') ⟨st.env,st.sg.set i so',st.as⟩ { s with heap:=h',toks:=k }∧KeepF g (jp g a (.shr i p) o'):=
 have K:ShrK g (jp g a (.shr i p) o') i:=ShrK.at h1
 ⟨⟨I.toHp.shrTurn (s':={ s with heap:=h',toks:=k }) K (I.sig.lt _ _ _ _ h1) (I.fits.upd _ hs ho) hE,I.fs,I.fr.keepF K.f⟩,K.f⟩
theorem Ent.dict?_is{e:Ent}{es:List (Str×T)}(h:e.dict? = some es):e = .dict es:=by rcases e with ⟨⟩ <;> first | (cases h;rfl) | exact(j6 h).elim
theorem q73{x:Str}{es:List (Str×T)}(h:qip x st=some es):jn x st.env=some (.dict es):=by
 refine e12 (j9 h) fun e h1 h2=>?_
 exact rwg h1<|rwg (Ent.dict?_is h2) rfl
end
section
variable {W:Cx}{f:Fns}{F:Fr'}{g:Gh}{st:St}{s:Shared}{Q:Fl->St->Prop}{K:Flow->Shared->Prop}
theorem q4t{es:List (Str×T)}(h:okD es=true):es.length<LIM∧(es.map (·.1)).Nodup:=by
 obtain⟨a,b⟩:=qh.mp (by exact h:(decide (es.length<LIM)&&decide (es.map (·.1)).Nodup)=true)
 exact⟨of_decide_eq_true a,of_decide_eq_true b⟩
theorem q12(H:Snd W f){d dp k tp e p}(h:qec f F.sc d k e st Q)(I:Inv W.c F g st s)(kk:KS W F g Q K):WP W (PySem.exec (.Assign [.Subscript (.Name d dp) k tp] e p) F.E) K s:=by
 refine e02 (jj h) fun hx h=>?_
 refine wpAny_Assign_Subscript (H.evalT h I fun v s1 g1 t st1 I1 S1 z1 q1=>?_) (i0 e _)
 refine e12 (jd q1) fun es0 h1 h2=>?_
 obtain⟨u,a1,_⟩:=vg I1 hx (q73 h1)
 refine wv I1 hx a1 (H.evalT h2 I1 fun ku s2 g2 kt st2 I2 S2 z2 q2=>?_)
 refine e12 (jd q2) fun y h3 h4=>?_
 obtain rfl:=T.str?_is h3
 refine e12 (jd h4) fun es h5 h6=>?_
 refine e02 h6 fun h7 h8=>?_;clear h6
 refine e02 (q4t h7) fun hl hn=>?_
 have a2:=a1.step I1 I2 S2
 have he:=q73 h5
 refine e12 (vg I2 hx he) fun u' a3 b3=>?_
 obtain rfl:=At.uniq a2 a3
 refine e34 b3 fun a o en zz3 q1 q2 q3=>?_;clear b3;subst zz3
 refine q1c (I2.fits.exact q1 (jb rfl)) q2 q3 hn hl z2 (z1.mono S2.mono) fun h' o' en' hs ho w1 w2=>?_
 have m:=gb (o':=o') q1
 obtain⟨I3,S3⟩:=I2.ownAt (k:=s2.toks+1) (e':=.dict (dput y t es)) he nofun q1 hs ho fun v hv z_=>by
  obtain rfl:=At.uniq a2 hv
  exact i34 a o' en' rfl jf w1 (w2.mono m)
 exact kk .next _ _ .next _ I3 ((S1.s.trans S2.s).trans S3) .next h8
end
theorem RepFF.others{w:World}{g:Gh}{kd:Part->Kd}{g':Gh}{f:Str}{b:Addr}{o:Obj}(m:Mono g g')(hb:g b=some (kd (.fld f),o))
  (hk:∀a f' o,a≠b->g a=some (kd (.fld f'),o)->g' a=some (kd (.fld f'),o)) (inj:∀f f',kd (.fld f)=kd (.fld f')->f=f') {en:List DictEntry} {fs:List (Str×Mine.F)} (h:RepFF w g kd en fs):f∉fs.map (·.1)->RepFF w g' kd en fs:=by
 induction h with
 | nil=>exact fun z_=>.nil
 | val z k h r ih=>exact fun hn=>.val z k (h.mono m) (ih fun q=>hn (.tail _ q))
 | dict z k e b0 o0 h r ih=>
  refine fun hn=>.dict z k e (hk _ _ _ (fun q=>?_) b0) o0 (h.mono m) (ih fun q=>hn (.tail _ q))
  subst q
  replace b0:=hb▸b0
  obtain rfl:=inj _ _ (congrArg Prod.fst (qd b0))
  exact hn (.head _)
theorem RepFF.putD{w:World}{g:Gh}{kd:Part->Kd}{g':Gh}{f:Str}{b:Addr}{o o':Obj}{en':List DictEntry}{es:List (Str×T)}(m:Mono g g')(hb:g b=some (kd (.fld f),o))(hb':g' b=some (kd (.fld f),o'))(ho:kq o' en')(hr:RepD w g' en' es)
  (hk:∀a f' o,a≠b->g a=some (kd (.fld f'),o)->g' a=some (kd (.fld f'),o)) (inj:∀f f',kd (.fld f)=kd (.fld f')->f=f') {en:List DictEntry} {fs:List (Str×Mine.F)} (h:RepFF w g kd en fs):(fs.map (·.1)).Nodup->getL f en=some (some (.ref b))->(∃es0,ffget f fs=some (.dict es0))->RepFF w g' kd en (vy f (.dict es) fs):=by
 induction h with
 | nil=>exact fun z_ z_ h=>h.elim fun z_ h=>(j6 h).elim
 | @val e a _ _ _ z k h r ih=>
  intro hn hl hf
  rw[gj k] at hl
  unfold ffget at hf
  unfold vy
  rw[qv,List.nodup_cons] at hn
  by_cases y:a=f
  ·replace hf:=(if_pos y)▸hf;exact hf.elim fun z_ hf=>F.noConfusion (qd hf)
  ·rw[if_neg y] at hl hf ⊢
   exact .val z k (h.mono m) (ih hn.2 hl hf)
 | @dict e a b' _ _ _ _ _ z k e0 b0 o0 h r ih=>
  intro hn hl hf
  rw[gj k] at hl
  unfold ffget at hf
  unfold vy
  rw[qv,List.nodup_cons] at hn
  by_cases y:a=f
  ·rw[if_pos y] at hl ⊢
   subst y
   obtain rfl:b'=b:=by replace hl:=e0▸hl;exact Value.ref.inj (qd (qd hl))
   exact .dict z k e0 hb' ho hr (r.others m hb hk inj hn.1)
  ·rw[if_neg y] at hl hf ⊢
   refine .dict z k e0 (hk _ _ _ (fun q=>?_) b0) o0 (h.mono m) (ih hn.2 hl hf)
   subst q
   replace b0:=hb▸b0
   exact y (inj _ _ (congrArg Prod.fst (qd b0))).symm
theorem Gd.field{c:CC}{s:Shared}{A:Around}{a C dx:Addr}{cn f:Str}{en:List DictEntry}{m:Nat}{v:Value}{Q:Value->Shared->Prop}{Er:Value->Shared->Prop}(G:Gd c s.heap)(hc:ji cn cAddrs=some C)(I:InstAt s.heap a (instObj C dx) C (some (dictOf en m)))
  (hf:fieldNames.contains f=true) (hl:getL f en=some (some v)) (hv:handedIn v=true) (h:Q v { s with toks:=s.toks+1 }) {E:Env} {o:qo} {p:Pos} (hb:zr o=true) (he:∀Q:Value->Shared->Prop,Q (.ref a) s->wpAny (model c.prog c.w) A (qp o E) Q Er s) :
  wpAny (model c.prog c.w) A (qp (.Attribute o f p) E) Q Er s:=
 ck hb (he _ (vm G hc I hf hl hv h))
theorem F.dict?_is{u:Mine.F}{es:List (Str×T)}(h:u.dict? = some es):u = .dict es:=by rcases u with ⟨⟩ <;> first | (cases h;rfl) | exact(j6 h).elim
theorem F.int?_is{u:Mine.F}{i:Int}(h:u.int? = some i):u = .val (.int i):=by
 induction u using F.casesOn with
 | val t=>rcases t with ⟨⟩ <;> first | (cases h;rfl) | exact(j6 h).elim
 | dict es=>exact(j6 h).elim
theorem SO.list?_is{o:SO}{xs:List T}(h:o.list? = some xs):o = .list xs:=by rcases o with ⟨⟩ <;> first | (cases h;rfl) | exact(j6 h).elim
theorem Ent.val?_is{e:Ent}{t:T}(h:e.val? = some t):e = .val t:=by rcases e with ⟨⟩ <;> first | (cases h;rfl) | exact(j6 h).elim
section
variable {W:Cx}{f:Fns}{F:Fr'}{g:Gh}{st:St}{s:Shared}{Q:Fl->St->Prop}{K:Flow->Shared->Prop}
theorem qct{c:CC}{kd:Part->Kd}{g1 g2 g':Gh}{a b:Addr}{C:Str}{fs:List (Str×Mine.F)}{a0:Str}{ob o':Obj}{en2:List DictEntry}{es es':List (Str×T)}{CA dx:Addr}{o:Obj}{en':List DictEntry}(c1:ji C cAddrs=some CA)(c2:g1 a=some (kd .main,instObj CA dx))(c3:g1 dx=some (kd .dict,o))(c4:kq o en')(c5:RepFF c.w g1 kd en' fs)
  (keep:∀y p oo,g1 y=some (kd p,oo)->g2 y=some (kd p,oo)) (m:Mono g1 g2) (d1:getL a0 en'=some (some (.ref b))) (d2:g1 b=some (kd (.fld a0),ob)) (hg:g'=jp g2 b (kd (.fld a0)) o') (mm:Mono g2 g') (w1:kq o' en2) (w2:RepD c.w g2 en2 es') (inj:∀p p',kd p=kd p'->p=p') (hn:(fs.map (·.1)).Nodup) (hfe:ffget a0 fs=some (.dict es)):InstR c.w g' kd a C (vy a0 (.dict es') fs):=by
 subst hg
 have nb:∀{y:Addr}{p:Part}{oo:Obj},g2 y=some (kd p,oo)->p ≠ .fld a0->jp g2 b (kd (.fld a0)) o' y=some (kd p,oo):=fun q n=>(je (fun w=>by(replace q:=w▸q;rewrite[keep _ _ _ d2] at q);exact n (inj _ _ (congrArg Prod.fst (qd q))).symm)).trans q
 refine i45 CA dx o en' c1 (nb (keep _ _ _ c2) nofun) (nb (keep _ _ _ c3) nofun) c4 ?_
 exact RepFF.putD (m.trans mm) d2 jf w1 (w2.mono mm) (fun y f' oo n q=>(je n).trans (keep _ _ _ q)) (fun f f' q=>by injection inj _ _ q) c5 hn d1 ⟨es,hfe⟩
theorem rg(H:Snd W f){x xp a0 ap k tp e p}(h:rm f F.sc x a0 k e st Q)(I:Inv W.c F g st s)(kk:KS W F g Q K):WP W (PySem.exec (.Assign [.Subscript (.Attribute (.Name x xp) a0 ap) k tp] e p) F.E) K s:=by
 refine e02 (jj h) fun h0 h=>?_
 obtain⟨hx,hk⟩:=qh.mp h0
 refine wpAny_Assign_Subscript (H.evalT h I fun v s1 g1 t st1 I1 S1 z1 q1=>?_) (i0 e _)
 refine e12 (jd q1) fun tg h1 h2=>?_
 refine e12 (jd h2) fun u h3 h4=>?_
 refine e12 (jd h4) fun es h5 h6=>?_
 obtain rfl:=Mine.F.dict?_is h5
 have hk:ay F.sc x k=true:=by unfold ay;exact rwg hk<|rwg (Bool.true_or _) rfl
 cases q6q h1 with
 | @own q he=>
  have hfe:ffget a0 q.fs=some (.dict es):=h3
  refine e12 (vg I1 hx he) fun u a1 zz2=>?_;obtain⟨a,rfl,CA,dx,o,en,c1,c2,c3,c4,c5⟩:=zz2
  refine e23 (kj (w:=W.c.w) I1.fits c2 (jb rfl) c3 c4) fun en' m q1 q2 q3=>?_
  obtain rfl:=q3 (jb rfl)
  obtain⟨b,ob,enb,d1,d2,d3,d4,d5⟩:=(c5.get a0).2.1 es hfe
  refine Gd.field I1.here c1 q1 d5 d1 rfl ?_ rfl fun Q hQ=>wv I1 hx a1 hQ
  have I1':Inv W.c F g1 st1 { s1 with toks:=s1.toks+1 }:=I1.re
  refine H.kT hk (I1.fr.ne he) h6 I1' fun ku s2 g2 kt st2 I2 S2 z2 q2=>?_
  refine e12 (jd q2) fun y h7 h8=>?_
  obtain rfl:=T.str?_is h7
  refine e02 h8 fun h9 h10=>?_;clear h8
  refine e02 (q4t h9) fun hl hnd=>?_
  refine e02 (jj h10) fun hn h11=>?_
  have hn:=of_decide_eq_true hn
  have a2:=At.step I1' I2 S2.toStepE a1
  have d2':=S2.own _ _ _ d2
  have he2:jn x st2.env=some (.inst q.C q.fs):=S2.env.trans he
  refine q1c (I2.fits.exact d2' (jb rfl)) d3 (d4.mono S2.toStepE.mono) hnd hl z2 (z1.mono S2.toStepE.mono) fun h' o' en2 hs ho w1 w2=>?_
  obtain⟨I3,S3⟩:=I2.ownAt (k:=s2.toks+1) (e':=.inst q.C (vy a0 (.dict (dput y t es)) q.fs)) he2 nofun d2' hs ho fun v hv z_=>by
   obtain rfl:=At.uniq a2 hv
   exact i12 a rfl (qct (kd:=.mine x) c1 c2 c3 c4 c5 S2.own S2.toStepE.mono d1 d2 rfl (gb d2') w1 w2 (fun p p' z=>by injection z) hn hfe)
  exact kk .next _ _ .next _ I3 ((S1.s.trans S2.toStepE.s).trans S3) .next h11
 | @sh i q he hg=>
  have hfe:ffget a0 q.fs=some (.dict es):=h3
  refine e12 (vg I1 hx he) fun u a1 b1=>?_
  refine e12 (I1.toHp.shInst b1 hg) fun a zz1 zz2=>?_;subst zz1;refine e45 zz2 fun CA dx o en c1 c2 c3 c4 c5=>?_;clear zz2
  refine e23 (kj (w:=W.c.w) I1.fits c2 (jb rfl) c3 c4) fun en' m q1 q2 q3=>?_
  obtain rfl:=q3 (jb rfl)
  obtain⟨b,ob,enb,d1,d2,d3,d4,d5⟩:=(c5.get a0).2.1 es hfe
  refine Gd.field I1.here c1 q1 d5 d1 rfl ?_ rfl fun Q hQ=>wv I1 hx a1 hQ
  have I1':Inv W.c F g1 st1 { s1 with toks:=s1.toks+1 }:=I1.re
  refine H.kT hk (I1.fr.ne he) h6 I1' fun ku s2 g2 kt st2 I2 S2 z2 q2=>?_
  refine e12 (jd q2) fun y h7 h8=>?_
  obtain rfl:=T.str?_is h7
  refine e02 h8 fun h9 h10=>?_;clear h8
  refine e02 (q4t h9) fun hl hnd=>?_
  refine e02 (jj h10) fun hn h11=>?_
  have hn:=of_decide_eq_true hn
  have d2':=S2.shrx _ _ _ _ d2
  refine q1c (I2.fits.exact d2' (jb rfl)) d3 (d4.mono S2.toStepE.mono) hnd hl z2 (z1.mono S2.toStepE.mono) fun h' o' en2 hs ho w1 w2=>?_
  obtain⟨I3,K3⟩:=I2.shrAt (k:=s2.toks+1) (so':=.inst q.C (vy a0 (.dict (dput y t es)) q.fs)) d2' hs ho ⟨a,qct (kd:=.shr i) c1 c2 c3 c4 c5 (fun y p oo=>S2.shrx _ _ _ _) S2.toStepE.mono d1 d2 rfl (u3 d2') w1 w2 (fun p p' z=>by injection z) hn hfe⟩
  exact kk .next _ _ .next _ I3 ((S1.s.trans S2.toStepE.s).trans K3.step.s) .next h11
theorem qcd{op:Operator}(h:qhk op=true):op = .Add:=by rcases op with ⟨⟩ <;> first | rfl | exact(jt h).elim
theorem qfr{e:qo}{j:Int}(h:qkn e=some j):∃m p,e = .Constant (.int j) m p:=by
 refine e12 (j9 h) fun c h1 h2=>?_
 induction e using Expr.casesOn with
 | Constant c' m p=>
  obtain rfl:=qd h1
  rcases c' with ⟨⟩ <;> first | (replace h2:=qd h2;cases h2;exact i21 m p rfl) | exact(j6 h2).elim
 | _=>exact(j6 h1).elim
theorem qf0{x:Str}{i:Nat}(h:qij x st=some i):jn x st.env=some (.val (.sh i)):=by
 refine e12 (j9 h) fun e h1 h2=>?_
 refine e12 (j9 h2) fun t h3 h4=>?_
 exact rwg h1<|rwg (Ent.val?_is h3)<|rwg (T.sh?_is h4) rfl
theorem q5j{x xp a0 ap op e p}(h:q6i F.sc x a0 op e st Q)(I:Inv W.c F g st s)(k:KS W F g Q K):WP W (PySem.exec (.AugAssign (.Attribute (.Name x xp) a0 ap) op e p) F.E) K s:=by
 refine e02 (jj h) fun h0 h1=>?_
 obtain⟨hx,h2⟩:=qh.mp h0
 obtain⟨h3,hf⟩:=qh.mp h2
 obtain rfl:=qcd h3
 refine e12 (jd h1) fun i h4 h5=>?_
 refine e12 (jd h5) fun o hg h6=>?_
 refine e12 (jd h6) fun q h7 h8=>?_
 refine e12 (jd h8) fun u hfe h9=>?_
 refine e12 (jd h9) fun a h10 h11=>?_
 refine e12 (jd h11) fun j h12 h13=>?_
 refine e02 (jj h13) fun hz h14=>?_
 obtain rfl:=SO.inst?_is h7
 obtain rfl:=Mine.F.int?_is h10
 refine e21 (qfr h12) fun m p' zz2=>?_;subst zz2
 refine e12 (vg I hx (qf0 h4)) fun u a1 b1=>?_
 have b0:Rep W.c.w g u (.sh i):=b1
 refine e12 (I.toHp.shInst b0 hg) fun ad zz1 zz2=>?_;subst zz1;refine e45 zz2 fun CA dx o en c1 c2 c3 c4 c5=>?_;clear zz2
 refine e23 (kj (w:=W.c.w) I.fits c2 (jb rfl) c3 c4) fun en' m' q1 q2 q3=>?_
 obtain rfl:=q3 (jb rfl)
 obtain⟨v,d1,d2,d3⟩:=(c5.get a0).1 _ hfe
 refine e11 d2.int_inv fun tv zz1=>?_;subst zz1
 refine wpAny_AugAssign_AttributeAny (wv I hx a1 (vm I.here c1 q1 hf d1 rfl ?_))
 refine ub (g:=g) (t:=.int j) rfl fun v2 s2 z2 w2=>?_
 refine e11 z2.int_inv fun t2 zz1=>?_;subst zz1
 have I2:Inv W.c F g st s2:=(I.re (s':={ s with toks:=s.toks+1 })).still w2
 refine iadd_int (l9 (r:=.val (.int (a+j))) (s:={ s2 with toks:=s2.toks+1 }) I2.re (.int _ _) b0 hg hf (of_decide_eq_true hz) fun g3 s3 I3 S3 z_=>?_)
 exact k .next s3 g3 .next _ I3 S3 .next h14
inductive qei(x:Str)(st:St):Lst->Prop
 | own {xs:List T}:jn x st.env=some (.list xs)->qei x st (.own xs)
 | sh {i:Nat} {xs:List T}:jn x st.env=some (.val (.sh i))->st.sg[i]? = some (.list xs)->qei x st (.sh i xs)
theorem q2n{x:Str}{l:Lst}(h:q2o x st=some l):qei x st l:=by
 refine e12 (j9 h) fun e h1 h2=>?_
 induction e using Ent.casesOn with
 | list xs=>obtain rfl:=qd h2;exact .own h1
 | val t=>
  refine e12 (j9 h2) fun i h3 h4=>?_
  obtain rfl:=T.sh?_is h3
  refine e12 (j9 h4) fun o h5 h6=>?_
  refine e12 (j9 h6) fun xs h7 h8=>?_
  obtain rfl:=qd h8
  obtain rfl:=SO.list?_is h7
  exact .sh h1 h5
 | _=>exact(j6 h2).elim
theorem qiv{c:CC}{x:Str}{l:Lst}(I:Inv c F g st s)(hx:z8 (jc F.sc x)=true)(h:qei x st l):∃a vs m,At F.E s.heap x (.ref a)∧s.heap.get? a=some (listOf vs m):=by
 cases h with
 | own he=>
  refine e12 (vg I hx he) fun u a1 zz2=>?_;refine e34 zz2 fun a o vs zz3 q1 zz5 q3=>?_;clear zz2;subst zz3;obtain⟨m,rfl⟩:=zz5
  exact i32 a vs.toArray m a1 (I.fits.exact q1 (jb rfl))
 | sh he hg=>
  refine e12 (vg I hx he) fun u a1 b1=>?_
  refine e34 (I.toHp.shList b1 hg) fun a o vs zz3 q1 zz5 q3=>?_;subst zz3;refine e11 zz5 fun m zz1=>?_;clear zz5;subst zz1
  exact i32 a vs.toArray m a1 (I.fits.exact q1 (jb rfl))
theorem qjq{c:CC}{A:Around}{x:Str}{l:Lst}{a:Addr}{y:Value}{t:T}(I:Inv c F g st s)(hx:z8 (jc F.sc x)=true)(h:qei x st l)(ha:At F.E s.heap x (.ref a))(hy:Rep c.w g y t)(hl:l.xs.length<LIM)
  {K:Value→Shared→Prop} (k:∀g' s',Inv c F g' (qhz x t st l) s'→StepS g g'→K .none s'):wpAny (model c.prog c.w) A (call (.builtin "list.append") [.ref a,y]) K no s:=by
 cases h with
 | @own xs he=>
  refine e12 (vg I hx he) fun u a1 zz2=>?_;refine e34 zz2 fun a' o vs zz3 q1 zz5 q3=>?_;clear zz2;subst zz3;obtain⟨m,rfl⟩:=zz5
  obtain rfl:a=a':=by have:=At.uniq ha a1;replace this:=Value.ref.inj this;cases this;rfl
  refine append_at (I.fits.exact q1 (jb rfl)) (fun h' hs ho=>?_) (by refine rwg List.size_toArray<|rwg q3.len ?_;exact ws (j4 hl))
  have mm:=gb (o':={ cls:=.type "list",data:=.seq (vs.toArray.push y) (m+1) }) q1
  obtain⟨I3,S3⟩:=I.ownAt (k:=s.toks) (e':=.list (xs++[t])) he nofun q1 hs ho fun v hv z_=>by
   obtain rfl:=At.uniq ha hv
   exact i34 a _ (vs++[y]) rfl jf ⟨m+1,by simp[W.listOf]⟩ ((q3.mono mm).app (.cons (hy.mono mm) .nil))
  exact k _ _ I3 S3
 | @sh i xs he hg=>
  refine e12 (vg I hx he) fun u a1 b1=>?_
  refine e34 (I.toHp.shList b1 hg) fun a' o vs zz3 q1 zz5 q3=>?_;subst zz3;refine e11 zz5 fun m zz1=>?_;clear zz5;subst zz1
  obtain rfl:a=a':=by have:=At.uniq ha a1;replace this:=Value.ref.inj this;cases this;rfl
  refine append_at (I.fits.exact q1 (jb rfl)) (fun h' hs ho=>?_) (by refine rwg List.size_toArray<|rwg q3.len ?_;exact ws (j4 hl))
  have mm:=u3 (o':={ cls:=.type "list",data:=.seq (vs.toArray.push y) (m+1) }) q1
  obtain⟨I3,K3⟩:=I.shrAt (k:=s.toks) (so':=.list (xs++[t])) q1 hs ho (i33 a _ (vs++[y]) jf ⟨m+1,by simp[W.listOf]⟩ ((q3.mono mm).app (.cons (hy.mono mm) .nil)))
  exact k _ _ I3 K3.step.s
theorem fy{F:Fr'}(H:FrS F):interactive F.E=false:=by
 unfold interactive;refine rwg H.kind ?_;rfl
theorem q9h(H:Snd W f){x m xp ap as cp p}(hx:z8 (jc F.sc x)=true)(hline:(ap.endLine==cp.line)=true)(hw:(q2o x st).isSome=true)(h:q36 f F.sc x m as st Q)(I:Inv W.c F g st s)(k:KS W F g Q K):
  WP W (PySem.exec (.Expr (.Call (.Attribute (.Name x xp) m ap) as [] cp) p) F.E) K s:=by
 refine e02 (jj h) fun hm h1=>?_
 obtain rfl:=of_decide_eq_true hm
 refine e12 (jd h1) fun e h2 h3=>?_
 obtain rfl:=vr h2
 refine wpAny_Expr_any ?_ (fy I.fs) rfl
 obtain⟨l0,hw⟩:=Option.isSome_iff_exists.mp hw
 refine e32 (qiv I hx (q2n hw)) fun a vs n a1 a2=>?_
 have hs:=vh (E:=F.E) (H.okT h3) []
 refine wpAny_Call_append rfl (by refine rwg hs ?_;rfl) hline (by refine rwg hs ?_;rfl) (wv I hx a1 (i23 a vs rfl (i24 _ n a2 rfl rfl rfl) ?_))
 refine H.evalT h3 I fun y s1 g1 t st1 I1 S1 z1 q1=>?_
 refine e13 (jd q1) fun l h4 h5 h6=>?_
 exact qjq I1 hx (q2n h4) (a1.step I I1 S1) z1 (of_decide_eq_true h5) fun g2 s2 I2 S2=>k .next s2 g2 .next _ I2 (S1.s.trans S2) .next h6
end
section
theorem q4z{α:Type}(n:Str):∀(a b:List (Str×α)),(a++b).lookup n=(a.lookup n).or (b.lookup n):=by
 intro a
 induction a with
 | nil=>
  intro b
  exact rfl
 | cons zz a ih=>
  obtain⟨x,v⟩:=zz
  intro b
  refine rwg List.cons_append<|rwg List.lookup_cons<|rwg List.lookup_cons<|rwg (ih b) ?_
  cases n==x <;> rfl
theorem ma{α:Type}:∀{ps:List Str}{vs:List α}{i:Nat}{x:Str},ps.Nodup->ps[i]? = some x->(ps.zip vs).lookup x=vs[i]?
 | [],_,_,_,_,h=>by simp at h
 | p::ps,[],i,x,_,_=>by rfl
 | p::ps,v::vs,0,x,_,h=>by
  rw[List.getElem?_cons_zero] at h;replace h:=qd h;cases h
  refine rwg List.zip_cons_cons<|rwg List.lookup_cons<|rwg (beq_self_eq_true _) ?_;rfl
 | p::ps,v::vs,i+1,x,hn,h=>by
  rw[List.getElem?_cons_succ] at h
  rw[List.nodup_cons] at hn
  have:(x==p)=false:=by
   refine beq_eq_false_iff_ne.mpr fun q=>hn.1 ?_
   subst q
   exact List.mem_of_getElem? h
  refine rwg List.zip_cons_cons<|rwg List.lookup_cons<|rwg this<|rwg List.getElem?_cons_succ ?_
  exact ma hn.2 h
theorem uz{α:Type}:∀{ps:List Str}{W:List α}(f:Str->Option α),ps.length=W.length->(∀(i:Nat)(x:Str),ps[i]? = some x->f x=W[i]?)->ps.filterMap (fun n=>(f n).map fun v=>(n,v))=ps.zip W
 | [],W,f,_,_=>by simp
 | p::ps,[],f,h,_=>by exact Nat.noConfusion h
 | p::ps,v::W,f,h,k=>by
  have h0:=k 0 p rfl
  rw[List.getElem?_cons_zero] at h0
  refine rwg List.filterMap_cons<|rwg h0<|rwg List.zip_cons_cons ?_
  dsimp only [Option.map_some]
  exact rwg (uz f (by simpa using h) fun i x q=>by simpa using k (i+1) x (by exact q)) rfl
noncomputable def fillUp:List (Str×Value)->List (Str×Value)->List (Str×Value)
 | slots,[]=>slots
 | slots,(n,d)::r=>if (slots.lookup n).isNone then fillUp (slots++[(n,d)]) r else fillUp slots r
set_option tactic.hygienic true in
theorem e9(x:Str):∀(r slots:List (Str×Value)),(fillUp slots r).lookup x=(slots.lookup x).or (r.lookup x):=by
 intro r
 induction r with
 | nil=>
  intro slots
  simp[fillUp]
 | cons zz r ih=>
  obtain⟨n,d⟩:=zz
  intro slots
  simp only [fillUp]
  refine rwg List.lookup_cons ?_
  split
  ·rename_i h
   refine rwg (ih _)<|rwg (q4z _ _ _) ?_
   have e:[(n,d)].lookup x=if x==n then some d else none:=by
    refine rwg List.lookup_cons ?_;cases x==n <;> rfl
   refine rwg e ?_
   by_cases q:x=n
   ·subst q
    have h':slots.lookup x=none:=by simpa using h
    simp[h']
   ·have:(x==n)=false:=beq_eq_false_iff_ne.mpr q
    refine rwg this ?_;simp
  ·rename_i h
   refine rwg (ih _) ?_
   by_cases q:x=n
   ·subst q
    induction z:slots.lookup x using qe with
    | none=>replace h:=z▸h;exact absurd rfl h
    | some v=>rfl
   ·have:(x==n)=false:=beq_eq_false_iff_ne.mpr q
    exact rwg this rfl
theorem q5e(f:Str×Value->List (Str×Value)->Sem (ForInStep (List (Str×Value))))(hf:∀n d slots,f (n,d) slots=(if (slots.lookup n).isNone=true then pure (.yield (slots++[(n,d)])) else pure (.yield slots))):
  ∀(r slots:List (Str×Value)),forIn r slots f=(pure (fillUp slots r):Sem _):=by
 intro r
 induction r with
 | nil=>
  intro slots
  refine rwg List.forIn_nil ?_;rfl
 | cons zz r ih=>
  obtain⟨n,d⟩:=zz
  intro slots
  (rewrite[List.forIn_cons];refine rwg (hf _ _ _) ?_)
  refine rwg (fillUp.eq_1 _) ?_
  split
  ·refine rwg (pure_bind _ _) ?_;exact ih _
  ·refine rwg (pure_bind _ _) ?_;exact ih _
theorem sub3{p d v i:Nat}(h1:v≤p)(h2:p≤v+d)(h3:d≤p)(h4:v≤i):i-(p-d)=d-(p-v)+(i-v):=by
 refine rwg (Nat.sub_sub_right i h3)<|rwg (Nat.sub_sub_right d h1) ?_
 refine rwl (Nat.sub_add_comm (Nat.add_comm v d▸h2:p≤d+v)) ?_
 refine congrArg (·-p) ?_
 exact(Nat.add_comm i d).trans (rwg (Nat.add_assoc d v (i-v)) (rwg (Nat.add_sub_cancel' h4) rfl))
theorem ao{s:Shared}{fd:FuncData}{vs ds:List Value}{ps:List Str}(h1:fd.params.posonlyargs=[])(h2:fd.params.kwonlyargs=[])(h3:fd.params.vararg=none)(h4:fd.params.kwarg=none)(h5:fd.params.args.map (·.arg)=ps)
  (hn:ps.Nodup) (hd:∀(M:Model)(A:Around)(Er:Value->Shared->Prop)(Q:Option (Array Value)->Shared->Prop),(∀o,(o.getD #[]).toList=ds->Q o s)->wpAny M A (seqItems? fd.defaults) Q Er s)
  (hl:vs.length≤ps.length) (hl2:ps.length≤vs.length+ds.length) (hl3:ds.length≤ps.length):BindsTo s fd ⟨vs,[]⟩ (ps.zip (vs++ds.drop (ds.length-(ps.length-vs.length)))):=by
 intro M A Er Q hq
 unfold PySem.bindArgs
 dsimp only
 refine rwg h1<|rwg h2<|rwg h3<|rwg h4<|rwg h5 ?_
 refine qm (qx ?_)
 refine qm (hd _ _ _ _ fun o ho=>?_)
 refine rwg ho ?_
 dsimp only [List.map_nil,List.nil_append]
 refine rwg (if_neg (by simp;exact hl)) ?_
 have hz:ds.length-ps.length=0:=by exact Nat.sub_eq_zero_of_le hl3
 refine rwg hz<|rwg List.drop_zero ?_
 have hlook:∀i x,ps[i]? = some x->(ps.zip vs).lookup x=vs[i]?:=fun i x h=>ma hn h
 have hmiss:(List.filter (fun n=>(List.lookup n (ps.zip vs)).isNone) (List.take (ps.length-ds.length) ps))=[]:=by
  refine List.filter_eq_nil_iff.mpr fun x hx=>?_
  obtain⟨i,hi⟩:=List.mem_iff_getElem?.mp hx
  have hi2:i<ps.length-ds.length:=by
   have:=q0x hi
   simp at this;exact this
  rw[List.getElem?_take_of_lt hi2] at hi
  refine rwg (hlook i x hi)<|rwg (qt (by exact qq hi2 (Nat.sub_le_iff_le_add.mpr hl2))) ?_
  simp
 refine rwg hmiss ?_
 refine rwg (if_neg (by exact nofun)) ?_
 refine rwg (q5e _ (fun n d slots=>rfl) _ _) ?_
 refine qm (qx ?_)
 refine qm (qx ?_)
 refine qx ?_
 have e:ps.filterMap (fun n=>((fillUp (ps.zip vs) ((ps.drop (ps.length-ds.length)).zip ds)).lookup n).map fun v=>(n,v))=ps.zip (vs++ds.drop (ds.length-(ps.length-vs.length))):=by
  refine uz _ (by simp;exact rwg (Nat.sub_sub_self (Nat.sub_le_iff_le_add'.mpr hl2)) (rwg (Nat.add_sub_cancel' hl) rfl)) fun i x hi=>?_
  have hi':=q0x hi
  refine rwg (e9 _ _ _)<|rwg (hlook i x hi) ?_
  by_cases hk:i<vs.length
  ·refine rwg (List.getElem?_append_left hk)<|rwg (qt hk) ?_;rfl
  ·refine rwg (List.getElem?_append_right (by exact Nat.le_of_not_lt hk))<|rwg (List.getElem?_eq_none (by exact Nat.le_of_not_lt hk)) ?_
   have hnd:(ps.drop (ps.length-ds.length)).Nodup:=(List.drop_sublist _ _).nodup hn
   have:(ps.drop (ps.length-ds.length))[i-(ps.length-ds.length)]? = some x:=by
    refine rwg List.getElem?_drop<|rwl hi ?_;congr 1;exact Nat.add_sub_of_le (qr (Nat.sub_le_iff_le_add.mpr hl2) (Nat.le_of_not_lt hk))
   refine rwg Option.none_or<|rwg (ma hnd this)<|rwg List.getElem?_drop ?_
   congr 1;exact sub3 hl hl2 hl3 (Nat.le_of_not_lt hk)
 exact(congrArg (fun z=>Q z s) ((congrArg (List.filterMap _) (List.append_nil ps)).trans e)).mpr hq
end
noncomputable def Kd.own:Kd->Bool
 | .frm=>true
 | .cel _=>true
 | .mine _ _=>true
 | _=>false
noncomputable def hide(g:Gh):Gh:=fun a=>match g a with
 | some (k,o)=>if k.own then some (.still,o) else some (k,o)
 | none=>none
theorem wn{g:Gh}{a:Addr}{k:Kd}{o:Obj}(e:g a=some (k,o))(h:k.own=true):hide g a=some (.still,o):=by unfold hide;refine rwg e ?_;exact if_pos h
theorem ju{g:Gh}{a:Addr}{k:Kd}{o:Obj}(e:g a=some (k,o))(h:k.own=false):hide g a=some (k,o):=by unfold hide;refine rwg e ?_;exact if_neg (by refine rwg h ?_;decide)
set_option tactic.hygienic true in
theorem og{g:Gh}{a:Addr}{k:Kd}{o:Obj}(e:hide g a=some (k,o)):(g a=some (k,o)∧k.own=false)∨(k = .still∧∃k',g a=some (k',o)∧k'.own=true):=by
 unfold hide at e
 split at e
 ·rename_i k' o' q
  split at e
  ·rename_i z;replace e:=qd e;cases e;exact .inr ⟨rfl,(i12 k' q z)⟩
  ·rename_i z;replace e:=qd e;cases e;exact .inl ⟨q,by simpa using z⟩
 ·exact(j6 e).elim
theorem zf(g:Gh):Mono g (hide g):=⟨fun a o e=>ju e rfl,fun a o e=>ju e rfl,fun a i p o e=>⟨o,ju e rfl⟩⟩
theorem Lk.own{k:Kd}{o o':Obj}(h:k.own=true)(l:Lk k o o'):o'=o:=by rcases k with ⟨⟩ <;> first | exact l | exact Bool.noConfusion h
theorem Hp.hide{c:CC}{g:Gh}{sg:List SO}{s:Shared}(H:Hp c g sg s):Hp c (Mine.hide g) sg s:=by
 refine H.same (fun a k o e=>?_) (fun a o e=>ju e rfl) (zf g) fun a i p o=>⟨fun e=>ju e rfl,fun e=>?_⟩
 ·rcases og e with ⟨q,_⟩ | ⟨rfl,k',q,z⟩
  ·exact H.fits a k o q
  ·refine e12 (H.fits a k' o q) fun o' h1 h2=>?_
   exact i12 o' h1 (h2.own z)
 ·rcases og e with ⟨q,_⟩ | ⟨q,_⟩
  ·exact q
  ·exact Kd.noConfusion q
noncomputable def back(g g2:Gh):Gh:=fun a=>match g a with
 | some (k,o)=>if k.own then some (k,o) else g2 a
 | none=>match g2 a with
  | some (.mine x p,o)=>if x="#" then some (.mine x p,o) else none
  | some (.frm,_)=>none
  | some (.cel _,_)=>none
  | r=>r
theorem q3p{g g2:Gh}{a:Addr}{k:Kd}{o:Obj}(e:g a=some (k,o))(h:k.own=true):back g g2 a=some (k,o):=by unfold back;refine rwg e ?_;exact if_pos h
theorem uf{g g2:Gh}{a:Addr}{k:Kd}{o:Obj}(e:g a=some (k,o))(h:k.own=false):back g g2 a=g2 a:=by unfold back;refine rwg e ?_;exact if_neg (by refine rwg h ?_;decide)
theorem q3q {g g2:Gh} {a:Addr} {k:Kd} {o:Obj} (e:g a=none) (e2:g2 a=some (k,o)) (h:k.own=false∨∃p,k = .mine "#" p):back g g2 a=some (k,o):=by
 unfold back
 refine rwg e<|rwg e2 ?_
 rcases h with h | ⟨p,rfl⟩
 ·rcases k with ⟨⟩ <;> first | rfl | exact Bool.noConfusion h
 ·exact if_pos rfl
theorem ug{g g2:Gh}{a:Addr}{k:Kd}{o:Obj}(e:back g g2 a=some (k,o)):(g a=some (k,o)∧k.own=true)∨g2 a=some (k,o):=by
 induction q:g a using qe with
 | some x=>
  obtain⟨k',o'⟩:=x
  induction z:k'.own using qg with
  | true=>have e:=qd ((q3p q z).symm.trans e);cases e;exact .inl ⟨rfl,z⟩
  | false=>exact .inr ((uf q z).symm.trans e)
 | none=>
  unfold back at e
  rewrite[q] at e
  induction q2:g2 a using qe with
  | none=>rewrite[q2] at e;exact(j6 e).elim
  | some y=>
   obtain⟨k2,o2⟩:=y
   rewrite[q2] at e
   induction k2 using Kd.casesOn with
   | mine x p=>
    by_cases z:x="#"
    ·exact .inr ((if_pos z).symm.trans e)
    ·exact(j6 ((if_neg z).symm.trans e)).elim
   | frm=>exact(j6 e).elim
   | cel _=>exact(j6 e).elim
   | _=>exact .inr e
theorem bi{c:CC}{g g1 g2:Gh}{sg':List SO}{s':Shared}(h0:∀a o,hide g a=some (.still,o)->g1 a=some (.still,o))(h1:∀a k o,hide g a=some (k,o)->∃o',g1 a=some (k,o')∧((∀i p,k ≠ .shr i p)->o'=o))
  (S:StepS g1 g2) (H0:∀a o,c.base.get? a=some o→g a=some (.still,o)) (H:Hp c g2 sg' s'):Hp c (back g g2) sg' s'∧KeepF g (back g g2)∧∀{v:Value} {r:Ent},EntR c.w g2 (.mine "#") v r→EntR c.w (back g g2) (.mine "#") v r:=by
 have keepown:∀{a k o},g a=some (k,o)->k.own=true->g2 a=some (.still,o):=fun e h=>S.still _ _ (h0 _ _ (wn e h))
 have EK:KeepF g (back g g2):=by
  refine⟨fun a k o e n1 n2=>?_,fun a i p o e=>?_⟩
  ·induction w:k.own using qg with
   | true=>exact q3p e w
   | false=>
    refine rwg (uf e w) ?_
    refine e12 (h1 _ _ _ (ju e w)) fun o' q1 q2=>?_
    obtain rfl:=q2 n2
    induction k using Kd.casesOn with
    | still=>exact S.still _ _ q1
    | froz=>exact S.froz _ _ q1
    | fdict=>exact S.fdict _ _ q1
    | shr i p=>exact absurd rfl (n2 i p)
    | mine x p=>exact Bool.noConfusion w
    | frm=>exact Bool.noConfusion w
    | cel x=>exact Bool.noConfusion w
  ·refine rwg (uf e rfl) ?_
   obtain⟨o',q1,_⟩:=h1 _ _ _ (ju e rfl)
   exact S.shr _ _ _ _ q1
 have E:=EK.step
 have m:Mono g2 (back g g2):=by
  have key:∀a k o,g2 a=some (k,o)->k ≠ .still->k.own=false->back g g2 a=some (k,o):=by
   intro a k o e hk hk'
   induction q:g a using qe with
   | none=>exact q3q q e (.inl hk')
   | some z=>
    obtain⟨k',o'⟩:=z
    induction w:k'.own using qg with
    | true=>have:=keepown q w;replace e:=this▸e;replace e:=qd e;cases e;exact absurd rfl hk
    | false=>refine rwg (uf q w) ?_;exact e
  exact⟨fun a o e=>key a _ o e (jb rfl) rfl,fun a o e=>key a _ o e (jb rfl) rfl,fun a i p o e=>⟨o,key a _ o e (jb rfl) rfl⟩⟩
 refine i03 ⟨fun a k o e=>?_,H.gd,fun a o e=>E.still _ _ (H0 a o e),H.sig.mono m fun a i p o=>⟨fun e=>?_,fun e=>?_⟩,H.gens,H.os⟩ EK (fun z=>z.mono m fun a p o e=>?_)
 ·rcases ug e with ⟨q,z⟩ | q
  ·have:=H.fits _ _ _ (keepown q z)
   refine e12 this fun o' w1 w2=>?_;clear this
   have w2:o'=o:=w2
   exact i12 o' w1 (w2▸Lk.refl _ _)
  ·exact H.fits a k o q
 ·obtain⟨o',q⟩:=m.shr _ _ _ _ e
  rcases ug q with ⟨_,w⟩ | w
  ·exact Bool.noConfusion w
  ·rw[e] at w;cases w;exact q
 ·rcases ug e with ⟨_,w⟩ | w
  ·cases w
  ·exact w
 ·induction q:g a using qe with
  | none=>exact q3q q e (.inr ⟨p,rfl⟩)
  | some z=>
   obtain⟨k',o'⟩:=z
   induction w:k'.own using qg with
   | true=>have:=keepown q w;replace e:=this▸e;cases e
   | false=>refine rwg (uf q w) ?_;exact e
noncomputable def q4q:T->Bool
 | .none=>true
 | .bool _=>true
 | .int _=>true
 | .str _=>true
 | _=>false
noncomputable def qj5(d:wy):Bool:=d.args.posonlyargs.isEmpty&&d.args.kwonlyargs.isEmpty&&d.args.vararg.isNone&&d.args.kwarg.isNone&&decide (d.args.args.map (·.arg)=d.params)&&decide d.params.Nodup&&d.defaults.all q4q&&decide (d.defaults.length≤d.params.length) &&
 decide (d.scope.kind = .function)&&!d.scope.isCoroutine&&!d.scope.isGenerator&&decide (((cellsFrom 0 d.scope.names []).map (·.1)).Nodup) &&
 (d.params.all fun x=>decide (d.scope.names.lookup x=some .local) || decide (d.scope.names.lookup x=some .cell))&&d.scope.names.all (fun p=>decide (p.2 ≠ .free)) &&
 decide (jc d.scope "__debug__"=none)&&decide (jc d.scope "#"=none)&&decide (jc d.scope "__classdict__"=none)&&!d.params.contains ("#":Str)
theorem t_ok:((fnTab++mfTab).all fun p=>match wx p.1 with | some d=>qj5 d | none=>false)=true:=by decide +kernel
structure q1u(c:CC)(a:Addr)(d:wy):Prop where
 fd:∃(cl:Value) (di:Option Addr) (sl:Array (Option Value)) (fd:FuncData),c.K.lookup a=some ⟨cl,di,.func fd,sl⟩∧n7 c.K a=some (cq d)
 ok:qj5 d=true
set_option tactic.hygienic true in
theorem vx{α:Type}{x:Str}:∀{l:List (Str×α)}{a:α},ji x l=some a->x∈l.map (·.1):=by
 intro l
 induction l with
 | nil=>
  intro za0 za1
  exact(j6 za1).elim
 | cons zz r ih=>
  obtain⟨y,b⟩:=zz
  intro a h
  by_cases q:y=x
  ·refine rwg qv<|rwg q ?_;exact .head _
  ·exact .tail _ (ih ((if_neg q).symm.trans h))
theorem r9{f:Str}{a:Addr}(h:w8 f=some a):(f,a)∈fAddrs++mAddrs:=by
 unfold w8 at h
 induction q:ji f fAddrs using qe with
 | some b=>replace h:=q▸h;cases h;exact List.mem_append_left _ (js q)
 | none=>replace h:=q▸h;exact List.mem_append_right _ (js h)
set_option tactic.hygienic true in
theorem vc{c:CC}{f:Str}{a:Addr}{d:wy}(h:w8 f=some a)(hd:wx f=some d):q1u c a d:=by
 have kv:n7 c.K a=(wx f).map cq:=List.map_inj_left.mp c.kf.fn (f,a) (r9 h)
 rw[hd] at kv
 refine⟨?_,?_⟩
 ·have kv':=kv
  unfold n7 at kv'
  split at kv'
  ·rename_i cl di fd sl q
   exact i42 cl di sl fd q kv
  ·exact(j6 kv').elim
 ·have hf:f∈(fnTab++mfTab).map (·.1):=by
   unfold wx at hd
   refine rwg qu ?_
   induction q:ji f fnTab using qe with
   | some b=>exact List.mem_append_left _ (vx q)
   | none=>
    replace hd:=q▸hd
    induction q':ji f mfTab using qe with
    | some b=>exact List.mem_append_right _ (vx q')
    | none=>replace hd:=q'▸hd;exact(j6 hd).elim
  refine e12 (List.mem_map.mp hf) fun p hp zz2=>?_;subst zz2
  have:=qy.mp t_ok p hp
  rw[hd] at this
  exact this
structure qi4(ps:List Str)(ts ds:List T)(l:List (Str×T)):Prop where
 l:l=ps.zip (ts++ds.drop (ds.length-(ps.length-ts.length)))
 le:ts.length≤ps.length
 ge:ps.length≤ts.length+ds.length
theorem zx:∀{ps:List Str}{ts ds:List T}{l:List (Str×T)},Mine.bindArgs ps ts ds=some l->qi4 ps ts ds l
 | ps,[],ds,l,h=>by
  have h:grd (decide (ps.length≤ds.length)) (some (ps.zip (ds.drop (ds.length-ps.length))))=some l:=by rcases ps with ⟨⟩ <;> exact h
  refine e02 (jh h) fun h1 h2=>?_
  have h1:=of_decide_eq_true h1
  obtain rfl:=qd h2
  exact⟨rfl,Nat.zero_le _,by refine rwg List.length_nil<|rwg (Nat.zero_add _) ?_;exact h1⟩
 | p::ps,a::as,ds,l,h=>by
  refine e12 (j9 (by exact h:opt (Mine.bindArgs ps as ds) (fun l=>some ((p,a)::l))=some l)) fun l' h1 h2=>?_
  obtain rfl:=qd h2
  obtain⟨e,e1,e2⟩:=zx h1
  refine⟨by refine rwg e<|rwg qj<|rwg qj<|rwg (Nat.add_sub_add_right _ _ _) ?_;rfl,Nat.succ_le_succ e1,?_⟩
  refine rwg qj<|rwg qj ?_;omega
 | [],a::as,ds,l,h=>(j6 h).elim
noncomputable abbrev EB(w:World)(g:Gh)(b:List (Str×Value))(l:Loc):Prop:=∀x e,jn x l=some e->∃v,b.lookup x=some v∧EntR w g (.mine x) v e
theorem EB.nil{w:World}{g:Gh}{b:List (Str×Value)}:EB w g b []:=fun z_ z_ h=>(j6 h).elim
theorem EB.cons{w:World}{g:Gh}{x:Str}{v:Value}{e:Ent}{b:List (Str×Value)}{l:Loc}(z:EntR w g (.mine x) v e)(r:EB w g b l):EB w g ((x,v)::b) ((x,some e)::l):=fun y e' h=>by
 have h:(if x=y then some e else jn y l)=some e':=h
 by_cases q:x=y
 ·subst q
  rw[if_pos rfl] at h
  obtain rfl:=qd h
  exact i12 v (by exact rwg List.lookup_cons<|rwg (beq_self_eq_true _) rfl) z
 ·rw[if_neg q] at h
  refine e12 (r y e' h) fun u h1 h2=>?_
  exact i12 u (by refine rwg List.lookup_cons<|rwg (beq_eq_false_iff_ne.mpr (Ne.symm q)) ?_;exact h1) h2
theorem EB.ofT{w:World}{g:Gh}:∀{ps:List Str}{vs:List Value}{ts:List T},RepL w g vs ts->EB w g (ps.zip vs) (Mine.ofT (ps.zip ts))
 | [],_,_,_=>.nil
 | p::ps,_,_,.nil=>.nil
 | p::ps,_,_,.cons (v:=v) (t:=t) h r=>EB.cons (e:=.val t) h (EB.ofT r)
theorem qd9{x:Str}{m:Loc}(h:jn x m=none):∀l:Loc,jn x (l++m)=jn x l:=by
 intro l
 induction l with
 | nil=>
  exact h
 | cons zz r ih=>
  obtain⟨a,u⟩:=zz
  refine(?_:(if a=x then u else jn x (r++m))=if a=x then u else jn x r)
  exact rwg (ih) rfl
theorem q5z(x:Str)(l:Loc):∀ns:List (Str×NameKind),jn x (ns.filterMap fun p=>cond (u5 (some p.2)&&(l.lookup p.1).isNone) (some (p.1,none)) none)=none:=by
 intro ns
 induction ns with
 | nil=>
  exact rfl
 | cons p r ih=>
  refine rwg List.filterMap_cons ?_
  induction u5 (some p.2)&&(l.lookup p.1).isNone using qg with
  | false=>exact ih
  | true=>
   refine(?_:(if p.1=x then none else jn x (r.filterMap fun p=>cond (u5 (some p.2)&&(l.lookup p.1).isNone) (some (p.1,none)) none))=none)
   exact rwg (ih)<|rwg (ite_self _) rfl
theorem yf(x:Str)(sc:Scope)(l:Loc):jn x (frame sc l)=jn x l:=qd9 (q5z x l _) l
theorem EB.frame{w:World}{g:Gh}{b:List (Str×Value)}{l:Loc}(sc:Scope)(h:EB w g b l):EB w g b (Mine.frame sc l):=fun x e q=>h x e (by rw[yf] at q;exact q)
set_option tactic.hygienic true in
theorem bt{x:Str}{v:Value}(ds:List Value):∀{ps:List Str}{vs:List Value},(ps.zip vs).lookup x=some v->(ps.zip (vs++ds)).lookup x=some v
 | [],_,h=>by assumption
 | _::_,[],h=>by simp at h
 | p::ps,u::vs,h=>by
  refine rwg List.cons_append<|rwg List.zip_cons_cons<|rwg List.lookup_cons ?_
  rw[List.zip_cons_cons,List.lookup_cons] at h
  split
  ·rename_i q;replace h:=q▸h;exact h
  ·rename_i q;replace h:=q▸h;exact bt ds h
theorem q3n(kindOf:Str->Option NameKind)(x:Str):∀(b:List (Str×Value))(m:Str->Option Value),(b.map (·.1)).Nodup->bindL kindOf b m x=if kindOf x=some .local then (b.lookup x).or (m x) else m x:=by
 intro b
 induction b with
 | nil=>
  intro m _
  unfold bindL;simp
 | cons zz r ih=>
  obtain⟨n,v⟩:=zz
  intro m hn
  rw[qv,List.nodup_cons] at hn
  skip
  refine rwg (ih _ hn.2)<|rwg List.lookup_cons ?_
  by_cases q:x=n
  ·subst q
   have:r.lookup x=none:=by
    induction w:r.lookup x using qe with
    | none=>rfl
    | some v=>
     exfalso;apply hn.1
     exact List.mem_map.mpr (i12 (x,v) (mem_of_lookup w) rfl)
   refine rwg this<|rwg (beq_self_eq_true _) ?_
   by_cases k:kindOf x=some .local
   ·simp[k]
   ·simp[k]
  ·have:(x==n)=false:=beq_eq_false_iff_ne.mpr q
   refine rwg this ?_
   by_cases k:kindOf x=some .local
   ·by_cases k':kindOf n=some .local
    ·simp[k,k',q]
    ·simp[k,k']
   ·by_cases k':kindOf n=some .local
    ·simp[k,k',q]
    ·simp[k,k']
theorem qe6(kindOf:Str->Option NameKind)(x:Str):∀(b:List (Str×Value))(m:Str->Option Value),(b.map (·.1)).Nodup->kindOf x≠some .local->bindC kindOf b m x=(b.lookup x).or (m x):=by
 intro b
 induction b with
 | nil=>
  intro m _ _
  unfold bindC;simp
 | cons zz r ih=>
  obtain⟨n,v⟩:=zz
  intro m hn hk
  rw[qv,List.nodup_cons] at hn
  dsimp only [bindC]
  refine rwg (ih _ hn.2 hk)<|rwg List.lookup_cons ?_
  by_cases q:x=n
  ·subst q
   have:r.lookup x=none:=by
    induction w:r.lookup x using qe with
    | none=>rfl
    | some v=>
     exfalso;apply hn.1
     exact List.mem_map.mpr (i12 (x,v) (mem_of_lookup w) rfl)
   refine rwg this<|rwg (beq_self_eq_true _) ?_
   simp[hk]
  ·have:(x==n)=false:=beq_eq_false_iff_ne.mpr q
   refine rwg this ?_
   by_cases k':kindOf n=some .local
   ·simp[k']
   ·simp[k',q]
theorem q5g{x:Str}{a:Addr}:∀{l:List (Str×Addr)},l.Pairwise (fun x y=>x.2≠y.2)->(x,a)∈l->l.find? (fun p=>decide (p.2=a))=some (x,a):=by
 intro l
 induction l with
 | nil=>
  intro _ h
  exact absurd h j5
 | cons zz r ih=>
  obtain⟨y,b⟩:=zz
  intro hp h
  rw[List.pairwise_cons] at hp
  refine rwg List.find?_cons ?_
  rcases ql.mp h with q | q
  ·cases q;simp
  ·have:b≠a:=hp.1 _ q
   simp[this]
   exact ih hp.2 q
section
variable {c:CC}{gh:Gh}{sg:List SO}{s:Shared}{A:Around}{a:Addr}{d:wy}
theorem RepL.of_map{w:World}{g:Gh}:∀{vs:List Value}{ts:List T},vs.map qhh=ts->ts.all q4q=true->RepL w g vs ts:=by
 intro vs
 induction vs with
 | nil=>
  intro _ h _
  cases h;exact .nil
 | cons v vs ih=>
  intro _ h hp
  cases h
  simp only [qv,List.all_cons,Bool.and_eq_true] at hp
  refine .cons ?_ (ih rfl hp.2)
  have hp:=hp.1
  rcases v with ⟨⟩ <;> first | exact .none | exact .bool _ | exact .int _ _ | exact .str _ _ | exact Bool.noConfusion hp
set_option tactic.hygienic true in
theorem qgo{K:Frag}{v:Value}{ts:List T}{w:World}{g:Gh}(X:K.In s.heap)(h:q63 K v=ts)(hp:ts.all q4q=true):∃dv,RepL w g dv ts ∧
  ∀(M:Model)(A:Around)(Er:Value->Shared->Prop)(Q:Option (Array Value)->Shared->Prop),(∀o,(o.getD #[]).toList=dv->Q o s)->wpAny M A (seqItems? v) Q Er s:=by
 unfold q63 at h
 split at h
 ·rename_i t
  split at h
  ·rename_i vs k sl q
   refine i12 vs.toList (RepL.of_map h hp) (fun M A Er Q hq=>?_)
   exact wpAny_seqItems (X _ _ q) rfl (hq _ rfl)
  ·subst h;exact Bool.noConfusion hp
 ·subst h
  exact i12 [] .nil (fun M A Er Q hq=>qm (qx (qx (hq none rfl))))
 ·subst h;exact Bool.noConfusion hp
structure qm0(c:CC)(a:Addr)(d:wy)(E:Env):Prop where
 src:∃cl di sl fd,c.K.lookup a=some ⟨cl,di,.func fd,sl⟩∧E.code=fd.code∧E.qual=fd.qualname++".<locals>."
 scope:E.scope=d.scope
 frame:E.frame=some E.locals
set_option tactic.hygienic true in
theorem fm(H:Hp c gh sg s)(F:q1u c a d)(hroom:A.depth<recursionLimit){vs:List Value}{env:Loc}(hl:vs.length≤d.params.length)(hl2:d.params.length≤vs.length+d.defaults.length)
  (he:∀dv,RepL c.w gh dv d.defaults->EB c.w gh (d.params.zip (vs++dv.drop (dv.length-(d.params.length-vs.length)))) env) {Rr:Result->Shared->Prop}
  (k:∀E g1 s1,Inv c ⟨d.scope,E⟩ g1 ⟨env,sg,[]⟩ s1->(∀a k o,gh a=some (k,o)->g1 a=some (k,o))->qm0 c a d E->(∀x v,(d.params.zip vs).lookup x=some v->E.kindOf x=some .local->At E s1.heap x v)->wpAny (model c.prog c.w) (A.deeper E) (execs d.body E) (fun f s'=>Rr (.ok (.ret (match f with | .ret v=>v | _=>.none))) s')
   (fun e s'=>wpAny (model c.prog c.w) (A.deeper E) (leaving E e) (fun z_ s''=>Rr (.error e) s'') (fun e' s''=>Rr (.error e') s'') s') s1) :
  codeAny (model c.prog c.w) A (.call (.ref a) ⟨vs,[]⟩) Rr s:=by
 obtain⟨⟨cl,di,sl,fd,hlk,hv⟩,ok⟩:=F
 unfold n7 at hv
 rw[hlk] at hv
 simp only [Option.some.injEq,cq,FView.mk.injEq] at hv
 refine e09 hv fun v1 v2 v3 v4 v5 v6 v7 v8 v9=>?_;clear hv
 unfold qj5 at ok
 simp only [Bool.and_eq_true,Bool.not_eq_true',decide_eq_true_eq,List.isEmpty_iff,Option.isNone_iff_eq_none] at ok
 refine e02 ok fun zz=>?_;clear ok;refine e02 zz fun zy0 o17=>?_;clear zz;refine e02 zy0 fun zz0 o16=>?_;clear zy0;obtain⟨⟨⟨⟨⟨⟨⟨⟨⟨⟨⟨⟨⟨⟨o1,o2⟩,o3⟩,o4⟩,o5⟩,o6⟩,o7⟩,o8⟩,o9⟩,o10⟩,o11⟩,o12⟩,o13⟩,o14⟩,o15⟩:=zz0;intro o18
 refine e12 (qgo (w:=c.w) (g:=gh) H.X v9 o7) fun dv r1 r2=>?_
 have hdl:=r1.len
 have B:=ao (s:=s) (fd:=fd) (vs:=vs) (ds:=dv) (ps:=d.params) (v6▸o1) (v6▸o2) (v6▸o3) (v6▸o4) (v6▸o5) o6 r2 hl (by omega) (by omega)
 have he:=he dv r1
 have hnm:(d.params.zip (vs++dv.drop (dv.length-(d.params.length-vs.length)))).map (·.1)=d.params:=by
  rw[List.map_fst_zip]
  simp;omega
 have hpre:∀x v,(d.params.zip vs).lookup x=some v->(d.params.zip (vs++dv.drop (dv.length-(d.params.length-vs.length)))).lookup x=some v:=fun x v h=>bt _ h
 generalize d.params.zip (vs++dv.drop (dv.length-(d.params.length-vs.length)))=binds at B he hnm hpre
 refine codeAny_call_function hroom (H.X _ _ hlk) rfl (v5▸o10) (v5▸o11) v4 (codeRec_of H.X v7) (B _ _ _ _ ?_)
 refine rwg v2 ?_
 refine wpAny_newFunctionEnv_cells (v5▸o9) (fun x hx=>?_) fun E hE s' x=>?_
 ·have hx':x.1∈d.params:=hnm▸List.mem_map_of_mem hx
  have:=qy.mp o13 _ hx'
  refine rwg v5 ?_
  rcases Bool.or_eq_true_iff.mp this with q | q
  ·exact .inl (of_decide_eq_true q)
  ·exact .inr ⟨of_decide_eq_true q,cellsFrom_some _ _ _ (.inl (of_decide_eq_true q))⟩
 have hloc:E.locals=s.heap.objs.size:=by refine rwg hE ?_;rfl
 have hcells:E.cells=cellsFrom (s.heap.objs.size+1) d.scope.names []:=by refine rwg hE<|rwg v5 ?_;rfl
 have hsc:E.scope=d.scope:=by refine rwg hE<|rwg v5 ?_;rfl
 have hgl:E.globals=mainGlobals:=by refine rwg hE<|rwg v1 ?_;rfl
 have hbl:E.builtins=builtinsNs:=by refine rwg hE<|rwg v3 ?_;rfl
 have hcq:E.code=fd.code∧E.qual=fd.qualname++".<locals>."∧E.scope=d.scope∧E.frame=some E.locals:=i04 (by refine rwg hE ?_;rfl) (by refine rwg hE ?_;rfl) hsc (by refine rwg hE ?_;rfl)
 clear hE
 have hkind:∀y,E.kindOf y=d.scope.names.lookup y:=fun y=>by unfold Env.kindOf;exact rwg hsc rfl
 refine⟨H.here.nolimit.keeps x.toInCall.keep,codeAny_func ?_⟩
 refine e12 (gz x.toInCall.ns) fun oL f1 f2=>?_
 have hnone:∀b,s.heap.objs.size≤b->gh b=none:=fun b hb=>H.fits.no (Heap.get?_none_of_le hb)
 have habove:∀{y b},(y,b)∈E.cells->s.heap.objs.size<b:=fun hm=>hloc▸x.above _ _ hm
 let g1:Gh:=fun b=>if b=E.locals then some (.frm,oL) else match E.cells.find? (fun p=>decide (p.2=b)) with
  | some p=>(s'.heap.get? b).map fun o=>(.cel p.1,o)
  | none=>gh b
 have gL:g1 E.locals=some (.frm,oL):=if_pos rfl
 have gk:∀a k o,gh a=some (k,o)->g1 a=some (k,o):=fun b k o e=>by
  have hb:b<s.heap.objs.size:=by
   induction w:decide (b<s.heap.objs.size) using qg with
   | true=>exact of_decide_eq_true w
   | false=>rw[hnone b (Nat.le_of_not_lt (of_decide_eq_false w))] at e;exact(j6 e).elim
  refine(?_:(if b=E.locals then _ else _)=_)
  refine rwg (if_neg (by rw[hloc];exact Nat.ne_of_lt hb)) ?_
  split
  ·rename_i p hp
   have h1:=List.mem_of_find?_eq_some hp
   have h2:=List.find?_some hp
   have h3:p.2=b:=by simpa using h2
   have h4:=habove (y:=p.1) (b:=p.2) h1
   rw[h3] at h4
   exact absurd hb (Nat.lt_asymm h4)
  ·exact e
 have gc:∀{y b o},(y,b)∈E.cells->s'.heap.get? b=some o->g1 b=some (.cel y,o):=fun {y b o} hm ho=>by
  refine(?_:(if b=E.locals then _ else _)=_)
  refine rwg (if_neg (by rw[hloc];exact Nat.ne_of_gt (habove hm)))<|rwg (q5g x.apart hm) ?_
  dsimp only
  refine rwg ho ?_;rfl
 have gi:∀{b k o},g1 b=some (k,o)->(k = .frm∧b=E.locals∧o=oL)∨(∃y,k = .cel y∧s'.heap.get? b=some o)∨gh b=some (k,o):=fun {b k o} e=>by
  have e:(if b=E.locals then some (Kd.frm,oL) else match E.cells.find? (fun p=>decide (p.2=b)) with
   | some p=>(s'.heap.get? b).map fun o=>(Kd.cel p.1,o)
   | none=>gh b)=some (k,o):=e
  split at e
  ·rename_i q;replace e:=qd e;cases e;exact .inl (i03 rfl q rfl)
  ·split at e
   ·rename_i p _
    refine e12 (Option.map_eq_some_iff.mp e) fun o' q1 q2=>?_
    cases q2
    exact .inr (.inl (i12 p.1 rfl q1))
   ·exact .inr (.inr e)
 have m:Mono gh g1:=⟨fun a o e=>gk _ _ _ e,fun a o e=>gk _ _ _ e,fun a i p o e=>⟨o,gk _ _ _ e⟩⟩
 have hn6:(binds.map (·.1)).Nodup:=hnm▸o6
 refine e21 x.done fun h' tk zz2=>?_;obtain⟨hs',_⟩:=zz2
 have I:Inv c ⟨d.scope,E⟩ g1 ⟨env,sg,[]⟩ s':=by
  refine⟨⟨fun b k o e=>?_,H.gd,fun b o e=>gk _ _ _ (H.base b o e),H.sig.mono m fun b i p o=>⟨fun e=>gk _ _ _ e,fun e=>?_⟩,by refine rwg hs' ?_;exact H.gens,by refine rwg hs' ?_;exact H.os⟩,?_,?_⟩
  ·rcases gi e with ⟨rfl,rfl,rfl⟩ | ⟨y,rfl,q⟩ | q
   ·exact i12 _ f1 (Lk.refl _ _)
   ·exact i12 _ q (Lk.refl _ _)
   ·refine e12 (H.fits b k o q) fun o' q1 q2=>?_
    exact i12 o' (x.toInCall.keep _ _ q1) q2
  ·rcases gi e with ⟨q,_⟩ | ⟨y,q,_⟩ | q
   ·exact Kd.noConfusion q
   ·exact Kd.noConfusion q
   ·exact q
  ·exact⟨hsc▸o9,hgl,hbl,o15,o16,o17,fun y k hk=>i12 k ((hkind y).trans hk) (.inl rfl)⟩
  ·refine⟨?_,(i21 oL _ ⟨gL,f2,fun y e hy hk=>?_⟩),fun y hy=>?_⟩
   ·induction q:jn "#" env using qe with
    | none=>rfl
    | some e=>
     obtain⟨v,q1,_⟩:=he _ _ q
     have:("#":Str)∈binds.map (·.1):=List.mem_map.mpr (i12 _ (mem_of_lookup q1) rfl)
     rw[hnm] at this
     have:d.params.contains ("#":Str)=true:=by simpa using this
     rw[o18] at this;exact(jt this).elim
   ·refine e12 (he y e hy) fun v q1 q2=>?_
    refine i12 v ?_ (q2.mono m fun a p o e=>gk _ _ _ e)
    refine rwg (q3n _ _ _ _ hn6)<|rwg (if_pos hk)<|rwg q1 ?_;rfl
   ·have hyc:E.kindOf y=some .cell:=by
     rcases hy with q | q
     ·exact q
     ·have q:E.kindOf y=some .free:=q
      rw[hkind] at q
      have:=qy.mp o14 _ (mem_of_lookup q)
      simp at this
    have hl:(E.cells.lookup y).isSome=true:=by
     refine rwg hcells ?_
     exact cellsFrom_some _ _ _ (.inl ((hkind y).symm.trans hyc))
    obtain⟨b,hb⟩:=Option.isSome_iff_exists.mp hl
    refine e12 (x.cell y b hb) fun o q1 q2=>?_
    refine i41 b (.cel y) o _ ⟨hb,gc (mem_of_lookup hb) q1,q2,.inl rfl,fun z_=>rfl,fun e hy'=>?_⟩
    refine e12 (he y e hy') fun v z1 z2=>?_
    refine i13 v ?_ (z2.mono m fun a p o e=>gk _ _ _ e) (fun h=>absurd rfl h)
    refine rwg (qe6 _ _ _ _ hn6 (by rw[hyc];nofun))<|rwg z1 ?_;rfl
 exact k E g1 s' I gk ⟨(i43 _ _ _ fd hlk hcq.1 hcq.2.1),hcq.2.2.1,hcq.2.2.2⟩ fun y v hy hk=>.loc hk x.toInCall.ns (by refine rwg (q3n _ _ _ _ hn6)<|rwg (if_pos hk)<|rwg (hpre y v hy) ?_;rfl)
end
section
variable {c:CC}{g:Gh}{sg sg':List SO}{s:Shared}{A:Around}{r:Ent}{f:Fns}
theorem gx {g1 g2:Gh} {s2:Shared} {v:Value} (I:Hp c g sg s) (keep:∀a k o,hide g a=some (k,o)→g1 a=some (k,o)) (S:StepS g1 g2) (H:Hp c g2 sg' s2) (z:EntR c.w g2 (.mine "#") v r):lj c g sg' r (.ok (.ret v)) s2:=by
 refine e03 (bi (g1:=g1) (fun a o e=>keep a _ o e) (fun a k o e=>i12 o (keep a k o e) (fun z_=>rfl)) S I.base H) fun b1 b2 b3=>?_
 exact .mk b1 b2 (b3 z)
theorem Done.st{r r':Ent}{st:St}(h:Done r r' sg' st.sg st.as):r'=r∧st.sg=sg':=⟨h.r,h.sg⟩
theorem qe5(hS:∀E,Snd ⟨c,A.deeper E⟩ f)(hroom:A.depth<recursionLimit){d:wy}{ts:List T}{l:List (Str×T)}{as:List Ans}{a:Addr}{vs:List Value}(F:q1u c a d)(hl:Mine.bindArgs d.params ts d.defaults=some l)
  (h:qhx f d l sg as fun r' st=>Done r r' sg' st.sg st.as) (I:Hp c g sg s) (hv:RepL c.w g vs ts):codeAny (model c.prog c.w) A (.call (.ref a) ⟨vs,[]⟩) (lj c g sg' r) s:=by
 have B:=zx hl
 obtain rfl:=B.l
 have hv':=hv.mono (zf g)
 have hlen:=hv.len
 refine fm I.hide F hroom (env:=frame d.scope (Mine.ofT (d.params.zip (ts++d.defaults.drop (d.defaults.length-(d.params.length-ts.length)))))) (by rw[hlen];exact B.le) (by rw[hlen];exact B.ge) (fun dv hdv=>EB.frame _ (EB.ofT ?_)) fun E g1 s1 I1 keep z_ z_=>?_
 ·rw[hdv.len,hlen]
  exact hv'.app (hdv.drop _)
 ·refine nf (xy (W:=⟨c,A.deeper E⟩) (F:=⟨d.scope,E⟩) (hS E) h (I1.tell as) fun fl s2 g2 fl2 st2 I2 S2 z2 q2=>?_)
  refine e02 q2.st fun zz0 zz1=>?_;subst zz0;subst zz1
  cases z2 with
  | next=>exact gx (r:=.val .none) I keep S2 I2.toHp .none
  | ret z=>exact gx I keep S2 I2.toHp z
theorem ig (a:Addr) (vs:List Value):(Code.builtin "type.__call__" ⟨.ref a::vs,[]⟩).weight=1:=rfl
set_option tactic.hygienic true in
theorem pz{C m f:Str}{CA:Addr}(h:te C m=some f)(hC:ji C cAddrs=some CA):∃fa,w8 f=some fa∧findIn c.K (.ref CA) m=some (some (.ref fa))∧_root_.PySem.W.isFn c.K (.ref fa)=true ∧
  specialIn c.K (.ref fa) "__get__"=some (some (.builtin "function.__get__")):=by
 unfold te at h
 refine e12 (Option.bind_eq_some_iff.mp h) fun l h1 h2=>?_
 have:=qy.mp (qy.mp c.kf.mth _ (js h1)) _ (js h2)
 unfold qbo at this
 dsimp only at this
 rw[hC] at this
 split at this
 ·rename_i a fa q1 q2
  replace q1:=qd q1;cases q1
  simp only [Bool.and_eq_true,beq_iff_eq] at this
  exact i14 fa q2 this.1.1 this.1.2 this.2
 ·exact(jt this).elim
theorem Fits.push2{h:Heap}{CA:Addr}{kd:Part->Kd}(H:Fits g h)(hf:kd .main ≠ .fdict):∃g',Fits g' ((h.push emptyDict).push (instObj CA h.objs.size))∧(∀a k o,g a=some (k,o)->g' a=some (k,o))∧g' (h.objs.size+1)=some (kd .main,instObj CA h.objs.size)∧g' h.objs.size=some (kd .dict,emptyDict) ∧
  ∀a k o,g' a=some (k,o)->(a=h.objs.size+1∧k=kd .main)∨k=kd .dict∨g a=some (k,o):=by
 have e0:=H.new
 have f1:=H.push (kd .dict) (o:=emptyDict) rfl
 have e1:=f1.new
 have f2:=f1.push (kd .main) (o:=instObj CA h.objs.size) rfl
 have hsz:(h.push emptyDict).objs.size=h.objs.size+1:=Heap.size_push ..
 rw[hsz] at e1 f2
 have ne0:h.objs.size≠h.objs.size+1:=Nat.ne_of_lt (Nat.lt_succ_self _)
 refine i15 _ f2 (fun a k o e=>?_) jf ((je ne0).trans jf) (fun a k o e=>?_)
 ·have h1:a≠h.objs.size:=fun z=>by rw[z,e0] at e;exact j6 e
  have h2:jp g h.objs.size (kd .dict) emptyDict a=some (k,o):=(je h1).trans e
  exact(je (fun z=>by rw[z,e1] at h2;exact j6 h2)).trans h2
 ·by_cases h2:a=h.objs.size+1
  ·subst h2
   rw[jf] at e
   exact .inl ⟨rfl,(congrArg Prod.fst (qd e)).symm⟩
  ·rw[je h2] at e
   by_cases h1:a=h.objs.size
   ·rw[h1,jf] at e
    exact .inr (.inl (congrArg Prod.fst (qd e)).symm)
   ·rw[je h1] at e;exact .inr (.inr e)
theorem StepS.keep{g g':Gh}(k:∀a k o,g a=some (k,o)->g' a=some (k,o)):StepS g g':=⟨fun a o e=>k _ _ _ e,fun a o e=>k _ _ _ e,fun a o e=>k _ _ _ e,fun a i p o e=>⟨o,k _ _ _ e⟩⟩
theorem StepS.m{g g':Gh}(k:StepS g g'):Mono g g':=k.mono
theorem Hp.newShr{C:Str}{CA:Addr}(H:Hp c g sg s)(hC:ji C cAddrs=some CA):
  ∃g',Hp c g' (sg++[.inst C []]) { s with heap:=(s.heap.push emptyDict).push (instObj CA s.heap.objs.size) }∧(∀a k o,g a=some (k,o)->g' a=some (k,o))∧g' (s.heap.objs.size+1)=some (.shr sg.length .main,instObj CA s.heap.objs.size):=by
 refine e15 (H.fits.push2 (CA:=CA) (kd:=.shr sg.length) (jb rfl)) fun g' f2 keep n1 n0 inv=>?_
 have m:=(StepS.keep keep).mono
 refine i13 g' ⟨f2,H.gd,fun a o e=>keep _ _ _ (H.base a o e),⟨fun j so h=>?_,fun j a a' o o' e e'=>?_,fun j p a o e=>?_⟩,H.gens,H.os⟩ keep n1
 ·by_cases hj:j<sg.length
  ·rw[List.getElem?_append_left hj] at h
   obtain⟨a,z⟩:=H.sig.at_ j so h
   exact⟨a,z.mono m fun a p o e=>keep _ _ _ e⟩
  ·obtain⟨hl,_⟩:=List.getElem?_eq_some_iff.mp h
   obtain rfl:j=sg.length:=Nat.le_antisymm (Nat.le_of_lt_succ (by rw[qk] at hl;exact hl)) (Nat.le_of_not_lt hj)
   rw[List.getElem?_append_right (Nat.le_refl _),Nat.sub_self] at h
   obtain rfl:=qd h
   exact i55 (s.heap.objs.size+1) CA s.heap.objs.size emptyDict [] hC n1 n0 ⟨0,rfl⟩ .nil
 ·have old:∀{a:Addr}{o:Obj},g a=some (.shr j .main,o)->j<sg.length:=fun e=>H.sig.lt _ _ _ _ e
  rcases inv _ _ _ e with ⟨z1,z2⟩ | z | z <;> rcases inv _ _ _ e' with ⟨y1,y2⟩ | y | y
  ·rw[z1,y1]
  ·exact nomatch y
  ·cases z2;exact absurd (old y) (Nat.lt_irrefl _)
  ·exact nomatch z
  ·exact nomatch z
  ·exact nomatch z
  ·cases y2;exact absurd (old z) (Nat.lt_irrefl _)
  ·exact nomatch y
  ·exact H.sig.one _ _ _ _ _ z y
 ·rw[qk]
  rcases inv _ _ _ e with ⟨_,z⟩ | z | z
  ·cases z;exact Nat.lt_succ_self _
  ·cases z;exact Nat.lt_succ_self _
  ·exact Nat.lt_succ_of_lt (H.sig.lt _ _ _ _ z)
theorem Hp.newOwn{CA:Addr}(x:Str)(H:Hp c g sg s):
  ∃g',Hp c g' sg { s with heap:=(s.heap.push emptyDict).push (instObj CA s.heap.objs.size) }∧(∀a k o,g a=some (k,o)->g' a=some (k,o))∧g' (s.heap.objs.size+1)=some (.mine x .main,instObj CA s.heap.objs.size)∧g' s.heap.objs.size=some (.mine x .dict,emptyDict):=by
 refine e15 (H.fits.push2 (CA:=CA) (kd:=.mine x) (jb rfl)) fun g' f2 keep n1 n0 inv=>?_
 refine i14 g' ⟨f2,H.gd,fun a o e=>keep _ _ _ (H.base a o e),H.sig.mono (StepS.keep keep).mono fun a i p o=>⟨keep _ _ _,fun e=>?_⟩,H.gens,H.os⟩ keep n1 n0
 rcases inv _ _ _ e with ⟨_,z⟩ | z | z
 ·exact Kd.noConfusion z
 ·exact Kd.noConfusion z
 ·exact z
end
noncomputable def qks(x:Str):qo->Bool
 | .Attribute (.Name y _) _ _=>decide (y=x)
 | _=>false
noncomputable def qcj(x:Str):List qo->Bool
 | [e]=>qks x e
 | _=>false
noncomputable def tz(x:Str):Stmt->Bool
 | .Assign tgs _ _=>qcj x tgs
 | _=>false
noncomputable def q5a(d:wy):Bool:=match d.params with
 | self::_=>d.body.all (tz self)&&decide (d.scope.names.lookup self=some .local)
 | []=>false
theorem qic:(methTab.all fun c=>yt c.1 || match (ji "__init__" c.2).bind wx with | some d=>q5a d | none=>true)=true:=by decide +kernel
theorem qg8 {C m:Str} {d:wy} (h:te C "__init__"=some m) (hd:wx m=some d) (hs:yt C=false):q5a d=true:=by
 unfold te at h
 refine e12 (Option.bind_eq_some_iff.mp h) fun l h1 h2=>?_
 have:=qy.mp qic _ (js h1)
 dsimp only at this
 (replace this:=hs▸this;replace this:=h2▸this;rewrite[Option.bind_some] at this;replace this:=hd▸this)
 exact this
theorem q99{x:Str}{tgs:List qo}(h:qcj x tgs=true):∃xp fl ap,tgs=[.Attribute (.Name x xp) fl ap]:=by
 induction tgs using qf with
 | nil=>exact(jt h).elim
 | cons e r=>
  induction r using qf with
  | cons _ _=>exact(jt h).elim
  | nil=>
   induction e using Expr.casesOn with
   | Attribute v fl ap=>
    induction v using Expr.casesOn with
    | Name y p=>obtain rfl:=of_decide_eq_true h;exact i31 _ _ _ rfl
    | _=>exact(jt h).elim
   | _=>exact(jt h).elim
theorem q2y{x:Str}{b:Stmt}(h:tz x b=true):∃xp fl ap e p,b = .Assign [.Attribute (.Name x xp) fl ap] e p:=by
 induction b using Stmt.casesOn with
 | Assign tgs e p=>refine e31 (q99 h) fun xp fl ap zz3=>?_;subst zz3;exact i51 xp fl ap e p rfl
 | _=>exact(jt h).elim
section
variable {W:Cx}{f:Fns}{F:Fr'}{x:Str}{u:Value}
theorem qci(H:Snd W f):∀{b:List Stmt}{st:St}{Q:Fl->St->Prop}{g:Gh}{s:Shared}{K:Flow->Shared->Prop},b.all (tz x)=true->wb (f.step.exec F.sc) b st Q->Inv W.c F g st s->At F.E s.heap x u ->
  (∀s' g' st',Inv W.c F g' st' s'->StepS g g'->At F.E s'.heap x u->Q .next st'->K .next s')->WP W (execs b F.E) K s:=by
 intro b
 induction b with
 | nil=>
  intro st Q g s K _ h I a k
  exact wpAny_execs_nil (k s g st I (StepS.refl g) a h)
 | cons b bs ih=>
  intro st Q g s K hb h I a k
  refine e02 (qh.mp (List.all_cons▸hb)) fun h1 h2=>?_
  have h:qcv f F.sc b st (fun fl st1=>match fl with
   | .next=>wb (f.step.exec F.sc) bs st1 Q
   | .ret v=>Q (.ret v) st1):=h
  refine rwg (execs_cons _ _ _) ?_
  refine e51 (q2y h1) fun xp fl ap e p zz5=>?_;subst zz5
  refine e02 (jj (by exact h:gd (fieldNames.contains fl&&z8 (jc F.sc x)) (f.eval F.sc e st fun r st1=>setAttr fl x r st1 fun st1=>wb (f.step.exec F.sc) bs st1 Q))) fun h3 h4=>?_
  obtain⟨h5,h6⟩:=qh.mp h3
  refine qm (q7r H h5 h6 h4 I fun s1 g1 st1 I1 S1 T q1=>?_)
  exact ih h2 q1 I1 (T _ _ a) fun s2 g2 st2 I2 S2=>k s2 g2 st2 I2 (S1.trans S2)
end
section
variable {c:CC}{g:Gh}{sg sg':List SO}{s:Shared}{A:Around}{r:Ent}{f:Fns}
theorem tx{self:Str}{ps:List Str}{ts ds:List T}{l:List (Str×T)}{vs:List Value}{gh:Gh}{a:Addr}{e:Ent}{sc:Scope}(B:qi4 ps ts ds l)(hv:RepL c.w gh vs ts)(z:EntR c.w gh (.mine self) (.ref a) e):
  ∀dv,RepL c.w gh dv ds->EB c.w gh ((self::ps).zip ((.ref a::vs)++dv.drop (dv.length-((self::ps).length-(Value.ref a::vs).length)))) (frame sc ((self,some e)::Mine.ofT l)):=fun dv hdv=>by
 have e1:dv.length-((self::ps).length-(Value.ref a::vs).length)=ds.length-(ps.length-ts.length):=by
  exact rwg qj<|rwg qj<|rwg (Nat.add_sub_add_right _ _ _)<|rwg hdv.len<|rwg hv.len rfl
 refine rwg e1<|rwg B.l ?_
 refine EB.frame sc ?_
 refine(?_:EB c.w gh ((self,_)::ps.zip (vs++_)) _)
 exact EB.cons z (EB.ofT (hv.app (hdv.drop _)))
theorem qbs (hS:∀E CA vs,Snd ⟨c,(A.under (.builtin "type.__call__" ⟨.ref CA::vs,[]⟩)).deeper E⟩ f) (hS':∀E CA vs,Snd ⟨c,(A.under (.builtin "type.__call__" ⟨.ref CA::vs,[]⟩)).deeper E⟩ f.step) (hroom:A.depth+1<recursionLimit)
  {C:Str} {ts:List T} {as:List Ans} {a:Addr} {vs:List Value} (h:qbr f.step C ts sg as fun r' st=>Done r r' sg' st.sg st.as) (I:Hp c g sg s) (ha:ji C cAddrs=some a) (hv:RepL c.w g vs ts) :
  codeAny (model c.prog c.w) A (.call (.ref a) ⟨vs,[]⟩) (lj c g sg' r) s:=by
 refine e12 (jd h) fun gi hm h1=>?_
 refine e12 (jd h1) fun fd hfd h2=>?_
 induction hps:fd.params using qf with
 | nil=>rw[hps] at h2;exact h2.elim
 | cons self ps=>
  rw[hps] at h2
  refine e12 (jd (by exact h2:jk (Mine.bindArgs ps ts fd.defaults) _)) fun l hl h3=>?_
  have B:=zx hl
  refine e13 (pz (c:=c) hm ha) fun fa m1 m2 zz3=>?_;obtain⟨m3,_⟩:=zz3
  have K:=wg c.kf ha
  obtain⟨hh,gg,dd,tt,oo⟩:=s
  refine make_core (makes_of I.X K.makes) (looks_findIn I.X m2) (fun self=>bind_fn I.X self (beq_iff_eq.mp m3)) (.inl rfl) ?_
  have hro:(A.under (.builtin "type.__call__" ⟨.ref a::vs,[]⟩)).depth<recursionLimit:=by
   refine(?_:A.depth+(Code.builtin "type.__call__" ⟨.ref a::vs,[]⟩).weight<recursionLimit)
   refine rwg (ig _ _) ?_;exact hroom
  have le1:(Value.ref (hh.objs.size+1)::vs).length≤fd.params.length:=by refine rwg hps<|rwg qj<|rwg qj<|rwg hv.len ?_;exact Nat.succ_le_succ B.le
  have le2:fd.params.length≤(Value.ref (hh.objs.size+1)::vs).length+fd.defaults.length:=by refine rwg hps<|rwg qj<|rwg qj<|rwg hv.len ?_;have:=B.ge;lia
  induction hs:yt C using qg with
  | true=>
   have h4:=xi h3 hs
   refine e13 (I.hide.newShr ha) fun g0 H0 keep0 hx=>?_
   have hv':=(hv.mono (zf g)).mono (StepS.keep keep0).mono
   refine fm H0 (vc m1 hfd) hro (env:=frame fd.scope ((self,some (.val (.sh sg.length)))::Mine.ofT l)) le1 le2 (by refine rwg hps ?_;exact tx B hv' (by exact .sh hx:Rep c.w g0 _ (.sh _))) fun E g1 s1 I1 keep z_ z_=>?_
   refine nf (xy (F:=⟨fd.scope,E⟩) (hS' E a vs) h4 (I1.tell as) fun fl s2 g2 fl2 st2 I2 S2 z2 q2=>?_)
   obtain⟨q3,q4⟩:=jj q2
   cases z2 with
   | ret z=>exact(jt q3).elim
   | next=>
    refine e02 q4.st fun zz0 zz1=>?_;subst zz0;subst zz1
    refine e11 (S2.shr _ _ _ _ (keep _ _ _ hx)) fun o' e'=>?_
    exact⟨rfl,gx (r:=.val (.sh sg.length)) I keep0 ((StepS.keep keep).trans S2) I2.toHp (.sh e')⟩
  | false=>
   have h4:=jy h3 hs
   have ok:=qg8 hm hfd hs
   unfold q5a at ok
   rw[hps] at ok
   obtain⟨ok1,ok2⟩:=qh.mp ok
   have ok2:=of_decide_eq_true ok2
   refine e14 (I.hide.newOwn (CA:=a) self) fun g0 H0 keep0 hx hd=>?_
   have hv':=(hv.mono (zf g)).mono (StepS.keep keep0).mono
   refine fm H0 (vc m1 hfd) hro (env:=frame fd.scope ((self,some (.inst C []))::Mine.ofT l)) le1 le2 (by refine rwg hps ?_;exact tx B hv' (i12 _ rfl (i45 a _ emptyDict [] ha hx hd ⟨0,rfl⟩ .nil))) fun E g1 s1 I1 keep ev look=>?_
   have hk:E.kindOf self=some .local:=by unfold Env.kindOf;refine rwg ev.scope ?_;exact ok2
   have at1:=look self (.ref (hh.objs.size+1)) (by exact rwg hps<|rwg List.zip_cons_cons<|rwg List.lookup_cons<|rwg (beq_self_eq_true _) rfl) hk
   refine nf (qci (F:=⟨fd.scope,E⟩) (hS E a vs) ok1 h4 (I1.tell as) at1 fun s2 g2 st2 I2 S2 at2 q2=>?_)
   refine e02 (jj q2) fun q3 q4=>?_
   refine e12 (jd q4) fun r' he q5=>?_
   obtain⟨q6,q7⟩:=jj q5
   refine e02 q7.st fun zz0 zz1=>?_;subst zz0;subst zz1
   have hl:z8 (jc fd.scope self)=true:=by unfold jc;refine rwg ok2 ?_;rfl
   refine e12 (vg I2 hl he) fun v a3 b3=>?_
   obtain rfl:=At.uniq at2 a3
   exact⟨rfl,gx I keep0 (((StepS.keep keep).trans S2).trans (StepS.give g2 self "#")) I2.move.toHp (b3.kd (y4 g2 self "#") fun a p o e=>oj e)⟩
end
theorem y9{e:qo}{E:Env}(h:xc e=true)(es:List qo):starEach (e::es) E=(false,qp e E)::starEach es E:=by
 induction e using Expr.casesOn with
 | Starred x p=>exact(jt h).elim
 | _=>rfl
theorem ym{E:Env}{pos:Pos}:∀{es:List qo},es.all xc=true->(backTo pos (starEach es E)).any (·.1)=false:=by
 intro es
 induction es with
 | nil=>
  intro _
  exact rfl
 | cons e es ih=>
  intro h
  refine e02 (qh.mp (List.all_cons▸h)) fun h1 h2=>?_
  refine rwg (y9 h1 es) ?_
  exact ih h2
section
variable {W:Cx}{f:Fns}{F:Fr'}{g:Gh}{st:St}{s:Shared}{K:Value->Shared->Prop}{Q:Ent->St->Prop}
theorem wo(H:Snd W f){es:List qo}{P:List T->St->Prop}{pos:Pos}(hp:es.all xc=true)(h:evL (f.evalT F.sc) es st P)(I:Inv W.c F g st s){fv:Value}(hk:keepIn W.c.K fv=true){first:List Value}{Er:Value->Shared->Prop}
  (k:∀vs g1 s1 ts st1,Inv W.c F g1 st1 s1->StepE g g1->RepL W.c.w g1 vs ts->P ts st1->wpAny (model W.c.prog W.c.w) W.A (call fv (first++vs)) K Er s1):wpAny (model W.c.prog W.c.w) W.A (callWith pos fv first (backTo pos (starEach es F.E)) []) K Er s:=by
 refine callWith_of (P:=W.c.K.In) (by refine rwg (ym hp) ?_;rfl) (keeps_K hk) ?_
 induction es using qf with
 | nil=>exact evalArgs_nil3 ⟨I.X,k [] g s [] st I (StepE.refl g) .nil h⟩
 | cons e rest=>
  have main:=ow (pos:=pos) (K:=fun vs s1=>W.c.K.In s1.heap∧wpAny (model W.c.prog W.c.w) W.A (call fv (first++vs)) K Er s1) H h I fun vs s1 g1 ts st1 I1 S1 z1 q1=>⟨I1.X,k vs g1 s1 ts st1 I1 S1 z1 q1⟩
  rw[y9 (qh.mp (List.all_cons▸hp)).1 rest] at main ⊢
  exact evalArgs_plain (nf main)
theorem Inv.after{c:CC}{sg':List SO}{g':Gh}{s':Shared}(I:Inv c F g st s)(H:Hp c g' sg' s')(K:KeepF g g')(as:List Ans):Inv c F g' ⟨st.env,sg',as⟩ s':=⟨H,I.fs,I.fr.keepF K⟩
theorem da{sg':List SO}{fv:Value}{vs:List Value}{r:Ent}(I:Inv W.c F g st s)(h:codeAny (model W.c.prog W.c.w) W.A (.call fv ⟨vs,[]⟩) (lj W.c g sg' r) s)(as:List Ans)(k:KV W F g ⟨st.env,sg',as⟩ r K):WP W (call fv vs) K s:=by
 refine wpAny_call (codeAny_mono h fun res s' z=>?_)
 cases z with
 | mk H' K' z'=>exact k _ _ _ (I.after H' K' as) K'.step z'
theorem ti{α:Type}{x:Str}:∀{l:List (Str×α)},x∈l.map (·.1)->(ji x l).isSome=true:=by
 intro l
 induction l with
 | nil=>
  intro h
  exact nomatch h
 | cons zz r ih=>
  obtain⟨y,b⟩:=zz
  intro h
  dsimp only [ji]
  by_cases z:y=x
  ·refine rwg (if_pos z) ?_;rfl
  ·refine rwg (if_neg z) ?_
   rw[qv] at h
   rcases ql.mp h with q | q
   ·exact absurd q.symm z
   ·exact ih q
theorem qcq{x:Str}{a:Addr}(h:gAddr x=some a)(hf:isFn x=true):ji x fAddrs=some a:=by
 unfold gAddr at h
 have:x∈fAddrs.map (·.1):=by
  refine rwl qid ?_
  obtain⟨b,hb⟩:=Option.isSome_iff_exists.mp hf
  exact vx hb
 obtain⟨b,hb⟩:=Option.isSome_iff_exists.mp (ti this)
 rw[hb] at h ⊢
 exact h
theorem q9c{x:Str}{a:Addr}(h:gAddr x=some a)(hf:isFn x=false):ji x cAddrs=some a:=by
 unfold gAddr at h
 induction q:ji x fAddrs using qe with
 | none=>replace h:=q▸h;exact h
 | some b=>
  have:x∈fnTab.map (·.1):=by refine rwg qid ?_;exact vx q
  have:isFn x=true:=ti this
  rw[hf] at this;exact(jt this).elim
theorem ly{p:Str×Addr}{c:CC}(h:p∈fAddrs++mAddrs++cAddrs):keepIn c.K (.ref p.2)=true:=qy.mp c.kf.keep _ h
theorem q9k(H:Snd W f){x fp as cp}(hp:as.all xc=true)(hk:jc F.sc x=some .globalImplicit)(hf:isFn x=true)(h:qlf f F.sc x as st Q)(I:Inv W.c F g st s)(k:KR W F g Q K):WP W (qp (.Call (.Name x fp) as [] cp) F.E) K s:=by
 refine e12 (d7 (x:=x) (by refine rwg (show (ji x fnTab).isSome=true from hf) ?_;rfl)) fun a ga hm=>?_
 have hfa:=qcq ga hf
 have hfA:w8 x=some a:=by unfold w8;refine rwg hfa ?_;rfl
 refine wpAny_Call_NameR (vk I hk hm ?_)
 refine wo H hp h I (ly (p:=(x,a)) (List.mem_append_left _ (List.mem_append_left _ (js hfa)))) fun vs g1 s1 ts st1 I1 S1 z1 q1=>?_
 refine e32 (vn q1) fun r sg as h1 h2=>?_
 exact da I1 (H.C.callF h1 I1.toHp hfA z1) as (k.of_kv S1 h2)
theorem q5p(H:Snd W f){x fp as cp}(hp:as.all xc=true)(hk:jc F.sc x=some .globalImplicit)(hf:isFn x=false)(hc:q7f x=true)(h:qht f F.sc x as st Q)(I:Inv W.c F g st s)(k:KR W F g Q K):WP W (qp (.Call (.Name x fp) as [] cp) F.E) K s:=by
 refine e12 (d7 (x:=x) (by exact rwg (show (ji x methTab).isSome=true from hc)<|rwg (Bool.or_true _) rfl)) fun a ga hm=>?_
 have hca:=q9c ga hf
 refine wpAny_Call_NameR (vk I hk hm ?_)
 refine wo H hp h I (ly (p:=(x,a)) (List.mem_append_right _ (js hca))) fun vs g1 s1 ts st1 I1 S1 z1 q1=>?_
 refine e32 (vn q1) fun r sg as h1 h2=>?_
 exact da I1 (H.C.makeC h1 I1.toHp hca z1) as (k.of_kv S1 h2)
theorem ij{c:CC}{A:Around}{E:Env}{v:qo}{m:Str}{ap cp:Pos}{as:List qo}{Q:Value->Shared->Prop}{Er:Value->Shared->Prop}(hb:zr v=true)(hline:(ap.endLine==cp.line)=true)(hlen:as.length<30)(hp:as.all xc=true)
  (h:wpAny (model c.prog c.w) A (qp v E) (fun ov s1=>∀pl,wpAny (model c.prog c.w) A (getMethod ov m pl) (fun fx s2=>wpAny (model c.prog c.w) A (callWith cp fx.1 fx.2 (backTo cp (starEach as E)) []) Q Er s2) Er s1) Er s) :
  wpAny (model c.prog c.w) A (qp (.Call (.Attribute v m ap) as [] cp) E) Q Er s:=by
 (rewrite[arm_eval_Call];refine rwg (rl _ _ _ _ hb) ?_)
 refine qm (wpAny_mono h (fun ov s1 h1=>qm (wpAny_standAt ?_)) fun z_ z_ z=>z)
 have hform:methodCallForm (as.length+([]:List Keyword).length) (backTo cp (starEach as E)) (backToKw cp (keywordEach [] E))=true:=by
  unfold methodCallForm
  have e1:(backTo cp (starEach as E)).all (fun x=>!x.1)=true:=by
   rw[qy]
   intro x hx
   have:=List.any_eq_false.mp (ym (E:=E) (pos:=cp) hp) x hx
   simpa using this
  refine rwg e1 ?_
  refine(?_:(true&&true&&decide (as.length+0+0<30))=true)
  simpa using hlen
 have hpos:methodCallPos true v E ap cp=pure cp:=by unfold methodCallPos;simp[hline]
 unfold methodCall
 refine rwg hform ?_
 refine qm (wpAny_holding ?_)
 refine(?_:wpAny _ _ (getMethod ov m _) _ _ _)
 exact wpAny_mono (h1 _) (fun fx s2 h2=>qm (wpAny_of_eq hpos h2)) fun z_ z_ z=>z
theorem u8{x:Str}{fa:Addr}{c:CC}(h:w8 x=some fa):keepIn c.K (.ref fa)=true:=ly (p:=(x,fa)) (List.mem_append_left _ (r9 h))
structure Dot(as:List qo)(v:qo)(ap cp:Pos):Prop where
 base:zr v=true
 line:(ap.endLine==cp.line)=true
 len:as.length<30
 plain:as.all xc=true
theorem qa4(H:Snd W f){v m ap cp as C fs gi}{P:List T->St->Prop}(D:Dot as v ap cp){ov:Value}(I:Inv W.c F g st s)(z:Rep W.c.w g ov (.inst C fs))(hf:fget m fs=none)(hm:te C m=some gi)(h:evL (f.evalT F.sc) as st P)
  (k:∀vs fa s2 g2 ts st2,Inv W.c F g2 st2 s2->StepE g g2->w8 gi=some fa->RepL W.c.w g2 (ov::vs) (.inst C fs::ts)->P ts st2->WP W (call (.ref fa) (ov::vs)) K s2) {pl}:WP W (getMethod ov m pl) (fun fx s2=>WP W (callWith cp fx.1 fx.2 (backTo cp (starEach as F.E)) []) K s2) s:=by
 have z0:=z
 cases z with
 | @inst x CA dx o en _ _ a1 a2 a3 a4 a5=>
  refine e22 (kj (w:=W.c.w) I.fits a2 (jb rfl) a3 a4) fun en' n q1 zz3=>?_;obtain⟨q2,_⟩:=zz3
  refine e13 (pz (c:=W.c) hm a1) fun fa m1 m2 zz3=>?_;obtain⟨m3,_⟩:=zz3
  have L:=wg W.c.kf a1
  refine method_fn I.X q1 L.get L.noget m2 (beq_iff_eq.mp m3) (by refine(?_:(lookIn m (dictOf en' n)).map _=_);refine rwg (lookIn_dict _ _ _)<|rwg ((a5.get q2 m).2 hf) ?_;rfl) ?_
  exact wo H D.plain h I (u8 m1) fun vs g2 s2 ts st2 I2 S2 z2 q2=>k vs fa s2 g2 ts st2 I2 S2 m1 (.cons (z0.mono S2.mono) z2) q2
theorem qdy(H:Snd W f){v m ap cp as i C fs gi}{P:List T->St->Prop}(D:Dot as v ap cp){ov:Value}(I:Inv W.c F g st s)(z:Rep W.c.w g ov (.sh i))(hi:st.sg[i]? = some (.inst C fs))(hf:ffget m fs=none)(hm:te C m=some gi)(h:evL (f.evalT F.sc) as st P)
  (k:∀vs fa s2 g2 ts st2,Inv W.c F g2 st2 s2->StepE g g2->w8 gi=some fa->RepL W.c.w g2 (ov::vs) (.sh i::ts)->P ts st2->WP W (call (.ref fa) (ov::vs)) K s2) {pl}:WP W (getMethod ov m pl) (fun fx s2=>WP W (callWith cp fx.1 fx.2 (backTo cp (starEach as F.E)) []) K s2) s:=by
 refine e12 (I.toHp.shInst z hi) fun x zz1 zz2=>?_;subst zz1;refine e45 zz2 fun CA dx o en a1 a2 a3 a4 a5=>?_;clear zz2
 refine e23 (kj (w:=W.c.w) I.fits a2 (jb rfl) a3 a4) fun en' n q1 q2 q3=>?_
 obtain rfl:=q3 (jb rfl)
 refine e13 (pz (c:=W.c) hm a1) fun fa m1 m2 zz3=>?_;obtain⟨m3,_⟩:=zz3
 have L:=wg W.c.kf a1
 refine method_fn I.X q1 L.get L.noget m2 (beq_iff_eq.mp m3) (by refine(?_:(lookIn m (dictOf en' n)).map _=_);refine rwg (lookIn_dict _ _ _)<|rwg ((a5.get m).2.2 hf) ?_;rfl) ?_
 exact wo H D.plain h I (u8 m1) fun vs g2 s2 ts st2 I2 S2 z2 q2=>k vs fa s2 g2 ts st2 I2 S2 m1 (.cons (z.mono S2.mono) z2) q2
end
section
variable {W:Cx}{f:Fns}{F:Fr'}{g:Gh}{st:St}{s:Shared}{K:Value->Shared->Prop}
theorem Inv.new{c:CC}{o:Obj}{k:Kd}{h':Heap}{kk:Nat}(I:Inv c F g st s)(hk:∀i p,k ≠ .shr i p)(keep:∀b o',s.heap.get? b=some o'->h'.get? b=some o')(hn:h'.get? s.heap.objs.size=some o):
  Inv c F (jp g s.heap.objs.size k o) st { s with heap:=h',toks:=kk }:=by
 refine I.turn (fun a k' o' e=>?_) (KeepF.new I.fits.new) (yr I.fits.new hk) rfl rfl
 by_cases q:a=s.heap.objs.size
 ·subst q;rw[jf] at e;replace e:=qd e;cases e;exact i12 o hn (Lk.refl _ _)
 ·rw[je q] at e
  refine e12 (I.fits a k' o' e) fun x h1 h2=>?_
  exact i12 x (keep _ _ h1) h2
theorem Inv.grow{c:CC}{h':Heap}{kk:Nat}(I:Inv c F g st s)(keep:∀b o',s.heap.get? b=some o'->h'.get? b=some o'):Inv c F g st { s with heap:=h',toks:=kk }:=
 ⟨⟨fun a k o e=>e12 (I.fits a k o e) fun x h1 h2=>(i12 x (keep _ _ h1) h2),I.gd,I.base,I.sig,I.gens,I.os⟩,I.fs,I.fr⟩
theorem qbx {v:Value} {xs:List T} {sh:Bool} (hl:xs.length≤LIM) (I:Inv W.c F g st s) (z:CRep W.c.w g v sh (.list xs)) (k:KV W F g st (.val (.int xs.length)) K):WP W (call (.builtin "len") [v]) K s:=by
 refine e42 (CRep.list_inv z) fun a kk o vs zz4 C=>?_;subst zz4
 refine call_len_list (C.o.at (I.fits.exact C.at_ C.lk.nf.1)) (by have:=ws hl;have:=sizeLine_eq;refine rwg List.size_toArray<|rwg C.r.len ?_;have hL:LIM=4000:=rfl;lia) ?_
 have e:((vs.toArray.size:Nat):Int)=(xs.length:Int):=by exact rwg List.size_toArray<|rwg C.r.len rfl
 refine rwg e ?_
 exact xm I (.int _ _) k
theorem q8y {v:Value} {xs:List T} {sh:Bool} (hl:xs.length≤LIM) (I:Inv W.c F g st s) (z:CRep W.c.w g v sh (.list xs)) (k:KV W F g st (.list xs) K):WP W (call (.type "list") [v]) K s:=by
 refine e42 (CRep.list_inv z) fun a kk o vs zz4 C=>?_;subst zz4
 refine e11 C.o fun m zz1=>?_;subst zz1
 refine call_list_seq a (.inl rfl) (I.fits.exact C.at_ C.lk.nf.1) rfl rfl (fun h' c' keep hn=>?_) (by refine rwg List.size_toArray<|rwg C.r.len ?_;exact ws hl)
 have I':=I.new (k:=.mine "#" .main) (kk:=s.toks) (fun z_ z_=>jb rfl) keep hn
 have K':KeepF g (jp g s.heap.objs.size (.mine "#" .main) { cls:=.type "list",dict:=none,data:=.seq vs.toArray c',slots:=#[] }):=KeepF.new I.fits.new
 exact k _ _ _ I' K'.step (i34 _ _ vs rfl jf ⟨c',rfl⟩ (C.r.mono K'.step.mono))
theorem qbq {i j:Int} {u v:Value} (R:Room W.A 1) (I:Inv W.c F g st s) (hu:Rep W.c.w g u (.int i)) (hv:Rep W.c.w g v (.int j)) (k:KV W F g st (.val (.int (if j<i then j else i))) K):WP W (call (.builtin "min") [u,v]) K s:=by
 refine e11 hu.int_inv fun t zz1=>?_;subst zz1
 refine e11 hv.int_inv fun t' zz1=>?_;subst zz1
 refine min_two_ints R.handled fun h' tk keep=>k _ _ g (I.grow (kk:=tk) keep) (StepE.refl g) ?_
 by_cases q:j<i
 ·refine rwg (if_pos q)<|rwg (if_pos q) ?_;exact .int _ _
 ·refine rwg (if_neg q)<|rwg (if_neg q) ?_;exact .int _ _
theorem str_list{v:Value}{xs:List T}{sh:Bool}{ds:List PyData}{y:PySem.Str}(R:Room W.A 1)(I:Inv W.c F g st s)(z:CRep W.c.w g v sh (.list xs))(hr:∀{vs:List Value},RepL W.c.w g vs xs->ReadsAll s.heap vs ds [])(h1:(PyData.list ds).showable=true)(h2:(PyData.list ds).hasDict=false)(h3:(PyData.list ds).depth≤10)(h4:(PyData.list ds).shown=y)(h5:y.length≤sizeLine)
  (k:KV W F g st (.val (.str y)) K):WP W (call (.type "str") [v]) K s:=by
 have hc:cLine=9900:=by decide
 have hu:=R.units_lt
 refine e42 (CRep.list_inv z) fun a kk o vs zz4 C=>?_;subst zz4
 refine e11 C.o fun m zz1=>?_;subst zz1
 have rd:Reads s.heap (.ref a) (.list ds) (a::[]):=.list (I.fits.exact C.at_ C.lk.nf.1) rfl rfl (by exact hr C.r)
 refine str_of_reads rd h1 (fun q=>by rw[h2] at q;exact Bool.noConfusion q) R.guards (by lia) (fun z_ z_ e=>e) (fun h' u tk keep=>?_) (by refine rwg h4 ?_;exact h5)
 refine rwg h4 ?_
 exact k _ _ g (I.grow keep) (StepE.refl g) (.str _ _)
theorem q2a{i:Int}{x:Str}(h:s9 i=some x):(0≤i∧i<100000)∧x=Str.ofString (toString i):=by
 refine e02 (jh h) fun h1 h2=>?_
 obtain⟨a,b⟩:=qh.mp h1
 exact⟨⟨of_decide_eq_true a,of_decide_eq_true b⟩,(qd h2).symm⟩
inductive q3u:List T->List PyData->Str->Prop
 | nil:q3u [] [] "[]"
 | five:q3u [.int 5] [.int 5] "[5]"
 | q:q3u [.str "q"] [.str "q"] "['q']"
 | mat:q3u [.int 0,.int 0] [.int 0,.int 0] "[0, 0]"
theorem q4g{xs:List T}{x:Str}(h:qhc xs=some x):∃ds,q3u xs ds x:=by
 match xs,h with
 | [],h=>obtain rfl:=qd h;exact⟨_,.nil⟩
 | [t],h=>
  have h:qhe t=some x:=h
  induction t using T.casesOn with
  | int i=>
   refine e02 (jh h) fun h1 h2=>?_
   obtain rfl:=of_decide_eq_true h1
   obtain rfl:=qd h2
   exact⟨_,.five⟩
  | str y=>
   refine e02 (jh h) fun h1 h2=>?_
   obtain rfl:=of_decide_eq_true h1
   obtain rfl:=qd h2
   exact⟨_,.q⟩
  | _=>exact(j6 h).elim
 | [a,b],h=>
  have h:qhd (a,b)=some x:=h
  refine e12 (j9 h) fun i h1 h2=>?_
  refine e12 (j9 h2) fun j h3 h4=>?_
  refine e02 (jh h4) fun h5 h6=>?_
  obtain⟨h7,h8⟩:=qh.mp h5
  obtain rfl:=of_decide_eq_true h7
  obtain rfl:=of_decide_eq_true h8
  obtain rfl:=qd h6
  obtain rfl:a = .int 0:=T.int?_is h1
  obtain rfl:b = .int 0:=T.int?_is h3
  exact⟨_,.mat⟩
 | _::_::_::_,h=>exact(j6 h).elim
theorem q4f {v:Value} {t:T} {x:PySem.Str} {sh:Bool} (h:s8 t=some x) (R:Room W.A 1) (I:Inv W.c F g st s) (z:CRep W.c.w g v sh t) (k:KV W F g st (.val (.str x)) K):WP W (call (.type "str") [v]) K s:=by
 induction t using T.casesOn with
 | int i=>
  refine e02 (q2a h) fun zz=>?_;refine e02 zz fun h1 h2=>?_;clear zz;intro zz;subst zz
  refine e11 (Rep.int_inv z) fun tk zz1=>?_;subst zz1
  exact str_of_int_fit (N:=100000) (by lia) (by exact(by decide)) fun z_=>xm I (.str _ _) k
 | str y=>
  obtain rfl:=qd h
  refine e11 (Rep.str_inv z) fun tk zz1=>?_;subst zz1
  exact PySem.P.str_of_str (xm I (.str _ _) k)
 | list xs=>
  refine e11 (q4g h) fun ds V=>?_
  have go:=fun hr h1 h2 h3 h4 h5=>str_list (ds:=ds) (y:=x) R I z hr h1 h2 h3 h4 h5 k
  cases V with
  | nil=>exact go (fun r=>by cases r;exact .nil) rfl rfl (by decide +kernel) (by decide +kernel) (by decide +kernel)
  | five=>exact go (fun r=>by
    cases r with
    | cons h r=>cases r;refine e11 h.int_inv fun t zz1=>?_;subst zz1;exact .cons (as:=[]) (.int _ _) .nil) (by decide +kernel) rfl (by decide +kernel) (by decide +kernel) (by decide +kernel)
  | q=>exact go (fun r=>by
    cases r with
    | cons h r=>cases r;refine e11 h.str_inv fun t zz1=>?_;subst zz1;exact .cons (as:=[]) (.str _ _) .nil) (by decide +kernel) rfl (by decide +kernel) (by decide +kernel) (by decide +kernel)
  | mat=>exact go (fun r=>by
    cases r with
    | cons h r=>
     cases r with
     | cons h' r=>
      cases r;refine e11 h.int_inv fun t zz1=>?_;subst zz1;refine e11 h'.int_inv fun t' zz1=>?_;subst zz1
      exact .cons (as:=[]) (.int _ _) (.cons (as:=[]) (.int _ _) .nil)) (by decide +kernel) rfl (by decide +kernel) (by decide +kernel) (by decide +kernel)
 | _=>exact(j6 h).elim
end
end Mine
end
section
open PySem PySem.W PyProof.Rows PySem.Calls PySem.SeqAt PySem.Builtin PySem.Builtin.Str
namespace Mine
section
variable {W:Cx}{f:Fns}{F:Fr'}{g:Gh}{st:St}{s:Shared}{K:Value->Shared->Prop}
theorem q8e{w:World}:∀(ps:List PySem.Str)(k:Nat),RepL w g (strsFrom k ps) (ps.map T.str):=by
 intro ps
 induction ps with
 | nil=>
  intro k
  exact .nil
 | cons p ps ih=>
  intro k
  exact .cons (.str _ _) (ih (k+1))
structure SplitC(x:PySem.Str)(ps:List PySem.Str):Prop where
 h1:(decide (x.length<(" ":PySem.Str).length) || decide (strKind x<strKind " "))=false
 hf:(occurrences x " " 0 x.length (x.length+1)).isEmpty=false
 hp:partsBetween x (occurrences x " " 0 x.length (x.length+1)) (" ":PySem.Str).length=ps
 hx:x.length≤sizeLine
 hn:ps.length≤sizeLine
noncomputable def qii (p:PySem.Str×List PySem.Str):Bool:=decide (p.1="none") || (!(decide (p.1.length<(" ":PySem.Str).length) || decide (strKind p.1<strKind " "))&&!(occurrences p.1 " " 0 p.1.length (p.1.length+1)).isEmpty&&decide (partsBetween p.1 (occurrences p.1 " " 0 p.1.length (p.1.length+1)) (" ":PySem.Str).length=p.2)&&decide (p.1.length≤sizeLine)&&decide (p.2.length≤sizeLine))
theorem qet:splitTab.all qii=true:=by decide +kernel
theorem q4v{x:PySem.Str}{l:List PySem.Str}:∀{t:List (PySem.Str×List PySem.Str)},t.lookup x=some l->(x,l)∈t:=by
 intro t
 induction t with
 | nil=>
  intro za0
  exact(j6 za0).elim
 | cons zz r ih=>
  obtain⟨a,b⟩:=zz
  intro h
  rw[List.lookup_cons] at h
  induction q:x==a using qg with
  | true=>replace h:=q▸h;obtain rfl:=qd h;refine rwg (beq_iff_eq.mp q) ?_;exact .head _
  | false=>replace h:=q▸h;exact .tail _ (ih h)
theorem q44 {x:PySem.Str} {t u:Tok} {xs:List T} (h:q45 x=some xs) (I:Inv W.c F g st s) (k:KV W F g st (.list xs) K):WP W (call (.builtin "str.split") [.str x t,.str " " u]) K s:=by
 refine e12 (j9 h) fun l h1 h2=>?_
 obtain rfl:=qd h2
 have ok:=qy.mp qet _ (q4v h1)
 rcases Bool.or_eq_true_iff.mp (by exact ok:(decide (x="none") || _)=true) with q | q
 ·obtain rfl:=of_decide_eq_true q
  obtain rfl:l=[("none":PySem.Str)]:=qd (h1.symm.trans (by decide +kernel:splitTab.lookup ("none":PySem.Str)=some [("none":PySem.Str)]))
  refine call_meets PySem.F.slot_str_split (typeIs_str _ _ _) PySem.F.entry_str_split (PySem.F.args_str_split_2 _ _) (meets_str_split_not_found _ " " t u (by decide +kernel) rfl (by decide +kernel)) ?_
  exact gr (n:=0) (xs:=[.str "none"]) I (.cons (.str _ _) .nil) k
 ·simp only [Bool.and_eq_true,Bool.not_eq_true',decide_eq_true_eq] at q
  refine e02 q fun zz0 q5=>?_;clear q;obtain⟨⟨⟨q1,q2⟩,q3⟩,q4⟩:=zz0
  refine call_meets PySem.F.slot_str_split (typeIs_str _ _ _) PySem.F.entry_str_split (PySem.F.args_str_split_2 _ _) (meets_str_split_sep x " " t u q1 rfl q2 q4 (by refine rwg q3 ?_;exact q5)) ?_
  refine rwg q3 ?_
  exact gr (n:=0) I (q8e l s.toks) k
theorem io:∀{xs:List T} {y:PySem.Str},b9 xs=some y→∃ys:List PySem.Str,xs=ys.map T.str∧PySem.Str.join "\n" ys=y∧(ys.map (·.length)).sum+ys.length≤y.length+1
 | [],y,h=>by obtain rfl:=qd h;exact i13 [] rfl rfl (by decide +kernel)
 | [a],y,h=>by
  refine e12 (j9 (by exact h:opt a.str? (fun x=>some x)=some y)) fun x h1 h2=>?_
  obtain rfl:=T.str?_is h1
  obtain rfl:=qd h2
  exact i13 [x] rfl rfl (by exact Nat.le_refl _)
 | a::b::r,y,h=>by
  refine e12 (j9 (by exact h:opt a.str? (fun x=>opt (b9 (b::r)) fun y=>some (x++("\n":PySem.Str)++y))=some y)) fun x h1 h2=>?_
  refine e12 (j9 h2) fun y' h3 h4=>?_
  obtain rfl:=T.str?_is h1
  obtain rfl:=qd h4
  refine e13 (io h3) fun ys e1 e2 e3=>?_
  induction ys using qf with
  | nil=>exact nomatch e1
  | cons z zs=>
   refine i13 (x::z::zs) (by exact rwg qv<|rwl e1 rfl) ?_ ?_
   ·refine(?_:x++("\n":PySem.Str)++PySem.Str.join "\n" (z::zs)=_)
    exact rwg e2 rfl
   ·have l1:((x++("\n":PySem.Str))++y').length=x.length+1+y'.length:=by
     refine rwg (Str.length_append _ _)<|rwg (Str.length_append _ _) ?_;rfl
    refine rwg l1 ?_
    simp only [qv,List.sum_cons,qj] at e3 ⊢
    lia
theorem q26{w:World}:∀{vs:List Value}{ys:List PySem.Str},RepL w g vs (ys.map T.str)->StrsAre vs ys:=by
 intro vs ys
 induction ys generalizing vs with
 | nil=>
  intro h
  cases h;exact .nil
 | cons y ys ih=>
  intro h
  rw[qv] at h
  cases h with
  | cons h r=>refine e11 h.str_inv fun t zz1=>?_;subst zz1;exact .cons y t (ih r)
theorem q94 {xs:List T} {y:PySem.Str} {t:Tok} {v:Value} (h:b9 xs=some y) (hl:y.length≤gw) (I:Inv W.c F g st s) (z:Rep W.c.w g v (.list xs)) (k:KV W F g st (.val (.str y)) K):WP W (call (.builtin "str.join") [.str "\n" t,v]) K s:=by
 refine e13 (io h) fun ys zz1 e2 e3=>?_;subst zz1
 refine e32 z.list_inv fun a o vs zz3 C=>?_;subst zz3
 have hS:gw=100000:=rfl
 refine join_list (C.o.at (I.fits.exact C.at_ (jb rfl))) (q26 C.r) ?_ fun t' kk=>?_
 ·have:("\n":PySem.Str).length=1:=by decide +kernel
  refine rwg this ?_;lia
 ·have e:Txt.join "\n" ys=y:=(StrLaws.glued_eq_join _ _).trans e2
  refine rwg e ?_
  exact xm I (.str _ _) k
set_option tactic.hygienic true in
theorem q4x {x y:PySem.Str} {t:Tok} (h:ny x=some y) (I:Inv W.c F g st s) (k:KV W F g st (.val (.str y)) K):WP W (call (.builtin "str.lower") [.str x t]) K s:=by
 have fin:K (.str y s.toks) { s with toks:=s.toks+1 }:=xm I (.str _ _) k
 unfold ny at h
 repeat' (split at h)
 ·rename_i q;subst q;replace h:=qd h;cases h
  exact call_gives PySem.F.slot_str_lower (typeIs_str _ _ _) PySem.F.entry_str_lower (PySem.F.args_str_lower_1 _) (gives_str_lower _ t (by decide +kernel)) ⟨by decide +kernel,fin⟩
 ·rename_i q;subst q;replace h:=qd h;cases h
  exact call_gives PySem.F.slot_str_lower (typeIs_str _ _ _) PySem.F.entry_str_lower (PySem.F.args_str_lower_1 _) (gives_str_lower _ t (by decide +kernel)) ⟨by decide +kernel,fin⟩
 ·rename_i q;subst q;replace h:=qd h;cases h
  exact call_gives PySem.F.slot_str_lower (typeIs_str _ _ _) PySem.F.entry_str_lower (PySem.F.args_str_lower_1 _) (gives_str_lower _ t (by decide +kernel)) ⟨by decide +kernel,fin⟩
 ·rename_i q;subst q;replace h:=qd h;cases h
  exact call_gives PySem.F.slot_str_lower (typeIs_str _ _ _) PySem.F.entry_str_lower (PySem.F.args_str_lower_1 _) (gives_str_lower _ t (by decide +kernel)) ⟨by decide +kernel,fin⟩
 ·exact(j6 h).elim
end
end Mine
end
section
open PySem PySem.W PyProof.Rows PySem.Calls PySem.SeqAt
namespace Mine
inductive BiK where
 | len
 | list
 | dict
 | str
noncomputable def bik (g:Str):Option BiK:=cond (decide (g="len")) (some .len) (cond (decide (g="list")) (some .list) (cond (decide (g="dict")) (some .dict) (cond (decide (g="min")) none (grd (decide (g="str")) (some .str)))))
noncomputable def BiK.val:BiK->Value
 | .len=>.builtin "len"
 | .list=>.type "list"
 | .dict=>.type "dict"
 | .str=>.type "str"
inductive qad:BiK->T->Ent->Prop
 | len {xs:List T}:xs.length≤LIM->qad .len (.list xs) (.val (.int xs.length))
 | list {xs:List T}:xs.length≤LIM->qad .list (.list xs) (.list xs)
 | dict {xs:List T} {l:List (Str×T)}:xs.length≤LIM->vf xs=some l->qad .dict (.list xs) (.dict (xu l))
 | str {t:T} {x:Str}:s8 t=some x->qad .str t (.val (.str x))
theorem qgx{g:Str}{k:BiK}(h:bik g=some k):(g,k.val)∈blt:=by
 unfold bik at h
 induction q1:decide (g="len") using qg with
 | true=>replace h:=q1▸h;obtain rfl:=qd h;obtain rfl:=of_decide_eq_true q1;exact js (by decide +kernel)
 | false=>
  replace h:=q1▸h
  induction q2:decide (g="list") using qg with
  | true=>replace h:=q2▸h;obtain rfl:=qd h;obtain rfl:=of_decide_eq_true q2;exact js (by decide +kernel)
  | false=>
   replace h:=q2▸h
   induction q3:decide (g="dict") using qg with
   | true=>replace h:=q3▸h;obtain rfl:=qd h;obtain rfl:=of_decide_eq_true q3;exact js (by decide +kernel)
   | false=>
    replace h:=q3▸h
    induction q4:decide (g="min") using qg with
    | true=>replace h:=q4▸h;exact(j6 h).elim
    | false=>
     replace h:=q4▸h
     refine e02 (jh h) fun h1 h2=>?_
     obtain rfl:=qd h2
     obtain rfl:=of_decide_eq_true h1
     exact js (by decide +kernel)
theorem q3o{g:Str}{t:T}{r:Ent}(h:ze g [t]=some r):∃k,bik g=some k∧qad k t r:=by
 have h:cond (decide (g="len") || decide (g="list") || decide (g="dict")) (opt t.list? (yj g)) (cond (decide (g="min")) none (grd (decide (g="str")) (opt (s8 t) fun x=>some (.val (.str x)))))=some r:=h
 have lst:∀{b:Bool},b=true→cond b (opt t.list? (yj g)) (cond (decide (g="min")) none (grd (decide (g="str")) (opt (s8 t) fun x=>some (.val (.str x)))))=some r→∃xs,t = .list xs∧xs.length≤LIM∧cond (decide (g="len")) (some (.val (.int xs.length))) (cond (decide (g="list")) (some (.list xs)) (opt (vf xs) fun l=>some (.dict (xu l))))=some r:=fun hb h=>by
  rw[hb] at h
  refine e12 (j9 h) fun xs h1 h2=>?_
  refine e02 (jh h2) fun h3 h4=>?_
  exact i13 xs (T.list?_is h1) (of_decide_eq_true h3) h4
 unfold bik
 induction q1:decide (g="len") using qg with
 | true=>
  refine e13 (lst (by refine rwg q1 ?_;rfl) h) fun xs zz1 hl h2=>?_;subst zz1
  rw[q1] at h2
  obtain rfl:=qd h2
  exact i12 _ rfl (.len hl)
 | false=>
  induction q2:decide (g="list") using qg with
  | true=>
   refine e13 (lst (by refine rwg q2<|rwg (Bool.or_true _) ?_;rfl) h) fun xs zz1 hl h2=>?_;subst zz1
   (replace h2:=q1▸h2;replace h2:=q2▸h2)
   obtain rfl:=qd h2
   exact i12 _ rfl (.list hl)
  | false=>
   induction q3:decide (g="dict") using qg with
   | true=>
    refine e13 (lst (by exact rwg q3<|rwg (Bool.or_true _) rfl) h) fun xs zz1 hl h2=>?_;subst zz1
    (replace h2:=q1▸h2;replace h2:=q2▸h2)
    refine e12 (j9 h2) fun l h3 h4=>?_
    obtain rfl:=qd h4
    exact i12 _ rfl (.dict hl h3)
   | false=>
    (replace h:=q1▸h;replace h:=q2▸h;replace h:=q3▸h)
    induction q4:decide (g="min") using qg with
    | true=>replace h:=q4▸h;exact(j6 h).elim
    | false=>
     replace h:=q4▸h
     obtain⟨h1,h2⟩:=jh (by exact h:grd (decide (g="str")) (opt (s8 t) fun x=>some (.val (.str x)))=some r)
     refine e12 (j9 h2) fun x h3 h4=>?_
     obtain rfl:=qd h4
     exact i12 .str (by refine rwg h1 ?_;rfl) (.str h3)
section
variable {W:Cx}{f:Fns}{F:Fr'}{g:Gh}{st:St}{s:Shared}{K:Value->Shared->Prop}{Q:Ent->St->Prop}
noncomputable def rt:Prop:=∀{W:Cx} {F:Fr'} {g:Gh} {st:St} {s:Shared} {K:Value→Shared→Prop} {v:Value} {xs:List T} {l:List (Str×T)} {sh:Bool},Room W.A 1→vf xs=some l→xs.length≤LIM→Inv W.c F g st s→CRep W.c.w g v sh (.list xs)→KV W F g st (.dict (xu l)) K→WP W (call (.type "dict") [v]) K s
theorem qe7(DP:rt){kk:BiK}{v:Value}{t:T}{sh:Bool}{r:Ent}(V:qad kk t r)(R:Room W.A 1)(I:Inv W.c F g st s)(z:CRep W.c.w g v sh t)(k:KV W F g st r K):WP W (call kk.val [v]) K s:=by
 cases V with
 | len hl=>exact qbx hl I z k
 | list hl=>exact q8y hl I z k
 | dict hl hp=>exact DP R hp hl I z k
 | str hx=>exact q4f hx R I z k
theorem qja(DP:rt)(H:Snd W f){x fp a cp}(hk:jc F.sc x=some .globalImplicit)(h:qhu f F.sc x a st Q)(I:Inv W.c F g st s)(k:KR W F g Q K):WP W (qp (.Call (.Name x fp) [a] [] cp) F.E) K s:=by
 obtain⟨_,_,_,h1⟩:=H.re.C h
 obtain⟨_,_,h2,_⟩:=xq h1
 obtain⟨kk,hkk,_⟩:=q3o h2
 refine wpAny_Call_NameR (g9 I hk (qgx hkk) ?_)
 have hs:backTo cp (starEach [a] F.E)=[(false,qp a F.E)]:=by refine rwg (vh (H.okC h) _) ?_;rfl
 refine rwg hs ?_
 have main:WP W (qp a F.E) (fun v s1=>WP W (call kk.val [v]) K s1) s:=H.peekC h I fun v s1 g1 t sh st1 I1 S1 z1 q1=>by
  refine e22 (zc q1) fun r as h3 h4=>?_
  refine e12 (q3o h3) fun k2 hk2 V=>?_
  obtain rfl:=qd (hkk.symm.trans hk2)
  exact qe7 DP V H.R (I1.tell as) z1 (k.of_kv S1 h4)
 induction kk using BiK.casesOn with
 | len=>exact callWith_builtin1 main
 | list=>exact callWith_type1 main
 | dict=>exact callWith_type1 main
 | str=>exact callWith_type1 main
theorem qe3(H:Snd W f){id:String}{first:List Value}{as:List qo}{pos:Pos}{P:List T->St->Prop}(hp:as.all xc=true)(h:evL (f.evalT F.sc) as st P)(I:Inv W.c F g st s)
  (k:∀vs s1 g1 ts st1,Inv W.c F g1 st1 s1->StepE g g1->RepL W.c.w g1 vs ts->P ts st1->WP W (call (.builtin id) (first++vs)) K s1):WP W (callWith pos (.builtin id) first (backTo pos (starEach as F.E)) []) K s:=by
 refine callWith_builtin (ym hp) ?_
 induction as using qf with
 | nil=>exact evalArgs_nil3 (k [] s g [] st I (StepE.refl g) .nil h)
 | cons e rest=>
  have main:=ow (pos:=pos) (K:=fun vs s1=>WP W (call (.builtin id) (first++vs)) K s1) H h I k
  rw[y9 (qh.mp (List.all_cons▸hp)).1 rest] at main ⊢
  exact evalArgs_plain main
theorem qjp(H:Snd W f){id:String}{first:List Value}{as:List qo}{pos:Pos}{P:List T->St->Prop}(hp:as.all xc=true)(hq:as.all quiet=true)(h:evL (f.evalT F.sc) as st P)(I:Inv W.c F g st s)
  (k:∀vs s1 g1 ts st1,Inv W.c F g1 st1 s1->QStep g g1->RepL W.c.w g1 vs ts->P ts st1->WP W (call (.builtin id) (first++vs)) K s1):WP W (callWith pos (.builtin id) first (backTo pos (starEach as F.E)) []) K s:=by
 refine callWith_builtin (ym hp) ?_
 induction as using qf with
 | nil=>exact evalArgs_nil3 (k [] s g [] st I (QStep.refl g) .nil h)
 | cons e rest=>
  have main:=q8i (pos:=pos) (K:=fun vs s1=>WP W (call (.builtin id) (first++vs)) K s1) H hq h I k
  rw[y9 (qh.mp (List.all_cons▸hp)).1 rest] at main ⊢
  exact evalArgs_plain main
theorem qj8 (H:Snd W f) {fp as cp} (hp:as.all xc=true) (hk:jc F.sc "min"=some .globalImplicit) (h:qjo f F.sc "min" as st Q) (I:Inv W.c F g st s) (k:KR W F g Q K):WP W (qp (.Call (.Name "min" fp) as [] cp) F.E) K s:=by
 refine wpAny_Call_NameR (g9 I hk (v:=.builtin "min") (js (by decide +kernel)) ?_)
 refine qe3 (first:=[]) H hp h I fun vs s1 g1 ts st1 I1 S1 z1 q1=>?_
 refine e22 (zc q1) fun r as' h1 h2=>?_
 have e1:(decide (("min":Str)="len") || decide (("min":Str)="list") || decide (("min":Str)="dict"))=false:=by decide +kernel
 unfold ze at h1
 (rewrite[e1] at h1;replace h1:=(decide_eq_true (rfl:("min":Str)="min"))▸h1)
 refine e12 (j9 (by exact h1:opt (pj ts) (fun p=>opt p.1.int? fun i=>opt p.2.int? fun j=>some (Ent.val (.int (if j<i then j else i))))=some r)) fun p h3 h4=>?_
 refine e12 (j9 h4) fun i h5 h6=>?_
 refine e12 (j9 h6) fun j h7 h8=>?_
 obtain rfl:=qd h8
 (replace z1:=(yo h3)▸z1;replace z1:=(T.int?_is h5)▸z1;replace z1:=(T.int?_is h7)▸z1)
 cases z1 with
 | cons a b=>
  cases b with
  | cons b c'=>
   cases c'
   exact qbq H.R (I1.tell as') a b (k.of_kv S1 h2)
inductive qel:T->Str->Bool->Prop
 | vec {D:Str} {fs:List (Str×T)}:qel (.inst D fs) "Vector" (decide (D="Vector"))
 | lst {xs:List T}:qel (.list xs) "list" true
 | str {x:Str}:qel (.str x) "list" false
theorem qce{x:T}{C:Str}{b:Bool}(h:isA x C=some b):qel x C b:=by
 induction x using T.casesOn with
 | inst D fs=>
  refine e02 (jh h) fun h1 h2=>?_
  obtain rfl:=of_decide_eq_true h1
  obtain rfl:=qd h2
  exact .vec
 | list xs=>
  refine e02 (jh h) fun h1 h2=>?_
  obtain rfl:=of_decide_eq_true h1
  obtain rfl:=qd h2
  exact .lst
 | str y=>
  refine e02 (jh h) fun h1 h2=>?_
  obtain rfl:=of_decide_eq_true h1
  obtain rfl:=qd h2
  exact .str
 | _=>exact(j6 h).elim
theorem qg4 {D:Str} {fs:List (Str×T)} {v:Value} (I:Inv W.c F g st s) (z:Rep W.c.w g v (.inst D fs)) (k:KV W F g st (.val (.bool (decide (D="Vector")))) K):WP W (call (.builtin "isinstance") [v,.ref q3y]) K s:=by
 cases z with
 | @inst a CA dx o en _ _ a1 a2 a3 a4 a5=>
  refine e22 (kj (w:=W.c.w) I.fits a2 (jb rfl) a3 a4) fun en' n q1 zz3=>?_;obtain⟨q2,_⟩:=zz3
  have kv:=W.c.kf.vec
  unfold qi6 at kv
  simp only [Bool.and_eq_true,beq_iff_eq] at kv
  refine e02 kv fun zz0 v4=>?_;clear kv;obtain⟨⟨v1,v2⟩,v3⟩:=zz0
  by_cases hD:D="Vector"
  ·subst hD
   have:CA=q3y:=by unfold q3y;refine rwg a1 ?_;rfl
   subst this
   refine isi_call I.X (fun M=>q1.type) v1 (by intro q;exact Value.noConfusion q) ?_
   exact xm (t:=.bool (decide (("Vector":Str)="Vector"))) I (by refine rwg (decide_eq_true rfl) ?_;exact .bool _) k
  ·have:=qy.mp v4 _ (js a1)
   unfold qh7 at this
   simp only [hD,decide_false,Bool.false_or,Bool.and_eq_true,beq_iff_eq] at this
   refine e02 this fun zz0 w5=>?_;clear this;obtain⟨⟨⟨w1,w2⟩,w3⟩,w4⟩:=zz0
   refine kin_callC I.X q1 w1 w2 w3 w4 v2 v3 w5 ?_
   exact xm (t:=.bool (decide (D="Vector"))) (s':={ s with toks:=s.toks+1 }) I (by refine rwg (decide_eq_false hD) ?_;exact .bool _) k
theorem qca {x:T} {v:Value} {sh b:Bool} {C:Str} (V:qel x C b) (hC:C="list") (I:Inv W.c F g st s) (z:CRep W.c.w g v sh x) (k:KV W F g st (.val (.bool b)) K):WP W (call (.builtin "isinstance") [v,.type "list"]) K s:=by
 cases V with
 | vec=>exact absurd hC (by decide +kernel)
 | lst=>
  refine e42 (CRep.list_inv z) fun a kk o vs zz4 C=>?_;subst zz4
  refine e11 C.o fun m zz1=>?_;subst zz1
  exact IsiPair.list_list (I.fits.exact C.at_ C.lk.nf.1) rfl (xm I (.bool _) k)
 | str=>
  refine e11 z.str_inv fun t zz1=>?_;subst zz1
  exact IsiPair.str_list (xm I (.bool _) k)
theorem qj9 (H:Snd W f) {fp as cp} (hk:jc F.sc "isinstance"=some .globalImplicit) (h:qhs f F.sc as st Q) (I:Inv W.c F g st s) (k:KR W F g Q K):WP W (qp (.Call (.Name "isinstance" fp) as [] cp) F.E) K s:=by
 refine e12 (jd h) fun q h1 h2=>?_
 refine e12 (j9 h1) fun p h3 h4=>?_
 refine e12 (j9 h4) fun C h5 h6=>?_
 obtain rfl:=qd h6
 refine e11 (xt h5) fun np h7=>?_
 refine rwg (yo h3)<|rwg h7 ?_
 refine wpAny_Call_NameR (g9 I hk (v:=.builtin "isinstance") (js (by decide +kernel)) ?_)
 have hs:backTo cp (starEach [p.1,.Name C np] F.E)=[(false,qp p.1 F.E),(false,qp (.Name C np) F.E)]:=by refine rwg (vh (H.okC h2) _) ?_;rfl
 refine rwg hs ?_
 refine callWith_builtin rfl (evalArgs_plain (spliced_cons (H.peekC h2 I fun v s1 g1 x sh st1 I1 S1 z1 q1=>?_)))
 refine e02 (jj q1) fun hC q2=>?_
 refine e12 (jd q2) fun b h8 h9=>?_
 have V:=qce h8
 have kk:KV W F g1 st1 (.val (.bool b)) K:=k.of_kv S1 h9
 have lst:C="list"→WP W (spliced [(false,qp (.Name C np) F.E)]) (fun vs s2=>WP W (call (.builtin "isinstance") (v::vs)) K s2) s1:=fun e=>by
  subst e
  exact spliced_cons (g9 I1 (bd hC) (v:=.type "list") (js (by decide +kernel)) (spliced_nil (qca V rfl I1 z1 kk)))
 cases V with
 | vec=>
  have hm:(("Vector":Str),q3y)∈fAddrs++cAddrs:=List.mem_append_right _ (js (by decide +kernel))
  exact spliced_cons (vk I1 (bd hC) hm (spliced_nil (qg4 I1 z1 kk)))
 | lst=>exact lst rfl
 | str=>exact lst rfl
end
theorem bq:entryFor table "dict.update.loop"=some Builtin.«dict.update.loop»:=entryFor_of_tree (by kernel_rfl)
theorem bo (args:Args):(Code.builtin "dict.update.loop" args).quiet=true:=Code.quiet_builtin args (by decide +kernel)
theorem q93:typeLookup (.type "list") "keys"=pure none:=by refine rwg (typeLookup_type _ _)<|rwg builtinLookup_eq_fast ?_;kernel_rfl
section
variable {prog:Program}{w:World}{A:Around}{E:Value->Shared->Prop}{s:Shared}
theorem e7{a:Addr}{o:Obj}{xs:Array Value}{k:Nat}{Q:Option Value->Shared->Prop}
  (hx:s.heap.get? a=some o) (hc:o.cls = .type "list") (hdat:o.data = .seq xs k) (hd:o.dict=none) (hA:A.handled=none)
  (h:∀h' tk,(∀b o,s.heap.get? b=some o→h'.get? b=some o)→Q none { s with heap:=h',toks:=tk }):wpAny (model prog w) A (getAttr? (.ref a) "keys") Q E s:=by
 obtain⟨c,dct,dat,sl⟩:=o
 simp only at hc hdat hd
 subst hc hdat hd
 obtain⟨hp,g,d,tk,os⟩:=s
 have hT:∀tk',(⟨hp,g,d,tk',os⟩:Shared).TypeIs (.ref a) "list":=fun z_=>i12 _ hx rfl
 have f1:=sub_AttributeError
 have f3:=F.slot_list_getattribute.lookup
 have f4:=F.slot_list_getattribute.bind (.ref a)
 have f5:=am_list_getattr_none
 skip
 repeat (any_goals (first | assumption | exact hT _ | ((with_reducible show wpAny _ _ (call (Value.builtin "list.__getattribute__") _ _) _ _ _);refine call_meets F.slot_list_getattribute (hT _) am_entry_list_getattribute (F.args_list_getattribute_2 _ _) (meets_getattribute_miss_list a xs k sl "keys" _ q93 (by decide +kernel) (by decide +kernel)) (i03 hx hA (fun h' tk' e hx'=>?_))) | wp_step))
 refine e21 hx'.there fun t' u' he=>?_
 refine(?_:wpAny _ _ (getattributeRaised _ _ _ _ _ _ _) _ _ _)
 unfold getattributeRaised
 repeat (any_goals (first | assumption | wp_step))
 exact h h' tk' hx'.keeps
end
section
variable {c:CC}{g:Gh}{s:Shared}{A:Around}
theorem aa{α:Type}[DecidableEq α](k:α)(t:T):∀{es:List (α×T)},(es.map (·.1)).Nodup->((dput k t es).map (·.1)).Nodup∧∀x,x∈(dput k t es).map (·.1)->x=k∨x∈es.map (·.1):=by
 intro es
 induction es with
 | nil=>
  intro _
  exact⟨by simp[dput],fun x h=>.inl (by simpa [dput] using h)⟩
 | cons zz es ih=>
  obtain⟨a,u⟩:=zz
  intro h
  rw[qv,List.nodup_cons] at h
  refine rwg (dput.eq_2 _ _ _ _ _) ?_
  by_cases q:a=k
  ·refine rwg (if_pos q) ?_;exact⟨by(refine rwg qv ?_;rewrite[List.nodup_cons]);exact h,fun x hx=>.inr hx⟩
  ·refine rwg (if_neg q) ?_
   refine e02 (ih h.2) fun h1 h2=>?_
   refine⟨by
    (refine rwg qv ?_;rewrite[List.nodup_cons])
    refine⟨fun z=>?_,h1⟩
    rcases h2 _ z with z | z
    ·exact q z
    ·exact h.1 z,fun x hx=>?_⟩
   rw[qv,ql] at hx
   rcases hx with rfl | hx
   ·exact .inr (.head _)
   ·rcases h2 _ hx with z | z
    ·exact .inl z
    ·exact .inr (.tail _ z)
theorem qdb{α:Type}[DecidableEq α](k:α)(t:T):∀es:List (α×T),(dput k t es).length≤es.length+1:=by
 intro es
 induction es with
 | nil=>
  exact Nat.le_refl _
 | cons zz r ih=>
  obtain⟨a,u⟩:=zz
  dsimp only [dput]
  split
  ·simp
  ·have:=ih;simp only [qj];exact Nat.succ_le_succ this
theorem q0m{t:T}{rest:List T}{lr:List (Str×T)}(h:vf (t::rest)=some lr):∃k v l,t = .tup [.str k,v]∧vf rest=some l∧lr=(k,v)::l:=by
 refine e12 (j9 (by exact h:opt (qbg t) (fun p=>opt (vf rest) fun l=>some (p::l))=some lr)) fun p h1 h2=>?_
 refine e12 (j9 h2) fun l h3 h4=>?_
 refine e12 (j9 h1) fun xs h5 h6=>?_
 refine e12 (j9 h6) fun q h7 h8=>?_
 refine e12 (j9 h8) fun k h9 h10=>?_
 obtain rfl:=qd h10
 exact i33 k q.2 l (by exact rwg (T.tup?_is h5)<|rwg (yo h7)<|rwg (T.str?_is h9) rfl) h3 (qd h4).symm
set_option tactic.hygienic true in
theorem q9p{l D it:Addr}{vs:List Value}{xs:List T}{s0:Shared}(hh:A.handled=none)(hf:Fits g s0.heap)(hr:RepL c.w g vs xs)(hl0:s0.heap.IsList l vs.toArray)(hD0:s0.heap.get? D=none)(hi0:s0.heap.get? it=none)(hDi:D≠it){Rr:Result->Shared->Prop}:
  ∀(rest:List T)(i:Nat)(lr:List (Str×T))(h:Heap)(tk:Nat)(kvs:List (Str×Value))(es:List (Str×T)),xs.drop i=rest->vf rest=some lr->(∀b o,s0.heap.get? b=some o->h.get? b=some o)->h.IsListIter it l i->h.DictOf (strKind c.prog c.w) D kvs->DKV c.w g kvs es->(es.map (·.1)).Nodup->es.length+rest.length≤LIM ->
   (∀h' tk' kvs',(∀b o,s0.heap.get? b=some o->h'.get? b=some o)->h'.DictOf (strKind c.prog c.w) D kvs'->DKV c.w g kvs' (lr.foldl (fun d p=>dput p.1 p.2 d) es)->Rr (.ok (.ret .none)) { s0 with heap:=h',toks:=tk' }) ->
   codeAny (model c.prog c.w) A (.builtin "dict.update.loop" ⟨[.ref D,.ref it,rawInt (i:Int),.none],[]⟩) Rr { s0 with heap:=h,toks:=tk }:=by
 intro rest
 induction rest with
 | nil=>
  intro i lr h tk kvs es hd hp keep hit hdo hkv hnd hl k
  obtain rfl:=qd hp
  have hx:vs.toArray[i]? = none:=by
   have:=congrArg List.length hd
   rw[List.length_drop] at this
   simp only [List.length_nil] at this
   (refine rwg List.getElem?_toArray ?_;rewrite[List.getElem?_eq_none_iff];refine rwg hr.len ?_)
   exact Nat.le_of_sub_eq_zero this
  refine codeAny_builtin bq ?_
  refine(?_:wpAny _ _ (pyNext (.ref it) >>= _) _ _ _)
  have hla:h.IsList l vs.toArray:=let ⟨o,e,q⟩:=hl0;(i12 o (keep _ _ e) q)
  refine qm (wpAny_pyNext_list_end hh hit hla hx fun h' hs=>?_)
  have hDh:D<h.objs.size:=by obtain⟨_,_,_,e,_⟩:=hdo;exact Heap.lt_size e
  have hdo':h'.DictOf (strKind c.prog c.w) D kvs:=by
   refine e32 hdo fun o en ep e q=>?_;clear hdo
   exact i32 o en ep (hs _ _ hDi e) q
  refine(?_:wpAny _ _ (Builtin.Dict.addKeywords D [] >>= fun z_=>ret .none) _ _ _)
  refine qm (qx (qx ?_))
  exact k h' tk kvs (fun b o e=>hs b o (fun z=>by rw[z,hi0] at e;exact(j6 e).elim) (keep b o e)) hdo' hkv
 | cons t rest ih=>
  intro i lr h tk kvs es hd hp keep hit hdo hkv hnd hl k
  refine e33 (q0m hp) fun key tv l' zz3 hp' zz5=>?_;subst zz3;subst zz5
  have hxi:xs[i]? = some (.tup [.str key,tv]):=by
   have:=congrArg List.head? hd
   rw[List.head?_drop] at this;exact this
  refine e12 (hr.get hxi) fun v w1 w2=>?_
  have hla:h.IsList l vs.toArray:=let ⟨o,e,q⟩:=hl0;(i12 o (keep _ _ e) q)
  refine codeAny_builtin bq ?_
  refine(?_:wpAny _ _ (pyNext (.ref it) >>= _) _ _ _)
  refine qm (wpAny_pyNext_list_item hit hla (by refine rwg List.getElem?_toArray ?_;exact w1) fun h1 hi1 hs1=>?_)
  have keep1:∀b o,s0.heap.get? b=some o->h1.get? b=some o:=fun b o e=>hs1.extBut b o (fun z=>by rw[z,hi0] at e;exact(j6 e).elim) (keep b o e)
  refine e32 w2.tup_inv fun ta tob tvs zz3 zz4=>?_;subst zz3;obtain⟨t1,⟨tn,rfl⟩,t3⟩:=zz4
  cases t3 with
  | cons z1 z2=>
  cases z2 with
  | cons z2 z3=>
  cases z3
  rename_i kv vv
  refine e11 z1.str_inv fun tkk zz1=>?_;subst zz1
  have hto:=keep1 _ _ (e12 (hf _ _ _ t1) fun o' e q=>(by exact q:o'=_)▸e)
  dsimp only
  refine qm (wpAny_holding ?_)
  refine qm (wpAny_tryCatch ?_)
  refine(?_:wpAny _ _ (Builtin.Dict.pairItems (.ref ta)) _ _ _)
  skip
  refine qm (wpAny_typeOf (T:="tuple") (i12 _ hto rfl) ?_)
  refine rwg (if_pos (by decide)) ?_
  refine qm (wpAny_seqItems hto rfl (qx ?_))
  refine(?_:wpAny _ _ (holding _ (dictSet D (.str key tkk) vv)) _ _ _)
  have hdo1:h1.DictOf (strKind c.prog c.w) D kvs:=by
   refine e32 hdo fun o en ep e q=>?_;clear hdo
   exact i32 o en ep (hs1.extBut _ _ hDi e) q
  refine wpAny_holding (wpAny_dictSet_pairs (mt c.prog c.w key tkk) hdo1 (fun h2 hdo2 hs2=>?_) (by refine rwg hkv.len ?_;exact ws (by simp only [qj] at hl;exact Nat.le_of_add_right_le hl)))
  refine qx ⟨bo _,?_⟩
  have e1:((i:Int)+1)=((i+1:Nat):Int):=by exact rfl
  refine(?_:codeAny _ _ (.builtin "dict.update.loop" ⟨[.ref D,.ref it,rawInt ((i:Int)+1),.none],[]⟩) _ _)
  refine rwg e1 ?_
  have hlen:=qdb key tv es
  refine ih (i+1) l' h2 _ _ (dput key tv es) ?_ hp' (fun b o e=>hs2.extBut b o (fun z=>by rw[z,hD0] at e;exact(j6 e).elim) (keep1 b o e)) ?_ hdo2 (nh z2 hkv hnd) (aa key tv hnd).1 (by simp only [qj] at hl;exact qr (Nat.add_le_add_right hlen _) (a1 hl)) k
  ·have:=congrArg List.tail hd
   rwa [List.tail_drop,List.tail_cons] at this
  ·refine e12 hi1 fun o e q=>?_;clear hi1
   exact i12 o (hs2.extBut _ _ hDi.symm e) q
end
theorem ei:rt:=by
 intro W F g st s K v xs l sh R hp hl I z kk
 refine e45 z fun a k o vs zz4 h1 h2 zz7 h4=>?_;clear z;subst zz4;refine e11 zz7 fun m zz1=>?_;clear zz7;subst zz1
 have hol:=I.fits.exact h1 h2.nf.1
 refine callType_codes (Q₁:=fun obj s₁=>obj = .ref s.heap.objs.size∧s₁={ s with heap:=s.heap.push { cls:=.type "dict",data:=.dict #[] } }) PySem.F.kt_called_dict (PySem.F.kt_typeCall_dict_1 _) PySem.F.entry_dict_init (kt_code_dict_new _ ⟨rfl,rfl⟩) ?_
 rintro obj s₁ ⟨rfl,rfl⟩
 have hnew:(s.heap.push { cls:=.type "dict",data:=.dict #[] }).DictOf (strKind W.c.prog W.c.w) s.heap.objs.size []:=Heap.DictOf.new s.heap
 refine i03 hnew.typeIs (PySem.F.args_dict_init_2 _ _) ?_
 unfold Builtin.«dict.__init__»
 refine qm ?_
 skip
 refine qm (wpAny_notOrdered_dict hnew.typeIs ?_)
 refine(?_:wpAny _ _ (pure (s.heap.objs.size,[Value.ref a])) _ _ _)
 refine qx ?_
 refine(?_:wpAny _ _ (Builtin.Dict.updateFrom "dict.__init__" s.heap.objs.size (.ref a) [] .none) _ _ _)
 skip
 have hol1:(s.heap.push { cls:=.type "dict",data:=.dict #[] }).get? a=some (listOf vs.toArray m):=qw _ hol
 refine qm (wpAny_typeOf (T:="list") (i12 _ hol1 rfl) ?_)
 refine rwg (if_pos (by decide)) ?_
 refine qm (e7 hol1 rfl rfl rfl R.handled fun h2 tk2 keep2=>?_)
 refine(?_:wpAny _ _ (rule _ >>= _) _ _ _)
 refine qm (wpAny_rule (qm ?_))
 have hol2:=keep2 _ _ hol1
 refine wpAny_pyIter_list (i13 _ hol2 rfl ⟨_,rfl⟩) (qx ⟨bo _,?_⟩)
 have hdD:∃o,(s.heap.push { cls:=.type "dict",data:=.dict #[] }).get? s.heap.objs.size=some o:=⟨_,Heap.get?_push_size _ rfl⟩
 have hlt:s.heap.objs.size<h2.objs.size:=by refine e11 hdD fun o e=>?_;clear hdD;exact Heap.lt_size (keep2 _ _ e)
 refine q9p (c:=W.c) (A:=W.A.in1) (g:=g) (l:=a) (D:=s.heap.objs.size) (it:=h2.objs.size) (vs:=vs) (xs:=xs) (s0:=s) R.handled I.fits h4 (i13 _ hol rfl ⟨_,rfl⟩) (u7 _) (Heap.get?_none_of_le (j4 hlt)) (Nat.ne_of_lt hlt) xs 0 l (h2.push _) tk2 [] [] rfl hp
  (fun b o e=>qw _ (keep2 _ _ (qw _ e))) (i13 _ (Heap.get?_push_size _ rfl) rfl rfl) ?_ .nil .nil (by simpa using hl) fun h' tk' kvs' keep hdo hkv=>?_
 ·refine e32 hnew fun o en ep e q=>?_;clear hnew
  exact i32 o en ep (qw _ (keep2 _ _ e)) q
 ·refine⟨rfl,?_⟩
  refine e23 (sy hdo hkv) fun o' en e1 e2 e3=>?_
  have I':=I.new (k:=.mine "#" .main) (kk:=tk') (fun z_ z_=>jb rfl) keep e1
  have K:KeepF g (jp g s.heap.objs.size (.mine "#" .main) o'):=KeepF.new I.fits.new
  exact kk _ _ _ I' K.step (i34 _ o' en rfl jf e2 (e3.mono K.step.mono))
inductive StrK where
 | lower
 | split
 | join
noncomputable def qas (m:Str):Option StrK:=cond (decide (m="lower")) (some .lower) (cond (decide (m="split")) (some .split) (grd (decide (m="join")) (some .join)))
inductive qeg:StrK->Str->List T->Ent->Prop
 | lower {x y:Str}:ny x=some y->qeg .lower x [] (.val (.str y))
 | split {x:Str} {l:List T}:q45 x=some l→qeg .split x [.str " "] (.list l)
 | join {x y:Str} {xs:List T}:x="\n"→b9 xs=some y→y.length≤gw→qeg .join x [.list xs] (.val (.str y))
theorem q27{m x:Str}{ts:List T}{r:Ent}(h:uj m x ts=some r):∃k,qas m=some k∧qeg k x ts r:=by
 have e1:("split":Str)≠"lower":=by decide +kernel
 have e2:("join":Str)≠"lower":=by decide +kernel
 have e3:("join":Str)≠"split":=by decide +kernel
 induction ts using qf with
 | nil=>
  obtain⟨h1,h2⟩:=jh (by exact h:grd (decide (m="lower")) (opt (ny x) fun y=>some (Ent.val (.str y)))=some r)
  obtain rfl:=of_decide_eq_true h1
  refine e12 (j9 h2) fun y h3 h4=>?_
  obtain rfl:=qd h4
  exact i12 .lower (by unfold qas;refine rwg (decide_eq_true rfl) ?_;rfl) (.lower h3)
 | cons t ts=>
  refine e12 (j9 (by exact h:opt (fc (t::ts)) (sm1 m x)=some r)) fun t' h1 h2=>?_
  refine rwg (vr h1) ?_
  induction t' using T.casesOn with
  | str y=>
   refine e02 (jh h2) fun h3 h4=>?_
   obtain⟨h5,h6⟩:=qh.mp h3
   obtain rfl:=of_decide_eq_true h5
   obtain rfl:=of_decide_eq_true h6
   refine e12 (j9 h4) fun l h7 h8=>?_
   obtain rfl:=qd h8
   exact i12 .split (by unfold qas;(rewrite[decide_eq_false e1];refine rwg (decide_eq_true rfl) ?_);rfl) (.split h7)
  | list xs=>
   refine e02 (jh h2) fun h3 h4=>?_
   obtain⟨h5,h6⟩:=qh.mp h3
   obtain rfl:=of_decide_eq_true h5
   refine e12 (j9 h4) fun y h7 h8=>?_
   refine e02 (jh h8) fun h9 h10=>?_
   obtain rfl:=qd h10
   exact i12 .join (by unfold qas;(rewrite[decide_eq_false e2];refine rwg (decide_eq_false e3)<|rwg (decide_eq_true rfl) ?_);rfl) (.join (of_decide_eq_true h6) h7 (of_decide_eq_true h9))
  | _=>exact(j6 h2).elim
inductive qh3(es:List (Str×T)):List T->T->Prop
 | one (k:Str):qh3 es [.str k] ((dget k es).getD .none)
 | two (k:Str) (d:T):qh3 es [.str k,d] ((dget k es).getD d)
theorem q32 {m:Str} {es:List (Str×T)} {ts:List T} {t:T} (h:af m es ts=some t):m="get"∧qh3 es ts t:=by
 refine e02 (jh h) fun h1 h2=>?_
 refine⟨of_decide_eq_true h1,?_⟩
 induction q:fc ts using qe with
 | some a=>
  replace h2:=q▸h2
  refine e12 (j9 (by exact h2:opt a.str? (fun k=>some ((dget k es).getD .none))=some t)) fun k h3 h4=>?_
  obtain rfl:=qd h4
  refine rwg (vr q)<|rwg (T.str?_is h3) ?_
  exact .one k
 | none=>
  replace h2:=q▸h2
  refine e12 (j9 (by exact h2:opt (pj ts) (fun p=>opt p.1.str? fun k=>some ((dget k es).getD p.2))=some t)) fun p h3 h4=>?_
  refine e12 (j9 h4) fun k h5 h6=>?_
  obtain rfl:=qd h6
  refine rwg (yo h3)<|rwg (T.str?_is h5) ?_
  exact .two k _
section
variable {W:Cx}{f:Fns}{F:Fr'}{g:Gh}{st:St}{s:Shared}{K:Value->Shared->Prop}{Q:Ent->St->Prop}
theorem qdx(H:Snd W f){m:Str}{as:List qo}{cp:Pos}{x:Str}{ov:Value}(hp:as.all xc=true)(I:Inv W.c F g st s)(z:Rep W.c.w g ov (.str x))(h:qhq f F.sc m x as st Q)(k:KR W F g Q K){pl}:WP W (getMethod ov m pl) (fun fx s2=>WP W (callWith cp fx.1 fx.2 (backTo cp (starEach as F.E)) []) K s2) s:=by
 obtain⟨_,_,h1⟩:=km H.re h
 obtain⟨_,_,h2,_⟩:=xq h1
 obtain⟨kk,hkk,_⟩:=q27 h2
 refine e11 z.str_inv fun t zz1=>?_;subst zz1
 have go:∀{id:String} (slot:PySem.Slot "str" m id) (hty:typeOf (.builtin id)=pure (.type "method_descriptor")),(∀{ts vs r s2 g2 st2},qeg kk x ts r→Inv W.c F g2 st2 s2→RepL W.c.w g2 vs ts→KV W F g2 st2 r K→WP W (call (.builtin id) ([.str x t]++vs)) K s2) →
   WP W (getMethod (.str x t) m pl) (fun fx s2=>WP W (callWith cp fx.1 fx.2 (backTo cp (starEach as F.E)) []) K s2) s:=fun slot hty kc=>by
  refine getMethod_builtin (typeIs_str _ _ _) PySem.F.plainAttrs_str slot hty (fun a q=>nomatch q) ?_
  refine qe3 H hp h I fun vs s1 g1 ts st1 I1 S1 z1 q1=>?_
  refine e22 (zc q1) fun r as' h3 h4=>?_
  refine e12 (q27 h3) fun k2 hk2 V=>?_
  obtain rfl:=qd (hkk.symm.trans hk2)
  exact kc V (I1.tell as') z1 (k.of_kv S1 h4)
 have nm:∀{a:Str},decide (m=a)=true->m=a:=of_decide_eq_true
 unfold qas at hkk
 induction q1:decide (m="lower") using qg with
 | true=>
  replace hkk:=q1▸hkk
  obtain rfl:=qd hkk
  obtain rfl:=nm q1
  refine go PySem.F.slot_str_lower PySem.F.type_str_lower fun V I2 z2 k2=>?_
  cases V with
  | lower hy=>cases z2;exact q4x hy I2 k2
 | false=>
  replace hkk:=q1▸hkk
  induction q2:decide (m="split") using qg with
  | true=>
   replace hkk:=q2▸hkk
   obtain rfl:=qd hkk
   obtain rfl:=nm q2
   refine go PySem.F.slot_str_split PySem.F.type_str_split fun V I2 z2 k2=>?_
   cases V with
   | split hy=>
    cases z2 with
    | cons a b=>cases b;refine e11 a.str_inv fun u zz1=>?_;subst zz1;exact q44 hy I2 k2
  | false=>
   replace hkk:=q2▸hkk
   obtain⟨q3,q4⟩:=jh (by exact hkk:grd (decide (m="join")) (some StrK.join)=some kk)
   obtain rfl:=qd q4
   obtain rfl:=nm q3
   refine go PySem.F.slot_str_join PySem.F.type_str_join fun V I2 z2 k2=>?_
   cases V with
   | join hx hy hl=>
    subst hx
    cases z2 with
    | cons a b=>cases b;exact q94 hy hl I2 a k2
theorem qcp{a:Addr}{o:Obj}{en:List DictEntry}{es:List (Str×T)}{vs:List Value}{ts:List T}{t:T}(V:qh3 es ts t)(I:Inv W.c F g st s)(hs:(a==sysModules)=false)(e:s.heap.get? a=some o)(ho:kq o en)(hr:RepD W.c.w g en es)(hv:RepL W.c.w g vs ts)(k:KV W F g st (.val t) K):
  WP W (call (.builtin "dict.get") ([.ref a]++vs)) K s:=by
 have D:=um W.c.prog e ho hr
 have fin:∀{y:Str}{d:Value}{dt:T},Rep W.c.w g d dt->Rep W.c.w g ((findBy (strKind W.c.prog W.c.w).is en.toArray y).getD d) ((dget y es).getD dt):=fun {y d dt} hd=>by
  obtain⟨m1,m2⟩:=(hr.map W.c.prog).2 y
  induction q:dget y es using qe with
  | none=>refine rwg (m1 q) ?_;exact hd
  | some t=>
   refine e12 (m2 t q) fun v w1 w2=>?_
   refine rwg w1 ?_;exact w2
 cases V with
 | one y=>
  cases hv with
  | cons hk h0=>
   cases h0
   refine e11 hk.str_inv fun t zz1=>?_;subst zz1
   exact call_meetsIn PySem.F.slot_dict_get D.typeIs PySem.F.entry_dict_get (PySem.F.args_dict_get_2 _ _) (meets_dict_get (strKind W.c.prog W.c.w) a (mt _ _ y t) hs) (i12 _ D (xm (s':={ s with toks:=s.toks+1 }) I (fin .none) k))
 | two y d=>
  cases hv with
  | cons hk h0=>
   cases h0 with
   | cons hd h1=>
    cases h1
    refine e11 hk.str_inv fun t zz1=>?_;subst zz1
    exact call_meetsIn PySem.F.slot_dict_get D.typeIs PySem.F.entry_dict_get (PySem.F.args_dict_get_3 _ _ _) (meets_dict_get_default (strKind W.c.prog W.c.w) a (mt _ _ y t) hs _) (i12 _ D (xm (s':={ s with toks:=s.toks+1 }) I (fin hd) k))
theorem qe0(H:Snd W f){m:Str}{as:List qo}{cp:Pos}{sh:Bool}{es:List (Str×T)}{ov:Value}(hp:as.all xc=true)(I:Inv W.c F g st s)(z:CRep W.c.w g ov sh (.dict es))(h:qdn f F.sc m sh es as st Q)(k:KR W F g Q K){pl}:
  WP W (getMethod ov m pl) (fun fx s2=>WP W (callWith cp fx.1 fx.2 (backTo cp (starEach as F.E)) []) K s2) s:=by
 refine e02 (jj h) fun hq h0=>?_
 obtain⟨_,_,h1⟩:=km H.re h0
 obtain⟨_,_,h2,_⟩:=xq h1
 obtain⟨rfl,_⟩:=q32 h2
 refine e42 (CRep.dict_inv z) fun a kk o en zz4 C=>?_;subst zz4
 have D:=um W.c.prog (I.fits.exact C.at_ C.lk.nf.1) C.o C.r
 refine getMethod_builtin D.typeIs PySem.F.plainAttrs_dict PySem.F.slot_dict_get PySem.F.type_dict_get D.noDict ?_
 have fin:∀{vs s2 g2 ts st2},Inv W.c F g2 st2 s2→StepE g g2→(sh=false∨QStep g g2)→RepL W.c.w g2 vs ts→ask Ans.t? (af "get" es ts) st2 (fun t=>Q (.val t))→WP W (call (.builtin "dict.get") ([.ref a]++vs)) K s2:=fun I2 S2 hs z2 q2=>by
  refine e22 (zc q2) fun t as' h3 h4=>?_
  obtain⟨_,V⟩:=q32 h3
  refine e42 (CRep.dict_inv (z.step S2 hs)) fun a' kk' o' en' e C'=>?_
  replace e:=Value.ref.inj e;cases e
  exact qcp V (I2.tell as') (I2.toHp.notSys C'.at_ C'.lk.nf.2) (I2.fits.exact C'.at_ C'.lk.nf.1) C'.o C'.r z2 (k.of_kv S2 h4)
 induction sh using qg with
 | false=>exact qe3 H hp h0 I fun vs s2 g2 ts st2 I2 S2 z2 q2=>fin I2 S2 (.inl rfl) z2 q2
 | true=>exact qjp H hp hq h0 I fun vs s2 g2 ts st2 I2 S2 z2 q2=>fin I2 S2.toStepE (.inr S2) z2 q2
theorem RepL.dropLast{w:World}{vs:List Value}{ts:List T}(h:RepL w g vs ts):RepL w g vs.dropLast ts.dropLast:=
 RepL.ind (m:=fun vs ts=>RepL w g vs.dropLast ts.dropLast) .nil (fun h r ih=>RepL.ind (m:=fun vs ts=>RepL w g vs.dropLast ts.dropLast->RepL w g (_::vs).dropLast (_::ts).dropLast) (fun z_=>.nil) (fun z_ z_ z_ ih=>.cons h ih) r ih) h
theorem qdz{m:Str}{as:List qo}{cp:Pos}{i:Nat}{xs:List T}{ov:Value}(I:Inv W.c F g st s)(z:Rep W.c.w g ov (.sh i))(hi:st.sg[i]? = some (.list xs))(h:qhr m i xs as st Q)(k:KR W F g Q K){pl}:
  WP W (getMethod ov m pl) (fun fx s2=>WP W (callWith cp fx.1 fx.2 (backTo cp (starEach as F.E)) []) K s2) s:=by
 refine e03 (jj h) fun h0 h1 h2=>?_
 obtain⟨h3,h4⟩:=qh.mp h0
 obtain rfl:=of_decide_eq_true h4
 obtain rfl:as=[]:=by
  induction as using qf with
  | nil=>rfl
  | cons _ _=>exact(jt h3).elim
 refine e22 (zc h2) fun t as' ht h5=>?_
 refine e34 (I.toHp.shList z hi) fun a o vs zz3 q1 zz5 q3=>?_;subst zz3;obtain⟨n,rfl⟩:=zz5
 have ho:=I.fits.exact q1 (jb rfl)
 refine Copied.getMethod_pop_at ho rfl rfl ?_
 refine callWith_builtin rfl (evalArgs_nil3 ?_)
 have hx:xs[xs.length-1]? = some t:=by refine rwl List.getLast?_eq_getElem? ?_;exact ht
 refine e12 (q3.get hx) fun y hy ry=>?_
 refine Copied.pop_at (y:=y) ho (by refine rwg List.size_toArray<|rwg q3.len ?_;exact List.getElem?_toArray.trans hy) (fun h' hs ho'=>?_) (by refine rwg List.size_toArray<|rwg q3.len ?_;exact ws (of_decide_eq_true h1))
 have mm:=u3 (o':={ cls:=.type "list",data:=.seq vs.toArray.pop (n+1) }) q1
 obtain⟨I3,K3⟩:=(I.tell as').shrAt (k:=s.toks) (so':=.list xs.dropLast) q1 hs ho' (i33 a _ vs.dropLast jf ⟨n+1,by rfl⟩ (q3.mono mm).dropLast)
 exact k _ _ _ (.val t) _ I3 K3.step (ry.mono mm) h5
end
section
variable {W:Cx}{f:Fns}{F:Fr'}{g:Gh}{st:St}{s:Shared}{K:Value->Shared->Prop}{Q:Ent->St->Prop}
theorem qa6(H:Snd W f){es:List qo}{P:List T->St->Prop}{pos:Pos}(hp:es.all xc=true)(h:evL (f.evalT F.sc) es st P)(I:Inv W.c F g st s){q:Addr}(hq:∀g1 s1 st1,Inv W.c F g1 st1 s1->StepE g g1->FnAt q s1.heap){first:List Value}
  (k:∀vs g1 s1 ts st1,Inv W.c F g1 st1 s1->StepE g g1->RepL W.c.w g1 vs ts->P ts st1->WP W (call (.ref q) (first++vs)) K s1):WP W (callWith pos (.ref q) first (backTo pos (starEach es F.E)) []) K s:=by
 refine callWith_of (P:=FnAt q) (by refine rwg (ym hp) ?_;rfl) keeps_F ?_
 induction es using qf with
 | nil=>exact evalArgs_nil3 ⟨hq g s st I (StepE.refl g),k [] g s [] st I (StepE.refl g) .nil h⟩
 | cons e rest=>
  have main:=ow (pos:=pos) (K:=fun vs s1=>FnAt q s1.heap∧WP W (call (.ref q) (first++vs)) K s1) H h I fun vs s1 g1 ts st1 I1 S1 z1 q1=>⟨hq g1 s1 st1 I1 S1,k vs g1 s1 ts st1 I1 S1 z1 q1⟩
  rw[y9 (qh.mp (List.all_cons▸hp)).1 rest] at main ⊢
  exact evalArgs_plain main
theorem T.clo?_is{t:T}{cap:List (Str×T)}(h:t.clo? = some cap):t = .clo cap:=by rcases t with ⟨⟩ <;> first | (cases h;rfl) | exact(j6 h).elim
set_option tactic.hygienic true in
theorem qe1 (H:Snd W f) {m:Str} {as:List qo} {cp:Pos} {C:Str} {fs:List (Str×T)} {cap:List (Str×T)} {P:List T→St→Prop} {ov:Value} (hp:as.all xc=true) (I:Inv W.c F g st s) (z:Rep W.c.w g ov (.inst C fs)) (hm:m≠"shared") (hf:fget m fs=some (.clo cap)) (h:evL (f.evalT F.sc) as st P)
  (k:∀vs fv s2 g2 ts st2,Inv W.c F g2 st2 s2->StepE g g2->Rep W.c.w g2 fv (.clo cap)->RepL W.c.w g2 vs ts->P ts st2->WP W (call fv vs) K s2) {pl}:WP W (getMethod ov m pl) (fun fx s2=>WP W (callWith cp fx.1 fx.2 (backTo cp (starEach as F.E)) []) K s2) s:=by
 cases z with
 | @inst x CA dx o en _ _ a1 a2 a3 a4 a5=>
  refine e22 (kj (w:=W.c.w) I.fits a2 (jb rfl) a3 a4) fun en' n q1 zz3=>?_;obtain⟨q2,_⟩:=zz3
  obtain⟨u,w1,w2,w3⟩:=(a5.get q2 m).1 hm _ hf
  have L:=wg W.c.kf a1
  refine method_usual (r:=none) I.X q1 L.get L.noget (L.fld m w3).1 rfl ?_
  refine vm (c:=W.c) I.toHp.here a1 q1 w3 w1 w2.handed ?_
  have I':Inv W.c F g st { s with toks:=s.toks+1 }:=I.re
  have w0:=w2
  cases w2 with
  | clo b1 b2 b3 b4 b5 b6 b7=>
   rename_i q cd oq oc fd
   refine qa6 H hp h I' (fun g2 s2 st2 I2 S2=>?_) fun vs g2 s2 ts st2 I2 S2 z2 q2=>?_
   ·have:=I2.fits.exact (S2.froz _ _ b1) (jb rfl)
    obtain⟨c1,c2,c3,c4⟩:=oq
    dsimp only at b2
    subst b2
    exact i41 c1 c2 fd c4 this
   ·exact k vs _ s2 g2 ts st2 I2 S2 (w0.mono S2.mono) z2 q2
inductive du(sg:List SO):Ent->Recv->Prop
 | str {x:Str}:du sg (.val (.str x)) (.str x)
 | inst {C:Str} {fs:List (Str×T)}:du sg (.val (.inst C fs)) (.inst C fs)
 | shi {i:Nat} {q:In}:sg[i]? = some (.inst q.C q.fs)->du sg (.val (.sh i)) (.shi i q)
 | shl {i:Nat} {xs:List T}:sg[i]? = some (.list xs)->du sg (.val (.sh i)) (.shl i xs)
 | dict {r:Ent} {es:List (Str×T)}:q1j sg r=some (.dict es)->du sg r (.dict es)
 | no {r:Ent}:du sg r .no
theorem q8f(sg:List SO)(r:Ent):du sg r (qkc sg r):=by
 induction r using Ent.casesOn with
 | val t=>
  induction t using T.casesOn with
  | str x=>exact .str
  | inst C fs=>exact .inst
  | dict es=>exact .dict rfl
  | sh i=>
   refine(?_:du sg (.val (.sh i)) (qhg i sg[i]?))
   induction q:sg[i]? using qe with
   | none=>exact .no
   | some o=>
    induction o using SO.casesOn with
    | list xs=>exact .shl q
    | inst C fs=>exact .shi (q:=⟨C,fs⟩) q
    | tab=>exact .no
  | _=>exact .no
 | dict es=>exact .dict rfl
 | _=>exact .no
theorem qa3(H:Snd W f){v:qo}{rv:Ent}{m:Str}{ap cp:Pos}{as:List qo}{ov:Value}{rc:Recv}(D:Dot as v ap cp)(I:Inv W.c F g st s)(z:PeekR W.c.w g ov (zj v rv) rv)(V:du st.sg rv rc)(h:q67 f F.sc v rv m as st Q rc)(k:KR W F g Q K){pl}:
  WP W (getMethod ov m pl) (fun fx s2=>WP W (callWith cp fx.1 fx.2 (backTo cp (starEach as F.E)) []) K s2) s:=by
 cases V with
 | str=>exact qdx H D.plain I z.val h k
 | @inst C fs=>
  have h:q68 f F.sc m C fs as st Q:=h
  unfold q68 at h
  induction q:fget m fs using qe with
  | some t=>
   replace h:=q▸h
   obtain⟨_,_,h1⟩:=km H.re h
   refine e12 (jo (by exact h1:jk t.clo? _)) fun cap h2 h3=>?_
   obtain⟨hm,_⟩:=jj h3
   obtain rfl:=T.clo?_is h2
   refine qe1 H D.plain I z.val (of_decide_eq_false (by simpa using hm)) q h fun vs fv s2 g2 ts st2 I2 S2 w2 z2 q2=>?_
   obtain⟨_,q3⟩:=jj (by exact q2:gd (!decide (m="shared")) (yh (f.C.callClo cap ts st2.sg) st2 Q))
   refine e32 (vn q3) fun r sg as' h4 h5=>?_
   exact da I2 (H.C.callClo h4 I2.toHp w2 z2) as' (k.of_kv S2 h5)
  | none=>
   replace h:=q▸h
   obtain⟨_,_,h1⟩:=km H.re h
   refine e11 (jo (by exact h1:jk (te C m) _)) fun gi zz1=>?_;obtain⟨hm,_⟩:=zz1
   refine qa4 H D I z.val q hm h fun vs fa s2 g2 ts st2 I2 S2 m1 z2 q2=>?_
   refine e12 (jd (by exact q2:jk (te C m) (fun g=>yh (f.C.callF g (.inst C fs::ts) st2.sg) st2 Q))) fun gi' hm' q3=>?_
   obtain rfl:=qd (hm.symm.trans hm')
   refine e32 (vn q3) fun r sg as' h4 h5=>?_
   exact da I2 (H.C.callF h4 I2.toHp m1 z2) as' (k.of_kv S2 h5)
 | shi hi=>
  refine e02 (jj h) fun hf h1=>?_
  refine e12 (jd h1) fun gi hm h2=>?_
  refine qdy H D I z.val hi (vw hf) hm h2 fun vs fa s2 g2 ts st2 I2 S2 m1 z2 q2=>?_
  refine e32 (vn q2) fun r sg as' h4 h5=>?_
  exact da I2 (H.C.callF h4 I2.toHp m1 z2) as' (k.of_kv S2 h5)
 | shl hi=>exact qdz I z.val hi h k
 | dict hc=>exact qe0 H D.plain I (ua I.toHp z hc) h k
 | no=>exact h.elim
theorem qgk(H:Snd W f){x as ks cp}(h:gd (ks.isEmpty&&as.all xc) (q5v f F.sc x as cp st Q))(I:Inv W.c F g st s)(k:KR W F g Q K):WP W (qp (.Call x as ks cp) F.E) K s:=by
 refine e02 (jj h) fun h0 h1=>?_
 obtain⟨hk,hp⟩:=qh.mp h0
 obtain rfl:ks=[]:=by
  induction ks using qf with
  | nil=>rfl
  | cons _ _=>exact(jt hk).elim
 induction x using Expr.casesOn with
 | Name y yp=>
  refine e02 (jj (by exact h1:q6c f F.sc y as st Q)) fun h2 h3=>?_
  have hg:=bd h2
  induction hf:isFn y using qg with
  | true=>exact q9k H hp hg hf (xi h3 hf) I k
  | false=>
   have h4:=jy h3 hf
   induction hc:q7f y using qg with
   | true=>exact q5p H hp hg hf hc (xi h4 hc) I k
   | false=>
    have h5:=jy h4 hc
    induction hi:decide (y="isinstance") using qg with
    | true=>obtain rfl:=of_decide_eq_true hi;exact qj9 H hg (xi h5 hi) I k
    | false=>
     have h6:=jy h5 hi
     induction ho:fc as using qe with
     | some a=>
      rw[ho] at h6
      refine rwg (vr ho) ?_
      exact qja ei H hg h6 I k
     | none=>
      rw[ho] at h6
      obtain⟨hm,h7⟩:=jj (by exact h6:gd (decide (y="min")) (qjo f F.sc y as st Q))
      obtain rfl:=of_decide_eq_true hm
      exact qj8 H hp hg h7 I k
 | Attribute v m ap=>
  refine e02 (jj (by exact h1:q69 f F.sc v m ap cp as st Q)) fun h2 h3=>?_
  obtain⟨h4,hlen⟩:=qh.mp h2
  obtain⟨hb,hline⟩:=qh.mp h4
  have D:Dot as v ap cp:=⟨hb,hline,of_decide_eq_true hlen,hp⟩
  refine ij hb hline (of_decide_eq_true hlen) hp (H.peek h3 I fun ov s1 g1 rv st1 I1 S1 z1 q1 pl=>?_)
  exact qa3 H D I1 z1 (q8f st1.sg rv) q1 fun v s2 g2 r st2 I2 S2=>k v s2 g2 r st2 I2 (S1.trans S2)
 | _=>exact h1.elim
end
structure RngV(sc:Scope)(e:qo)(q:Rng)(fp cp:Pos):Prop where
 e:e = .Call (.Name q.g fp) [q.a] [] cp
 k:jc sc q.g=some .globalImplicit
 g:q.g="range"∨q.g="reversed"
theorem qf6{sc:Scope}{e:qo}{q:Rng}(h:qf7 sc e=some q):∃fp cp,RngV sc e q fp cp:=by
 refine e12 (j9 h) fun c h1 h2=>?_
 refine e12 (j9 h2) fun g h3 h4=>?_
 refine e12 (j9 h4) fun a h5 h6=>?_
 refine e02 (jh h6) fun h7 h8=>?_
 obtain⟨h9,h10⟩:=qh.mp h7
 obtain rfl:=qd h8
 refine e11 (xt h3) fun fp hf=>?_
 have h5:=vr h5
 refine i21 fp c.p ⟨by exact rwg (dk h1)<|rwg hf<|rwg h5 rfl,bd h9,?_⟩
 rcases Bool.or_eq_true_iff.mp h10 with z | z
 ·exact .inl (of_decide_eq_true z)
 ·exact .inr (of_decide_eq_true z)
section
variable {W:Cx}{f:Fns}{F:Fr'}{g:Gh}{st:St}{s:Shared}{K:Value->Shared->Prop}
theorem q6w{e:qo}{E:Env}{pos:Pos}(h:okE e=true):backTo pos (starEach [e] E)=[(false,qp e E)]:=by refine rwg (vh h _) ?_;rfl
theorem qc6 {k:Int} {v:Value} (hb:(decide (0≤k)&&decide (k≤LIM))=true) (z:Rep W.c.w g v (.int k)) (I:Inv W.c F g st s) (kk:∀v s' g',Inv W.c F g' st s'→StepE g g'→wl W.c.w g' v (rng k)→K v s'):WP W (call (.type "range") [v]) K s:=by
 obtain⟨h1,h2⟩:=qh.mp hb
 refine e11 z.int_inv fun t zz1=>?_;subst zz1
 refine call_range_1 ?_
 have I2:=I.push .still (fun z_ z_=>jb rfl) (o:={ cls:=.type "range",data:=.fields #[.int 0 s.toks,.int k t,.int 1 (s.toks+1)] }) rfl (s':={ s with heap:=s.heap.push { cls:=.type "range",data:=.fields #[.int 0 s.toks,.int k t,.int 1 (s.toks+1)] },toks:=s.toks+1+1 })
 exact kk _ _ _ I2 (KeepF.new I.fits.new).step (.range jf (of_decide_eq_true h1) (of_decide_eq_true h2))
theorem qj0 {xs:List T} {v:Value} (z:Rep W.c.w g v (.list xs)) (I:Inv W.c F g st s) (kk:∀v s' g',Inv W.c F g' st s'→StepE g g'→wl W.c.w g' v xs.reverse→K v s'):WP W (call (.type "reversed") [v]) K s:=by
 refine e32 z.list_inv fun a1 o1 vs zz3 L=>?_;subst zz3
 refine PySem.call_reversed_list (L.o.at (I.fits.exact L.at_ (jb rfl))) ?_
 have I2:=I.push (.mine "#" .main) (fun z_ z_=>jb rfl) (o:=revObj a1 ((vs.length:Int)-1)) rfl (s':={ s with heap:=s.heap.push (revObj a1 ((vs.length:Int)-1)) })
 have K:KeepF g (jp g s.heap.objs.size (.mine "#" .main) (revObj a1 ((vs.length:Int)-1))):=KeepF.new I.fits.new
 exact kk _ _ _ I2 K.step (.rev jf (K.step.froz _ _ L.at_) L.o (L.r.mono K.step.mono))
theorem q96{e:qo}{v:Value}{r:Ent}{items:List T}(he:yd e=true)(h:q0u r=some items)(z:PeekR W.c.w g v (zj e r) r):wl W.c.w g v items∨(yd e=true∧items=[]∧CRep W.c.w g v true (.dict [])):=by
 induction r using Ent.casesOn with
 | val t=>exact .inl (.rep z.val h)
 | dict es=>
  refine e02 (jh (by exact h:grd es.isEmpty (some [])=some items)) fun h1 h2=>?_
  obtain rfl:=qd h2
  induction es using qf with
  | cons _ _=>exact(jt h1).elim
  | nil=>
   refine e13 z fun kd k1 k2 zz3=>?_;clear z;refine e21 zz3 fun a o zz2=>?_;clear zz3;refine e14 zz2 fun en zz1 q1 q2 q3=>?_;clear zz2;subst zz1
   exact .inr (i03 he rfl (i45 a _ o en rfl q1 (k2 .main nofun).up q2 q3))
 | _=>exact(j6 h).elim
theorem q56(H:Snd W f){e:qo}{Q:List T->St->Prop}(h:r7 f F.sc e st Q)(I:Inv W.c F g st s)(k:KI W F e g Q K):WP W (qp e F.E) K s:=by
 unfold r7 at h
 induction q:qf7 F.sc e using qe with
 | some x=>
  rw[q] at h
  have h:qc7 f F.sc x st Q:=h
  refine e21 (qf6 q) fun fp cp V=>?_
  obtain⟨rfl,hk,hg⟩:=V
  have ok:=H.okT h
  have kk:∀{g1 st1 items},StepE g g1->Q items st1->∀v s' g',Inv W.c F g' st1 s'->StepE g1 g'->wl W.c.w g' v items->K v s':=fun S1 q v s' g' I' S' z=>k v s' g' _ _ I' (S1.trans S') (.inl z) q
  rcases hg with hg | hg
  ·refine wpAny_Call_NameR (g9 I hk (v:=.type "range") (js (by refine rwg hg ?_;decide +kernel)) ?_)
   refine rwg (q6w ok) ?_
   refine callWith_type1 (H.evalT h I fun v s1 g1 t st1 I1 S1 z1 q1=>?_)
   refine e12 (jd (xi q1 (decide_eq_true hg))) fun i h1 h2=>?_
   obtain rfl:=T.int?_is h1
   exact qc6 h2.1 z1 I1 (kk S1 h2.2)
  ·refine wpAny_Call_NameR (g9 I hk (v:=.type "reversed") (js (by refine rwg hg ?_;decide +kernel)) ?_)
   refine rwg (q6w ok) ?_
   refine callWith_type1 (H.evalT h I fun v s1 g1 t st1 I1 S1 z1 q1=>?_)
   refine e12 (jd (jy q1 (decide_eq_false (by refine rwg hg ?_;decide)))) fun xs h1 h2=>?_
   obtain rfl:=T.list?_is h1
   exact qj0 z1 I1 (kk S1 h2)
 | none=>
  replace h:=q▸h
  have h:cnd (yd e) (f.peek F.sc e st fun r st1=>ask Ans.l? (q0u r) st1 Q) (f.evalT F.sc e st fun t st1=>ask Ans.l? (fj t) st1 Q):=h
  induction q2:yd e using qg with
  | true=>
   refine H.peek (xi h q2) I fun v s1 g1 r st1 I1 S1 z1 q1=>?_
   refine e22 (zc q1) fun items as h1 h2=>?_
   exact k v s1 g1 items _ (I1.tell as) S1 (q96 q2 h1 z1) h2
  | false=>
   refine H.evalT (jy h q2) I fun v s1 g1 t st1 I1 S1 z1 q1=>?_
   refine e22 (zc q1) fun items as h1 h2=>?_
   exact k v s1 g1 items _ (I1.tell as) S1 (.inl (.rep z1 h1)) h2
end
section
variable {W:Cx}{f:Fns}{F:Fr'}{g:Gh}{st:St}{s:Shared}{K:Value->Shared->Prop}
theorem q8x{a:Int}(h:0≤a∧a<100000):a.natAbs.log2<1920:=by
 by_cases z:a.natAbs=0
 ·refine rwg z ?_;decide
 ·rw[Nat.log2_lt z]
  have h1:a.natAbs<2 ^ 17:=by lia
  exact qq h1 (Nat.pow_le_pow_right (by decide) (by decide))
inductive q6m:T->Str->Prop
 | str (x:Str):q6m (.str x) x
 | int {i:Int}:0≤i∧i<100000->q6m (.int i) (Str.ofString (toString i))
theorem q4c{t:T}{x:Str}(h:shown t=some x):q6m t x:=by
 induction t using T.casesOn with
 | str y=>obtain rfl:=qd h;exact .str _
 | int i=>refine e02 (q2a h) fun h1 zz1=>?_;subst zz1;exact .int h1
 | _=>exact(j6 h).elim
theorem qc5(H:Snd W f):∀{ps:List qo}{st:St}{acc:Str}{Q:Str->St->Prop}{g:Gh}{s:Shared}{K:Str->Shared->Prop},zt (f.evalT F.sc) ps st Q->(∀y st',Q y st'->(acc++y).length≤gw)->Inv W.c F g st s ->
  (∀y s' g' st',Inv W.c F g' st' s'->StepE g g'->Q y st'->K (acc++y) s')->Joins (model W.c.prog W.c.w) W.A no (evalEach ps F.E) acc K s:=by
 intro ps
 induction ps with
 | nil=>
  intro st acc Q g s K h hb I k
  have:=k "" s g st I (StepE.refl g) h
  rw[show acc++("":Str)=acc from Str.append_empty acc] at this
  exact this
 | cons p ps ih=>
  intro st acc Q g s K h hb I k
  have h:mz (f.evalT F.sc) p st (fun x st1=>zt (f.evalT F.sc) ps st1 fun y st2=>Q (x++y) st2):=h
  have len:∀{x:Str}{st1:St},(zt (f.evalT F.sc) ps st1 fun y st2=>Q (x++y) st2)->(acc++x).length≤gw∧x.length≤gw:=fun {x st1} q=>by
   refine e21 (bp H.re q) fun y st2 q2=>?_
   have:=hb _ _ q2
   rw[strLen_append,strLen_append] at this
   refine rwg (strLen_append _ _) ?_
   exact⟨qr (Nat.add_le_add_left (Nat.le_add_right _ _) _) this,qr (qr (Nat.le_add_right _ _) (Nat.le_add_left _ _)) this⟩
  have fin:∀{x:Str}{t:Tok}{s1:Shared}{g1:Gh}{st1:St},Inv W.c F g1 st1 s1->StepE g g1->(zt (f.evalT F.sc) ps st1 fun y st2=>Q (x++y) st2) ->
    ∃y t',Value.str x t = .str y t'∧(acc++y).length≤sizeLine∧Joins (model W.c.prog W.c.w) W.A no (evalEach ps F.E) (acc++y) K s1:=fun {x t s1 g1 st1} I1 S1 q=>by
   refine i23 x t rfl (lp (len q).1) (ih q (fun y st' q'=>by refine rwg (Str.append_assoc _ _ _) ?_;exact hb _ _ q') I1 fun y s' g' st' I' S' q'=>?_)
   refine rwg (Str.append_assoc _ _ _) ?_
   exact k _ _ _ _ I' (S1.trans S') q'
  induction p using Expr.casesOn with
  | Constant c i q=>
   refine e12 (jd (by exact h:jk (qde c) (fun x=>zt (f.evalT F.sc) ps st fun y st2=>Q (x++y) st2))) fun x h1 h2=>?_
   induction c using Const.casesOn with
   | str y=>
    obtain rfl:=qd h1
    exact ub (g:=g) (t:=.str y) rfl fun v s1 zz w=>by
     refine e11 zz.str_inv fun t zy1=>?_;subst zy1
     exact fin (I.still w) (StepE.refl g) h2
   | _=>exact(j6 h1).elim
  | FormattedValue e c sp q=>
   obtain⟨hk,h2⟩:=jj (by exact h:gd (decide (c=-1)&&sp.isNone) (f.evalT F.sc e st fun t st1=>ask Ans.s? (shown t) st1 fun x st1=>zt (f.evalT F.sc) ps st1 fun y st2=>Q (x++y) st2))
   obtain⟨hc,hs⟩:=qh.mp hk
   obtain rfl:=of_decide_eq_true hc
   obtain rfl:=vw hs
   refine wpAny_FormattedValue_plain (H.evalT h2 I fun v s1 g1 t st1 I1 S1 z1 q1=>?_)
   refine e22 (zc q1) fun x as h3 h4=>?_
   cases q4c h3 with
   | str=>
    refine e11 z1.str_inv fun t zz1=>?_;subst zz1
    exact wpAny_formatField_str (fin (I1.tell as) S1 h4) (fin (I1.tell as).re S1 h4) (lp (len h4).2)
   | int hi=>
    refine e11 z1.int_inv fun t zz1=>?_;subst zz1
    exact wpAny_formatField_int (q8x hi) (fin (I1.tell as).re S1 h4)
  | _=>exact h.elim
theorem q16(H:Snd W f){Q:Ent->St->Prop}{ps p}(h:q5t f F.sc ps st Q)(I:Inv W.c F g st s)(k:KR W F g Q K):WP W (qp (.JoinedStr ps p) F.E) K s:=by
 have h:zt (f.evalT F.sc) ps st (fun x st1=>ob (decide (x.length≤gw)) (Q (.val (.str x)) st1)):=h
 have J:∀{K':Str->Shared->Prop},(∀x s' g' st',Inv W.c F g' st' s'->StepE g g'->ob (decide (x.length≤gw)) (Q (.val (.str x)) st')->K' x s')->Joins (model W.c.prog W.c.w) W.A no (evalEach ps F.E) Str.empty K' s:=fun k'=>
  qc5 (acc:=Str.empty) H h (fun x st' q=>by refine rwg (Str.empty_append _) ?_;exact of_decide_eq_true q.1) I fun x s' g' st' I' S' q=>by
   refine rwg (Str.empty_append _) ?_
   exact k' _ _ _ _ I' S' q
 have fin:∀x s' g' st',Inv W.c F g' st' s'->StepE g g'->ob (decide (x.length≤gw)) (Q (.val (.str x)) st')->x.length≤sizeLine∧K (.str x s'.toks) { s' with toks:=s'.toks+1 }:=fun x s' g' st' I' S' q=>
  ⟨lp (of_decide_eq_true q.1),k _ _ g' (.val (.str x)) st' I'.re S' (.str _ _) q.2⟩
 induction ps using qf with
 | nil=>
  refine rwg (arm_eval_JoinedStr _ _ _) ?_
  exact wpAny_joinPartsRec [] Str.empty _ s (J fin)
 | cons v ps=>
  induction ps using qf with
  | cons v2 rest=>exact wpAny_JoinedStr (J fin)
  | nil=>
  refine wpAny_JoinedStr_one (wpAny_mono (J (K':=fun x s'=>∀t,K (.str x t) s') fun x s' g' st' I' S' q t=>k _ _ g' (.val (.str x)) st' I' S' (.str _ _) q.2) (fun u s1 zz=>e23 zz fun y t e z_ z=>?_) fun z_ z_ z=>z)
  subst e
  rw[show Str.empty++y=y from Str.empty_append y] at z
  exact z t
end
section
variable {W:Cx}{f:Fns}{F:Fr'}{g:Gh}{st:St}{s:Shared}{K:Value->Shared->Prop}{Q:Ent->St->Prop}{c:CC}
inductive RepP(w:World)(g:Gh):List (Value×Value)->List (T×T)->Prop
 | nil:RepP w g [] []
 | cons {k v:Value} {a b:T} {vs:List (Value×Value)} {l:List (T×T)}:Rep w g k a->Rep w g v b->RepP w g vs l->RepP w g ((k,v)::vs) ((a,b)::l)
theorem q5q(H:Snd W f){pos:Pos}:∀{ks:List (Option qo)}{vs:List qo}{st:St}{Q:List (T×T)->St->Prop}{g:Gh}{s:Shared}{K:List (Value×Value)->Shared->Prop},bg (f.evalT F.sc) ks vs st Q->Inv W.c F g st s ->
  (∀ps s' g' l st',Inv W.c F g' st' s'->StepE g g'->RepP W.c.w g' ps l->Q l st'->K ps s')->WP W (evalPairs (pairTrees ks vs F.E pos)) K s:=by
 intro ks
 induction ks with
 | nil=>
  intro vs st Q g s K h I k
  induction vs using qf with
  | nil=>exact qx (k _ _ g _ _ I (StepE.refl g) .nil h)
  | cons _ _=>exact h.elim
 | cons o ks ih=>
  intro vs st Q g s K h I k
  induction o using qe with
  | none=>
   induction vs using qf with
   | nil=>exact h.elim
   | cons _ _=>exact h.elim
  | some e=>
   induction vs using qf with
   | nil=>exact h.elim
   | cons v vs=>
    have h:f.evalT F.sc e st (fun a st1=>f.evalT F.sc v st1 fun b st2=>bg (f.evalT F.sc) ks vs st2 fun l st3=>Q ((a,b)::l) st3):=h
    refine(?_:wpAny _ _ (evalPairs ((qp e F.E,do let x ←qp v F.E;standAt pos;pure x)::pairTrees ks vs F.E pos)) _ _ _)
    rw[evalPairs]
    refine qm (H.evalT h I fun u s1 g1 a st1 I1 S1 z1 q1=>?_)
    refine qm (wpAny_holding (qm (H.evalT q1 I1 fun x s2 g2 b st2 I2 S2 z2 q2=>qm (wpAny_standAt (qx ?_)))))
    refine qm (wpAny_holding (ih q2 I2 fun ps s3 g3 l st3 I3 S3 z3 q3=>qx ?_))
    exact k _ _ g3 _ _ I3 ((S1.trans S2).trans S3) (.cons (z1.mono (S2.trans S3).mono) (z2.mono S3.mono) z3) q3
theorem RepP.strs{w:World}{prog:Program}{ps:List (Value×Value)}{l:List (T×T)}{l':List (Str×T)}(r:RepP w g ps l):bx l=some l'->∃kvs,Carries (strKind prog w) ps kvs∧DKV w g kvs l':=by
 induction r generalizing l' with
 | nil=>intro h;obtain rfl:=qd h;exact i12 [] trivial .nil
 | @cons _ v a b _ _ ha hb r ih=>
  intro h
  refine e12 (j9 (by exact h:opt a.str? (fun k=>opt (bx _) fun l=>some ((k,b)::l))=some _)) fun x h1 h2=>?_
  refine e12 (j9 h2) fun l2 h3 h4=>?_
  obtain rfl:=qd h4
  obtain rfl:=T.str?_is h1
  refine e12 (ih h3) fun kvs z1 z2=>?_
  refine e11 ha.str_inv fun t zz1=>?_;subst zz1
  exact i12 ((x,v)::kvs) (i03 (mt _ _ _ _) rfl z1) (.cons hb z2)
theorem q8r{κ:Type}[DecidableEq κ]{w:World}{kvs:List (κ×Value)}{l:List (κ×T)}{acc:List (κ×Value)}{es:List (κ×T)}(h:DKV w g kvs l):DKV w g acc es->(es.map (·.1)).Nodup->DKV w g (merged acc kvs) (l.foldl (fun d p=>dput p.1 p.2 d) es):=by
 induction h generalizing acc es with
 | nil=>exact fun q z_=>q
 | @cons k v t _ _ a r ih=>exact fun q hn=>ih (nh a q hn) (aa k t hn).1
theorem RepP.ints{w:World}{prog:Program}{ps:List (Value×Value)}{l:List (T×T)}{l':List (Int×T)}(r:RepP w g ps l):u6 l=some l'->∃kvs,Carries (intKind prog w) ps kvs∧DKV w g kvs l':=by
 induction r generalizing l' with
 | nil=>intro h;obtain rfl:=qd h;exact i12 [] trivial .nil
 | @cons _ v a b _ _ ha hb r ih=>
  intro h
  refine e12 (j9 (by exact h:opt a.int? (fun k=>opt (u6 _) fun l=>some ((k,b)::l))=some _)) fun x h1 h2=>?_
  refine e12 (j9 h2) fun l2 h3 h4=>?_
  obtain rfl:=qd h4
  obtain rfl:=T.int?_is h1
  refine e12 (ih h3) fun kvs z1 z2=>?_
  refine e11 ha.int_inv fun t zz1=>?_;subst zz1
  exact i12 ((x,v)::kvs) (i03 (qch _ _ _ _) rfl z1) (.cons hb z2)
theorem DKV.repI{w:World}{prog:Program}{en:List DictEntry}{kvs:List (Int×Value)}{es:List (Int×T)}(p:Pairs (intKind prog w) en kvs)(h:∀e∈en,∃k,(intKind prog w).is k e.key=true∧e.hash=(intKind prog w).hash k)(q:DKV w g kvs es):RepI w g en es:=(DKV.ekv p h q).repI
theorem q8o{w:World}{prog:Program}{h:Heap}{a:Addr}{kvs:List (Int×Value)}{es:List (Int×T)}(D:h.DictOf (intKind prog w) a kvs)(q:DKV w g kvs es):∃o en,h.get? a=some o∧kq o en∧RepI w g en es:=by
 refine e35 D fun o en ep e x d k zz7=>?_;clear D;obtain⟨p,_⟩:=zz7
 refine i23 o en.toList e ⟨ep,?_⟩ (DKV.repI p (fun x hx=>k x (by simpa using hx)) q)
 refine e03 x fun x1 x2 x3=>?_;clear x
 obtain⟨oc,od,oda,os⟩:=o
 dsimp only at x1 x2 x3 d
 subst x1 x2 x3 d
 simp[dictOf]
theorem qft{st0:List SO}{a:Addr}{k:Kd}{o0 o:Obj}{g2:Gh}{h':Heap}{kk:Nat}{s0:Shared}(I0:Hp c g st0 s0)(e0:g a=none)(S:StepE (jp g a .still o0) g2)(hc0:∀ov,o0.data ≠ .cell ov)(I2:Inv c F g2 st s)(hk:∀i p,k ≠ .shr i p)(hs:Heap.SameBut a s.heap h')(ho:h'.get? a=some o):
  Inv c F (jp g2 a k o) st { s with heap:=h',toks:=kk }∧StepE g (jp g2 a k o)∧Mono g2 (jp g2 a k o):=by
 have ea:g2 a=some (.still,o0):=S.still _ _ jf
 have hb:c.base.get? a=none:=by
  induction q:c.base.get? a using qe with
  | none=>rfl
  | some x=>have:=I0.base _ _ q;rw[e0] at this;exact(j6 this).elim
 have ne:∀{b:Addr}{kd:Kd}{x:Obj},g2 b=some (kd,x)->b≠a->jp g2 a k o b=some (kd,x):=fun e n=>(je n).trans e
 have nst:∀{b:Addr}{kd:Kd}{x:Obj},g2 b=some (kd,x)->kd ≠ .still->b≠a:=fun e n q=>by(replace e:=q▸e;rewrite[ea] at e);replace e:=qd e;cases e;exact n rfl
 have m:Mono g2 (jp g2 a k o):=⟨fun b x e=>ne e (nst e (jb rfl)),fun b x e=>ne e (nst e (jb rfl)),fun b i p x e=>⟨x,ne e (nst e (jb rfl))⟩⟩
 have na:∀{b:Addr}{kd:Kd}{x:Obj},g b=some (kd,x)->b≠a:=fun e q=>by rw[q,e0] at e;exact j6 e
 have old:∀{b:Addr}{kd:Kd}{x:Obj},g b=some (kd,x)->jp g a .still o0 b=some (kd,x):=fun e=>(je (na e)).trans e
 refine i03 ⟨⟨I2.fits.upd k hs ho,I2.gd,fun b x q=>ne (I2.base b x q) (fun z=>by rw[z,hb] at q;exact j6 q),I2.sig.mono m fun b i p x=>⟨fun e=>ne e (nst e (jb rfl)),fun e=>?_⟩,I2.gens,I2.os⟩,I2.fs,I2.fr.but ⟨ea,hc0⟩ fun b kd x n e=>ne e n⟩ ?_ m
 ·by_cases z:b=a
  ·(replace e:=z▸e;replace e:=jf▸e);replace e:=qd e;cases e;exact absurd rfl (hk i p)
  ·rw[je z] at e;exact e
 ·refine⟨fun b x e=>ne (S.still _ _ (old e)) (na e),fun b x e=>ne (S.froz _ _ (old e)) (na e),fun b x e=>ne (S.fdict _ _ (old e)) (na e),fun b i p x e=>?_,fun b x e=>ne (S.frm _ _ (old e)) (na e),fun b y x e=>ne (S.cel _ _ _ (old e)) (na e),fun b y p x n e=>(S.mine _ _ _ _ n (old e)).imp (ne · (na e)) (ne · (na e))⟩
  obtain⟨x',q⟩:=S.shr _ _ _ _ (old e)
  exact⟨x',ne q (na e)⟩
theorem q07{κ:Type}[DecidableEq κ]{kn:KeyKind W.c.prog W.c.w κ}{kd:Kd}(hkd:∀i p,kd ≠ .shr i p){conv:List (T×T)->Option (List (κ×T))}{ks:List (Option qo)}{vs:List qo}{p:Pos}{mk:List (κ×T)->Ent}
  (carry:∀{g:Gh}{ps:List (Value×Value)}{l:List (T×T)}{l':List (κ×T)},RepP W.c.w g ps l->conv l=some l'->∃kvs,Carries kn ps kvs∧DKV W.c.w g kvs l')
  (fin:∀{g g':Gh} {h':Heap} {a:Addr} {kvs:List (κ×Value)} {es:List (κ×T)},h'.DictOf kn a kvs→DKV W.c.w g kvs es→∃o,h'.get? a=some o∧(Mono g g'→g' a=some (kd,o)→EntR W.c.w g' (.mine "#") (.ref a) (mk es)))
  (H:Snd W f) (h1:ks.all (·.isSome)=true) (h2:ks.length=vs.length) (hn:ks≠[]) (hlen:vs.length≤15) (h:bg (f.evalT F.sc) ks vs st fun l st1=>jk (conv l) fun l'=>Q (mk (xu l')) st1) (I:Inv W.c F g st s) (k:KR W F g Q K):WP W (qp (.Dict ks vs p) F.E) K s:=by
 refine wpAny_Dict_walk (knd:=kn) h1 h2 hn (by refine rwg h2 ?_;exact hlen) ?_
 have I':=I.push .still (fun z_ z_=>jb rfl) (o:=dictOf [] 0) rfl (s':={ s with heap:=s.heap.push (dictOf [] 0) })
 refine q5q (pos:=p) H h I' fun ps s2 g2 l st2 I2 S2 z2 q2=>?_
 refine e12 (jd q2) fun l' h3 h4=>?_
 refine e12 (carry z2 h3) fun kvs z3 z4=>?_
 have ed:g2 s.heap.objs.size=some (.still,dictOf [] 0):=S2.still _ _ jf
 refine i13 kvs z3 (i36 _ #[] 0 (I2.fits.exact ed (jb rfl)) ⟨rfl,rfl,rfl⟩ rfl (fun x hx=>by simp at hx) .nil .nil) (fun h' D hs=>?_)
 refine e12 (fin (g':=jp g2 s.heap.objs.size kd (h'.get? s.heap.objs.size).get!) D (q8r z4 .nil .nil)) fun o f1 f2=>?_
 refine e03 (qft (k:=kd) (kk:=s2.toks+ps.length) I.toHp I.fits.new S2 (fun ov=>nofun) I2 hkd hs f1) fun I3 S3 m3=>?_
 exact k _ _ _ _ _ I3 S3 (by replace f2:=f1▸f2;exact f2 m3 jf) h4
theorem qgj(H:Snd W f){ks vs p}(h:q5u f F.sc ks vs st Q)(I:Inv W.c F g st s)(k:KR W F g Q K):WP W (qp (.Dict ks vs p) F.E) K s:=by
 refine e02 (jj h) fun h0 h1=>?_
 obtain⟨hl,h2⟩:=qh.mp h0
 obtain⟨ha,he⟩:=qh.mp h2
 have he:=of_decide_eq_true he
 have hl:=of_decide_eq_true hl
 induction ks using qf with
 | nil=>
  induction vs using qf with
  | cons _ _=>exact nomatch he
  | nil=>
   have h1:Q (.dict []) st:=h1
   exact wpAny_Dict_empty (k _ _ _ (.dict []) _ (I.push (.mine "#" .main) nofun (o:=dictOf [] 0) rfl (s':={ s with heap:=s.heap.push (dictOf [] 0) })) (KeepF.new I.fits.new).step (i34 _ _ [] rfl jf ⟨0,rfl⟩ .nil) h1)
 | cons k0 ks=>
  induction q:(k0::ks).any qcg using qg with
  | true=>
   replace h1:=q▸h1
   refine q07 (kn:=intKind W.c.prog W.c.w) (kd:=.froz) nofun (mk:=fun l=>.val (.idict l)) (conv:=u6) (fun r e=>r.ints e) (fun D z=>?_) H ha he nofun hl h1 I k
   refine e23 (q8o D z) fun o en f1 f2 f3=>?_
   exact i12 o f1 (fun m e=>.idict e f2 (f3.mono m))
  | false=>
   replace h1:=q▸h1
   refine q07 (kn:=strKind W.c.prog W.c.w) (kd:=.mine "#" .main) nofun (mk:=.dict) (conv:=bx) (fun r e=>r.strs e) (fun D z=>?_) H ha he nofun hl h1 I k
   refine e23 (sy D z) fun o en f1 f2 f3=>?_
   exact i12 o f1 (fun m e=>i34 _ o en rfl e f2 (f3.mono m))
end
theorem q3g{elt:qo}{gens:List PySem.Comprehension}{scope:Scope}{pos:Pos}{d:Nat}{tg iter:qo}(hg:gens[d]? = some ⟨tg,iter,[],0⟩)(it acc:Value)(env:Env):
  compTurn (.ListComp elt gens scope pos) d it acc env=(standAt iter.pos >>= fun z_=>pyNext it >>= fun r=>match r with
   | none=>pure (.done .next)
   | some v=>letOwnedTupleGo tg it v >>= fun z_=>assign tg env v >>= fun z_=>w7 (.ListComp elt gens scope pos) gens elt d acc env >>= fun z_=>again (.compLoop (.ListComp elt gens scope pos) d it acc env)):=by
 unfold compTurn w7
 dsimp only
 refine rwg hg ?_
 dsimp only
 induction gens[d+1]? using qe with
 | none=>rfl
 | some g'=>
  dsimp only
  induction (g'.is_async != 0) using qg with
  | true=>simp only [if_true,bind_assoc,pure_bind];rfl
  | false=>simp only [Bool.false_eq_true,if_false,bind_assoc,pure_bind];rfl
theorem dg{A:Around}{s:Shared}{prog:Program}{w:World}{elt:qo}{gens:List PySem.Comprehension}{scope:Scope}{pos:Pos}{d:Nat}{tg iter:qo}{it acc:Value}{env:Env}{R:Result->Shared->Prop}(hg:gens[d]? = some ⟨tg,iter,[],0⟩)
  (h0:codeAny (model prog w) A (.compLoop (.ListComp elt gens scope pos) d it acc env) R s)
  (h:wpAny (model prog w) A (pyIter it) (fun it' s'=>codeAny (model prog w) A (.compLoop (.ListComp elt gens scope pos) d it' acc env) R s') (notedBy (model prog w) A env fun x s'=>R (.error x) s') s) :
  codeAny (model prog w) A (.compStart (.ListComp elt gens scope pos) d it acc env) R s:=by
 refine codeAny_of_tree ?_
 refine(?_:wpAny _ _ ((compStart (.ListComp elt gens scope pos) d it acc env).onRaise (fun x=>do noteFrame x env;standAt theWindowsPlace)) _ _ s)
 refine wpAny_notedAt ?_
 unfold compStart
 have e:(clausesOf (.ListComp elt gens scope pos))[d]? = some ⟨tg,iter,[],0⟩:=hg
 refine rwg e ?_
 refine(?_:wpAny _ _ (PySem.ask >>= _) _ _ s)
 refine qm (wpAny_askSetting (wpAny_ite ?_))
 split
 ·first
   | exact qm (qx (qx (q9 rfl h0)))
   | exact qx (q9 rfl h0)
 ·first
   | exact qm (wpAny_rule (qm (wpAny_standAt (qm (wpAny_mono h (fun it' s' h'=>qx (q9 rfl h')) fun z_ z_ x=>x)))))
   | (refine qm (wpAny_rule ?_);refine(?_:wpAny _ _ (standAt iter.pos >>= _) _ _ s);exact qm (wpAny_standAt (qm (wpAny_mono h (fun it' s' h'=>qx (q9 rfl h')) fun z_ z_ x=>x))))
theorem q7h{gens:List PySem.Comprehension}{q:Gen}(h:q9b gens=some q):gens=⟨q.tg,q.it,[],0⟩::q.more:=by
 induction gens using qf with
 | nil=>exact(j6 h).elim
 | cons g more=>
  refine e02 (jh h) fun h1 h2=>?_
  obtain⟨h3,h4⟩:=qh.mp h1
  obtain rfl:=qd h2
  obtain⟨a,b,d,e⟩:=g
  obtain rfl:e=0:=of_decide_eq_true h4
  induction d using qf with
  | nil=>rfl
  | cons _ _=>exact(jt h3).elim
section
variable {c:CC}{g:Gh}{s:Shared}{A:Around}
theorem iq{it:Addr}{rem:List T}{sg:List SO}(H:Hp c g sg s)(h:ItAt c.w g it rem){Q:Value->Shared->Prop}{Er:Value->Shared->Prop}(hQ:Q (.ref it) s):wpAny (model c.prog c.w) A (pyIter (.ref it)) Q Er s:=by
 cases h with
 | list a b d e f r=>exact wpAny_pyIter_listiter (i13 _ (H.fits.exact a (jb rfl)) b d) hQ
 | rev a b d e f r z=>exact PySem.wpAny_pyIter_revIter (i13 _ (H.fits.exact a (jb rfl)) b d) hQ
 | range a=>exact wpAny_pyIter_rangeiter (H.fits.exact a (jb rfl)) hQ
 | dict a b d e f r z=>exact wpAny_pyIter_keyiter (i13 _ (H.fits.exact a (jb rfl)) b d) hQ
theorem CSince.of{acc:Addr}{g0:Gh}(h:StepS g0 g):CSince acc g0 g:=fun a k o z_ e=>⟨fun z=>by rcases z with rfl | rfl | rfl;exact h.still _ _ e;exact h.froz _ _ e;exact h.fdict _ _ e,fun i p z=>by subst z;exact h.shr _ _ _ _ e⟩
theorem CSince.trans{acc:Addr}{g0 g1 g2:Gh}(h:CSince acc g0 g1)(k:CSince acc g1 g2):CSince acc g0 g2:=fun a kd o n e=>⟨fun z=>(k a kd o n ((h a kd o n e).1 z)).1 z,fun i p z=>by
 obtain⟨o',e'⟩:=(h a kd o n e).2 i p z
 exact(k a kd o' n e').2 i p z⟩
theorem CSince.but {acc it:Addr} {g0 g':Gh} (h:CSince acc g0 g) (h0:∀k o,g0 it=some (k,o)→∃p,k = .mine "#" p) (h2:∀a k o,a≠it→g a=some (k,o)→g' a=some (k,o)):CSince acc g0 g':=fun a k o n e=>by
 have na:(k = .still∨k = .froz∨k = .fdict)∨(∃i p,k = .shr i p)->a≠it:=by
  rintro z rfl
  refine e11 (h0 _ _ e) fun p zz1=>?_;subst zz1
  rcases z with (z | z | z) | ⟨i,q,z⟩ <;> exact Kd.noConfusion z
 refine⟨fun z=>h2 _ _ _ (na (.inl z)) ((h a k o n e).1 z),fun i p z=>?_⟩
 obtain⟨o',e'⟩:=(h a k o n e).2 i p z
 exact⟨o',h2 _ _ _ (na (.inr (i21 i p z))) e'⟩
theorem CSince.mono{acc:Addr}{g0:Gh}(h:CSince acc g0 g){o:Obj}(e:g0 acc=some (.still,o)):Mono g0 g:=by
 have ne:∀{a k x},g0 a=some (k,x)->k ≠ .still->a≠acc:=fun q n z=>by(replace q:=z▸q;rewrite[e] at q);replace q:=qd q;cases q;exact n rfl
 exact⟨fun a x q=>(h a _ x (ne q (jb rfl)) q).1 (.inr (.inl rfl)),fun a x q=>(h a _ x (ne q (jb rfl)) q).1 (.inr (.inr rfl)),fun a i p x q=>(h a _ x (ne q (jb rfl)) q).2 i p rfl⟩
theorem AccR.step{acc:Addr}{xs:List T}{g':Gh}(h:AccR c g acc xs)(S:StepS g g'):AccR c g' acc xs:=let ⟨b,o,vs,h1,h2,h3⟩:=h;⟨b,(i23 o vs (S.still _ _ h1) h2 (h3.mono S.mono))⟩
theorem AccR.but{acc it:Addr}{xs:List T}{g':Gh}(h:AccR c g acc xs)(hne:acc≠it)(m:Mono g g')(h2:∀a k o,a≠it->g a=some (k,o)->g' a=some (k,o)):AccR c g' acc xs:=let ⟨b,o,vs,h1,h2',h3⟩:=h;⟨b,(i23 o vs (h2 _ _ _ hne h1) h2' (h3.mono m))⟩
end
section
variable {W:Cx}{f:Fns}{F:Fr'}{g:Gh}{s:Shared}
noncomputable abbrev qlv(W:Cx)(F:Fr')(acc:Addr)(g0:Gh)(ys:List T)(env':Loc)(sg':List SO)(K:Shared->Prop):Prop:=∀s' g',Inv W.c F g' ⟨env',sg',[]⟩ s'->CSince acc g0 g'->AccR W.c g' acc ys->K s'
structure qi3(W:Cx)(f:Fns)(F:Fr')(q:Gen)(elt:qo)(acc it:Addr)(g0:Gh)(ys:List T)(env':Loc)(sg':List SO)(s:Shared)(items:List T)(env:Loc)(sg:List SO)(g:Gh)(xs ts:List T):Prop where
 h:CompR (gu f F.sc q elt) items env sg ts env' sg'
 I:Inv W.c F g ⟨env,sg,[]⟩ s
 A:AccR W.c g acc xs
 e:xs++ts=ys
 S:CSince acc g0 g
 it:ItAt W.c.w g it items
theorem q7a(H:Snd W f){gens:List PySem.Comprehension}{elt:qo}{scope:Scope}{pos:Pos}{d:Nat}{q:Gen}{acc it:Addr}{g0:Gh}(hg:gens[d]? = some ⟨q.tg,q.it,[],0⟩)(hm:gens.drop (d+1)=q.more)
  (hbase:W.c.base.get? it=none) (hne:it≠acc) (hg0:∀k o,g0 it=some (k,o)→∃p,k = .mine "#" p)
  {items ts xs ys:List T} {env env':Loc} {sg sg':List SO} (J:qi3 W f F q elt acc it g0 ys env' sg' s items env sg g xs ts) (hl:ys.length≤LIM) {K:Shared->Prop} (k:qlv W F acc g0 ys env' sg' K) :
  codeAny (model W.c.prog W.c.w) W.A (.compLoop (.ListComp elt gens scope pos) d (.ref it) (.ref acc) F.E) (fun r s'=>∃x,r = .ok x∧K s') s:=by
 refine codeAny_loop rfl (fun n s=>∃items env sg g xs ts,items.length=n∧qi3 W f F q elt acc it g0 ys env' sg' s items env sg g xs ts) ?_ items.length ⟨items,env,sg,g,xs,ts,rfl,J⟩
 clear J
 rintro n s ⟨items,env,sg,g,xs,ts,rfl,h,I,HA,hxs,hS,hit⟩
 refine e11 hit.obj fun oi Z=>?_
 refine(?_:wpAny _ W.A ((compTurn (.ListComp elt gens scope pos) d (.ref it) (.ref acc) F.E).onRaise (fun x=>do noteFrame x F.E;theTreesLotGoes x)) _ _ s)
 refine wpAny_noted ?_
 refine rwg (q3g hg _ _ _) ?_
 refine qm (wpAny_standAt (qm ?_))
 cases h with
 | nil=>
  refine q2k I.toHp H.R hit fun h' hs=>qx ?_
  have hk:∀a k o,a≠it->g a=some (k,o)->gdrop g it a=some (k,o):=fun a k o n e=>(k7 n).trans e
  have nst:∀{a k x},g a=some (k,x)->k ≠ .still->a≠it:=fun q n z=>by(replace q:=z▸q;rewrite[Z.at_] at q);replace q:=qd q;cases q;exact n rfl
  have m:Mono g (gdrop g it):=⟨fun a o e=>hk a _ o (nst e (jb rfl)) e,fun a o e=>hk a _ o (nst e (jb rfl)) e,fun a i p o e=>⟨o,hk a _ o (nst e (jb rfl)) e⟩⟩
  exact i12 _ rfl (k _ _ ⟨I.toHp.gdrop Z hbase hs rfl rfl rfl,I.fs,I.fr.but Z hk⟩ (hS.but hg0 hk) (by refine rwl hxs<|rwg (List.append_nil _) ?_;exact HA.but hne.symm m hk))
 | @cons t rem _ env1 _ _ sg1 _ xs1 ys1 he hr=>
  refine nw I.toHp hbase hit fun v s1 o1 hv H1 hs1 hit1=>?_
  have hk:∀a k o,a≠it->g a=some (k,o)->jp g it .still o1 a=some (k,o):=fun a k o n e=>(je n).trans e
  have hS1:=hS.but hg0 hk
  have HA1:=HA.but hne.symm (kg (o':=o1) Z.at_) hk
  dsimp only
  refine qm (q52 H1 hit1 ?_)
  refine e11 he fun as hx=>?_;clear he
  refine e12 (jd hx) fun env2 h1 h2=>?_
  have I1:Inv W.c F (jp g it .still o1) ⟨env,sg,as⟩ s1:=⟨H1,I.fs,I.fr.but Z hk⟩
  refine qm (nf (uk H.R I1 h1 (hv.mono (kg Z.at_)) fun g2 s2 I2 S2=>?_))
  have A2:=HA1.step S2
  refine qm (nf (H.compG h2 hm I2 A2 (fun ts' st' q'=>?_) fun s3 g3 ts3 st3 I3 S3 A3 q3=>?_))
  ·obtain⟨rfl,_⟩:=q'.st
   have:=congrArg List.length hxs
   simp only [qk] at this
   exact qr (qr (Nat.add_le_add_left (Nat.le_add_right _ _) _) (Nat.le_of_eq this)) hl
  ·refine e02 q3.st fun zz0 zz1=>?_;subst zz0;subst zz1
   obtain⟨_,oa,_,ha,_,_⟩:=A2
   have hit2:=hit1.mono S2.mono fun o e=>S2.still _ _ e
   exact qx ⟨rfl,(i12 rem.length (Nat.lt_succ_self _) ⟨rem,_,_,g3,_,ys1,rfl,⟨hr,I3,A3,by refine rwg (List.append_assoc _ _ _) ?_;exact hxs,(hS1.trans (CSince.of S2)).trans S3,hit2.mono (S3.mono ha) fun o e=>(S3 _ _ _ hne e).1 (.inl rfl)⟩⟩)⟩
end
section
variable {W:Cx}{f:Fns}{F:Fr'}{g:Gh}{st:St}{s:Shared}
theorem q9v(H:Snd W f){it:qo}{Q:List T->St->Prop}(h:dh f F.sc it st Q):okE it=true:=by
 unfold dh at h
 induction q:yd it using qg with
 | true=>exact H.okT (xi h q)
 | false=>exact H.okI (jy h q)
theorem q08(H:Snd W f){it:qo}{E:Env}{Q:List T->St->Prop}(h:dh f F.sc it st Q)(v:Value):foldedSetIterable it E v=pure v:=by
 have:=q9v H h
 induction it using Expr.casesOn with
 | Set=>exact(jt this).elim
 | _=>rfl
theorem q3h(H:Snd W f){it:qo}{Q:List T->St->Prop}(h:dh f F.sc it st Q)(I:Inv W.c F g st s){K:Value->Shared->Prop}(k:∀v s' g' items st',Inv W.c F g' st' s'->StepE g g'->wl W.c.w g' v items->Q items st'->K v s'):WP W (qp it F.E) K s:=by
 unfold dh at h
 induction q:yd it using qg with
 | true=>
  refine H.evalT (xi h q) I fun v s1 g1 t st1 I1 S1 z1 q1=>?_
  refine e22 (zc q1) fun items as h1 h2=>?_
  exact k v s1 g1 items _ (I1.tell as) S1 (.rep z1 h1) h2
 | false=>
  refine H.iterS (jy h q) I fun v s1 g1 items st1 I1 S1 z1 q1=>?_
  rcases z1 with z1 | ⟨z,_⟩
  ·exact k v s1 g1 items st1 I1 S1 z1 q1
  ·rw[q] at z;exact(jt z).elim
theorem qjr{c:CC}{A:Around}{acc:Addr}{xs:List T}{v:Value}{t:T}(I:Inv c F g st s)(HA:AccR c g acc xs)(hv:Rep c.w g v t)(hl:xs.length+1≤LIM){K:Value->Shared->Prop}(k:∀v s' g',Inv c F g' st s'->CSince acc g g'->AccR c g' acc (xs++[t])->K v s'):
  wpAny (model c.prog c.w) A (call (.builtin "list.append") [.ref acc,v]) K no s:=by
 obtain⟨hb,o,vs,h1,⟨m,rfl⟩,h3⟩:=HA
 refine append_at (I.fits.exact h1 (jb rfl)) (fun h' hs ho=>?_) (by refine rwg List.size_toArray<|rwg h3.len ?_;exact ws (by exact Nat.le_of_succ_le hl))
 have m1:=kg (o':={ cls:=.type "list",data:=.seq (vs.toArray.push v) (m+1) }) h1
 have hk:∀a k o,a≠acc→g a=some (k,o)→jp g acc .still { cls:=.type "list",data:=.seq (vs.toArray.push v) (m+1) } a=some (k,o):=fun a k o n e=>(je n).trans e
 exact k _ _ _ ⟨vb I.toHp h1 hb hs ho rfl rfl rfl,I.fs,I.fr.but ⟨h1,fun ov=>nofun⟩ hk⟩ (fun a k o n e=>⟨fun z_=>hk _ _ _ n e,fun z_ z_ z_=>⟨o,hk _ _ _ n e⟩⟩) ⟨hb,(i23 _ (vs++[v]) jf ⟨m+1,by simp[W.listOf]⟩ ((h3.mono m1).app (.cons (hv.mono m1) .nil)))⟩
theorem q65(H:Snd W f){more elt}{Q:List T->St->Prop}(h:q66 f F.sc more elt st Q){gens:List PySem.Comprehension}{d:Nat}{scope:Scope}{pos:Pos}(hg:gens.drop (d+1)=more){acc:Addr}{xs:List T}(I:Inv W.c F g st s)
  (HA:AccR W.c g acc xs) (hl:∀ts st',Q ts st'->xs.length+ts.length≤LIM) {K:Unit->Shared->Prop} (k:∀s' g' ts st',Inv W.c F g' st' s'->CSince acc g g'->AccR W.c g' acc (xs++ts)->Q ts st'->K () s') :
  WP W (w7 (.ListComp elt gens scope pos) gens elt d (.ref acc) F.E) K s:=by
 have hg':gens[d+1]? = more.head?:=by exact rwl hg<|rwg List.head?_drop rfl
 skip
 induction hm:more using qf with
 | nil=>
  subst hm
  have h:f.evalT F.sc elt st (fun t=>Q [t]):=h
  unfold w7
  refine rwg hg' ?_
  dsimp only [List.head?]
  refine qm (H.evalT h I fun v s1 g1 t st1 I1 S1 z1 q1=>?_)
  exact qm (qjr I1 (HA.step S1.s) z1 (hl _ _ q1) fun z_ s2 g2 I2 S2 A2=>qx (k s2 g2 [t] st1 I2 ((CSince.of S1.s).trans S2) A2 q1))
 | cons gg more'=>
  have h:jk (q9b more) (fun q=>dh f F.sc q.it st fun items st1=>ac (CompR (gu f F.sc q elt) items st1.env st1.sg) st1 fun ts env sg as=>Q ts ⟨env,sg,as⟩):=jy h (by refine rwg hm ?_;rfl)
  refine e12 (jd h) fun q h1 h2=>?_
  have e:=q7h h1
  have hg0:gens[d+1]? = some ⟨q.tg,q.it,[],0⟩:=by refine rwg hg'<|rwg e ?_;rfl
  have hd2:gens.drop (d+1+1)=q.more:=by
   have:=congrArg (List.drop 1) (hg.trans e)
   rwa [List.drop_drop,List.drop_one,List.tail_cons] at this
  unfold w7
  refine rwg hg0 ?_
  dsimp only
  refine qm (q3h H h2 I fun v s1 g1 items st1 I1 S1 z1 q1=>?_)
  refine e42 (lf q1) fun ts env' sg' as' h3 h4=>?_
  refine qm (wpAny_standAt ?_)
  refine(?_:wpAny _ _ (foldedSetIterable q.it F.E v >>= fun x=>holding [x] (pyIter x) >>= fun i=>runOwn (.compStart (.ListComp elt gens scope pos) (d+1) i (.ref acc) F.E) F.E >>= fun z_=>pure ()) _ _ _)
  refine rwg (q08 H h2 _) ?_
  refine qm (qx (qm (wpAny_holding ?_)))
  have HA1:=HA.step S1.s
  refine c9 I1.toHp z1 fun it' g2 s2 K2 H2 hb h0 hit=>?_
  have I2:Inv W.c F g2 ⟨st1.env,st1.sg,[]⟩ s2:=⟨H2,I1.fs,I1.fr.keepF K2⟩
  have hne:it'≠acc:=by
   rintro rfl
   obtain⟨_,o,vs,q,_⟩:=HA1
   refine e11 (h0 _ _ q) fun p w=>?_
   cases w
  have hL:=q7a (ys:=xs++ts) (K:=fun s'=>K () s') H (scope:=scope) (pos:=pos) hg0 hd2 hb hne h0 ⟨h3,I2,HA1.step K2.step.s,rfl,CSince.of K2.step.s,hit⟩ (by refine rwg qk ?_;exact hl _ _ h4) fun s' g' I' S' A'=>k s' g' ts _ (I'.tell as') ((CSince.of S1.s).trans S') A' h4
  refine qm (wpAny_runOwn (h:=none) ?_)
  refine codeAny_mono (dg hg0 hL (iq H2 hit hL)) fun r s' q=>?_
  refine e11 q fun x zz1=>?_;clear q;obtain⟨rfl,q⟩:=zz1
  exact qx q
end
structure n5(E:Env)(names:List (Str×NameKind))(acc cl:List (Str×Addr)):Prop where
 inv:∀x a,(x,a)∈cl->(x,a)∈acc∨((x,NameKind.free)∈names∧E.cells.lookup x=some a)
 old:∀p∈acc,p∈cl
 all:∀x,(x,NameKind.free)∈names->∃a,(x,a)∈cl
theorem q6b(E:Env){f:Str×NameKind->List (Str×Addr)->Sem (ForInStep (List (Str×Addr)))}
  (f1:∀x acc,f (x,.free) acc=cellOf E x >>= fun a=>pure (.yield ((x,a)::acc))) (f2:∀x k acc,k ≠ .free->f (x,k) acc=pure (.yield acc)) :
  ∀(names:List (Str×NameKind))(acc:List (Str×Addr)),(∀x,(x,NameKind.free)∈names->∃a,E.cells.lookup x=some a)->∃cl,(forIn names acc f:Sem (List (Str×Addr)))=pure cl∧n5 E names acc cl:=by
 intro names
 induction names with
 | nil=>
  intro acc _
  exact i12 acc rfl ⟨fun x a h=>.inl h,fun p h=>h,fun x h=>nomatch h⟩
 | cons zz r ih=>
  obtain⟨x,k⟩:=zz
  intro acc h
  by_cases hk:k = .free
  ·subst hk
   obtain⟨a,ha⟩:=h x (.head _)
   refine e12 (ih ((x,a)::acc) fun y hy=>h y (.tail _ hy)) fun cl h1 G=>?_
   refine i12 cl ?_ ⟨fun y b hy=>?_,fun p hp=>G.old p (.tail _ hp),fun y hy=>?_⟩
   ·(rewrite[List.forIn_cons];refine rwg (f1 _ _)<|rwg (show cellOf E x=pure a by unfold cellOf;rw[ha]) ?_)
    simp only [pure_bind];exact h1
   ·rcases G.inv y b hy with q | q
    ·rcases ql.mp q with q | q
     ·cases q;exact .inr ⟨.head _,ha⟩
     ·exact .inl q
    ·exact .inr ⟨.tail _ q.1,q.2⟩
   ·rcases ql.mp hy with q | q
    ·cases q;exact⟨a,G.old _ (.head _)⟩
    ·exact G.all y q
  ·refine e12 (ih acc fun y hy=>h y (.tail _ hy)) fun cl h1 G=>?_
   refine i12 cl ?_ ⟨fun y b hy=>(G.inv y b hy).imp id fun q=>⟨.tail _ q.1,q.2⟩,G.old,fun y hy=>?_⟩
   ·(rewrite[List.forIn_cons];refine rwg (f2 _ _ _ hk) ?_);simp only [pure_bind];exact h1
   ·rcases ql.mp hy with q | q
    ·cases q;exact absurd rfl hk
    ·exact G.all y q
theorem ah{sc2:Scope}{E:Env}(h:∀x,(x,NameKind.free)∈sc2.names->∃a,E.cells.lookup x=some a):∃cl,closureFor sc2 E=pure cl∧n5 E sc2.names [] cl:=by
 unfold closureFor
 obtain⟨cl,h1,G⟩:=q6b E (f:=fun x r=>match x with
  | (name,kind)=>if (kind==NameKind.free)=true then do
    let a ←cellOf E name
    pure (ForInStep.yield ((name,a)::r))
   else pure (ForInStep.yield r)) (fun x acc=>rfl) (fun x k acc hk=>if_neg (by simpa using hk)) sc2.names [] h
 refine i12 cl (Eq.trans ?_ h1) G
 simp only [bind_pure]
theorem wi{α:Type}{x:Str}{a:α}:∀{l:List (Str×α)},(∃b,(x,b)∈l)->(∀b,(x,b)∈l->b=a)->l.lookup x=some a
 | [],⟨_,h⟩,_=>nomatch h
 | (y,b)::r,h,k=>by
  refine rwg List.lookup_cons ?_
  by_cases q:x=y
  ·subst q
   exact rwg (beq_self_eq_true _)<|rwg (k b (.head _)) rfl
  ·refine rwg (show (x==y)=false from beq_eq_false_iff_ne.mpr q) ?_
   refine e11 h fun b' hb=>?_;clear h
   rcases ql.mp hb with z | z
   ·cases z;exact absurd rfl q
   ·exact wi ⟨b',z⟩ fun b'' hb''=>k b'' (.tail _ hb'')
theorem va{α:Type}{x:Str}{a:α}{l:List (Str×α)}(hn:(l.map (·.1)).Nodup)(h:(x,a)∈l):l.lookup x=some a:=
 wi ⟨a,h⟩ fun b hb=>by
  induction l with
  | nil=>exact absurd h j5
  | cons p r ih=>
   rw[qv,List.nodup_cons] at hn
   rcases ql.mp h with q | q <;> rcases ql.mp hb with z | z
   ·rw[←q] at z;cases z;rfl
   ·exact absurd (List.mem_map.mpr (i12 (x,b) z rfl)) (by rw[←q] at hn;exact hn.1)
   ·exact absurd (List.mem_map.mpr (i12 (x,a) q rfl)) (by rw[←z] at hn;exact hn.1)
   ·exact ih hn.2 q z
noncomputable def sm(E:Env)(x:Str)(k:NameKind):NameKind:=if (k==NameKind.free&&E.scope.kind == .function&&E.kindOf x==some .cell)=true then .cell else k
set_option tactic.hygienic true in
theorem pq(E:Env)(x:Str)(k:NameKind):sm E x k=k∨(k = .free∧sm E x k = .cell):=by
 unfold sm
 split
 ·rename_i z
  simp only [Bool.and_eq_true,beq_iff_eq] at z
  exact .inr ⟨z.1.1,rfl⟩
 ·exact .inl rfl
theorem sk(sc2:Scope)(E:Env)(x:Str):(relabel sc2 E).names.lookup x=(sc2.names.lookup x).map (sm E x):=by
 unfold relabel
 dsimp only
 generalize sc2.names=l
 induction l with
 | nil=>rfl
 | cons p r ih=>
  obtain⟨y,k⟩:=p
  have e:(if (k==NameKind.free&&E.scope.kind == .function&&E.kindOf y==some .cell)=true then (y,NameKind.cell) else (y,k))=(y,sm E y k):=by unfold sm;split <;> rfl
  refine rwg qv ?_
  dsimp only
  refine rwg e<|rwg List.lookup_cons<|rwg List.lookup_cons ?_
  by_cases q:x=y
  ·subst q
   refine rwg (beq_self_eq_true _) ?_
   rfl
  ·refine rwg (show (x==y)=false from beq_eq_false_iff_ne.mpr q) ?_
   exact ih
theorem wj{x:Str}{r:List Str}{env:Loc}{cap:List (Str×T)}(h:zb (x::r) env=some cap):∃t l,jn x env=some (.val t)∧zb r env=some l∧cap=(x,t)::l:=by
 refine e12 (j9 (by exact h:opt (jn x env) (fun u=>opt u.val? fun t=>opt (zb r env) fun l=>some ((x,t)::l))=some cap)) fun u h1 h2=>?_
 refine e12 (j9 h2) fun t h3 h4=>?_
 refine e12 (j9 h4) fun l h5 h6=>?_
 obtain rfl:=Ent.val?_is h3
 exact i23 t l h1 h5 (qd h6).symm
theorem q1n{env:Loc}:∀{xs:List Str}{cap:List (Str×T)},zb xs env=some cap->∀{x:Str}{e:Ent},jn x (ofT cap)=some e->x∈xs∧∃t,e = .val t∧jn x env=some (.val t):=by
 intro xs
 induction xs with
 | nil=>
  intro cap h x e he
  obtain rfl:=qd h;exact(j6 he).elim
 | cons y xs ih=>
  intro cap h x e he
  refine e23 (wj h) fun t l h1 h2 zz4=>?_;subst zz4
  have he2:(if y=x then some (.val t) else jn x (ofT l))=some e:=he
  by_cases q:y=x
  ·rw[if_pos q] at he2;subst q;exact⟨.head _,(i12 t (qd he2).symm h1)⟩
  ·rw[if_neg q] at he2
   refine e02 (ih h2 he2) fun a b=>?_
   exact⟨.tail _ a,b⟩
set_option tactic.hygienic true in
theorem mem_freeNames{sc:Scope}{x:Str}:x∈xl sc↔(x,NameKind.free)∈sc.names:=by
 unfold xl
 rw[List.mem_filterMap]
 constructor
 ·rintro⟨⟨y,k⟩,h1,h2⟩
  dsimp only at h2
  split at h2
  ·rename_i z;replace h2:=qd h2;cases h2;subst z;exact h1
  ·exact(j6 h2).elim
 ·intro h;exact i12 _ h (if_pos rfl)
structure q6n(sc sc2:Scope):Prop where
 kind:sc2.kind = .function
 nd:(sc2.names.map (·.1)).Nodup
 nocell:∀p∈sc2.names,p.2 ≠ .cell
 free:∀x,(x,NameKind.free)∈sc2.names->jc sc x=some .cell∨jc sc x=some .free
 dbg:jc sc2 "__debug__"=none
 hsh:jc sc2 "#"=none
 cdict:jc sc2 "__classdict__"=none
theorem q9u{sc sc2:Scope}(h:qdi sc sc2=true):q6n sc sc2:=by
 obtain⟨h,o7⟩:=qh.mp h
 obtain⟨h,o6⟩:=qh.mp h
 obtain⟨h,o5⟩:=qh.mp h
 obtain⟨h,o4⟩:=qh.mp h
 obtain⟨h,o3⟩:=qh.mp h
 obtain⟨o1,o2⟩:=qh.mp h
 refine⟨of_decide_eq_true o1,of_decide_eq_true o2,fun p hp q=>?_,fun x hx=>?_,of_decide_eq_true o5,of_decide_eq_true o6,of_decide_eq_true o7⟩
 ·have:=qy.mp o3 p hp
  replace this:=q▸this;exact jt this
 ·exact(Bool.or_eq_true_iff.mp (qy.mp o4 x (mem_freeNames.mpr hx))).imp of_decide_eq_true of_decide_eq_true
section
variable {c:CC}{F:Fr'}{g:Gh}{s:Shared}
theorem q9d{sg:List SO}{as:List Ans}:∀(xs:List Str){env:Loc}{g:Gh},Inv c F g ⟨env,sg,as⟩ s->∃g',Inv c F g' ⟨gm xs env,sg,as⟩ s∧StepE g g':=by
 intro xs
 induction xs with
 | nil=>
  intro env g I
  exact i12 g I (StepE.refl g)
 | cons x xs ih=>
  intro env g I
  refine(?_:∃g',Inv c F g' ⟨gm xs (md x env),sg,as⟩ s∧StepE g g')
  unfold md
  induction he:jn x env using qe with
  | some e=>
   refine e12 (ih (I.frz he)) fun g' I' S'=>?_
   exact i12 g' I' ((StepE.frz g x).trans S')
  | none=>exact ih I
theorem FrR.cellOf{sc2:Scope}{env:Loc}(fs:FrS F)(fr:FrR c.w g F env)(ok:q6n F.sc sc2){x:Str}(hx:(x,NameKind.free)∈sc2.names):∃cc k o ov,qac c.w g F env x cc k o ov:=by
 refine fr.cel x ?_
 rcases ok.free x hx with q | q
 ·refine e12 (fs.names x _ q) fun k' a b=>?_
  rcases b with rfl | ⟨z,_⟩
  ·exact .inl a
  ·exact NameKind.noConfusion z
 ·refine e12 (fs.names x _ q) fun k' a b=>?_
  rcases b with rfl | ⟨_,rfl⟩
  ·exact .inr a
  ·exact .inl a
theorem rj(sc2:Scope)(cl:List (Str×Addr))(C:Addr)(E:Env)(x:Str):(compEnvC sc2 cl C E).kindOf x=(sc2.names.lookup x).map (sm E x):=sk sc2 E x
theorem q64{sc2:Scope}{cap:List (Str×T)}{cl:List (Str×Addr)}{g':Gh}{C:Addr}{oC:Obj}{env:Loc}(fs:FrS F)(fr:FrR c.w g F env)(ok:q6n F.sc sc2)(hc:zb (xl sc2) env=some cap)(G:n5 F.E sc2.names [] cl)
  (hC:g' C=some (.frm,oC)) (hN:NsO oC fun x=>([]:List (Str×Value)).reverse.lookup x) (hk:∀a k o,hide g a=some (k,o)->g' a=some (k,o)):FrS ⟨sc2,compEnvC sc2 cl C F.E⟩∧FrR c.w g' ⟨sc2,compEnvC sc2 cl C F.E⟩ (frame sc2 (ofT cap)):=by
 have isfree:∀x,((compEnvC sc2 cl C F.E).kindOf x=some .cell∨(compEnvC sc2 cl C F.E).kindOf x=some .free)->sc2.names.lookup x=some .free:=fun x h=>by
  rw[rj] at h
  induction q:sc2.names.lookup x using qe with
  | none=>replace h:=q▸h;rcases h with h | h <;> exact(j6 h).elim
  | some k=>
   replace h:=q▸h
   rcases pq F.E x k with z | ⟨z,_⟩
   ·have h:some (sm F.E x k)=some .cell∨some (sm F.E x k)=some .free:=h
    replace h:=z▸h
    rcases h with h | h
    ·obtain rfl:=qd h;exact absurd rfl (ok.nocell _ (mem_of_lookup q))
    ·exact h
   ·exact rwg z rfl
 have got:∀{x e},jn x (frame sc2 (ofT cap))=some e->(x,NameKind.free)∈sc2.names∧∃t,e = .val t∧jn x env=some (.val t):=fun h=>by
  rw[yf] at h
  refine e02 (q1n hc h) fun a b=>?_
  exact⟨mem_freeNames.mp a,b⟩
 have mo:Mono g g':=⟨fun a o e=>hk _ _ _ (ju e rfl),fun a o e=>hk _ _ _ (ju e rfl),fun a i p o e=>⟨o,hk _ _ _ (ju e rfl)⟩⟩
 refine⟨⟨ok.kind,fs.glob,fs.blt,ok.dbg,ok.hsh,ok.cdict,fun x k hx=>?_⟩,⟨?_,(i21 oC _ ⟨hC,hN,fun x e hx hl=>?_⟩),fun x hx=>?_⟩⟩
 ·refine i12 (sm F.E x k) ?_ (pq F.E x k)
  refine(?_:(compEnvC sc2 cl C F.E).kindOf x=_)
  (rewrite[rj];refine rwg (show sc2.names.lookup x=some k from hx) ?_);rfl
 ·induction q:jn ("#":Str) (frame sc2 (ofT cap)) using qe with
  | none=>rfl
  | some e=>
   have:=va ok.nd (got q).1
   rw[show sc2.names.lookup ("#":Str)=none from ok.hsh] at this;exact(j6 this).elim
 ·exfalso
  have hl:(compEnvC sc2 cl C F.E).kindOf x=some .local:=hl
  rw[rj,va ok.nd (got hx).1] at hl
  have hl:some (sm F.E x .free)=some .local:=hl
  rcases pq F.E x .free with z | ⟨_,z⟩ <;> rw[z] at hl <;> exact nomatch hl
 ·have hf:=isfree x hx
  have hm:=mem_of_lookup hf
  refine e41 (fr.cellOf fs ok hm) fun cc k o ov Z=>?_
  have hcl:cl.lookup x=some cc:=wi (G.all x hm) fun b hb=>by
   rcases G.inv x b hb with q | ⟨_,q⟩
   ·exact nomatch q
   ·exact qd (q.symm.trans Z.cell)
  have ent:∀e,jn x (frame sc2 (ofT cap))=some e->∃v,ov=some v∧EntR c.w g' (.mine x) v e∧∃t,e = .val t:=fun e he=>by
   obtain⟨_,t,rfl,ht⟩:=got he
   refine e12 (Z.ent _ ht) fun v q1 zz2=>?_;obtain⟨q2,_⟩:=zz2
   exact i13 v q1 (Rep.mono mo q2) ⟨t,rfl⟩
  have mk:∀{k'},k' = .still∨k' = .froz->g' cc=some (k',o)->∃c' k' o' ov',qac c.w g' ⟨sc2,compEnvC sc2 cl C F.E⟩ (frame sc2 (ofT cap)) x c' k' o' ov':=fun hk' e=>
   (i41 cc _ o ov ⟨hcl,e,Z.data,.inr hk',fun z=>absurd hf z,fun e he=>e13 (ent e he) fun v a b d=>i13 v a b (fun z_=>d)⟩)
  rcases Z.kd with q | q | q
  ·exact mk (.inl rfl) (hk _ _ _ (wn Z.at_ (by refine rwg q ?_;rfl)))
  ·exact mk (.inl rfl) (hk _ _ _ (ju (q▸Z.at_) rfl))
  ·exact mk (.inr rfl) (hk _ _ _ (ju (q▸Z.at_) rfl))
end
theorem RepL.all{w:World}{g g':Gh}(k:∀v t,Rep w g v t->Rep w g' v t){vs:List Value}{ts:List T}(h:RepL w g vs ts):RepL w g' vs ts:=RepL.ind (m:=RepL w g') .nil (fun h z_ ih=>.cons (k _ _ h) ih) h
section
variable {c:CC}{F F2:Fr'}{g g1 g3 g4 gC:Gh}{s s':Shared}{D C it:Addr}{oC oi:Obj}
theorem Hp.nobase{sg:List SO}(H:Hp c g sg s){a:Addr}(e:g a=none):c.base.get? a=none:=by
 induction q:c.base.get? a using qe with
 | none=>rfl
 | some x=>have:=H.base _ _ q;rw[e] at this;exact(j6 this).elim
theorem uq{a:Addr}(e:g a=none):hide g a=none:=by unfold hide;exact rwg e rfl
structure qlt(g gC:Gh)(D C:Addr)(oL oC:Obj):Prop where
 nD:g D=none
 nC:g C=none
 ne:D≠C
 keep:∀{b k o},hide g b=some (k,o)->gC b=some (k,o)
 aD:gC D=some (.still,oL)
 aC:gC C=some (.frm,oC)
theorem qfw{sg:List SO}{oL oF:Obj}{h₁:Heap}{m:Str->Option Value}(H:Hp c g sg s)(hL:oL.isFreed=false)(hns:h₁.Ns (s.heap.push oL).objs.size m)(hsb:Heap.SameBut (s.heap.push oL).objs.size ((s.heap.push oL).push oF) h₁)(e1:s'.heap=h₁)(e2:s'.gens=s.gens)(e3:s'.os=s.os):
  ∃gC oC,qlt g gC s.heap.objs.size (s.heap.push oL).objs.size oL oC∧Hp c gC sg s'∧NsO oC m:=by
 have hC:(s.heap.push oL).objs.size=s.heap.objs.size+1:=Heap.size_push _ _
 have hDC:s.heap.objs.size≠(s.heap.push oL).objs.size:=by refine rwg hC ?_;exact Nat.ne_of_lt (Nat.lt_succ_self _)
 refine e12 (gz hns) fun oC hoC hNC=>?_
 have nD:g s.heap.objs.size=none:=H.fits.new
 have nC:g (s.heap.push oL).objs.size=none:=by
  induction q:g (s.heap.push oL).objs.size using qe with
  | none=>rfl
  | some x=>
   obtain⟨o',q,_⟩:=H.fits _ x.1 x.2 q
   have:=Heap.lt_size q
   rw[hC] at this;exact absurd (Nat.lt_of_succ_lt this) (Nat.lt_irrefl _)
 have hacc:h₁.get? s.heap.objs.size=some oL:=hsb.extBut _ _ hDC (qw _ (Heap.get?_push_size _ hL))
 have old:∀b o,s.heap.get? b=some o->h₁.get? b=some o:=fun b o e=>by
  have:=Heap.lt_size e
  exact hsb.extBut b o (by refine rwg hC ?_;exact Nat.ne_of_lt (Nat.lt_succ_of_lt this)) (qw _ (qw _ e))
 generalize s.heap.objs.size=D at hDC hacc nD ⊢
 generalize (s.heap.push oL).objs.size=C at hDC hoC nC ⊢
 have kA:∀{b k o},hide g b=some (k,o)->jp (jp (hide g) D .still oL) C .frm oC b=some (k,o):=fun {b k o} e=>by
  have nD:b≠D:=fun z=>by rw[z,uq nD] at e;exact j6 e
  have nC:b≠C:=fun z=>by(replace e:=z▸e;rewrite[uq nC] at e);exact j6 e
  exact(je nC).trans ((je nD).trans e)
 have HH:=H.hide
 refine i23 _ oC ⟨nD,nC,hDC,kA,(je hDC).trans jf,jf⟩ ⟨fun b k o e=>?_,HH.gd,fun b o e=>kA (HH.base b o e),HH.sig.mono ⟨fun a o e=>kA e,fun a o e=>kA e,fun a i p o e=>⟨o,kA e⟩⟩ fun b i p o=>⟨fun e=>kA e,fun e=>?_⟩,e2.trans HH.gens,e3.trans HH.os⟩ hNC
 ·refine rwg e1 ?_
  by_cases zC:b=C
  ·(replace e:=zC▸e;replace e:=jf▸e);replace e:=qd e;cases e;exact i12 _ (zC▸hoC) rfl
  ·rw[je zC] at e
   by_cases zD:b=D
   ·(replace e:=zD▸e;replace e:=jf▸e);replace e:=qd e;cases e;exact i12 _ (zD▸hacc) rfl
   ·replace e:=(je zD)▸e
    refine e12 (HH.fits b k o e) fun o' q1 q2=>?_
    exact i12 o' (old _ _ q1) q2
 ·by_cases zC:b=C
  ·(replace e:=zC▸e;replace e:=jf▸e);exact nomatch e
  ·rw[je zC] at e
   by_cases zD:b=D
   ·(replace e:=zD▸e;replace e:=jf▸e);exact nomatch e
   ·replace e:=(je zD)▸e;exact e
theorem StepE.gdrop (S:StepE g1 g3) (h0:∀k o,g1 it=some (k,o)→∃p,k = .mine "#" p):StepE g1 (gdrop g3 it):=by
 have hm:∀{a k o},g1 a=some (k,o)→(∀p,k ≠ .mine "#" p)→a≠it:=fun {a k o} e n z=>by
  subst z
  refine e11 (h0 _ _ e) fun p w=>?_
  exact n p w
 have k:∀{a k k' o o'},g1 a=some (k,o)→(∀p,k ≠ .mine "#" p)→g3 a=some (k',o')→Mine.gdrop g3 it a=some (k',o'):=fun e n q=>(k7 (hm e n)).trans q
 exact⟨fun a o e=>k e (fun z_=>jb rfl) (S.still _ _ e),fun a o e=>k e (fun z_=>jb rfl) (S.froz _ _ e),fun a o e=>k e (fun z_=>jb rfl) (S.fdict _ _ e),fun a i p o e=>e11 (S.shr _ _ _ _ e) fun o' q=>⟨o',k e (fun z_=>jb rfl) q⟩,fun a o e=>k e (fun z_=>jb rfl) (S.frm _ _ e),fun a x o e=>k e (fun z_=>jb rfl) (S.cel _ _ _ e),
  fun a x p o n e=>(S.mine a x p o n e).imp (k e fun p' z=>n (by injection z)) (k e fun p' z=>n (by injection z))⟩
structure qh5(c:CC)(F:Fr')(gO gF:Gh)(st:St)(D C:Addr)(ts:List T)(oC:Obj)(m:Str->Option Value)(s:Shared):Prop where
 I:Inv c F gF st s
 K:KeepF gO gF
 e:EntR c.w gF (.mine "#") (.ref D) (.list ts)
 nC:gF C=none
 at_:s.heap.get? C=some oC
 ns:NsO oC m
theorem qdh{st st4:St}{oL:Obj}{ts:List T}(I3:Inv c F g3 st s)(Z:ItO g3 it oi)(hb:c.base.get? it=none)(L:qlt g3 gC D C oL oC)(hE:F2.E.locals=C)(I4:Inv c F2 g4 st4 s')(S4:CSince D (gdrop gC it) g4)(A4:AccR c g4 D ts)(as:List Ans):
  ∃gF oC4 m4,qh5 c F (gdrop g3 it) gF ⟨st.env,st4.sg,as⟩ D C ts oC4 m4 s':=by
 obtain⟨bD,oD,vs,aD,L4,R4⟩:=A4
 have hk:∀{a k o},a≠it->g3 a=some (k,o)->gdrop g3 it a=some (k,o):=fun n e=>(k7 n).trans e
 have FO:FrR c.w (gdrop g3 it) F st.env:=I3.fr.but Z fun a k o n e=>hk n e
 have baseO:∀a o,c.base.get? a=some o->gdrop g3 it a=some (.still,o):=fun a o e=>hk (fun z=>by rw[z,hb] at e;exact j6 e) (I3.base a o e)
 have H4:Hp c (gdrop g4 D) st4.sg s':=I4.toHp.gdrop ⟨aD,fun ov=>by refine e11 L4 fun n zz1=>?_;clear L4;subst zz1;nofun⟩ bD (Heap.SameBut.refl _ _).extBut rfl rfl rfl
 have hO:∀{a k o},hide (gdrop g3 it) a=some (k,o)->a≠it∧hide g3 a=some (k,o):=fun {a k o} e=>by
  rcases og e with ⟨q,w⟩ | ⟨rfl,k',q,w⟩
  ·exact⟨(zv q).1,ju (zv q).2 w⟩
  ·exact⟨(zv q).1,wn (zv q).2 w⟩
 have hg1b:∀a k o,hide (gdrop g3 it) a=some (k,o)->gdrop (gdrop gC it) D a=some (k,o):=fun a k o e=>by
  refine e02 (hO e) fun n1 e1=>?_
  have nD:a≠D:=fun z=>by rw[z,uq L.nD] at e1;exact j6 e1
  exact(k7 nD).trans ((k7 n1).trans (L.keep e1))
 have d4:∀{a k o},a≠D->g4 a=some (k,o)->gdrop g4 D a=some (k,o):=fun n e=>(k7 n).trans e
 have sb:∀{a k o},gdrop (gdrop gC it) D a=some (k,o)->k = .still∨k = .froz∨k = .fdict->gdrop g4 D a=some (k,o):=fun {a k o} e z=>by
  refine e02 (zv e) fun n e=>?_
  exact d4 n ((S4 a _ o n e).1 z)
 have SB:StepS (gdrop (gdrop gC it) D) (gdrop g4 D):=⟨fun a o e=>sb e (.inl rfl),fun a o e=>sb e (.inr (.inl rfl)),fun a o e=>sb e (.inr (.inr rfl)),fun a i p o e=>by
  refine e02 (zv e) fun n e=>?_
  obtain⟨o',q⟩:=(S4 a _ o n e).2 i p rfl
  exact⟨o',d4 n q⟩⟩
 refine e03 (bi (c:=c) (g:=gdrop g3 it) (g1:=gdrop (gdrop gC it) D) (g2:=gdrop g4 D) (fun a o e=>hg1b a _ o e) (fun a k o e=>i12 o (hg1b a k o e) (fun z_=>rfl)) SB baseO H4) fun b1 b2 b3=>?_
 have nO:∀{a},g3 a=none->gdrop g3 it a=none:=fun {a} e=>by
  by_cases z:a=it
  ·exact if_pos z
  ·exact(k7 z).trans e
 have nBD:back (gdrop g3 it) (gdrop g4 D) D=none:=by
  unfold back
  exact rwg (nO L.nD)<|rwg (show gdrop g4 D D=none from if_pos rfl) rfl
 refine e21 I4.fr.loc fun oC4 mC4 Q=>?_
 have q1:g4 C=some (.frm,oC4):=hE▸Q.at_
 have nBC:back (gdrop g3 it) (gdrop g4 D) C=none:=by
  unfold back
  exact rwg (nO L.nC)<|rwg (d4 L.ne.symm q1) rfl
 have nst:∀{a k o},g4 a=some (k,o)->k ≠ .still->gdrop g4 D a=some (k,o):=fun e n=>d4 (fun z=>by(replace e:=z▸e;rewrite[aD] at e);replace e:=qd e;cases e;exact n rfl) e
 have m4:Mono g4 (gdrop g4 D):=⟨fun a o e=>nst e (jb rfl),fun a o e=>nst e (jb rfl),fun a i p o e=>⟨o,nst e (jb rfl)⟩⟩
 have hoD:s'.heap.get? D=some oD:=I4.fits.exact aD (jb rfl)
 have KF:KeepF (back (gdrop g3 it) (gdrop g4 D)) (jp (back (gdrop g3 it) (gdrop g4 D)) D (.mine "#" .main) oD):=KeepF.new nBD
 have fitF:Fits (jp (back (gdrop g3 it) (gdrop g4 D)) D (.mine "#" .main) oD) s'.heap:=b1.fits.upd _ (Heap.SameBut.refl _ _) hoD
 refine i31 _ oC4 mC4 ⟨⟨b1.turn fitF KF (yr nBD nofun) rfl rfl,I3.fs,(FO.keepF b2).keepF KF⟩,b2.trans KF,(i34 D oD vs rfl jf L4 ?_),(je L.ne.symm).trans nBC,I4.fits.exact q1 nofun,Q.ns⟩
 exact R4.all fun v t h=>Rep.mono KF.step.mono (b3 (r:=.val t) (h.mono m4))
end
theorem StepE.gone {g g3:Gh} {C:Addr} (S:StepE g g3) (n:g3 C=none) {k:Kd} {o:Obj} (e:g C=some (k,o)):∃p,k = .mine "#" p:=by
 have no3:∀{x},g3 C=some x->False:=fun q=>by rw[n] at q;exact j6 q
 induction k using Kd.casesOn with
 | still=>exact(no3 (S.still _ _ e)).elim
 | froz=>exact(no3 (S.froz _ _ e)).elim
 | fdict=>exact(no3 (S.fdict _ _ e)).elim
 | shr i p=>exact(no3 (S.shr _ _ _ _ e).choose_spec).elim
 | frm=>exact(no3 (S.frm _ _ e)).elim
 | cel x=>exact(no3 (S.cel _ _ _ e)).elim
 | mine x p=>
  by_cases hx:x="#"
  ·exact⟨p,by exact rwg hx rfl⟩
  ·exact((S.mine _ _ _ _ hx e).elim no3 no3).elim
section
variable {W:Cx}{f:Fns}{F:Fr'}{g:Gh}{st:St}{s:Shared}{Q:Ent->St->Prop}
structure qh6(W:Cx)(F:Fr')(g:Gh)(v:Value)(s1:Shared)(gF:Gh)(C:Addr)(oC:Obj)(m:Str->Option Value)(r:Ent)(st':St):Prop where
 I:Inv W.c F gF st' s1
 S:StepE g gF
 e:EntR W.c.w gF (.mine "#") v r
 nC:gF C=none
 gone:∀k o,g C=some (k,o)→∃p,k = .mine "#" p
 at_:s1.heap.get? C=some oC
 ns:NsO oC m
theorem q3f(H:Snd W f){elt gens sc2 pos}(h:oy f F.sc elt gens sc2 st Q)(I:Inv W.c F g st s){use:Option (Value->Sem Unit)}{K:Value->Shared->Prop}
  (k:∀v s1 gF C oC m r st',qh6 W F g v s1 gF C oC m r st'->Q r st'->∀x,compPost (model W.c.prog W.c.w) W.A no use K v C (.ok x) s1) :
  WP W (comprehension (.ListComp elt gens sc2 pos) sc2 F.E (firstIterPos gens pos) (newList []) (firstAsync gens) (firstIter gens F.E) use) K s:=by
 refine e12 (jd h) fun q h1 h2=>?_
 refine e02 (jj h2) fun h3 h4=>?_
 obtain rfl:=q7h h1
 have ok:=q9u h3
 refine e12 (ah (sc2:=sc2) (E:=F.E) fun x hx=>e41 (I.fr.cellOf I.fs ok hx) fun cc z_ z_ z_ Z=>⟨cc,Z.cell⟩) fun cl hcl G=>?_
 refine wpAny_comprehension_free (g:=⟨q.tg,q.it,[],0⟩) (gs:=q.more) (cl:=cl) rfl (q08 H h4) hcl ok.kind (fun x hx hl=>va ok.nd (by obtain⟨y,k⟩:=x;dsimp only at hl;subst hl;exact hx)) ?_
 refine(?_:WP W (qp q.it F.E) _ s)
 refine q3h H h4 I fun v s1 g1 items st1 I1 S1 z1 q1=>?_
 refine e12 (jd q1) fun cap h5 h6=>?_
 refine e42 (lf h6) fun ts env' sg' as' h7 h8=>?_
 refine c9 I1.toHp z1 fun it' g2 s2 K2 H2 hb h0 hit=>?_
 have I2:Inv W.c F g2 ⟨st1.env,st1.sg,[]⟩ s2:=⟨H2,I1.fs,I1.fr.keepF K2⟩
 refine e12 (q9d (xl sc2) I2) fun g3 I3 S3=>?_
 have hit3:=hit.mono S3.mono fun o e=>S3.still _ _ e
 refine e11 hit3.obj fun oi Z=>?_
 refine wpAny_newObj_type (wpAny_newFunctionEnv ok.nocell (fun z_ h=>absurd h j5) (fun h₁ hns₁ hsb₁=>?_) ok.kind)
 dsimp only at hns₁ hsb₁ ⊢
 refine e23 (qfw (s':={ s2 with heap:=h₁,toks:=s2.toks+([]:List (Str×Value)).length }) I3.toHp rfl hns₁ hsb₁ rfl rfl rfl) fun gC oC L HC hNC=>?_
 have hitlt:it'<s2.heap.objs.size:=Heap.lt_size (I3.fits.exact Z.at_ (jb rfl))
 have hitD:it'≠s2.heap.objs.size:=Nat.ne_of_lt hitlt
 have Fr:=q64 (env:=gm (xl sc2) st1.env) I3.fs I3.fr ok h5 G L.aC hNC fun a k o e=>L.keep e
 have IC:Inv W.c ⟨sc2,compEnvC sc2 cl (s2.heap.push { cls:=.type "list",dict:=none,data:=.seq ([]:List Value).toArray }).objs.size F.E⟩ gC ⟨frame sc2 (ofT cap),st1.sg,[]⟩ { s2 with heap:=h₁,toks:=s2.toks+([]:List (Str×Value)).length }:=⟨HC,Fr.1,Fr.2⟩
 have AC:AccR W.c gC s2.heap.objs.size []:=⟨I3.toHp.nobase L.nD,(i23 _ [] L.aD ⟨0,rfl⟩ .nil)⟩
 have mC:Mono g3 gC:=⟨fun a o e=>L.keep (ju e rfl),fun a o e=>L.keep (ju e rfl),fun a i p o e=>⟨o,L.keep (ju e rfl)⟩⟩
 have hitC:ItAt W.c.w gC it' items:=hit3.mono mC fun o e=>L.keep (ju e rfl)
 have hL:=q7a (F:=⟨sc2,compEnvC sc2 cl (s2.heap.push { cls:=.type "list",dict:=none,data:=.seq ([]:List Value).toArray }).objs.size F.E⟩) (gens:=⟨q.tg,q.it,[],0⟩::q.more) (d:=0) (scope:=sc2) (pos:=pos) (g0:=gdrop gC it') (ys:=ts)
  (K:=fun s'=>∀x,compPost (model W.c.prog W.c.w) W.A no use K (.ref s2.heap.objs.size) (s2.heap.push { cls:=.type "list",dict:=none,data:=.seq ([]:List Value).toArray }).objs.size (.ok x) s') H rfl rfl hb hitD (fun k o e=>absurd rfl (zv e).1)
  ⟨h7,IC,AC,rfl,fun a k o z_ e=>⟨fun z_=>(zv e).2,fun z_ z_ z_=>⟨o,(zv e).2⟩⟩,hitC⟩ (of_decide_eq_true h8.1) fun s' g4 I4 S4 A4 x=>by
   refine e31 (qdh I3 Z hb L rfl I4 S4 A4 as') fun gF oC4 m4 O=>?_
   have SO:=(K2.step.trans S3).gdrop h0
   exact k _ _ gF _ oC4 m4 _ _ ⟨O.I,(S1.trans SO).trans O.K.step,O.e,O.nC,fun k o e=>(S1.trans (K2.step.trans S3)).gone L.nC e,O.at_,O.ns⟩ h8.2 x
 refine codeAny_mono (dg rfl hL (iq HC hitC hL)) fun r s' q=>?_
 refine e11 q fun x zz1=>?_;clear q;refine e02 zz1 fun zz0 q=>?_;clear zz1;subst zz0
 exact q x
theorem q37(H:Snd W f){elt gens sc2 pos}(h:oy f F.sc elt gens sc2 st Q)(I:Inv W.c F g st s){K:Value->Shared->Prop}(k:KR W F g Q K):WP W (qp (.ListComp elt gens sc2 pos) F.E) K s:=by
 rw[eval_ListComp]
 exact q3f H h I (use:=none) fun v s1 gF C oC m r st' O q x=>i12 m (O.ns.at O.at_) (fun h' hs'=>k _ _ _ _ _ ⟨O.I.toHp.extBut O.nC hs'.extBut rfl rfl rfl,O.I.fs,O.I.fr⟩ O.S O.e q)
theorem q9t(H:Snd W f){elt gens sc2 pos}(h:oy f F.sc elt gens sc2 st Q)(I:Inv W.c F g st s){u:Value->Sem Unit}{K:Shared->Prop}
  (k:∀v s1 g1 C oC m r st',Inv W.c F g1 st' s1→StepE g g1→EntR W.c.w g1 (.mine "#") v r→Q r st'→g1 C=some (.still,oC)→NsO oC m→W.c.base.get? C=none→(∀k o,g C=some (k,o)→∃p,k = .mine "#" p) →
   WP W (u v) (fun z_ s2=>∃m,s2.heap.Ns C m∧∀h',Heap.SameBut C s2.heap h'->K { s2 with heap:=h' }) s1) :
  WP W (evalThenUse (.ListComp elt gens sc2 pos) F.E u) (fun z_ s'=>K s') s:=by
 refine(?_:wpAny _ _ (comprehension (.ListComp elt gens sc2 pos) sc2 F.E (firstIterPos gens pos) (newList []) (firstAsync gens) (firstIter gens F.E) (some u) >>= fun z_=>pure ()) _ _ _)
 refine qm (wpAny_mono (q3f H h I (use:=some u) (K:=fun z_ s'=>K s') fun v s1 gF C oC m r st' O q x=>?_) (fun z_ s' z=>qx z) fun z_ z_ z=>z)
 have KC:KeepF gF (jp gF C .still oC):=KeepF.new O.nC
 have fitC:Fits (jp gF C .still oC) s1.heap:=O.I.fits.upd _ (Heap.SameBut.refl _ _) O.at_
 exact k _ s1 _ C oC m r st' ⟨O.I.toHp.turn fitC KC (yr O.nC nofun) rfl rfl,O.I.fs,O.I.fr.keepF KC⟩ (O.S.trans KC.step) (O.e.mono KC.step.mono fun a p o e=>(je fun z=>by rw[z,O.nC] at e;exact j6 e).trans e) q jf O.ns (O.I.toHp.nobase O.nC) O.gone
end
section
variable {W:Cx}{f:Fns}{F:Fr'}{g:Gh}{st:St}{s:Shared}{Q:Fl->St->Prop}{K:Flow->Shared->Prop}
theorem q13(H:Snd W f){x xp e p}(h:q6j f F.sc x e st Q)(I:Inv W.c F g st s)(k:KS W F g Q K):WP W (PySem.exec (.Assign [.Name x xp] e p) F.E) K s:=by
 have h0:=h
 refine e02 (jj h) fun hl h=>?_
 induction hc:qkr e using qg with
 | false=>exact p0 H h0 I k (q98 (H.okR h) hc _ _)
 | true=>
  induction e using Expr.casesOn with
  | ListComp elt gens sc2 q=>
   obtain⟨b,hb⟩:∃b,swapsWith (.ListComp elt gens sc2 q) (some (.Name x xp)) p.line F.E=pure b:=⟨_,rfl⟩
   induction b using qg with
   | false=>exact p0 H h0 I k hb
   | true=>
    refine rwg (exec_Assign_Name_used _ _ _ _ hb) ?_
    refine qm (wpAny_standAt (qm ?_))
    refine wpAny_mono (H.comp (K:=fun s'=>K .next s') h I fun v s1 g1 C oC m r st1 I1 S1 z1 q1 hC hN hb' hg=>?_) (fun z_ s' z=>qx z) fun z_ z_ z=>z
    rw[arm_assign_Name]
    refine qm (wpAny_standAt (wpAny_bindName ?_))
    refine q0d I1 hl z1 fun g2 s2 I2 S2=>?_
    have hC2:=S2.still _ _ hC
    refine i12 m (hN.at (I2.fits.exact hC2 (jb rfl))) (fun h' hs'=>?_)
    have hne:∀a k o,a≠C->g2 a=some (k,o)->gdrop g2 C a=some (k,o):=fun a k o n e=>(k7 n).trans e
    have ZC:ItO g2 C oC:=⟨hC2,fun ov=>by refine e21 hN fun es ep zz2=>?_;clear hN;obtain⟨hd,_⟩:=zz2;refine rwg hd ?_;nofun⟩
    have S:=S1.s.trans S2
    have nC:∀{a k o},g a=some (k,o)→(∀p,k ≠ .mine "#" p)→a≠C:=fun {a k o} e n z=>by
     subst z
     refine e11 (hg _ _ e) fun p w=>?_
     exact n p w
    exact k _ _ (gdrop g2 C) .next _ ⟨I2.toHp.gdrop ZC hb' hs'.extBut rfl rfl rfl,I2.fs,I2.fr.but ZC hne⟩ ⟨fun a o e=>hne _ _ _ (nC e nofun) (S.still _ _ e),fun a o e=>hne _ _ _ (nC e nofun) (S.froz _ _ e),fun a o e=>hne _ _ _ (nC e nofun) (S.fdict _ _ e),fun a i p o e=>e11 (S.shr _ _ _ _ e) fun o' q=>⟨o',hne _ _ _ (nC e nofun) q⟩⟩ .next q1
  | _=>exact(jt hc).elim
end
theorem t7{b:Bool}(h:(!b)=true):b=false:=by rcases b with ⟨⟩ <;> first | rfl | exact(jt h).elim
theorem q6l{l:List Bool}(H:l.all id=true)(i:Nat){b:Bool}(h:l[i]? = some b):b=true:=qy.mp H b (List.mem_of_getElem? h)
noncomputable def qhb(d:wy):List Bool:=[d.args.posonlyargs.isEmpty,d.args.kwonlyargs.isEmpty,d.args.vararg.isNone,d.args.kwarg.isNone,decide (d.args.args.map (·.arg)=d.params),decide d.params.Nodup,d.defaults.isEmpty,
 decide (d.scope.kind = .function),!d.scope.isCoroutine,!d.scope.isGenerator,d.params.all fun x=>decide (d.scope.names.lookup x=some .local),d.scope.names.all fun p=>decide (p.2 ≠ .cell),
 decide (d.scope.names.map (·.1)).Nodup,decide (jc d.scope "__debug__"=none),decide (jc d.scope "#"=none),decide (jc d.scope "__classdict__"=none)]
theorem q83:(tellDef.any fun d=>(qhb d).all id)=true:=by decide +kernel
theorem xv{d:wy}(h:tellDef=some d)(i:Nat){b:Bool}(e:(qhb d)[i]? = some b):b=true:=by
 have:=q83
 rw[h] at this
 exact q6l this i e
theorem q8q{α:Type}{l:List α}(h:l.Nodup):l.reverse.Nodup:=by
 simp only [List.Nodup] at *
 rw[List.pairwise_reverse]
 exact h.imp fun q=>Ne.symm q
theorem qgl(x:Str):∀(l1 l2:List (Str×T)),jn x (ofT (l1++l2))=(jn x (ofT l1)).or (jn x (ofT l2)):=by
 intro l1
 induction l1 with
 | nil=>
  intro _
  exact rfl
 | cons zz r ih=>
  obtain⟨a,u⟩:=zz
  intro l2
  refine(?_:(if a=x then _ else jn x (ofT (r++l2)))=(if a=x then _ else _:Option Ent).or _)
  by_cases q:a=x
  ·refine rwg (if_pos q)<|rwg (if_pos q) ?_;rfl
  ·refine rwg (if_neg q)<|rwg (if_neg q) ?_;exact ih l2
structure qk1(w:World)(g:Gh)(cs:List (Str×Addr))(x:Str)(t:T)(c:Addr)(o:Obj)(v:Value):Prop where
 l:cs.lookup x=some c
 at_:g c=some (.froz,o)
 d:o.data = .cell (some v)
 r:Rep w g v t
theorem RepC.get{w:World}{g:Gh}{cs:List (Str×Addr)}:∀{cap:List (Str×T)},RepC w g cs cap->∀{x:Str},x∈cap.map (·.1)->∃t c o v,jn x (ofT cap)=some (.val t)∧qk1 w g cs x t c o v:=by
 intro cap h
 refine RepC.ind (m:=fun cs cap=>∀{x:Str},x∈cap.map (·.1)->∃t c o v,jn x (ofT cap)=some (.val t)∧qk1 w g cs x t c o v) (fun hx=>absurd hx j5) (fun {y c o' v t cs cap} l k o h r ih x hx=>?_) h
 ·by_cases q:y=x
  ·subst q;exact i42 t _ _ _ (if_pos rfl) ⟨l,k,o,h⟩
  ·refine e42 (ih ((ql.mp hx).resolve_left (Ne.symm q))) fun t c o v e z=>?_
   exact i42 t c o v ((if_neg q).trans e) z
theorem q75{x:Str}{e:Ent}:∀{l:List (Str×T)},jn x (ofT l)=some e->x∈l.map (·.1):=by
 intro l
 induction l with
 | nil=>
  intro za0
  exact(j6 za0).elim
 | cons zz r ih=>
  obtain⟨y,u⟩:=zz
  intro h
  have h2:(if y=x then some (.val u) else jn x (ofT r))=some e:=h
  by_cases q:y=x
  ·refine rwl q ?_;exact .head _
  ·rw[if_neg q] at h2;exact .tail _ (ih h2)
section
variable {c:CC}{g g1:Gh}{sg sg':List SO}{s s1:Shared}{A:Around}{r:Ent}{f:Fns}
theorem q9y{td:wy}(hd:tellDef=some td){fd:FuncData}{cap:List (Str×T)}{vs:List Value}{ts:List T}{a:Addr}{oL:Obj}(hs:fd.scope=td.scope)(hv:EB c.w g1 (td.params.zip vs) (ofT (td.params.zip ts)))(hl:ts.length=td.params.length)(hl2:vs.length=td.params.length)
  (hc:cap.map (·.1)=xl td.scope) (hr:RepC c.w g1 fd.closure cap) (hL:g1 a=some (.frm,oL)) (hN:NsO oL fun x=>(td.params.zip vs).reverse.lookup x) {q:Str} {fu:Option Addr} {co:Value} :
  FrS ⟨td.scope,newEnv fd.scope a mainGlobals fd.closure q fu co none builtinsNs⟩∧FrR c.w g1 ⟨td.scope,newEnv fd.scope a mainGlobals fd.closure q fu co none builtinsNs⟩ (frame td.scope (ofT (td.params.zip ts++cap))):=by
 have o6:=of_decide_eq_true (xv hd 5 rfl)
 have o11:=fun x hx=>of_decide_eq_true (qy.mp (xv hd 10 rfl) x hx)
 have o13:=of_decide_eq_true (xv hd 12 rfl)
 have o15:=of_decide_eq_true (xv hd 14 rfl)
 have hkind:∀y,(newEnv fd.scope a mainGlobals fd.closure q fu co none builtinsNs).kindOf y=jc td.scope y:=fun y=>by delta Env.kindOf newEnv;dsimp only;refine rwg hs ?_;rfl
 have hzip:(td.params.zip ts).map (·.1)=td.params:=List.map_fst_zip (by refine rwg hl ?_;exact Nat.le_refl _)
 have hzip2:(td.params.zip vs).map (·.1)=td.params:=List.map_fst_zip (by refine rwg hl2 ?_;exact Nat.le_refl _)
 have hpar:∀{x e},jn x (ofT (td.params.zip ts))=some e->jc td.scope x=some .local:=fun he=>o11 _ (by have:=q75 he;rwa [hzip] at this)
 have hcap:∀{x e},jn x (ofT cap)=some e->jc td.scope x=some .free:=fun he=>va o13 (mem_freeNames.mp (by have:=q75 he;rwa [hc] at this))
 have look:∀{x e},jn x (frame td.scope (ofT (td.params.zip ts++cap)))=some e->jn x (ofT (td.params.zip ts))=some e∨jn x (ofT cap)=some e:=fun h=>by
  rw[yf,qgl] at h
  exact(Option.or_eq_some_iff.mp h).imp id fun z=>z.2
 refine⟨⟨by refine(?_:fd.scope.kind=_);refine rwg hs ?_;exact of_decide_eq_true (xv hd 7 rfl),rfl,rfl,of_decide_eq_true (xv hd 13 rfl),o15,of_decide_eq_true (xv hd 15 rfl),fun y k hk=>i12 k ((hkind y).trans hk) (.inl rfl)⟩,⟨?_,(i21 oL _ ⟨hL,hN,fun y e hy hk=>?_⟩),fun y hy=>?_⟩⟩
 ·induction z:jn ("#":Str) (frame td.scope (ofT (td.params.zip ts++cap))) using qe with
  | none=>rfl
  | some e=>rcases look z with z | z <;> exact(j6 (o15.symm.trans (by first | exact hpar z | exact hcap z))).elim
 ·have hk:jc td.scope y=some .local:=(hkind y).symm.trans hk
  rcases look hy with z | z
  ·refine e12 (hv y e z) fun v w1 w2=>?_
   exact i12 v (va (by refine rwg List.map_reverse<|rwg hzip2 ?_;exact q8q o6) (List.mem_reverse.mpr (mem_of_lookup w1))) w2
  ·have:=hcap z
   rw[hk] at this;exact nomatch this
 ·have hf:jc td.scope y=some .free:=by
   rcases hy with z | z
   ·exact absurd ((hkind y).symm.trans z) fun w=>of_decide_eq_true (qy.mp (xv hd 11 rfl) _ (mem_of_lookup w)) rfl
   ·exact(hkind y).symm.trans z
  refine e42 (hr.get (by rewrite[hc];exact mem_freeNames.mpr (mem_of_lookup hf))) fun t cc o v e1 Z=>?_
  refine i41 cc .froz o (some v) ⟨Z.l,Z.at_,Z.d,.inr (.inr rfl),fun w=>absurd hf w,fun e he=>?_⟩
  rcases look he with w | w
  ·have:=hpar w
   rw[hf] at this;exact nomatch this
  ·rw[e1] at w
   obtain rfl:=qd w
   exact i13 v rfl Z.r (fun z_=>⟨t,rfl⟩)
theorem Hp.newFrm{h':Heap}{m:Str->Option Value}{o0:Obj}{k:Nat}(H:Hp c g sg s)(hns:h'.Ns s.heap.objs.size m)(hsb:Heap.SameBut s.heap.objs.size (s.heap.push o0) h'):
  ∃oL,Hp c (jp g s.heap.objs.size .frm oL) sg { s with heap:=h',toks:=k }∧NsO oL m:=by
 refine e12 (gz hns) fun oL q1 q2=>?_
 have e:=H.fits.new
 refine i12 oL (H.turn (fun b k o z=>?_) (KeepF.new e) (yr e (fun z_ z_=>jb rfl)) rfl rfl) q2
 by_cases w:b=s.heap.objs.size
 ·(replace z:=w▸z;replace z:=jf▸z);replace z:=qd z;cases z;exact i12 _ (w▸q1) rfl
 ·rw[je w] at z
  refine e12 (H.fits b k o z) fun o' w1 w2=>?_
  exact i12 o' (hsb.extBut b o' w (qw _ w1)) w2
theorem q6f(hS:∀E,Snd ⟨c,A.deeper E⟩ f)(hroom:A.depth<recursionLimit){cap:List (Str×T)}{ts:List T}{as:List Ans}(h:aj f cap ts sg as fun r' st=>Done r r' sg' st.sg st.as){fv:Value}{vs:List Value}(I:Hp c g sg s)(hf:Rep c.w g fv (.clo cap))(hv:RepL c.w g vs ts):
  codeAny (model c.prog c.w) A (.call fv ⟨vs,[]⟩) (lj c g sg' r) s:=by
 refine xh h fun d hd h1=>xh h1 fun l hl h2=>?_
 have B:=zx hl
 have hde:d.defaults=[]:=List.isEmpty_iff.mp (xv hd 6 rfl)
 have hlen:=hv.len
 have hts:ts.length=d.params.length:=Nat.le_antisymm B.le (by have:=B.ge;rw[hde] at this;exact this)
 have hvs:=hlen.trans hts
 obtain rfl:l=d.params.zip ts:=by exact rwg B.l<|rwg hde<|rwg List.drop_nil<|rwg (List.append_nil _) rfl
 cases hf with
 | @clo a cd o oc fd _ a1 a2 a3 a4 a5 a6 a7=>
  obtain⟨⟨d',e1,e2,e3,e4⟩,f2,f3,f4,f5,f6,f7⟩:=a3
  obtain rfl:=qd (hd.symm.trans e1)
  have ho:=I.fits.exact a1 (jb rfl)
  refine e22 a5 fun cvs ct c1 c2=>?_;clear a5
  have hcode:s.heap.CodeRec fd.code fd.qualname:=i44 cd oc cvs ct f6 (I.fits.exact a4 (jb rfl)) c1 c2
  have B:=ao (s:=s) (fd:=fd) (vs:=vs) (ds:=[]) (ps:=d.params) (by refine rwg e4 ?_;exact List.isEmpty_iff.mp (xv hd 0 rfl)) (by refine rwg e4 ?_;exact List.isEmpty_iff.mp (xv hd 1 rfl)) (by refine rwg e4 ?_;exact vw (xv hd 2 rfl)) (by refine rwg e4 ?_;exact vw (xv hd 3 rfl)) (by refine rwg e4 ?_;exact of_decide_eq_true (xv hd 4 rfl)) (of_decide_eq_true (xv hd 5 rfl)) (by
   refine rwg f4 ?_
   intro M A Er Q hq
   exact qm (qx (qx (hq none rfl)))) (Nat.le_of_eq hvs) (Nat.le_of_eq hvs.symm) (Nat.zero_le _)
  rw[List.drop_nil,List.append_nil] at B
  have hzip2:(d.params.zip vs).map (·.1)=d.params:=List.map_fst_zip (by refine rwg hvs ?_;exact Nat.le_refl _)
  refine codeAny_call_function hroom ho a2 (by refine rwg e3 ?_;exact t7 (xv hd 8 rfl)) (by refine rwg e3 ?_;exact t7 (xv hd 9 rfl)) e2 hcode (B _ _ _ _ ?_)
  refine rwg f2<|rwg f3 ?_
  refine wpAny_newFunctionEnv (by refine rwg e3 ?_;exact fun x hx=>of_decide_eq_true (qy.mp (xv hd 11 rfl) x hx)) (fun x hx=>?_) (fun h' hns hsb=>?_) (by refine rwg e3 ?_;exact of_decide_eq_true (xv hd 7 rfl))
  ·refine rwg e3 ?_
   exact of_decide_eq_true (qy.mp (xv hd 10 rfl) x.1 (hzip2▸List.mem_map_of_mem hx))
  ·refine⟨I.here.nolimit.keeps fun b o e=>hsb.extBut b o (Nat.ne_of_lt (Heap.lt_size e)) (qw _ e),codeAny_func ?_⟩
   refine e12 (I.hide.newFrm (k:=s.toks+(d.params.zip vs).length) hns hsb) fun oL H1 N1=>?_
   have hnew:hide g s.heap.objs.size=none:=I.hide.fits.new
   have gk:∀{a k o},hide g a=some (k,o)->jp (hide g) s.heap.objs.size .frm oL a=some (k,o):=fun {a k o} e=>(je fun z=>by rw[z,hnew] at e;exact j6 e).trans e
   have m:Mono (hide g) (jp (hide g) s.heap.objs.size .frm oL):=(KeepF.new hnew).step.mono
   refine e02 (q9y hd e3 (EB.ofT ((hv.mono (zf g)).mono m)) hts hvs (a6.trans (by exact rwg e3 rfl)) ((a7.mono (zf g)).mono m) jf N1 (q:=fd.qualname++".<locals>.") (fu:=some a) (co:=fd.code)) fun F1 F2=>?_
   refine nf (xy (W:=⟨c,A.deeper _⟩) (F:=⟨d.scope,_⟩) (hS _) h2 ⟨H1,F1,F2⟩ fun fl s2 g2 fl2 st2 I2 S2 z2 q2=>?_)
   refine xh q2 fun r2 h3 h4=>?_
   refine e02 h4.st fun zz0 zz1=>?_;subst zz0;subst zz1
   cases z2 with
   | next=>exact(j6 h3).elim
   | ret z=>
    obtain rfl:=qd h3
    exact gx I (fun a k o e=>gk e) S2 I2.toHp z
end
theorem qb6{α:Type}{l:List α}{i:Nat}{a:α}(h:l[i]? = some a):l.set i a=l:=by
 apply List.ext_getElem?
 intro j
 by_cases q:i=j
 ·subst q
  exact rwg (List.getElem?_set_self (q0x h))<|rwg h rfl
 ·exact rwg (List.getElem?_set_ne q) rfl
structure qab(fd:FuncData)(params:Arguments)(fbody:FuncBody)(scope:Scope)(clos:List (Str×Addr))(q:Str)(c':Addr):Prop where
 body:fd.body=fbody
 scope:fd.scope=scope
 params:fd.params=params
 globals:fd.globals=mainGlobals
 builtins:fd.builtins=builtinsNs
 defaults:fd.defaults = .none
 kwdefaults:fd.kwdefaults = .none
 code:fd.code = .ref c'
 qual:fd.qualname=q
 closure:fd.closure=clos
structure q1t(g:Gh)(f c':Addr)(fd:FuncData)(oc:Obj)(q:Str):Prop where
 f:g f=some (.froz,{ cls:=.type "function",data:=.func fd })
 c:g c'=some (.froz,oc)
 is:aw oc q
theorem ShrK.new{g g':Gh}{i:Nat}{a:Addr}{k:Kd}{o:Obj}(K:ShrK g g' i)(n:g' a=none)(hk:∀j p,k ≠ .shr j p):ShrK g (jp g' a k o) i:=by
 have ke:∀{b kk oo},g' b=some (kk,oo)->jp g' a k o b=some (kk,oo):=fun q=>(je fun w=>by rw[w,n] at q;exact j6 q).trans q
 have inv:∀{b j p oo},jp g' a k o b=some (.shr j p,oo)->g' b=some (.shr j p,oo):=fun {b j p oo} q=>by
  by_cases w:b=a
  ·(replace q:=w▸q;replace q:=jf▸q);exact absurd (congrArg Prod.fst (qd q)) (hk _ _)
  ·rw[je w] at q;exact q
 exact⟨fun b kk oo q n1 n2=>ke (K.keep b kk oo q n1 n2),fun b p oo q=>e11 (K.shr b p oo q) fun o' q'=>⟨o',ke q'⟩,fun b j oo q=>K.main b j oo (inv q),fun b j p oo q=>K.old b j p oo (inv q)⟩
section
variable {c:CC}{F:Fr'}{g:Gh}{s:Shared}{st:St}{Q:Value->Shared->Prop}{i:Nat}{oT:Obj}
noncomputable abbrev KM(c:CC)(F:Fr')(g:Gh)(st:St)(i:Nat)(params:Arguments)(fbody:FuncBody)(scope:Scope)(clos:List (Str×Addr))(Q:Value->Shared->Prop):Prop:=
 ∀f fd c' oc s' g',Inv c F g' st s'->KeepF g g'->qab fd params fbody scope clos (k8 i) c'->q1t g' f c' fd oc (k8 i)->Q (.ref f) s'
theorem q2m{params:Arguments}{fbody:FuncBody}{scope:Scope}{clos:List (Str×Addr)}(I:Inv c F g st s)(k:KM c F g st i params fbody scope clos Q){fd:FuncData}{b:Addr}{oc:Obj}{h':Heap}{tk:Nat}(hm:qab fd params fbody scope clos (k8 i) b)(h1:g b=some (.froz,oc))(h2:aw oc (k8 i))
  (keep:∀b o,s.heap.get? b=some o→h'.get? b=some o) (hs:s.heap.objs.size≤h'.objs.size):Q (.ref h'.objs.size) { s with heap:=h'.push { cls:=.type "function",data:=.func fd },toks:=tk }:=by
 have e:g h'.objs.size=none:=I.fits.no (Heap.get?_none_of_le hs)
 have K:KeepF g (jp g h'.objs.size .froz { cls:=.type "function",data:=.func fd }):=KeepF.new e
 refine k _ fd b oc _ _ (I.turn (fun a k o q=>?_) K (yr e (fun z_ z_=>jb rfl)) rfl rfl) K hm ⟨jf,K.step.froz _ _ h1,h2⟩
 by_cases z:a=h'.objs.size
 ·(replace q:=z▸q;replace q:=jf▸q);replace q:=qd q;cases q;exact i12 _ (z▸Heap.get?_push_size _ rfl) rfl
 ·rw[je z] at q
  refine e12 (I.fits a k o q) fun o' q1 q2=>?_
  exact i12 o' (qw _ (keep _ _ q1)) q2
theorem ik{params:Arguments}{fbody:FuncBody}{scope:Scope}{clos:List (Str×Addr)}(I:Inv c F g st s)(k:KM c F g st i params fbody scope clos Q)(ht:st.sg[i]? = some .tab)(t1:g (vp i)=some (.shr i .main,oT)){fd:FuncData}{c':Addr}{h':Heap}{tk:Nat}(hm:qab fd params fbody scope clos (k8 i) c')
  (hx:Heap.ExtBut (vp i) s.heap h') (hge:s.heap.objs.size≤c') (hlt:c'<h'.objs.size) (hrec:h'.CodeRec (.ref c') (k8 i)) (htab:h'.get? (vp i)=some (tabObj (#[]++#[rawInt (zn i).line,rawInt (zn i).col,.ref c']))) :
  Q (.ref h'.objs.size) { s with heap:=h'.push { cls:=.type "function",data:=.func fd },toks:=tk }:=by
 refine e44 hrec fun c₂ oc vs t e2 hoc hd hv=>?_;clear hrec
 replace e2:=Value.ref.inj e2;cases e2
 replace htab:=Array.empty_append▸htab
 have nc:g c'=none:=I.fits.no (Heap.get?_none_of_le hge)
 have nf:g h'.objs.size=none:=I.fits.no (Heap.get?_none_of_le (qr hge (j4 hlt)))
 have hTc:vp i≠c':=fun z=>by(replace t1:=z▸t1;replace t1:=nc▸t1);exact j6 t1
 have hTf:vp i≠h'.objs.size:=fun z=>by(replace t1:=z▸t1;replace t1:=nf▸t1);exact j6 t1
 have hcf:c'≠h'.objs.size:=Nat.ne_of_lt hlt
 have hfree:({ cls:=.type "function",data:=.func fd }:Obj).isFreed=false:=rfl
 have hci:aw oc (k8 i):=i22 vs t hd hv
 have kk:=k h'.objs.size fd c' oc { s with heap:=h'.push { cls:=.type "function",data:=.func fd },toks:=tk }
 generalize hfo:({ cls:=.type "function",data:=.func fd }:Obj)=fo at hfree kk ⊢
 have g1:Fits (jp (jp (jp g (vp i) (.shr i .main) (tabObj #[rawInt (zn i).line,rawInt (zn i).col,.ref c'])) c' .froz oc) h'.objs.size .froz fo) (h'.push fo):=fun a kd o e=>by
  by_cases z1:a=h'.objs.size
  ·(replace e:=z1▸e;replace e:=jf▸e);replace e:=qd e;cases e;exact i12 _ (z1▸Heap.get?_push_size _ hfree) rfl
  ·rw[je z1] at e
   by_cases z2:a=c'
   ·(replace e:=z2▸e;replace e:=jf▸e);replace e:=qd e;cases e;exact i12 _ (qw _ (z2▸hoc)) rfl
   ·replace e:=(je z2)▸e
    by_cases z3:a=vp i
    ·(replace e:=z3▸e;replace e:=jf▸e);replace e:=qd e;cases e;exact i12 _ (qw _ (z3▸htab)) rfl
    ·replace e:=(je z3)▸e
     refine e12 (I.fits a kd o e) fun o' q1 q2=>?_
     exact i12 o' (qw _ (hx _ _ z3 q1)) q2
 have gT:jp (jp (jp g (vp i) (.shr i .main) (tabObj #[rawInt (zn i).line,rawInt (zn i).col,.ref c'])) c' .froz oc) h'.objs.size .froz fo (vp i)=some (.shr i .main,tabObj #[rawInt (zn i).line,rawInt (zn i).col,.ref c']):=(je hTf).trans ((je hTc).trans jf)
 have KS:=(ShrK.at (o':=tabObj #[rawInt (zn i).line,rawInt (zn i).col,.ref c']) t1)
 have nc2:jp g (vp i) (.shr i .main) (tabObj #[rawInt (zn i).line,rawInt (zn i).col,.ref c']) c'=none:=(je hTc.symm).trans nc
 have nf2:jp (jp g (vp i) (.shr i .main) (tabObj #[rawInt (zn i).line,rawInt (zn i).col,.ref c'])) c' .froz oc h'.objs.size=none:=(je hcf.symm).trans ((je hTf.symm).trans nf)
 have K3:=(KS.new nc2 (o:=oc) (k:=.froz) (fun z_ z_=>jb rfl)).new nf2 (o:=fo) (k:=.froz) (fun z_ z_=>jb rfl)
 have H':=Hp.shrTurn (so':=.tab) (s':={ s with heap:=h'.push fo,toks:=tk }) I.toHp K3 (I.sig.lt _ _ _ _ t1) g1 (i12 (vp i) rfl (i12 _ gT (.inr (i23 c' oc rfl ((je hcf).trans jf) hci))))
 rw[qb6 ht] at H'
 exact kk _ ⟨H',I.fs,I.fr.keepF K3.f⟩ K3.f hm (hfo▸⟨jf,(je hcf).trans jf,hci⟩)
theorem q79(I:Inv c F g st s)(ht:st.sg[i]? = some .tab){cd:Addr}(hcd:F.E.code = .ref cd)(hK:codeHdIn c.K cd (vp i)=true){name:Str}{params:Arguments}{fbody:FuncBody}{scope:Scope}{clos:List (Str×Addr)}{fl:Nat}
  (hcl:closureFor scope F.E=pure clos) (hP4:(4:Addr)≠vp i) (hPG:mainGlobals≠vp i) {M:Model} {A:Around} {Er:Value->Shared->Prop} (k:KM c F g st i params fbody scope clos Q) :
  wpAny M A (makeFunction name (k8 i) params fbody scope F.E [] [] [] (zn i) fl) Q Er s:=by
 refine e12 (I.sig.at_ i .tab ht) fun aT haT zz2=>?_;refine e12 zz2 fun oT t1 t2=>?_;clear zz2
 subst haT
 refine e11 I.here.g fun mg hmg=>?_
 refine e14 I.here.bm fun ob b1 b2 b3 b4=>?_
 have hbi:mg "__builtins__"=some (.ref 4):=mg_of I.X hmg (beq_iff_eq.mp (c.kf.at 0 rfl))
 have hb:s.heap.BuiltinsAt mg (vp i):=i28 4 ob hbi (by decide) (by decide) hP4 b1 b2 b3 b4
 have C:=codeHd_of_K I.X hK
 have hT:=I.fits.exact t1 (jb rfl)
 have am:∀{b:Addr},codeAmong (zn i) (#[rawInt (zn i).line,rawInt (zn i).col,Value.ref b]:Array Value).toList=some (.ref b):=fun {b}=>by
  refine(?_:(if ((_:Int)==_&&(_:Int)==_)=true then _ else _)=_)
  exact rwg (if_pos (by simp)) rfl
 induction fbody using FuncBody.casesOn with
 | stmts b=>
  rcases t2 with rfl | ⟨b',oc,rfl,q1,q2⟩
  ·exact makeFunction_K (mg:=mg) hcl I.fs.glob hmg hcd C hT trivial rfl hPG hb fun c' ctv doc h' tk hx hge hlt hrec htab=>ik I k ht t1 ⟨rfl,rfl,rfl,rfl,rfl,rfl,rfl,rfl,rfl,rfl⟩ hx hge hlt hrec htab
  ·exact makeFunction_hit (mg:=mg) hcl I.fs.glob hmg hcd C hT trivial am hb fun ctv doc h' tk keep hs=>q2m I k ⟨rfl,rfl,rfl,rfl,rfl,rfl,rfl,rfl,rfl,rfl⟩ q1 q2 keep hs
 | expr b=>
  rcases t2 with rfl | ⟨b',oc,rfl,q1,q2⟩
  ·exact kla_makeFunction (mg:=mg) hcl I.fs.glob hmg hcd C hT trivial rfl hPG hb fun c' ctv h' tk hx hge hlt hrec htab=>ik I k ht t1 ⟨rfl,rfl,rfl,rfl,rfl,rfl,rfl,rfl,rfl,rfl⟩ hx hge hlt hrec htab
  ·exact kla_makeFunctionHit (mg:=mg) hcl I.fs.glob hmg hcd C hT trivial am hb fun ctv h' tk keep hs=>q2m I k ⟨rfl,rfl,rfl,rfl,rfl,rfl,rfl,rfl,rfl,rfl⟩ q1 q2 keep hs
end
noncomputable def ja(g:Str):wy:=(wx g).getD ⟨default,[],[],[],default⟩
noncomputable def tdef:wy:=tellDef.getD (ja "law")
noncomputable def qaw(g:Str)(i:Nat):Stmt:=(ja g).body.getD i (.Pass default)
theorem tell_is:tellDef=some tdef:=by kernel_rfl
theorem teller_is:wx "_law_teller"=some (ja "_law_teller"):=by kernel_rfl
theorem q24:(ja "_law_teller").body=[.FunctionDef "_law_tell" tdef.args tdef.body [] none [] tdef.scope none "_law_tell" q6t,qaw "_law_teller" 1]:=by kernel_rfl
theorem q41(E:Env):(annTrees tdef.args none E,tdef.args.defaults,tdef.args.kw_defaults)=([],[],[]):=by kernel_rfl
theorem mq:jc (ja "_law_teller").scope "_law_tell"=some .local:=by kernel_rfl
theorem mr:((xl tdef.scope).all fun x=>decide (jc (ja "_law_teller").scope x=some .cell))=true:=by kernel_rfl
theorem wf(sc:Scope)(x:Str):jc (la sc) x=(jc sc x).map fun k=>if k = .cell then .free else k:=by
 delta jc la
 dsimp only
 generalize sc.names=l
 induction l with
 | nil=>rfl
 | cons p r ih=>
  obtain⟨y,k⟩:=p
  refine rwg qv<|rwg List.lookup_cons<|rwg List.lookup_cons ?_
  dsimp only
  by_cases q:x=y
  ·subst q;refine rwg (beq_self_eq_true _) ?_;rfl
  ·refine rwg (beq_eq_false_iff_ne.mpr q) ?_;exact ih
noncomputable def celfrz(g:Gh):Gh:=fun a=>match g a with
 | some (.cel _,o)=>some (.froz,o)
 | r=>r
theorem xk{g:Gh}{a:Addr}{k:Kd}{o:Obj}(e:g a=some (k,o))(h:∀x,k ≠ .cel x):celfrz g a=some (k,o):=by
 unfold celfrz;refine rwg e ?_
 induction k using Kd.casesOn with
 | cel x=>exact absurd rfl (h x)
 | _=>rfl
theorem mh{g:Gh}{a:Addr}{x:Str}{o:Obj}(e:g a=some (.cel x,o)):celfrz g a=some (.froz,o):=by unfold celfrz;exact rwg e rfl
theorem ai{g:Gh}{a:Addr}{k:Kd}{o:Obj}(e:celfrz g a=some (k,o)):g a=some (k,o)∨∃x,k = .froz∧g a=some (.cel x,o):=by
 induction q:g a using qe with
 | none=>unfold celfrz at e;replace e:=q▸e;exact(j6 e).elim
 | some p=>
  obtain⟨k',o'⟩:=p
  by_cases h:∃x,k' = .cel x
  ·refine e11 h fun x zz1=>?_;clear h;subst zz1
   rw[mh q] at e;replace e:=qd e;cases e;exact .inr (i12 x rfl rfl)
  ·rw[xk q fun x z=>h ⟨x,z⟩] at e;exact .inl e
theorem ud(g:Gh):StepS g (celfrz g):=⟨fun a o e=>xk e (fun z_=>jb rfl),fun a o e=>xk e (fun z_=>jb rfl),fun a o e=>xk e (fun z_=>jb rfl),fun a i p o e=>⟨o,xk e (fun z_=>jb rfl)⟩⟩
section
variable {c:CC}{F:Fr'}{g:Gh}{sg sg':List SO}{s:Shared}{A:Around}{st:St}{r:Ent}{f:Fns}
theorem Inv.celfrz(I:Inv c F g st s)(hE:F.E.scope=F.sc)(hv:∀x e,jn x st.env=some e->∃t,e = .val t):Inv c ⟨la F.sc,F.E⟩ (Mine.celfrz g) st s:=by
 have S:=ud g
 have ent:∀{x e v},jn x st.env=some e->EntR c.w g (.mine x) v e->EntR c.w (Mine.celfrz g) (.mine x) v e∧∃t,e = .val t:=fun {x e v} he z=>by
  obtain⟨t,rfl⟩:=hv x e he
  exact⟨Rep.mono S.mono z,t,rfl⟩
 refine⟨I.toHp.same (fun a k o e=>?_) S.still S.mono fun a i p o=>⟨fun e=>xk e (fun z_=>jb rfl),fun e=>?_⟩,⟨I.fs.kind,I.fs.glob,I.fs.blt,?_,?_,?_,fun x k hk=>?_⟩,I.fr.tmp,?_,fun x hx=>?_⟩
 ·rcases ai e with q | ⟨x,rfl,q⟩
  ·exact I.fits a k o q
  ·exact i12 o (I.fits.exact q (jb rfl)) rfl
 ·rcases ai e with q | ⟨x,q,_⟩
  ·exact q
  ·exact Kd.noConfusion q
 ·refine rwg (wf _ _)<|rwg I.fs.dbg ?_;rfl
 ·refine rwg (wf _ _)<|rwg I.fs.hsh ?_;rfl
 ·refine rwg (wf _ _)<|rwg I.fs.cdict ?_;rfl
 ·rw[wf] at hk
  refine e12 (Option.map_eq_some_iff.mp hk) fun k0 h0 zz2=>?_;subst zz2
  refine e12 (I.fs.names x k0 h0) fun k' h1 h2=>?_
  refine i12 k' h1 ?_
  by_cases z:k0 = .cell
  ·refine rwg (if_pos z) ?_
   exact .inr ⟨rfl,h2.elim (·.trans z) (·.2)⟩
  ·refine rwg (if_neg z) ?_;exact h2
 ·refine e21 I.fr.loc fun o m L=>?_
  exact i21 o m ⟨xk L.at_ (fun z_=>jb rfl),L.ns,fun x e hx hl=>e12 (L.ent x e hx hl) fun v q1 q2=>i12 v q1 (ent hx q2).1⟩
 ·refine e41 (I.fr.cel x hx) fun cc k o ov C=>?_
  have mk:∀{k'},k' = .still∨k' = .froz->Mine.celfrz g cc=some (k',o)->jc (la F.sc) x=some .free->∃c' k' o' ov',qac c.w (Mine.celfrz g) ⟨la F.sc,F.E⟩ st.env x c' k' o' ov':=fun hk' e hf=>
   (i41 cc _ o ov ⟨C.cell,e,C.data,.inr hk',fun z=>absurd hf z,fun e he=>e13 (C.ent e he) fun v a b z_=>i13 v a (ent he b).1 (fun z_=>(ent he b).2)⟩)
  have hf:jc F.sc x=some .cell∨jc F.sc x=some .free->jc (la F.sc) x=some .free:=fun z=>by refine rwg (wf _ _) ?_;rcases z with z | z <;> rw[z] <;> rfl
  have hx:jc F.sc x=some .cell∨jc F.sc x=some .free:=by unfold Env.kindOf at hx;replace hx:=hE▸hx;exact hx
  rcases C.kd with q | q | q
  ·exact mk (.inr rfl) (mh (q▸C.at_)) (hf hx)
  ·exact mk (.inl rfl) (xk (q▸C.at_) (fun z_=>jb rfl)) (hf hx)
  ·exact mk (.inr rfl) (xk (q▸C.at_) (fun z_=>jb rfl)) (hf hx)
theorem q09{K:Frag}{a cd:Addr}{q:Str}(h:q1k K a cd q=true){cl:Value}{di:Option Addr}{sl:Array (Option Value)}{fd:FuncData}(e:K.lookup a=some ⟨cl,di,.func fd,sl⟩):fd.qualname=q∧fd.code = .ref cd:=by
 unfold q1k at h
 rw[e] at h
 exact yz h fun h1 h2=>⟨of_decide_eq_true h1,beq_iff_eq.mp h2⟩
theorem qf8{w:World}{cs:List (Str×Addr)}{env:Loc}:∀{xs:List Str}{cap:List (Str×T)},zb xs env=some cap->(∀x t,x∈xs->jn x env=some (.val t)->∃c o v,qk1 w g cs x t c o v)->RepC w g cs cap:=by
 intro xs
 induction xs with
 | nil=>
  intro cap h _
  obtain rfl:=qd h;exact .nil
 | cons x xs ih=>
  intro cap h k
  refine e23 (wj h) fun t l h1 h2 zz4=>?_;subst zz4
  refine e31 (k x t (.head _) h1) fun c o v Z=>?_
  exact .cons Z.l Z.at_ Z.d Z.r (ih h2 fun y t hy hyt=>k y t (.tail _ hy) hyt)
theorem q1m{env:Loc}:∀{xs:List Str}{cap:List (Str×T)},zb xs env=some cap->cap.map (·.1)=xs:=by
 intro xs
 induction xs with
 | nil=>
  intro cap h
  obtain rfl:=qd h;rfl
 | cons x xs ih=>
  intro cap h
  refine e23 (wj h) fun t l h1 h2 zz4=>?_;subst zz4
  exact rwg qv<|rwg (ih h2) rfl
theorem qff{x:Str}{e:Ent}:∀{l:List (Str×T)},jn x (ofT l)=some e->∃t,e = .val t:=by
 intro l
 induction l with
 | nil=>
  intro za0
  exact(j6 za0).elim
 | cons zz r ih=>
  obtain⟨y,t⟩:=zz
  intro h
  have h2:(if y=x then some (.val t) else jn x (ofT r))=some e:=h
  by_cases q:y=x
  ·rw[if_pos q] at h2;exact⟨t,(qd h2).symm⟩
  ·rw[if_neg q] at h2;exact ih h2
end
theorem a_teller:w8 "_law_teller"=some 1281:=by decide +kernel
theorem iu{a b:Stmt}{E:Env}{M:Model}{A:Around}{K:Flow->Shared->Prop}{Er:Value->Shared->Prop}{s:Shared}(h:wpAny M A (PySem.exec a E) (fun f s'=>match f with | .next=>wpAny M A (PySem.exec b E) K Er s' | f=>K f s') Er s):wpAny M A (execs [a,b] E) K Er s:=by
 refine rwg (execs_cons _ _ _) ?_
 refine qm (wpAny_mono h (fun f s' z=>?_) fun z_ z_ x=>x)
 induction f using Flow.casesOn with
 | next=>
  refine rwg (execs_cons _ _ _) ?_
  refine qm (wpAny_mono z (fun f s' z=>?_) fun z_ z_ x=>x)
  rcases f with ⟨⟩ <;> first | exact qx z | exact wpAny_execs_nil z
 | _=>exact qx z
section
variable {c:CC}{F:Fr'}{g:Gh}{sg sg':List SO}{s:Shared}{A:Around}{st:St}{r:Ent}{f:Fns}
theorem ej{env env':Loc}(h:∀x,jn x env'=jn x env):∀{xs:List Str}{cap:List (Str×T)},zb xs env=some cap->zb xs env'=some cap:=by
 intro xs
 induction xs with
 | nil=>
  intro cap e
  exact e
 | cons x xs ih=>
  intro cap e
  refine e23 (wj e) fun t l h1 h2 zz4=>?_;subst zz4
  refine(?_:opt (jn x env') _=_)
  refine rwg (h _)<|rwg h1 ?_
  refine(?_:opt (zb xs env') _=_)
  refine rwg (ih h2) ?_;rfl
theorem qgt {g:Gh} {cap:List (Str×T)} {clos:List (Str×Addr)} {fa c':Addr} {fd:FuncData} {oc:Obj} (I:Inv c F g st s) (hs:F.sc=(ja "_law_teller").scope) (hk:∀x,F.E.kindOf x=jc F.sc x) (hcap:zb (xl tdef.scope) st.env=some cap) (hcl:n5 F.E tdef.scope.names [] clos)
  (hm:qab fd tdef.args (.stmts tdef.body) tdef.scope clos (k8 0) c') (ha:q1t g fa c' fd oc (k8 0)):Rep c.w (celfrz g) (.ref fa) (.clo cap):=by
 have cells:∀x∈xl tdef.scope,jc F.sc x=some .cell:=fun x hx=>by refine rwg hs ?_;exact of_decide_eq_true (qy.mp mr x hx)
 refine .clo (fd:=fd) (cd:=c') (oc:=oc) (xk ha.f nofun) rfl ⟨(i14 tdef tell_is hm.body hm.scope hm.params),hm.globals,hm.builtins,hm.defaults,hm.kwdefaults,hm.code,hm.qual⟩ (xk ha.c nofun) (by refine rwg hm.qual ?_;exact ha.is) (by refine rwg hm.scope ?_;exact q1m hcap) ?_
 refine rwg hm.closure ?_
 refine qf8 hcap fun x t hx hxt=>?_
 refine e41 (I.fr.cel x (.inl ((hk x).trans (cells x hx)))) fun cc k o ov Z=>?_
 refine e12 (Z.ent _ hxt) fun v zz1 zz2=>?_;subst zz1;obtain⟨z2,_⟩:=zz2
 obtain rfl:=Z.own (by refine rwg (cells x hx) ?_;nofun)
 exact⟨cc,o,v,wi (hcl.all x (mem_freeNames.mp hx)) (fun b hb=>by
  rcases hcl.inv x b hb with q | ⟨_,q⟩
  ·exact nomatch q
  ·exact qd (q.symm.trans Z.cell)),mh Z.at_,Z.data,Rep.mono (ud g).mono z2⟩
theorem q40 (hS:∀E,Snd ⟨c,A.deeper E⟩ f) (hroom:A.depth<recursionLimit) {ts:List T} {l:List (Str×T)} {as:List Ans} {vs:List Value} (hl:Mine.bindArgs (ja "_law_teller").params ts (ja "_law_teller").defaults=some l)
  (h:al f (ja "_law_teller") l sg as fun r' st=>Done r r' sg' st.sg st.as) (I:Hp c g sg s) (hv:RepL c.w g vs ts):codeAny (model c.prog c.w) A (.call (.ref 1281) ⟨vs,[]⟩) (lj c g sg' r) s:=by
 have B:=zx hl
 obtain rfl:=B.l
 have hv':=hv.mono (zf g)
 have hlen:=hv.len
 refine e8 h fun ht h1=>xh h1 fun td htd h2=>?_
 obtain rfl:=qd (tell_is.symm.trans htd)
 refine xh h2 fun cap hcap h3=>?_
 have h0:sg[0]? = some .tab:=by
  unfold f9 at ht
  induction q:sg[0]? using qe with
  | none=>replace ht:=q▸ht;exact(jt ht).elim
  | some o=>rw[q] at ht;rcases o with ⟨⟩ <;> first | rfl | exact(jt ht).elim
 refine fm I.hide (vc a_teller teller_is) hroom (env:=frame (ja "_law_teller").scope (Mine.ofT ((ja "_law_teller").params.zip (ts++(ja "_law_teller").defaults.drop ((ja "_law_teller").defaults.length-((ja "_law_teller").params.length-ts.length)))))) (by refine rwg hlen ?_;exact B.le) (by refine rwg hlen ?_;exact B.ge) (fun dv hdv=>EB.frame _ (EB.ofT ?_)) fun E g1 s1 I1 keep EO z_=>?_
 ·refine rwg hdv.len<|rwg hlen ?_
  exact hv'.app (hdv.drop _)
 refine e43 EO.src fun cl di sl fdd hlk hcode hqual=>?_
 obtain⟨hq,hcd⟩:=q09 (c.kf.at 1 rfl) hlk
 replace hcode:=hcd▸hcode
 have hk:∀x,E.kindOf x=jc (ja "_law_teller").scope x:=fun x=>by delta Env.kindOf jc;exact rwg EO.scope rfl
 have hqn:qualnameIn E "_law_tell" "_law_tell"=k8 0:=by
  unfold qualnameIn
  refine rwg (hk _)<|rwg mq<|rwg hqual<|rwg hq ?_
  decide +kernel
 obtain⟨clos,hcl,G⟩:=ah (sc2:=tdef.scope) (E:=E) fun x hx=>by
  refine e11 (I1.fr.cel x (.inl ((hk x).trans (of_decide_eq_true (qy.mp mr x (mem_freeNames.mpr hx)))))) fun cc zz1=>?_;obtain⟨_,_,_,Z⟩:=zz1
  exact⟨cc,Z.cell⟩
 have TP:=q41 E
 refine rwg q24 ?_
 refine iu (nestDef_K (E:=_) (congrArg (·.2.1) TP) (congrArg (·.2.2) TP) (congrArg (·.1) TP) ?_)
 refine rwg hqn ?_
 have hcap':zb (xl tdef.scope) (frame (ja "_law_teller").scope (Mine.ofT ((ja "_law_teller").params.zip (ts++(ja "_law_teller").defaults.drop ((ja "_law_teller").defaults.length-((ja "_law_teller").params.length-ts.length))))))=some cap:=ej (fun x=>yf x _ _) hcap
 generalize (ja "_law_teller").params.zip (ts++(ja "_law_teller").defaults.drop ((ja "_law_teller").defaults.length-((ja "_law_teller").params.length-ts.length)))=l at I1 h3 hcap hcap'
 refine q79 (i:=0) I1 h0 hcode (c.kf.at 2 rfl) hcl (by decide) (by decide) fun fa fdn c' oc s2 g2 I2 K2 hm ha=>?_
 have I3:=I2.celfrz EO.scope fun x e hx=>qff (by rw[yf] at hx;exact hx)
 refine y7 (e:=.val (.clo cap)) I3 (by refine rwg (wf _ _)<|rwg mq ?_;rfl) (qgt I2 rfl hk hcap' G hm ha) fun g4 s4 I4 S4=>?_
 refine nf ((hS E).exec (F:=⟨la (ja "_law_teller").scope,E⟩) h3 (I4.tell as) fun fl s5 g5 fl2 st5 I5 S5 z5 q5=>?_)
 refine xh q5 fun r2 h4 h5=>?_
 refine e02 h5.st fun zz0 zz1=>?_;subst zz0;subst zz1
 cases z5 with
 | next=>exact(j6 h4).elim
 | ret z=>
  obtain rfl:=qd h4
  exact gx I keep (((K2.step.s.trans (ud g2)).trans S4).trans S5) I5.toHp z
end
structure LamA where
 p1:Pos
 p2:Pos
 a:Arguments
 p3:Pos
 n4:Nat
 p4:Pos
 p5:Pos
 sc:Scope
 p7:Pos
 p8:Pos
 p9:Pos
noncomputable def LamA.body (q:LamA):qo:=.Subscript (.Name "row" q.p3) (.Constant (.int 1) q.n4 q.p4) q.p5
noncomputable def LamA.kw (q:LamA):Keyword:=⟨some "key",.Lambda q.a q.body q.sc q55,q.p7⟩
noncomputable def LamA.st (q:LamA):Stmt:=.Expr (.Call (.Attribute (.Name "rows" q.p1) "sort" q.p2) [] [q.kw] q.p8) q.p9
noncomputable def q91 (q:LamA):List Bool:=[q.a.posonlyargs.isEmpty,q.a.kwonlyargs.isEmpty,q.a.vararg.isNone,q.a.kwarg.isNone,q.a.defaults.isEmpty,q.a.kw_defaults.isEmpty,decide (q.a.args.map (·.arg)=[("row":Str)]),decide (q.sc.kind = .function),!q.sc.isCoroutine,!q.sc.isGenerator,
 decide (q.sc.names.lookup ("row":Str)=some .local),q.sc.names.all fun p=>decide (p.2 ≠ .cell),q.sc.names.all fun p=>decide (p.2 ≠ .free),q.p2.endLine==q.p8.line]
theorem qgq:∃q:LamA,qaw "class_supers" 5=q.st∧(q91 q).all id=true:=i12 ⟨_,_,_,_,_,_,_,_,_,_,_⟩ rfl rfl
section
variable {c:CC}{g:Gh}{sg:List SO}{s:Shared}{A:Around}
theorem qiz{q:LamA}(hq:(q91 q).all id=true)(hroom:A.depth<recursionLimit)(H:Hp c g sg s){f c':Addr}{oc:Obj}{fd:FuncData}{nm:Str}(hm:qab fd q.a (.expr q.body) q.sc [] nm c')(ha:q1t g f c' fd oc nm)
  {v:Value} {x:Str} {k:Int} (hv:Rep c.w g v (.tup [.str x,.int k])) {K:Value->Shared->Prop} (hK:∀h' tk t',(∀b o,s.heap.get? b=some o->h'.get? b=some o)->K (.int k t') { s with heap:=h',toks:=tk }) :
  wpAny (model c.prog c.w) A (call (.ref f) [v]) K no s:=by
 have o:=fun i {b} (h:(q91 q)[i]? = some b)=>q6l hq i h
 have ho:=H.fits.exact ha.f (jb rfl)
 refine e22 ha.is fun cvs ct c1 c2=>?_
 have hcode:s.heap.CodeRec fd.code fd.qualname:=i44 c' oc cvs ct hm.code (H.fits.exact ha.c (jb rfl)) c1 (by refine rwg hm.qual ?_;exact c2)
 have B:=ao (s:=s) (fd:=fd) (vs:=[v]) (ds:=[]) (ps:=[("row":Str)]) (by refine rwg hm.params ?_;exact List.isEmpty_iff.mp (o 0 rfl)) (by refine rwg hm.params ?_;exact List.isEmpty_iff.mp (o 1 rfl)) (by refine rwg hm.params ?_;exact vw (o 2 rfl)) (by refine rwg hm.params ?_;exact vw (o 3 rfl)) (by refine rwg hm.params ?_;exact of_decide_eq_true (o 6 rfl)) (by decide) (by
  refine rwg hm.defaults ?_
  intro M A Er Q hq
  exact qm (qx (qx (hq none rfl)))) (Nat.le_refl _) (Nat.le_refl _) (Nat.zero_le _)
 refine wpAny_call (kla_callFunE hroom ho rfl (by refine rwg hm.scope ?_;exact t7 (o 8 rfl)) (by refine rwg hm.scope ?_;exact t7 (o 9 rfl)) hm.body hcode (B _ _ _ _ ?_))
 refine(?_:wpAny _ _ (newFunctionEnv fd.scope fd.globals fd.closure [(("row":Str),v)] _ _ _ _ _) _ _ _)
 refine rwg hm.scope<|rwg hm.globals<|rwg hm.closure ?_
 refine wpAny_newFunctionEnv (fun y hy=>of_decide_eq_true (qy.mp (o 11 rfl) y hy)) (fun y hy=>?_) (fun h' hns hsb=>?_) (of_decide_eq_true (o 7 rfl))
 ·refine rwg (List.mem_singleton.mp hy) ?_;exact of_decide_eq_true (o 10 rfl)
 have keep:∀b o,s.heap.get? b=some o->h'.get? b=some o:=fun b o e=>hsb.extBut b o (Nat.ne_of_lt (Heap.lt_size e)) (qw _ e)
 refine⟨H.here.nolimit.keeps keep,kla_codeExpr ?_⟩
 refine e32 hv.tup_inv fun b ob vs zz3 C=>?_;subst zz3
 refine e11 (C.get H.fits) fun nn e0=>?_
 have r:=C.r
 cases r with
 | cons w1 w2=>
 cases w2 with
 | cons w3 w4=>
 cases w4
 refine e11 w3.int_inv fun tk zz1=>?_;subst zz1
 have hb:=keep _ _ e0
 refine wpAny_Subscript_Constant_late (wpAny_Name (wpAny_loadName_local (of_decide_eq_true (o 7 rfl)) (of_decide_eq_true (o 10 rfl)) hns rfl ?_) (by decide))
 refine wpAny_Constant_int ?_
 refine i23 "tuple" _ slot_tuple_getitem.lookup (i12 _ hb rfl) ?_
 exact PyProof.Rows.getItem_tuple (j:=1) (i13 _ hb rfl ⟨_,rfl⟩) (by decide) (by decide) (qb8 (by decide) (by(decide):(1:Int)<(2:Nat))) rfl (hK h' _ tk keep)
end
noncomputable def rn(h:Heap)(a L:Addr):List (Addr×Obj):=(List.range h.objs.size).filterMap fun(b:Nat)=>if b=a∨b=L then none else (h.get? b).map fun o=>(b,o)
set_option tactic.hygienic true in
theorem mem_allBut{h:Heap}{a L b:Addr}{o:Obj}:(b,o)∈rn h a L↔b≠a∧b≠L∧h.get? b=some o:=by
 unfold rn
 rw[List.mem_filterMap]
 constructor
 ·rintro⟨x,hx,he⟩
  split at he
  ·exact(j6 he).elim
  ·rename_i q
   refine e12 (Option.map_eq_some_iff.mp he) fun o' h1 h2=>?_
   cases h2
   exact i03 (fun z=>q (.inl z)) (fun z=>q (.inr z)) h1
 ·rintro⟨h1,h2,h3⟩
  refine i12 b (List.mem_range.mpr (Heap.lt_size h3)) ?_
  refine rwg (if_neg (by rintro(z | z);exact h1 z;exact h2 z))<|rwg h3 ?_;rfl
theorem RepL.perm{w:World}{g:Gh}{vs out:List Value}(p:vs.Perm out):∀{xs:List T},RepL w g vs xs->∃ys,RepL w g out ys∧ys.Perm xs:=by
 induction p with
 | nil=>intro xs h;cases h;exact i12 [] .nil .nil
 | cons x _ ih=>
  intro xs h
  cases h with
  | cons a r=>
   refine e12 (ih r) fun ys h1 h2=>?_
   exact i12 (_::ys) (.cons a h1) (h2.cons _)
 | swap x y l=>
  intro xs h
  cases h with
  | cons a r=>
   cases r with
   | cons b r=>exact i12 (_::_::_) (.cons b (.cons a r)) (.swap _ _ _)
 | trans _ _ ih1 ih2=>
  intro xs h
  refine e12 (ih1 h) fun ys h1 h2=>?_
  refine e12 (ih2 h1) fun zs h3 h4=>?_
  exact i12 zs h3 (h4.trans h2)
noncomputable def ft(p:Str×Int):T:=.tup [.str p.1,.int p.2]
theorem qf5{t:T}{p:Str×Int}(h:q4l t=some p):t=ft p:=by
 refine e12 (j9 h) fun xs h1 h2=>?_
 refine e12 (j9 h2) fun q h3 h4=>?_
 refine e12 (j9 h4) fun x h5 h6=>?_
 refine e12 (j9 h6) fun i h7 h8=>?_
 refine rwg (T.tup?_is h1)<|rwg (yo h3)<|rwg (T.str?_is h5)<|rwg (T.int?_is h7)<|rwl (qd h8) ?_;rfl
theorem i8:∀{xs:List T}{ks:List (Str×Int)},fb xs=some ks->xs=ks.map ft:=by
 intro xs
 induction xs with
 | nil=>
  intro ks h
  obtain rfl:=qd h;rfl
 | cons t r ih=>
  intro ks h
  refine e12 (j9 (by exact h:opt (q4l t) (fun p=>opt (fb r) fun l=>some (p::l))=some ks)) fun p h1 h2=>?_
  refine e12 (j9 h2) fun l h3 h4=>?_
  refine rwg (qf5 h1)<|rwg (ih h3)<|rwl (qd h4) ?_;rfl
section
variable {c:CC}{F:Fr'}{g:Gh}{s:Shared}{A:Around}{st:St}
theorem Inv.weaken(I:Inv c F g st s){env:Loc}(h:∀x e,jn x env=some e->jn x st.env=some e):Inv c F g ⟨env,st.sg,st.as⟩ s:=by
 refine⟨I.toHp,I.fs,?_,?_,fun x hx=>?_⟩
 ·induction q:jn "#" env using qe with
  | none=>rfl
  | some e=>exact(j6 (I.fr.tmp.symm.trans (h _ _ q))).elim
 ·refine e21 I.fr.loc fun o m L=>?_
  exact i21 o m ⟨L.at_,L.ns,fun x e hx hk=>L.ent x e (h _ _ hx) hk⟩
 ·refine e41 (I.fr.cel x hx) fun cc k o ov C=>?_
  exact i41 cc k o ov ⟨C.cell,C.at_,C.data,C.kd,C.own,fun e he=>C.ent e (h _ _ he)⟩
theorem qd8{x y:Str}{e e':Ent}(h:jn y [(x,some e)]=some e'):y=x∧e'=e:=by
 have h:(if x=y then some e else none)=some e':=h
 by_cases q:x=y
 ·rw[if_pos q] at h;exact⟨q.symm,(qd h).symm⟩
 ·rw[if_neg q] at h;exact(j6 h).elim
theorem Hp.sub{sg:List SO}{gT:Gh}{h:Heap}{tk:Nat}(H:Hp c g sg s)(inv:∀{a k o},gT a=some (k,o)->g a=some (k,o))(keep:∀{a k o},g a=some (k,o)->(∀x p,k ≠ .mine x p)->k ≠ .frm->gT a=some (k,o))(fit:Fits gT h):Hp c gT sg { s with heap:=h,toks:=tk }:=
 ⟨fit,H.gd,fun a o e=>keep (H.base a o e) nofun nofun,H.sig.mono ⟨fun a o e=>keep e nofun nofun,fun a o e=>keep e nofun nofun,fun a i p o e=>⟨o,keep e nofun nofun⟩⟩ fun a i p o=>⟨fun e=>keep e nofun nofun,inv⟩,H.gens,H.os⟩
noncomputable def oz(g:Gh)(l L:Addr):Gh:=fun b=>if b=l∨b=L then none else g b
theorem q06{l L b:Addr}{x:Kd×Obj}(e:oz g l L b=some x):b≠l∧b≠L∧g b=some x:=by
 by_cases z:b=l∨b=L
 ·rw[show oz g l L b=none from if_pos z] at e;exact(j6 e).elim
 ·exact i03 (fun w=>z (.inl w)) (fun w=>z (.inr w)) (by rw[show oz g l L b=g b from if_neg z] at e;exact e)
theorem q61{l L b:Addr}(h1:b≠l)(h2:b≠L):oz g l L b=g b:=if_neg fun z=>z.elim h1 h2
theorem Inv.frame{o o':Obj}{m:Str->Option Value}{s':Shared}(I:Inv c F g st s)(aL:g F.E.locals=some (.frm,o))(hf:Fits (jp g F.E.locals .frm o') s'.heap)(hN:NsO o' m)(hm:∀oL mL,qlr c.w g F st.env oL mL->∀x e,jn x st.env=some e->m x=mL x)(e2:s'.gens=s.gens)(e3:s'.os=s.os):
  Inv c F (jp g F.E.locals .frm o') st s'∧StepS g (jp g F.E.locals .frm o'):=by
 have kd:∀{b k o},g b=some (k,o)->k ≠ .frm->jp g F.E.locals .frm o' b=some (k,o):=fun e n=>(je fun z=>by(replace e:=z▸e;rewrite[aL] at e);replace e:=qd e;cases e;exact n rfl).trans e
 have S:StepS g (jp g F.E.locals .frm o'):=⟨fun b x q=>kd q (jb rfl),fun b x q=>kd q (jb rfl),fun b x q=>kd q (jb rfl),fun b i p x q=>⟨x,kd q (jb rfl)⟩⟩
 refine⟨⟨⟨hf,I.gd,fun b x q=>S.still _ _ (I.base b x q),I.sig.mono S.mono fun b i p x=>⟨fun e=>kd e (jb rfl),fun e=>?_⟩,e2.trans I.gens,e3.trans I.os⟩,I.fs,I.fr.tmp,?_,fun y hy=>?_⟩,S⟩
 ·by_cases z:b=F.E.locals
  ·(replace e:=z▸e;replace e:=jf▸e);exact nomatch e
  ·rw[je z] at e;exact e
 ·refine e21 I.fr.loc fun oL mL L=>?_
  refine i21 o' m ⟨jf,hN,fun y e hy hk=>?_⟩
  refine e12 (L.ent y e hy hk) fun v w1 w2=>?_
  exact i12 v ((hm oL mL L y e hy).trans w1) (w2.mono S.mono fun b p o e=>kd e (jb rfl))
 ·refine e41 (I.fr.cel y hy) fun cc k ob ov C=>?_
  exact i41 cc k ob ov ⟨C.cell,kd C.at_ (ur C.kd).2,C.data,C.kd,C.own,fun e he=>e13 (C.ent e he) fun v w1 w2 w3=>i13 v w1 (w2.mono S.mono fun b p o e=>kd e (jb rfl)) w3⟩
end
section
variable {c:CC}{F:Fr'}{g:Gh}{s:Shared}{A:Around}{sg:List SO}
theorem sx {xs:List T}:jn "rows" [(("rows":Str),some (.list xs))]=some (.list xs):=if_pos rfl
theorem q86 {q:LamA} (hq:(q91 q).all id=true) (hroom:A.depth<recursionLimit) (hh:A.handled=none) {xs:List T} {ks:List (Str×Int)} {vs:List Value} {m0:Nat} {l f c':Addr} {oc:Obj} {fd:FuncData} {nm:Str} (I:Inv c F g ⟨[(("rows":Str),some (.list xs))],sg,[]⟩ s) (hr:fb xs=some ks) (hlen:ks.length<64) (hkE:F.E.kindOf ("rows":Str)=some .local)
  (hm:qab fd q.a (.expr q.body) q.sc [] nm c') (ha:q1t g f c' fd oc nm) (at2:At F.E s.heap "rows" (.ref l)) (q1:g l=some (.mine "rows" .main,W.listOf vs.toArray m0)) (q3:RepL c.w g vs xs) {K:Value→Shared→Prop}
  (k:∀s' g' ys,Inv c F g' ⟨[(("rows":Str),some (.list ys))],sg,[]⟩ s'→StepS g g'→ys.Perm xs→K .none s') :
  wpAny (model c.prog c.w) A (call (.builtin "list.sort") [.ref l] [(("key":Str),.ref f)]) K no s:=by
 have hol2:=I.fits.exact q1 (jb rfl)
 refine e21 I.fr.loc fun oL m L=>?_
 have f1:=L.at_
 have hoL:=I.fits.exact f1 (jb rfl)
 have hlL:l≠F.E.locals:=fun z=>by(replace q1:=z▸q1;replace q1:=f1▸q1);exact nomatch q1
 have hxs:=i8 hr
 have hvl:vs.length=ks.length:=by exact rwg q3.len<|rwg hxs<|rwg (qi _) rfl
 refine wpAny_call_entry_kw PySem.F.slot_list_sort (i12 _ hol2 rfl) PySem.F.entry_list_sort ?_ (ksk_l1 _ _)
 refine(?_:wpAny _ _ (ksk_tree l (.ref f) false) _ _ _)
 have ne:∀{b k o},g b=some (k,o)->(∀x p,k ≠ .mine x p)->k ≠ .frm->b≠l∧b≠F.E.locals:=fun {b k o} e h1 h2=>⟨fun z=>by(replace e:=z▸e;rewrite[q1] at e);replace e:=qd e;cases e;exact h1 _ _ rfl,fun z=>by(replace e:=z▸e;rewrite[f1] at e);replace e:=qd e;cases e;exact h2 rfl⟩
 have kT:∀{b k o},g b=some (k,o)->(∀x p,k ≠ .mine x p)->k ≠ .frm->oz g l F.E.locals b=some (k,o):=fun e h1 h2=>(q61 (ne e h1 h2).1 (ne e h1 h2).2).trans e
 have mT:Mono g (oz g l F.E.locals):=⟨fun b o e=>kT e nofun nofun,fun b o e=>kT e nofun nofun,fun b i p o e=>⟨o,kT e nofun nofun⟩⟩
 have fitN:∀{h:Heap}{own:List (Addr×Obj)}{b k o},News { objs:=#[] } F.E.locals h (own++rn s.heap l F.E.locals)->g b=some (k,o)->b≠l->b≠F.E.locals->∃o',h.get? b=some o'∧Lk k o o':=fun {h own b k o} N e n1 n2=>by
  refine e12 (I.fits b k o e) fun o' w1 w2=>?_
  exact i12 o' (N (b,o') (List.mem_append_right _ (mem_allBut.mpr (i03 n1 n2 w1)))).1 w2
 have sw:∀{h:Heap}{own:List (Addr×Obj)},News { objs:=#[] } F.E.locals h (rn s.heap l F.E.locals++own)->News { objs:=#[] } F.E.locals h (own++rn s.heap l F.E.locals):=fun N p hp=>N p (qz.mpr (qz.mp hp).symm)
 have empty:∀{b o},({ objs:=#[] }:Heap).get? b=some o->False:=fun e=>by simp[Heap.get?] at e
 have emptyN:∀{b},({ objs:=#[] }:Heap).get? b=none:=fun {b}=>by rfl
 refine ksk_sort (h₀:={ objs:=#[] }) (L:=F.E.locals) (m:=m) (news:=rn s.heap l F.E.locals) (vs:=vs) (kz:=ks.map (·.2)) (n:=m0) ⟨L.ns.at hoL,fun b o e=>(empty e).elim,Nat.zero_le _⟩ (fun p hp=>?_) hol2 hlL emptyN (fun p hp=>(mem_allBut (b:=p.1) (o:=p.2).mp hp).1) (by exact rwg (qi _)<|rwg hvl rfl) (by refine rwg hvl ?_;exact hlen) (fun i v k0 hi hki h tk own F0 N=>?_) fun h' tk out e' F0 N ho=>?_
 ·refine e03 (mem_allBut (b:=p.1) (o:=p.2).mp hp) fun n1 n2 n3=>?_
  exact i03 n3 n2 emptyN
 ·-- a key
  have H:=I.toHp.sub (gT:=oz g l F.E.locals) (h:=h) (tk:=tk) (fun e=>(q06 e).2.2) kT fun b k o e=>e03 (q06 e) fun n1 n2 e=>fitN (sw N) e n1 n2
  replace hki:=List.getElem?_map▸hki
  refine e12 (Option.map_eq_some_iff.mp hki) fun p hp zz2=>?_;subst zz2
  refine e12 (q3.get (i:=i) (t:=ft p) (by refine rwg hxs<|rwg List.getElem?_map<|rwg hp ?_;rfl)) fun v' w1 w2=>?_
  obtain rfl:=qd (hi.symm.trans w1)
  exact nf (qiz (A:=A.in1) hq hroom H hm ⟨kT ha.f nofun nofun,kT ha.c nofun nofun,ha.is⟩ (w2.mono mT) (K:=KskEnd _ _ _ _ _ _) fun h' tk' t' keep=>i34 h' tk' t' rfl rfl ⟨F0.ns.keeps keep,fun b o e=>(empty e).elim,Nat.zero_le _⟩ (fun p hp=>⟨keep _ _ (N p hp).1,(N p hp).2⟩))
 ·-- the end
  refine e12 ho fun ps p1' zz2=>?_;clear ho;obtain⟨p2',_⟩:=zz2
  have hpv:vs.Perm out.toList:=by
   refine rwg p2' ?_
   have:=p1'.map Prod.snd
   rw[List.map_snd_zip (by refine rwg (qi _)<|rwg hvl ?_;exact Nat.le_refl _)] at this
   exact this.symm
  refine e12 (q3.perm hpv) fun ys y1 y2=>?_
  refine e12 (gz F0.ns) fun oL' g1 g2'=>?_
  have hNl:=(N _ (.head _)).1
  have hne:oL'.isFreed=false:=by
   induction q:oL'.isFreed using qg with
   | false=>rfl
   | true=>refine e21 g2' fun es ep zz2=>?_;clear g2';obtain⟨hd,_⟩:=zz2;obtain⟨a1,a2,a3,a4⟩:=oL';dsimp only at hd;subst hd;exact Bool.noConfusion q
  have ho1:=Heap.get?_update_self (h:=s.heap) (a:=F.E.locals) (fun z_=>oL') hoL hne
  obtain⟨I3,S3⟩:=I.frame (s':={ s with heap:=s.heap.update F.E.locals fun z_=>oL' }) f1 (I.fits.upd _ (Heap.SameBut.update s.heap F.E.locals fun z_=>oL') ho1) g2' (fun oM mM LM x e z_=>by
   exact rwl (yv (LM.ns.at (I.fits.exact LM.at_ (jb rfl))) (L.ns.at hoL) x) rfl) rfl rfl
  have hN3:jp g F.E.locals .frm oL' l=some (.mine "rows" .main,W.listOf vs.toArray m0):=(je hlL).trans q1
  have at3:At F.E (s.heap.update F.E.locals fun z_=>oL') "rows" (.ref l):=by
   refine e12 (L.ent _ _ sx hkE) fun uv u1 u2=>?_
   refine .loc hkE (g2'.at ho1) ?_
   exact rwg u1<|rwg (At.uniq at2 (.loc hkE (L.ns.at hoL) u1)) rfl
  have mm:Mono (jp g F.E.locals .frm oL') (jp (jp g F.E.locals .frm oL') l (.mine "rows" .main) (seqObj "list" out e')):=gb hN3
  obtain⟨I4,S4⟩:=Inv.own (x:="rows") (e:=.list xs) (e':=.list ys) (g':=jp (jp g F.E.locals .frm oL') l (.mine "rows" .main) (seqObj "list" out e')) (s':={ s with heap:=h',toks:=tk }) I3 sx nofun
   (fun b k o e n1 n2=>(je (fun z=>by(replace e:=z▸e;rewrite[hN3] at e);replace e:=qd e;cases e;exact n1 _ rfl)).trans e)
   (fun b i p o e=>by
    by_cases z:b=l
    ·(replace e:=z▸e;replace e:=jf▸e);exact nomatch e
    ·rw[je z] at e;exact e)
   (fun b k o e=>by
    by_cases z:b=l
    ·(replace e:=z▸e;replace e:=jf▸e);replace e:=qd e;cases e;exact i12 _ (z▸hNl) rfl
    ·rw[je z] at e
     by_cases z2:b=F.E.locals
     ·(replace e:=z2▸e;replace e:=jf▸e);replace e:=qd e;cases e;exact i12 _ (z2▸g1) rfl
     ·replace e:=(je z2)▸e
      exact fitN (own:=[(l,seqObj "list" out e')]) N e z z2)
   (fun v hv z_=>by
    obtain rfl:=At.uniq at3 hv
    exact i34 l _ out.toList rfl jf ⟨e',by simp[W.listOf,seqObj]⟩ ((y1.mono S3.mono).mono mm))
  exact i12 _ rfl (k _ _ ys (I4.weaken fun x e he=>he) (S3.trans S4) y2)
theorem q90:∀{a:Arguments},a.defaults.isEmpty=true->a.kw_defaults.isEmpty=true->∀E:Env,defaultsOf a E=([],[])
 | ⟨_,_,_,_,kd,_,d⟩,h1,h2,E=>by
  obtain rfl:d=[]:=List.isEmpty_iff.mp h1
  obtain rfl:kd=[]:=List.isEmpty_iff.mp h2
  rfl
theorem qew {q:LamA} (hq:(q91 q).all id=true) (hroom:A.depth<recursionLimit) (hh:A.handled=none) {xs:List T} {ks:List (Str×Int)} (I:Inv c F g ⟨[(("rows":Str),some (.list xs))],sg,[]⟩ s) (hr:fb xs=some ks) (hlen:ks.length<64) (hk:jc F.sc ("rows":Str)=some .local) (hkE:F.E.kindOf ("rows":Str)=some .local)
  (ht:sg[1]? = some .tab) (hcd:F.E.code = .ref 331) (hqE:F.E.qual=("class_supers.<locals>.":Str)) {K:Flow→Shared→Prop} (k:∀s' g' ys,Inv c F g' ⟨[(("rows":Str),some (.list ys))],sg,[]⟩ s'→StepS g g'→ys.Perm xs→K .next s') :
  wpAny (model c.prog c.w) A (PySem.exec q.st F.E) K no s:=by
 have o:=fun i {b} (h:(q91 q)[i]? = some b)=>q6l hq i h
 have hx:z8 (jc F.sc ("rows":Str))=true:=by refine rwg hk ?_;rfl
 refine wpAny_Expr_any ?_ (fy I.fs) rfl
 (rewrite[arm_eval_Call];refine rwg (rl _ _ _ _ (by exact rfl:zr (.Name "rows" q.p1)=true)) ?_)
 refine e12 (vg I hx sx) fun u at1 zz2=>?_;refine e34 zz2 fun l ol vs zz3 q1 zz5 q3=>?_;clear zz2;subst zz3;obtain⟨m0,rfl⟩:=zz5
 refine qm (wv I hx at1 ?_)
 refine qm (wpAny_standAt ?_)
 have hol:=I.fits.exact q1 (jb rfl)
 skip
 refine rwg (show methodCallForm (([]:List qo).length+[q.kw].length) (backTo q.p8 (starEach [] F.E)) (backToKw q.p8 (keywordEach [q.kw] F.E))=true from rfl) ?_
 have hpos:methodCallPos true (.Name "rows" q.p1) F.E q.p2 q.p8=pure q.p8:=by unfold methodCallPos;refine rwg (o 13 rfl) ?_;rfl
 refine qm (wpAny_holding ?_)
 refine(?_:wpAny _ _ (getMethod (.ref l) "sort" _) _ _ _)
 refine getMethod_list_of PySem.F.slot_list_sort PySem.F.type_list_sort (items:=vs.toArray) (i13 _ hol rfl ⟨_,rfl⟩) (i12 _ hol rfl) ?_
 refine qm (wpAny_of_eq hpos ?_)
 refine callWith_builtin_kwB rfl rfl (evalArgs_kw_nil rfl ?_)
 refine(?_:wpAny _ _ (do let v ←(do let v ←qp (.Lambda q.a q.body q.sc q55) F.E;standAt q.p8;pure v);return v::(←holding [v] (evalAll []))) _ _ _)
 refine qm (qm (kla_eval (q90 (o 4 rfl) (o 5 rfl) F.E) ?_))
 refine rwg (show F.E.qual++("<lambda>":Str)=k8 1 by rw[hqE];decide +kernel) ?_
 refine q79 (i:=1) I ht hcd (c.kf.at 3 rfl) (closureFor_none fun x hx=>of_decide_eq_true (qy.mp (o 12 rfl) x hx)) (by decide) (by decide) fun f fd c' oc s2 g2 I2 K2 hm ha=>?_
 refine qm (wpAny_standAt (qx ?_))
 refine qm (wpAny_holding (qx (qx ?_)))
 refine(?_:wpAny _ _ (call (.builtin "list.sort") ([.ref l]++[]) [(("key":Str),.ref f)]) _ _ _)
 exact q86 hq hroom hh I2 hr hlen hkE hm ha (at1.step I I2 K2.step) (K2.keep _ _ _ q1 (fun p z=>by injection z with z;exact absurd z (by decide)) (fun z_ z_=>jb rfl)) (q3.mono K2.step.mono) fun s' g' ys I' S' P'=>k s' g' ys I' (K2.step.s.trans S') P'
end
theorem qlm:w8 "class_supers"=some 332:=by decide +kernel
theorem cs_is:wx "class_supers"=some (ja "class_supers"):=by kernel_rfl
theorem qdf:((ja "class_supers").body.length,jc (ja "class_supers").scope "rows")=(8,some .local):=by kernel_rfl
theorem qgp {C:Calls} {ys:List T} {n k:Int} {y:Str} {sg:List SO} {Q:Fl→St→Prop} (hn:(ys.length:Int)=n) (h1:ze "len" [.list ys]=some (.val (.int n))) (h2:zu (.list ys) (.int (n-1))=some (ft (y,k))) (h3:decide (ys.length<LIM)=true) (h:Q (.ret (.list (ys++[ft ("ANY",k+1)]))) ⟨[("rows",none)],sg,[]⟩) :
  wb ((vz C KE).exec (ja "class_supers").scope) ((ja "class_supers").body.drop 6) ⟨[("rows",some (.list ys))],sg,[.e (.val (.int n)),.t (ft (y,k))]⟩ Q:=qcu (q9 h1 (q9 h2 (q9 h3 h))) (by kernel_rfl)
structure qlx where
 tg:qo
 fp:Pos
 as:List qo
 cp:Pos
 b:List Stmt
 p:Pos
noncomputable def pf (a v:T) (nm:Str) (o s:Option Ent):Loc:=[("table",vT a),("v",vT v),("name",vS nm),("one",o),("steps",s)]
structure qlw(q:qlx):Prop where
 body:(ja "is_of").body=[.For q.tg (.Call (.Name "class_supers" q.fp) q.as [] q.cp) q.b [] q.p,qaw "is_of" 1]
 turn:∀C,jx C "is_of" [0]=d8 (vz C (KE-1)) (ja "is_of").scope q.tg q.b
 plain:q.as.all xc=true
 args:∀C a v nm sg as P,evL ((vz C KE).evalT (ja "is_of").scope) q.as ⟨pf a v nm none none,sg,as⟩ P=P [a,v] ⟨pf a v nm none none,sg,as⟩
theorem q57:∃q,qlw q:=⟨⟨_,_,_,_,_,_⟩,rfl,fun z_=>rfl,rfl,fun z_ z_ z_ z_ z_ z_ z_=>rfl⟩
theorem qg3:wx "is_of"=some (ja "is_of"):=by kernel_rfl
theorem to:((ja "is_of").params,(ja "is_of").defaults,jc (ja "is_of").scope "class_supers")=([("table":Str),"v","name"],[],some .globalImplicit):=by kernel_rfl
theorem q58 (a v:T) (nm:Str):frame (ja "is_of").scope (ofT [("table",a),("v",v),("name",.str nm)])=pf a v nm none none:=by kernel_rfl
theorem qc8 {C:Calls} {a v:T} {nm:Str} {o s:Option Ent} {sg:List SO} {as:List Ans} {Q:Fl→St→Prop} (h:Q (.ret (.val (.bool false))) ⟨pf a v nm o s,sg,as⟩):(vz C KE).exec (ja "is_of").scope (qaw "is_of" 1) ⟨pf a v nm o s,sg,as⟩ Q:=qcu h (by kernel_rfl)
theorem q97 (C:Calls) (a v:T) (nm:Str) (sg:List SO):∀(ks:List (Str×Int)) (o s:Option Ent),∃o' s',LoopR (jx C "is_of" [0]) (ks.map ft) (pf a v nm o s) sg (cond (ks.any fun p=>decide (p.1=nm)) (.ret (.val (.bool true))) .next) (pf a v nm o' s') sg:=by
 intro ks
 induction ks with
 | nil=>
  intro o s
  exact i21 o s .nil
 | cons zz ks ih=>
  obtain⟨x,i⟩:=zz
  intro o s
  induction q:decide (x=nm) using qg with
  | true=>
   refine i21 (vS x) (vI i) ?_
   refine rwg List.any_cons<|rwg q ?_
   exact .ret (jg [.b true] (fun t=>q9 (congrArg some q) t) (by kernel_rfl))
  | false=>
   refine e21 (ih (vS x) (vI i)) fun o' s' h=>?_
   refine i21 o' s' ?_
   refine rwg List.any_cons<|rwg q ?_
   exact .next (jg [.b false] (fun t=>q9 (congrArg some q) t) (by kernel_rfl)) h
theorem q8l{ks:List (Str×Int)}{ys:List T}(h:ys.Perm (ks.map ft)):∃ks':List (Str×Int),ys=ks'.map ft∧ks'.Perm ks:=by
 have dec:∀l:List (Str×Int),(l.map ft).map (fun t=>(q4l t).getD ("",0))=l:=fun l=>by
  refine rwg List.map_map ?_
  exact List.map_id'' (fun p=>rfl) l
 refine i12 (ys.map fun t=>(q4l t).getD ("",0)) ?_ (by have:=h.map fun t=>(q4l t).getD ("",0);rwa [dec] at this)
 refine rwg List.map_map ?_
 refine(List.map_id ys).symm.trans (List.map_congr_left fun t ht=>?_)
 obtain⟨p,_,rfl⟩:=List.mem_map.mp (h.mem_iff.mp ht)
 rfl
theorem qee{α:Type}{f:α->Bool}{a b:List α}(h:a.Perm b):a.any f=b.any f:=by
 induction h with
 | nil=>rfl
 | cons x _ ih=>exact rwg List.any_cons<|rwg List.any_cons<|rwg ih rfl
 | swap x y l=>exact rwg List.any_cons<|rwg List.any_cons<|rwg List.any_cons<|rwg List.any_cons<|rwl (Bool.or_assoc _ _ _)<|rwl (Bool.or_assoc _ _ _)<|rwg (Bool.or_comm (f y) _) rfl
 | trans _ _ ih1 ih2=>exact ih1.trans ih2
theorem qc1{ks:List (Str×Int)}(h:0<ks.length)(hl:ks.length<64):∃y k,zu (.list (ks.map ft)) (.int ((ks.length:Int)-1))=some (ft (y,k)):=by
 obtain⟨n,hn⟩:∃n,ks.length=n+1:=⟨ks.length-1,by exact a8 h⟩
 have hlt:n<ks.length:=by exact Nat.lt_of_lt_of_eq (Nat.lt_succ_self n) hn.symm
 refine i21 ks[n].1 ks[n].2 ?_
 refine(?_:idx (ks.map ft) ((ks.length:Int)-1)=_)
 refine rwg hn<|rwg (show ((n+1:Nat):Int)-1=(n:Int) by lia) ?_
 unfold idx
 rw[decide_eq_true (Int.natCast_nonneg n),cond_true,decide_eq_true (by(lia):(n:Int)<1000000)]
 refine(?_:(ks.map ft)[n]? = _)
 rw[List.getElem?_map,qt hlt];rfl
theorem rf(a b:List Stmt)(env:Env):execs (a++b) env=execs a env >>= fun f=>match f with | .next=>execs b env | f=>pure f:=by
 induction a with
 | nil=>refine rwg (List.nil_append _) ?_;rfl
 | cons s a ih=>
  refine rwg List.cons_append<|rwg (execs_cons _ _ _)<|rwg (execs_cons _ _ _)<|rwg (bind_assoc _ _ _) ?_
  congr
  funext f
  induction f using Flow.casesOn with
  | next=>exact ih
  | _=>rfl
theorem n9{sg:List SO}{i:Nat}(h:f9 sg i=true):sg[i]? = some .tab:=by
 unfold f9 at h
 induction q:sg[i]? using qe with
 | none=>replace h:=q▸h;exact(jt h).elim
 | some o=>rw[q] at h;rcases o with ⟨⟩ <;> first | rfl | exact(jt h).elim
section
variable {c:CC}{g:Gh}{sg sg':List SO}{s:Shared}{A:Around}{r:Ent}{C:Calls}
theorem ql7 (hS:∀E,Snd ⟨c,A.deeper E⟩ (vz C KE)) (hroom:A.depth+1<recursionLimit) (hh:A.handled=none) (I:Hp c g sg s) {vs:List Value} {ts:List T} (hv:RepL c.w g vs ts) {l:List (Str×T)} {as:List Ans} {R:List (Str×Int)→St→Prop} (hl:Mine.bindArgs (ja "class_supers").params ts (ja "class_supers").defaults=some l)
  (h:wb ((vz C KE).exec (ja "class_supers").scope) ((ja "class_supers").body.take 5) ⟨frame (ja "class_supers").scope (ofT l),sg,as⟩ fun fl st=>gd (fl.next?&&f9 st.sg 1) (jk (jn "rows" st.env) fun e=>jk e.list? fun xs=>ask Ans.k? (fb xs) st fun ks st1=>
   ob (decide (0<ks.length)&&decide (ks.length<64)) (R ks st1))) :
  codeAny (model c.prog c.w) A (.call (.ref 332) ⟨vs,[]⟩) (fun r s'=>∃ks ks' st1 k,R ks st1∧ks'.Perm ks∧lj c g st1.sg (.list ((ks'++[(("ANY":Str),k)]).map ft)) r s') s:=by
 have B:=zx hl
 obtain rfl:=B.l
 have hv':=hv.mono (zf g)
 have hlen:=hv.len
 obtain⟨q,hsp,hq⟩:=qgq
 refine fm I.hide (vc qlm cs_is) (Nat.lt_of_succ_lt hroom) (env:=frame (ja "class_supers").scope (Mine.ofT ((ja "class_supers").params.zip (ts++(ja "class_supers").defaults.drop ((ja "class_supers").defaults.length-((ja "class_supers").params.length-ts.length)))))) (by refine rwg hlen ?_;exact B.le) (by refine rwg hlen ?_;exact B.ge) (fun dv hdv=>EB.frame _ (EB.ofT ?_)) fun E g1 s1 I1 keep EO z_=>?_
 ·refine rwg hdv.len<|rwg hlen ?_
  exact hv'.app (hdv.drop _)
 refine e43 EO.src fun cl di sl fdd hlk hcode hqual=>?_
 obtain⟨hqn,hcd⟩:=q09 (c.kf.at 4 rfl) hlk
 replace hcode:=hcd▸hcode
 have kr:jc (ja "class_supers").scope "rows"=some .local:=congrArg (·.2) qdf
 have hkE:E.kindOf ("rows":Str)=some .local:=by unfold Env.kindOf;refine rwg EO.scope ?_;exact kr
 have hsplit:(ja "class_supers").body=(ja "class_supers").body.take 5++(q.st::(ja "class_supers").body.drop 6):=by
  refine(List.take_append_drop 5 _).symm.trans (congrArg (fun z=>(ja "class_supers").body.take 5++z) ?_)
  have h5:5<(ja "class_supers").body.length:=by refine rwg (show (ja "class_supers").body.length=8 from congrArg (·.1) qdf) ?_;decide
  refine rwl hsp<|rwg (List.drop_eq_getElem_cons h5) ?_
  unfold qaw
  refine rwg List.getD_eq_getElem?_getD<|rwg (qt h5) ?_;rfl
 refine rwg hsplit<|rwg (rf _ _ _) ?_
 refine qm (nf (xy (W:=⟨c,A.deeper E⟩) (F:=⟨(ja "class_supers").scope,E⟩) (hS E) h (I1.tell as) fun fl s2 g2 fl2 st2 I2 S2 z2 q2=>?_))
 refine e8 q2 fun h0 h1=>yz h0 fun hn ht=>xh h1 fun e he h2=>xh h2 fun xs hx h3=>qli h3 fun ks as' hks h4=>?_
 refine e02 h4 fun hk hR=>?_;clear h4
 refine yz hk fun hk0 hk6=>?_
 have hk0:=of_decide_eq_true hk0
 have hk6:=of_decide_eq_true hk6
 cases z2 with
 | ret z=>exact(jt hn).elim
 | next=>
  obtain rfl:e = .list xs:=by rcases e with ⟨⟩ <;> first | (cases hx;rfl) | exact(j6 hx).elim
  have I3:=(I2.tell []).weaken (env:=[(("rows":Str),some (.list xs))]) fun x e h=>by refine e02 (qd8 h) fun zz0 zz1=>?_;subst zz0;subst zz1;exact he
  refine wpAny_execs_cons (nf (qew (A:=A.deeper E) hq hroom hh I3 hks hk6 kr hkE (n9 ht) hcode (by refine rwg hqual<|rwg hqn ?_;decide +kernel) fun s3 g3 ys I4 S3 P3=>?_))
  rw[i8 hks] at P3
  refine e12 (q8l P3) fun ks' zz1 P4=>?_;subst zz1
  have hl':ks'.length=ks.length:=P4.length_eq
  refine e21 (qc1 (ks:=ks') (by refine rwg hl' ?_;exact hk0) (by refine rwg hl' ?_;exact hk6)) fun y k hlast=>?_
  have hlm:(ks'.map ft).length=ks'.length:=qi _
  have hLIM:ks'.length≤LIM:=by refine rwg hl' ?_;exact j4 (Nat.lt_trans hk6 (by decide))
  refine nf (xy (W:=⟨c,A.deeper E⟩) (F:=⟨(ja "class_supers").scope,E⟩) (Q:=fun fl st=>fl = .ret (.list (ks'.map ft++[ft ("ANY",k+1)]))∧st=⟨[("rows",none)],st2.sg,[]⟩) (hS E) (qgp (n:=(ks'.length:Int)) (congrArg Int.ofNat hlm) ?_ hlast (decide_eq_true ?_) ⟨rfl,rfl⟩) (I4.tell _) fun fl s4 g4 fl4 st4 I5 S4 z4 q4=>?_)
  ·refine(?_:yj "len" (ks'.map ft)=_)
   unfold yj
   refine rwg hlm<|rwg (decide_eq_true hLIM) ?_;rfl
  ·refine rwg hlm<|rwg hl' ?_;exact Nat.lt_trans hk6 (by decide)
  ·refine e02 q4 fun zz0 zz1=>?_;clear q4;subst zz0;subst zz1
   cases z4 with
   | ret z=>
    refine i43 ks ks' _ (k+1) hR P4 ?_
    refine rwg qu ?_
    exact gx I keep ((S2.trans S3).trans S4) I5.toHp z
theorem qc9{ts:List T}{q:Isof}(h:qhj ts=some q):ts=[q.a,q.v,.str q.nm]:=by
 induction ts using qf with
 | nil=>exact(j6 h).elim
 | cons a r=>
  refine e12 (j9 (by exact h:opt (pj r) (fun p=>opt p.2.str? fun nm=>some (Isof.mk a p.1 nm))=some q)) fun p h1 h2=>?_
  refine e12 (j9 h2) fun nm h3 h4=>?_
  exact rwg (yo h1)<|rwg (T.str?_is h3)<|rwl (qd h4) rfl
theorem qg2 (hS:∀n E,Snd ⟨c,A.deeper E⟩ (vz C n)) (hS2:∀E E',Snd ⟨c,(A.deeper E).deeper E'⟩ (vz C KE)) (hroom:A.depth+2<recursionLimit) (hh:A.handled=none) {a:Addr} {ts:List T} {as:List Ans} {vs:List Value} (ha:w8 "is_of"=some a)
  (h:q3m (vz C KE) ts sg as fun r' st=>Done r r' sg' st.sg st.as) (I:Hp c g sg s) (hv:RepL c.w g vs ts):codeAny (model c.prog c.w) A (.call (.ref a) ⟨vs,[]⟩) (lj c g sg' r) s:=by
 refine xh h fun q hq h1=>xh h1 fun d hd h2=>xh h2 fun l hl h3=>?_
 obtain rfl:=qc9 hq
 obtain rfl:=qd (cs_is.symm.trans hd)
 obtain⟨S,Z⟩:=q57
 have hlen:=hv.len
 have hv':=hv.mono (zf g)
 have hp1:(ja "is_of").params=[("table":Str),"v","name"]:=congrArg (·.1) to
 have hp2:(ja "is_of").defaults=[]:=congrArg (·.2.1) to
 refine fm I.hide (vc ha qg3) (Nat.lt_of_succ_lt (Nat.lt_of_succ_lt hroom)) (env:=pf q.a q.v q.nm none none) (by refine rwg hp1<|rwg hlen ?_;exact Nat.le_refl _) (by refine rwg hp1<|rwg hlen ?_;exact Nat.le_add_right _ _) (fun dv hdv=>?_) fun E g1 s1 I1 keep EO z_=>?_
 ·rw[hp2] at hdv
  cases hdv
  refine rwg hp1<|rwg List.drop_nil<|rwg (List.append_nil _)<|rwl (q58 _ _ _) ?_
  exact EB.frame _ (EB.ofT (ps:=["table","v","name"]) hv')
 refine rwg Z.body ?_
 refine iu (wpAny_For (wpAny_Call_NameR (vk I1 (congrArg (·.2.2) to) (List.mem_append_left _ (js (by(decide +kernel):ji "class_supers" fAddrs=some 332))) ?_)) (fun x=>rfl))
 refine nf (wo (W:=⟨c,A.deeper E⟩) (F:=⟨(ja "is_of").scope,E⟩) (hS KE E) (P:=fun ts2 st2=>ts2=[q.a,q.v]∧st2=⟨pf q.a q.v q.nm none none,sg,[]⟩) Z.plain (by rw[Z.args];exact⟨rfl,rfl⟩) I1 (ly (p:=(("class_supers":Str),332)) (List.mem_append_left _ (r9 qlm))) fun vs2 g2 s2 ts2 st2 I2 S2 z2 q2=>?_)
 refine e02 q2 fun zz0 zz1=>?_;clear q2;subst zz0;subst zz1
 refine wpAny_call (codeAny_mono (ql7 (A:=A.deeper E) (hS2 E) hroom hh I2.toHp z2 (R:=fun ks st3=>Done r (.val (.bool (decide (q.nm="ANY") || ks.any fun p=>decide (p.1=q.nm)))) sg' st3.sg st3.as) hl h3) fun r3 s3 z3=>?_)
 refine e43 z3 fun ks ks' st3 k hD hP hR=>?_;clear z3
 refine e02 hD.st fun zz0 zz1=>?_;subst zz0;subst zz1
 cases hR with
 | mk H3 K3 e3=>
  have I4:=(I2.after H3 K3 []).frzTmp
  refine c9 I4.toHp (.rep (t:=.list ((ks'++[(("ANY":Str),k)]).map ft)) e3.frz rfl) fun it g5 s5 K5 H5 hb h0 hit=>?_
  refine e21 (q97 C q.a q.v q.nm st3.sg (ks'++[(("ANY":Str),k)]) none none) fun o' s' hL=>?_
  rw[Z.turn] at hL
  have S15:=(S2.s.trans K3.step.s).trans (StepE.frz _ "#").s
  refine qcr (W:=⟨c,A.deeper E⟩) (F:=⟨(ja "is_of").scope,E⟩) (hS (KE-1) E) hb h0 hL ⟨H5,I1.fs,I4.fr.keepF K5⟩ (Since.of K5.step.s) hit fun f6 s6 g6 I6 S6 z6=>?_
  have hany:((ks'++[(("ANY":Str),k)]).any fun p=>decide (p.1=q.nm))=(decide (q.nm="ANY") || ks.any fun p=>decide (p.1=q.nm)):=by
   refine rwg List.any_append<|rwg (qee hP)<|rwg (Bool.or_comm _ _) ?_
   refine congrArg (· || _) ?_
   refine rwg List.any_cons<|rwg List.any_nil<|rwg (Bool.or_false _) ?_
   exact decide_eq_decide.mpr ⟨Eq.symm,Eq.symm⟩
  rw[hany] at z6
  induction hres:(decide (q.nm="ANY") || ks.any fun p=>decide (p.1=q.nm)) using qg with
  | true=>
   replace z6:=hres▸z6
   cases z6 with
   | ret z=>exact gx I keep (S15.trans S6) I6.toHp z
  | false=>
   replace z6:=hres▸z6
   cases z6
   refine nf ((hS KE E).exec (F:=⟨(ja "is_of").scope,E⟩) (Q:=fun fl st=>fl = .ret (.val (.bool false))∧st=⟨pf q.a q.v q.nm o' s',st3.sg,[]⟩) (qc8 ⟨rfl,rfl⟩) I6 fun f7 s7 g7 fl7 st7 I7 S7 z7 q7=>?_)
   refine e02 q7 fun zz0 zz1=>?_;clear q7;subst zz0;subst zz1
   cases z7 with
   | ret z=>exact gx I keep ((S15.trans S6).trans S7) I7.toHp z
end
section
variable {W:Cx}{f:Fns}{F:Fr'}{g:Gh}{st:St}{s:Shared}
theorem q9j(H:Snd W f){e:qo}{Q:Ent->St->Prop}{K:Value->Shared->Prop}(h:ix f F.sc e st Q)(I:Inv W.c F g st s)(k:KR W F g Q K):WP W (qp e F.E) K s:=by
 induction e using Expr.casesOn with
 | Constant c i p=>exact q38 h I k
 | Name x p=>exact qgh H h I k
 | Attribute v a p=>exact q17 H h I k
 | Subscript v i p=>exact q15 H h I k
 | BinOp l op r p=>exact qd2 H h I k
 | UnaryOp op x p=>exact q5n H h I k
 | Compare l ops rs p=>exact q5o H h I k
 | BoolOp op es p=>exact q9l H h I k
 | IfExp t a b p=>exact qd1 H h I k
 | List es p=>exact qgi H h I k
 | Tuple es c p=>exact qd0 H h I k
 | Dict ks vs p=>exact qgj H h I k
 | JoinedStr ps p=>exact q16 H h I k
 | ListComp elt gens sc2 p=>exact q37 H h I k
 | Call x as ks cp=>exact qgk H h I k
 | _=>exact h.elim
theorem qfl{e:qo}{q:Mth}(h:qit e=some q):∃xp,e = .Call (.Attribute (.Name q.x xp) q.m q.ap) q.as [] q.cp:=by
 refine e12 (j9 h) fun a h1 h2=>?_
 refine e12 (j9 h2) fun r h3 h4=>?_
 refine e12 (j9 h4) fun x h5 h6=>?_
 obtain rfl:=qd h6
 refine e11 (xt h5) fun xp h7=>?_
 exact⟨xp,by exact rwg (dk h1)<|rwg (gv h3)<|rwg h7 rfl⟩
theorem q7l(H:Snd W f){x as q p}{Q:Fl->St->Prop}{K:Flow->Shared->Prop}(h:q14 f F.sc (.Call x as [] q) st Q)(I:Inv W.c F g st s)(k:KS W F g Q K):WP W (PySem.exec (.Expr (.Call x as [] q) p) F.E) K s:=
 wpAny_Expr_any (H.eval h I fun v s1 g1 r st1 I1 S1 z1 q1=>e8 q1 fun z_ q2=>k .next s1 g1 .next st1 I1 S1.s .next q2) (fy I.fs) rfl
theorem qgf(H:Snd W f){e p}{Q:Fl->St->Prop}{K:Flow->Shared->Prop}(h:q5k f F.sc e st Q)(I:Inv W.c F g st s)(k:KS W F g Q K):WP W (PySem.exec (.Expr e p) F.E) K s:=by
 unfold q5k at h
 induction q:qit e using qe with
 | some m=>
  rw[q] at h
  refine e11 (qfl q) fun xp zz1=>?_;subst zz1
  refine e8 (by exact h:gd (z8 (jc F.sc m.x)&&(m.ap.endLine==m.cp.line)) _) fun h1 h2=>yz h1 fun hx hl=>?_
  induction hw:(q2o m.x st).isSome using qg with
  | true=>exact q9h H hx hl hw (xi h2 hw) I k
  | false=>exact e8 (jy h2 hw) fun z_ h3=>q7l H h3 I k
 | none=>
  replace h:=q▸h
  refine e8 (by exact h:gd (q0v e) (q14 f F.sc e st Q)) fun h1 h2=>?_
  unfold q0v at h1
  induction hc:li e using qe with
  | none=>replace h1:=hc▸h1;exact(jt h1).elim
  | some c=>
   obtain rfl:=dk hc
   exact q7l H h2 I k
theorem q9f(H:Snd W f){e:Stmt}{Q:Fl->St->Prop}{K:Flow->Shared->Prop}(h:qcv f F.sc e st Q)(I:Inv W.c F g st s)(k:KS W F g Q K):WP W (PySem.exec e F.E) K s:=by
 induction e using Stmt.casesOn with
 | Pass p=>exact qge h I k
 | Return v p=>exact q9g H h I k
 | If t b o p=>exact qkx H h I k
 | While t b o p=>exact qcx H h I k
 | For tg it b o p=>exact qj7 H h I k
 | Expr e p=>exact qgf H h I k
 | Try b hs o fin p=>exact qj6 H h I k
 | AugAssign tg op e p=>
  induction tg using Expr.casesOn with
  | Name x xp=>exact q5i H h I k
  | Attribute o a ap=>
   refine xh (by exact h:jk (zh o) (fun x=>q6i F.sc x a op e st Q)) fun x hx h1=>?_
   refine e11 (xt hx) fun xp zz1=>?_;subst zz1
   exact q5j h1 I k
  | _=>exact(by exact h:False).elim
 | Assign tgs e p=>
  refine xh (by exact h:jk (fc tgs) (fun tg=>iw f F.sc tg e st Q)) fun tg ht h1=>?_
  obtain rfl:=vr ht
  induction tg using Expr.casesOn with
  | Name x xp=>exact q13 H h1 I k
  | Tuple es m tp=>exact ou H h1 I k
  | Attribute o a ap=>
   refine xh (by exact h1:jk (zh o) (fun x=>q6k f F.sc x a e st Q)) fun x hx h2=>?_
   refine e11 (xt hx) fun xp zz1=>?_;subst zz1
   exact ec H h2 I k
  | Subscript d i tp=>
   have h2:orP (zh d) (fun d=>qec f F.sc d i e st Q) (jk (yk d) fun q=>jk (zh q.o) fun x=>rm f F.sc x q.a i e st Q):=h1
   induction hd:zh d using qe with
   | some x=>
    rw[hd] at h2
    refine e11 (xt hd) fun xp zz1=>?_;subst zz1
    exact q12 H h2 I k
   | none=>
    rw[hd] at h2
    refine xh (by exact h2:jk (yk d) _) fun q hq h3=>xh h3 fun x hx h4=>?_
    obtain rfl:=gv hq
    refine e11 (xt hx) fun xp hx=>?_
    refine rwg hx ?_
    exact rg H h4 I k
  | _=>exact(by exact h1:False).elim
 | _=>exact(by exact h:False).elim
theorem Snd.step(H:Snd W f):Snd W f.step where
 re:=H.re.step
 okT:=qbh H
 okR:=qbi H
 okP:=qbj H
 okC:=qbl H
 okI:=qbk H
 qT hq h _ _ _ I k:=qf9 H hq h I k
 qR hq h _ _ _ I k:=qfa H hq h I k
 qP hq h _ _ _ I k:=qfb H hq h I k
 kT hq hx h _ _ _ I k:=qfy H hq hx h I k
 kR hq hx h _ _ _ I k:=qfz H hq hx h I k
 kP hq hx h _ _ _ I k:=qg0 H hq hx h I k
 qC hq h _ _ _ I k:=qfc H hq h I k
 C:=H.C
 R:=H.R
 evalT h _ _ _ I k:=q5m H h I k
 eval h _ _ _ I k:=q9j H h I k
 peek h _ _ _ I k:=q8m H h I k
 peekC h _ _ _ I k:=q4r H h I k
 test h _ _ _ I k:=q81 H h I k
 evOpt h _ _ _ I k:=q5r H h I k
 iterS h _ _ _ I k:=q56 H h I k
 compG h _ _ _ _ hg _ _ _ _ _ I HA hl k:=q65 H h hg I HA hl k
 comp h _ _ I _ _ k:=q9t H h I k
 exec h _ _ _ I k:=q9f H h I k
theorem ul{C:Calls}(hC:qk2 W.c C W.A)(R:Room W.A 1):∀n,Snd W (vz C n):=by
 intro n
 induction n with
 | zero=>
  exact⟨⟨nofun,nofun,nofun,nofun,nofun,nofun,nofun,nofun⟩,nofun,nofun,nofun,nofun,nofun,nofun,nofun,nofun,nofun,nofun,nofun,nofun,hC,R,nofun,nofun,nofun,nofun,nofun,nofun,nofun,nofun,nofun,nofun⟩
 | succ n ih=>
  exact(ih).step
end
section
variable {c:CC}{A:Around}{n:Nat}
theorem Room.deeper(R:Room A (n+1))(E:Env):Room (A.deeper E) n:=⟨R.handled,by have:=R.depth;refine(?_:A.depth+1+5*n≤900);exact d1 (c:=1) this rfl,by have:=R.units;refine(?_:A.units+3+60*n≤9000);exact d1 (c:=3) this rfl,R.guards⟩
theorem Room.deeper2(R:Room A (n+1))(E E':Env):Room ((A.deeper E).deeper E') n:=⟨R.handled,by have:=R.depth;refine(?_:A.depth+1+1+5*n≤900);exact d1 (c:=2) this rfl,by have:=R.units;refine(?_:A.units+3+3+60*n≤9000);exact d1 (c:=6) this rfl,R.guards⟩
theorem Room.made (R:Room A (n+1)) (E:Env) (CA:Addr) (vs:List Value):Room ((A.under (.builtin "type.__call__" ⟨.ref CA::vs,[]⟩)).deeper E) n:=by
 refine⟨R.handled,?_,?_,R.guards⟩
 ·have:=R.depth
  refine(?_:A.depth+(Code.builtin "type.__call__" ⟨.ref CA::vs,[]⟩).weight+1+5*n≤900)
  refine rwg (ig _ _) ?_;exact d1 (c:=2) this rfl
 ·have:=R.units
  refine(?_:A.units+(Code.builtin "type.__call__" ⟨.ref CA::vs,[]⟩).cUnits+3+60*n≤9000)
  have:(Code.builtin "type.__call__" ⟨.ref CA::vs,[]⟩).cUnits=1:=rfl
  lia
theorem Room.lim(R:Room A n):A.depth+2<recursionLimit:=by have:=R.depth;have:recursionLimit=1000:=rfl;lia
theorem Room.less{m:Nat}(R:Room A n)(h:m≤n):Room A m:=⟨R.handled,by have:=R.depth;exact qr (Nat.add_le_add_left (Nat.mul_le_mul_left _ h) _) this,by have:=R.units;exact qr (Nat.add_le_add_left (Nat.mul_le_mul_left _ h) _) this,R.guards⟩
theorem qjk:∀(d:Nat)(A:Around),Room A (d+1)->qk2 c (q0c d) A:=by
 intro d
 induction d with
 | zero=>
  intro A R
  exact⟨nofun,nofun,nofun⟩
 | succ d ih=>
  intro A R
  have lim:=R.lim
  have R1:∀{m},Room m (d+1)->Room m 1:=fun r=>r.less (Nat.le_add_left 1 d)
  have hS:∀n E,Snd ⟨c,A.deeper E⟩ (vz (q0c d) n):=fun n E=>ul (ih _ (R.deeper E)) (R1 (R.deeper E)) n
  have hS2:∀E E',Snd ⟨c,(A.deeper E).deeper E'⟩ (vz (q0c d) KE):=fun E E'=>ul (ih _ (R.deeper2 E E')) (R1 (R.deeper2 E E')) KE
  have hM:∀n E CA vs,Snd ⟨c,(A.under (.builtin "type.__call__" ⟨.ref CA::vs,[]⟩)).deeper E⟩ (vz (q0c d) n):=fun n E CA vs=>ul (ih _ (R.made E CA vs)) (R1 (R.made E CA vs)) n
  refine⟨fun {g ts sg r sg'} ⟨as,h⟩ {gh s a vs} I ha hv=>?_,fun {g ts sg r sg'} ⟨as,h⟩ {gh s a vs} I ha hv=>qbs (f:=vz (q0c d) (KE-1)) (hM _) (hM KE) (Nat.lt_of_succ_lt lim) h I ha hv,fun {cap ts sg r sg'} ⟨as,h⟩ {gh s a vs} I hf hv=>q6f (hS KE) (Nat.lt_of_succ_lt (Nat.lt_of_succ_lt lim)) h I hf hv⟩
  refine xh h fun fd hfd h1=>xh h1 fun l hl h2=>?_
  induction q:decide (g="_law_teller") using qg with
  | true=>
   obtain rfl:=of_decide_eq_true q
   obtain rfl:=qd (a_teller.symm.trans ha)
   obtain rfl:=qd (teller_is.symm.trans hfd)
   exact q40 (hS KE) (Nat.lt_of_succ_lt (Nat.lt_of_succ_lt lim)) hl (xi h2 q) I hv
  | false=>
   have h3:=jy h2 q
   induction q2:decide (g="is_of") using qg with
   | true=>
    obtain rfl:=of_decide_eq_true q2
    exact qg2 hS hS2 lim R.handled ha (xi h3 q2) I hv
   | false=>exact qe5 (hS KE) (Nat.lt_of_succ_lt (Nat.lt_of_succ_lt lim)) (vc ha hfd) hl (jy h3 q2) I hv
end
noncomputable abbrev ci:List Value:=[.ref 87,.type "Exception",.type "BaseException",.type "object"]
noncomputable def q7t (h:Heap):Prop:=∃nm qn bs hdct sn sub ab col dd k0 k1 k2 k3 k5,h.get? 126=some (excClassObj nm qn 126 125 bs ci hdct sn sub ab col dd k0 k1 k2 k3 k5 "Exception.__new__")
theorem nv{α:Type}{l:List α}{n:Nat}(h:l.length=n+1):∃x r,l=x::r∧r.length=n:=by
 induction l using qf with
 | nil=>exact Nat.noConfusion h
 | cons x r=>exact i22 x r rfl (Nat.succ.inj h)
theorem qir{α:Type}{l:List α}(h:l.length=6):∃k0 k1 k2 k3 k4 k5,l=[k0,k1,k2,k3,k4,k5]:=
 e22 (nv h) fun k0 l0 e0 h=>e22 (nv h) fun k1 l1 e1 h=>e22 (nv h) fun k2 l2 e2 h=>e22 (nv h) fun k3 l3 e3 h=>e22 (nv h) fun k4 l4 e4 h=>e22 (nv h) fun k5 l5 e5 h=>
  i61 k0 k1 k2 k3 k4 k5 (rwg e0<|rwg e1<|rwg e2<|rwg e3<|rwg e4<|rwg e5<|rwg (List.eq_nil_of_length_eq_zero h) rfl)
theorem six{α:Type}{a:Array α}{x:α}(h1:a.size=6)(h2:a[4]? = some x):∃k0 k1 k2 k3 k5,a=#[k0,k1,k2,k3,x,k5]:=by
 obtain⟨l⟩:=a
 refine e61 (qir h1) fun k0 k1 k2 k3 k4 k5 zz=>?_
 subst zz
 exact i51 k0 k1 k2 k3 k5 (rwl (by exact qd h2:k4=x) rfl)
set_option tactic.hygienic true in
theorem sj{K:Frag}(kf:KFacts K){h:Heap}(X:K.In h):q7t h:=by
 have q:=kf.at 5 rfl
 unfold qbd at q
 split at q
 ·rename_i ty dd cd sl ho
  refine yz q fun q1 q=>yz q fun q2 q=>yz q fun q3 q4=>?_
  skip
  refine yz q2 fun z_ q2=>yz q2 fun q5 q2=>yz q2 fun q6 q7=>?_
  refine e51 (six (beq_iff_eq.mp q3) (beq_iff_eq.mp q4)) fun k0 k1 k2 k3 k5 zz5=>?_;subst zz5
  obtain rfl:=beq_iff_eq.mp q1
  obtain⟨nm,bs,mro,ns,qn,hd,sn,sub,ab,col,del⟩:=cd
  obtain rfl:mro=excMro:=beq_iff_eq.mp q5
  obtain rfl:del=false:=t7 q6
  obtain rfl:ns=125:=beq_iff_eq.mp q7
  exact⟨nm,qn,bs,hd,sn,sub,ab,col,dd,k0,k1,k2,k3,k5,X _ _ ho⟩
 ·exact(jt q).elim
section
variable {K:Frag}{prog:Program}{w:World}{A:Around}{R:Result->Shared->Prop}{h:Heap}{g:Array GenState}{d:Drawn}{t:Nat}{os:OsState}
noncomputable abbrev ye(tup:Addr):Obj:={ cls:=.ref 126,data:=.fields #[.ref tup,.none,.none,.none,.bool false,.none] }
noncomputable abbrev d9 (h:Heap) (vs:List Value):Heap:=(h.push { cls:=.type "tuple",data:=.seq vs.toArray }).push (ye h.objs.size)
set_option maxHeartbeats 1000000 in
theorem qa2(kf:KFacts K)(X:K.In h){vs:List Value}(hlen:vs.length≤sizeLine)
  (hq:codeAny (model prog w) (A.under (.builtin "type.__call__" ⟨.ref 126::vs,[]⟩)) (.call (.ref 123) ⟨.ref (h.objs.size+1)::vs,[]⟩) (InitBack (h.objs.size+1) R) ⟨d9 h vs,g,d,t,os⟩) :
  codeAny (model prog w) A (.call (.ref 126) ⟨vs,[]⟩) R ⟨h,g,d,t,os⟩:=by
 refine qda (sj kf X) fun nm qn bs hdct sn sub ab col dd k0 zz10=>?_;refine e41 zz10 fun k1 k2 k3 k5 hC=>?_;clear zz10
 have T:OwnTail h (excMro.drop 2) ci:=tail_of_in X (kf.at 6 rfl)
 have f1:=tc_lookup
 have f2:=tc_bind (.ref 126)
 have hT:(⟨h,g,d,t,os⟩:Shared).TypeIs (.ref 126) "type":=i12 _ hC rfl
 refine codeAny_of_tree ?_
 refine(?_:wpAny _ _ (callAny (.ref 126) _) _ _ _)
 repeat (any_goals (first | assumption | with_reducible refine wpAny_loadPart_at hC ?_ | wp_step))
 refine⟨rfl,?_⟩
 refine codeAny_call_builtin_at (Code.quiet_builtin _ (by decide +kernel)) entry_typeCall (wpAny_check_type_call_sub hC ?_)
 repeat (first | with_reducible refine wpAny_loadPart_at hC ?_ | with_reducible refine wpAny_madeBy_exc hC ?_ | wp_step)
 refine codeAny_call_builtin_code (Code.quiet_builtin _ F.excBase_Exception.quiet) (wpAny_check_new_subU F.excBase_Exception (by decide) T hC ?_)
 refine codeAny_exc_new_subU F.excBase_Exception (by decide) F.excBase_Exception T hC ?_ hlen
 refine(?_:wpAny _ _ _ _ _ _)
 have hC₁:=qw (ye h.objs.size) (qw { cls:=.type "tuple",data:=.seq vs.toArray } hC)
 have hget:(d9 h vs).get? (h.objs.size+1)=some (ye h.objs.size):=by
  have:(h.push { cls:=.type "tuple",data:=.seq vs.toArray }).objs.size=h.objs.size+1:=Heap.size_push ..
  refine rwl this ?_;exact Heap.get?_push_size _ rfl
 have hcC:(Value.ref 126::ci).contains (.ref 126)=true:=rfl
 have X₁:K.In (d9 h vs):=X.keeps fun b o e=>qw _ (qw _ e)
 skip
 repeat (first | with_reducible refine wpAny_loadPart_at hget ?_ | (with_reducible refine wpAny_isSubtype_exc hC₁ ?_;rw[hcC]) | wp_step)
 refine(?_:wpAny _ _ (isSubtype (.ref 126) (.ref 126)) _ _ _)
 refine wpAny_isSubtype_exc hC₁ ?_
 refine rwg hcC ?_
 repeat (first | with_reducible refine wpAny_loadPart_at hget ?_ | wp_step)
 refine(?_:wpAny _ _ (typeLookup (.ref 126) _) _ _ _)
 refine(looks_findIn X₁ (beq_iff_eq.mp (kf.at 12 rfl))).here ?_
 refine wpAny_holding (qm ((bind_fn X₁ _ (beq_iff_eq.mp (kf.at 13 rfl))).here ?_))
 refine qm (wpAny_call (codeAny_mono hq fun r s' z=>?_))
 rcases r with e | (v | _ | _ | _)
 ·exact z
 all_goals first | exact z.elim | skip
 all_goals (
  obtain⟨rfl,z⟩:=z
  repeat (first | exact z | wp_step))
end
noncomputable def qlq(B h:Heap)(e:Addr)(vs:Array Value):Option Value->Prop
 | none=>vs[1]? = some .none
 | some v=>∃T oT ts,vs[1]? = some (.ref T)∧B.get? T=none∧T≠e∧h.get? T=some oT∧oT.data = .fields ts∧ts[3]? = some v
structure Fly(B:Heap)(l:List Env)(e dx:Addr)(fl:Option Value)(h:Heap):Prop where
 stays:B.StaysIn h
 new:B.get? e=none
 frames:h.FunFrames B l
 tr:∃oe vs,h.get? e=some oe∧oe.cls = .ref 126∧oe.dict=some dx∧oe.data = .fields vs∧qlq B h e vs fl
section
variable {M:Model}{A:Around}{E:Value->Shared->Prop}{s:Shared}{B:Heap}{env:Env}{outer:List Env}{L e dx:Addr}
theorem ae(f:Array Value->Array Value)(o:Obj):(Obj.mapFields f o).dict=o.dict:=by
 unfold Obj.mapFields
 split <;> rfl
theorem q01{head:Value}{hadNext:Bool}{vs:Array Value}{oe:Obj}{Q:Unit->Shared->Prop}(hfr:A.frames=some (env::outer))(hf:env.frame=some L)
  (hs:B.StaysIn s.heap) (hn:B.get? e=none) (hl:s.heap.FunFrames B (env::outer)) (he:s.heap.get? e=some oe) (h1:oe.cls = .ref 126) (h2:oe.dict=some dx) (hd:oe.data = .fields vs) (hsz:1<vs.size)
  (h:∀h',Fly B (env::outer) e dx (some (rawInt L)) h'->s.heap.UpToSlots h'->Q () { s with heap:=h' }) :
  wpAny M A (do let a ←frameOf env;let pl ←entryPlaceOf L hadNext;let b ←EntryCells.newEntry head a .none (rawInt L) .none pl;setField (.ref e) 1 b) Q E s:=by
 have far:e∉(env::outer).filterMap (·.frame):=fun hm=>by
  obtain⟨_,o,ho,hnf⟩:=hl.mem hm
  rw[he] at ho;replace ho:=qd ho;cases ho;exact hnf vs hd
 refine qm (wpAny_frameOf_fun hfr hl hf fun h₁ S=>?_)
 refine qm (wpAny_entryPlaceOf fun pl hpl=>?_)
 skip
 refine qm (wpAny_newObj_type ?_ (hpl.sizeOk5 _ _ _ _ _))
 generalize hts:([head,.ref L,.none,rawInt L,.none]++(if pl.isEmpty then List.replicate 6 Value.none else pl)).toArray=ts
 have e1:h₁.get? e=some oe:=(S.2.1 e far).trans he
 have st1:B.StaysIn h₁:=fun b o hb=>(S.2.1 b fun hm=>by rw[(hl.mem hm).1] at hb;exact(j6 hb).elim).trans (hs b o hb)
 have e2:=qw (h:=h₁) { cls:=.type "traceback",dict:=none,data:=.fields ts } e1
 refine wpAny_setField e2 hd hsz (h _ ?_ ?_)
 ·have hT:h₁.objs.size≠e:=Nat.ne_of_gt (Heap.lt_size e1)
  have d3:=Obj.data_mapFields hd (·.setIfInBounds 1 (Value.ref h₁.objs.size))
  have g3:=Heap.get?_update_self (Obj.mapFields (·.setIfInBounds 1 (Value.ref h₁.objs.size))) e2 (Obj.isFreed_of_fields d3)
  have keep:∀b o,b≠e→h₁.get? b=some o→((h₁.push { cls:=.type "traceback",dict:=none,data:=.fields ts }).update e (Obj.mapFields (·.setIfInBounds 1 (Value.ref h₁.objs.size)))).get? b=some o:=fun b o q w=>by
   refine rwg (Heap.get?_update_other _ _ (Ne.symm q)) ?_;exact qw _ w
  refine⟨fun b o hb=>keep b o (fun q=>by rw[q,hn] at hb;exact(j6 hb).elim) (st1 b o hb),hn,hl.of_keeps fun b o hb hnf=>?_,_,_,g3,(Obj.cls_mapFields _ _).trans h1,(ae _ _).trans h2,d3,h₁.objs.size,{ cls:=.type "traceback",dict:=none,data:=.fields ts },ts,by simp[hsz],st1.fresh,hT,?_,rfl,?_⟩
  ·obtain⟨sl,q⟩:=S.2.2 b o hb
   exact i12 _ (keep b _ (fun z=>by(replace hb:=z▸hb;replace hb:=he▸hb);replace hb:=qd hb;cases hb;exact hnf vs hd) q) rfl
  ·refine rwg (Heap.get?_update_other _ _ (Ne.symm hT)) ?_;exact Heap.get?_push_size h₁ rfl
  ·refine rwl hts ?_;rfl
 ·intro b o hb hnf
  obtain⟨sl,q⟩:=S.2.2 b o hb
  refine⟨sl,?_⟩
  refine rwg (Heap.get?_update_other _ _ (fun z=>by rw[←z,he] at hb;replace hb:=qd hb;cases hb;exact hnf vs hd)) ?_
  exact qw _ q
theorem q2i{fl:Option Value}{Q:Unit->Shared->Prop}(hfr:A.frames=some (env::outer))(hf:env.frame=some L)(F:Fly B (env::outer) e dx fl s.heap)(hfl:fl=none∨fl=some .none)
  (h:∀h',Fly B (env::outer) e dx (some (rawInt L)) h'->s.heap.UpToSlots h'->Q () { s with heap:=h' }):wpAny M A (noteFrame (.ref e) env) Q E s:=by
 obtain⟨f1,f2,f3,oe,vs,he,h1,h2,hd,tr⟩:=F
 unfold noteFrame
 simp only [hf]
 rcases hfl with rfl | rfl
 ·refine qm (wpAny_field he hd tr ?_)
  refine rwg (if_neg (by decide)) ?_
  exact q01 hfr hf f1 f2 f3 he h1 h2 hd (Array.getElem?_eq_some_iff.mp tr).1 h
 ·refine e36 tr fun T oT ts t1 t2 t3 t4 t5 t6=>?_;clear tr
  refine qm (wpAny_field he hd t1 ?_)
  refine rwg (if_pos (by exact(by simp):(Value.ref T != Value.none)=true)) ?_
  refine qm (wpAny_field t4 t5 t6 ?_)
  refine rwg (if_neg (by exact(by simp[rawInt]):¬((Value.none==rawInt L)=true))) ?_
  refine qm (wpAny_setField t4 t5 (Array.getElem?_eq_some_iff.mp t6).1 ?_)
  have other:∀b,b≠T->(s.heap.update T (Obj.mapFields (·.setIfInBounds 3 Value.none))).get? b=s.heap.get? b:=fun b hb=>Heap.get?_update_other _ _ (Ne.symm hb)
  have nT:∀b o,s.heap.get? b=some o->(∀vs,o.data ≠ .fields vs)->b≠T:=fun b o hb hnf q=>by
   (replace hb:=q▸hb;replace hb:=t4▸hb);replace hb:=qd hb;cases hb;exact hnf ts t5
  exact q01 hfr hf (fun b o hb=>(other b fun q=>by rw[q,t2] at hb;exact(j6 hb).elim).trans (f1 b o hb)) f2 (f3.of_keeps fun b o hb hnf=>i12 o ((other b (nT b o hb hnf)).trans hb) rfl) ((other e (Ne.symm t3)).trans he) h1 h2 hd (Array.getElem?_eq_some_iff.mp t1).1
   fun h' F U=>h h' F fun b o hb hnf=>U b o ((other b (nT b o hb hnf)).trans hb) hnf
theorem rk{l:List Env}{v:Value}{Q:Unit->Shared->Prop}(F:Fly B l e dx (some v) s.heap)
  (h:∀h',Fly B l e dx (some .none) h'->s.heap.UpToSlots h'->Q () { s with heap:=h' }):wpAny M A (setFlight (.ref e) none) Q E s:=by
 obtain⟨f1,f2,f3,oe,vs,he,h1,h2,hd,T,oT,ts,t1,t2,t3,t4,t5,t6⟩:=F
 have hsz:=(Array.getElem?_eq_some_iff.mp t6).1
 skip
 refine qm (wpAny_field he hd t1 ?_)
 refine rwg (if_pos (by exact(by simp):(Value.ref T != Value.none)=true)) ?_
 refine wpAny_setField t4 t5 hsz ?_
 have other:∀b,b≠T->(s.heap.update T (Obj.mapFields (·.setIfInBounds 3 ((none:Option Addr).elim Value.none fun f=>rawInt f)))).get? b=s.heap.get? b:=fun b hb=>Heap.get?_update_other _ _ (Ne.symm hb)
 have nT:∀b o,s.heap.get? b=some o->(∀vs,o.data ≠ .fields vs)->b≠T:=fun b o hb hnf q=>by
  (replace hb:=q▸hb;replace hb:=t4▸hb);replace hb:=qd hb;cases hb;exact hnf ts t5
 refine h _ ⟨fun b o hb=>(other b fun q=>by rw[q,t2] at hb;exact(j6 hb).elim).trans (f1 b o hb),f2,f3.of_keeps fun b o hb hnf=>(i12 o ((other b (nT b o hb hnf)).trans hb) rfl),oe,vs,(other e (Ne.symm t3)).trans he,h1,h2,hd,T,_,_,t1,t2,t3,
  Heap.get?_update_self _ t4 (Obj.isFreed_of_fields (Obj.data_mapFields t5 _)),Obj.data_mapFields t5 _,by simp[hsz]⟩ fun b o hb hnf=>⟨o.slots,(other b (nT b o hb hnf)).trans hb⟩
theorem il{fl:Option Value}{Q:Unit->Shared->Prop}(hfr:A.frames=some (env::outer))(hf:env.frame=some L)(F:Fly B (env::outer) e dx fl s.heap)(hfl:fl=none∨fl=some .none)
  (h:∀h',Fly B outer e dx (some .none) h'->s.heap.UpToSlots h'->Q () { s with heap:=h' }):wpAny M A (leaving env (.ref e)) Q E s:=by
 unfold leaving
 refine qm (q2i hfr hf F hfl fun h₁ F₁ U₁=>rk F₁ fun h₂ F₂ U₂=>?_)
 obtain⟨a,b,⟨_,_,f⟩,d⟩:=F₂
 exact h h₂ ⟨a,b,f,d⟩ (U₁.trans U₂)
end
theorem q35{K:Frag}(kf:KFacts K){f:Str}(h:f∈excFields):findIn K (.ref 126) f=some none:=beq_iff_eq.mp (qy.mp (kf.at 9 rfl) f h)
structure qk0(K:Frag)(cd:ClassData):Prop where
 c:clsIn K 126=some cd
 hd:cd.hasDict=true
 mro:cd.mro=excMro
theorem cg{K:Frag}(kf:KFacts K):∃cd,qk0 K cd:=by
 have q:=kf.at 7 rfl
 induction h:clsIn K 126 using qe with
 | none=>rw[h] at q;exact(jt q).elim
 | some cd=>
  rw[h] at q
  exact yz (by exact q:qcw cd=true) fun h1 q=>yz q fun h2 z_=>⟨cd,h,h1,beq_iff_eq.mp h2⟩
theorem q4n (self:Value):PySem.refuseLoop self "__setattr__" excMro=pure ():=by
 simp only [excMro];rw[refuseLoop_ref,refuseLoop_ref];kernel_rfl
section
variable {K:Frag}{prog:Program}{w:World}{A:Around}{R:Result->Shared->Prop}{s:Shared}
theorem q74{x:Addr}{ox:Obj}{name:Str}{tk:Tok}{v:Value}(kf:KFacts K)(X:K.In s.heap)(hx:s.heap.get? x=some ox)(hcl:ox.cls = .ref 126)(hf:name∈excFields)
  (h:∀b,wpAny (model prog w) A.in1 (PySem.Builtin.ObjectAttr.storeInOwnDict (.ref x) (.ref 126) (.str name tk) name v b)
   (fun fin s'=>match fin with | .done f=>R (.ok f) s' | .again c'=>c'.quiet=true∧codeAny (model prog w) A c' R s') (fun e s'=>R (.error e) s') s) :
  codeAny (model prog w) A (.call (.builtin "object.__setattr__") ⟨[.ref x,.str name tk,v],[]⟩) R s:=by
 have SF:=PySem.F.store_object
 obtain⟨cd,hc,_,hm⟩:=cg kf
 have ty:Looks (model prog w) s.heap (typeOf (.ref x)) (.ref 126):=hcl▸(Looks.ld hx).andThen .now
 have sub:Looks (model prog w) s.heap (isInstance (.ref x) (.type "object")) true:=ty.andThen (looks_mroIn X (by unfold mroIn;refine rwg hc<|rwg (Option.bind_some _ _)<|rwg (if_neg (by rw[hm];decide)) ?_;refine rwg hm ?_;simp only [excMro];rfl))
 refine codeAny_call_builtin SF.slot.plain SF.entry (@check_slot (model prog w) _ _ s "object.__setattr__" "object" "__setattr__" (.ref x) [.str name tk,v] [] _ SF.kind SF.split sub (SF.args (.ref x) (.str name tk) v) ?_)
 have hml:Looks (model prog w) s.heap (mroOf (.ref 126)) cd.mro:=(looks_clsIn X hc).andThen .now
 (rewrite[osa_eq];refine rwg (refuse_eq _ _) ?_)
 refine qm (qm (ty.here (qm (hml.here ?_))))
 refine rwg hm<|rwg (q4n _) ?_
 refine qx (qm (ty.here (qm ((looks_findIn X (q35 kf hf)).here (qm (qx ?_))))))
 exact h _
theorem q2b{x:Addr}{ox:Obj}{name:Str}{v:Value}{Q:Unit->Shared->Prop}{Er:Value->Shared->Prop}(kf:KFacts K)(X:K.In s.heap)(hx:s.heap.get? x=some ox)(hcl:ox.cls = .ref 126)
  (h:codeAny (model prog w) A (.call (.builtin "object.__setattr__") ⟨[.ref x,.str name s.toks,v],[]⟩) (fun r s'=>match r with | .ok (.ret _)=>Q () s' | .ok _=>False | .error e=>Er e s') { s with toks:=s.toks+1 }) :
  wpAny (model prog w) A (PySem.setAttr (.ref x) name v) Q Er s:=by
 have ty:Looks (model prog w) s.heap (typeOf (.ref x)) (.ref 126):=hcl▸(Looks.ld hx).andThen .now
 refine qm (wpAny_mkText (qm (qm (qm (ty _ _ _ _ (fun z_ z_ e=>e) (looks_findIn X (beq_iff_eq.mp (kf.at 8 rfl)) _ _ _ _ (fun z_ z_ e=>e) (wpAny_holding ?_)))))))
 refine rwg (PySem.F.store_object.slot.bind _) ?_
 refine qm (qx (qm (wpAny_call (codeAny_mono h fun r s' z=>?_))))
 rcases r with e | (v | _ | _ | _) <;> first | exact z | exact qx (qx z)
theorem q6v{dx:Addr}{en:List DictEntry}{m:Nat}{f:Str}{v:Value}{tk:Tok}{Q:PySem.Fin->Shared->Prop}{Er:Value->Shared->Prop}(D:s.heap.get? dx=some (dictOf en m))(hr:∀e∈en,e.refKey=false)(hz:en.length≤999)
  (h:∀h' n',Heap.SameBut dx s.heap h'->h'.get? dx=some (dictOf (putL f (hashStr w f) (.str f s.toks) v en) n')->Q (.done (.ret .none)) { s with heap:=h',toks:=s.toks+1 }) :
  wpAny (model prog w) A (PySem.Builtin.ObjectAttr.storeInDict dx (.str f tk) f v) Q Er s:=by
 have hlen:=q2d f (PyData.keyHash w.params f) (.str f s.toks) v en
 have e:=putName_dict f (PyData.keyHash w.params f) (.str f s.toks) v en m
 have D':(s.heap.update dx (Obj.putName f (PyData.keyHash w.params f) (.str f s.toks) v)).get? dx=some (dictOf (putL f (PyData.keyHash w.params f) (.str f s.toks) v en) (putN f en m)):=e▸Heap.get?_update_self _ D (by refine rwg e ?_;rfl)
 refine qm (qx (qm ?_))
 refine rwg (nsSet.eq_1 _ _ _) ?_
 refine qm (qm (wpAny_askSetting (qx (qm (wpAny_mkText (qm (wpAny_loadPart D ?_)))))))
 dsimp only [dictOf]
 have cc:aRefKeyMayBeTheName f en.toArray=false:=by
  refine rwg (aRefKeyMayBeTheName_at _ _) ?_
  have:en.toArray.any (·.refKey)=false:=by
   refine rwl Array.any_toList ?_
   exact List.any_eq_false.mpr fun x hx=>by simpa using hr x (by simpa using hx)
  exact rwg this<|rwg (Bool.and_false _) rfl
 refine rwg cc ?_
 refine wpAny_updatePart D ?_
 refine qm (wpAny_lookBehind D' (pastItsLine_dict (by refine rwg List.size_toArray<|rwg sizeLine_eq ?_;exact leK (qr hlen (Nat.succ_le_succ hz)) rfl)) ?_)
 exact qx (h _ _ ⟨Heap.size_update ..,fun b hb=>Heap.get?_update_ne _ _ _ _ hb⟩ D')
theorem q2c{x dx:Addr}{ox:Obj}{en:List DictEntry}{m:Nat}{f:Str}{v:Value}{Q:Unit->Shared->Prop}{Er:Value->Shared->Prop}(kf:KFacts K)(X:K.In s.heap)(hx:s.heap.get? x=some ox)(hcl:ox.cls = .ref 126)
  (hdi:ox.dict=some dx) (D:s.heap.get? dx=some (dictOf en m)) (hr:∀e∈en,e.refKey=false) (hz:en.length≤999) (hf:f∈excFields)
  (h:∀h' n' tk,Heap.SameBut dx s.heap h'->h'.get? dx=some (dictOf (putL f (hashStr w f) (.str f tk) v en) n')->Q () { s with heap:=h',toks:=s.toks+2 }) :
  wpAny (model prog w) A (PySem.setAttr (.ref x) f v) Q Er s:=by
 obtain⟨cd,hc,hd',_⟩:=cg kf
 refine q2b kf X hx hcl ?_
 refine q74 (s:={ s with toks:=s.toks+1 }) kf X hx hcl hf fun b=>?_
 refine qm (qx (qm (qm (wpAny_loadPart hx ?_))))
 refine rwg hcl ?_
 refine qm (Looks.here (s:={ s with toks:=s.toks+1 }) (looks_clsIn X hc) ?_)
 refine rwg hd' ?_
 dsimp only
 refine rwg hdi ?_
 refine qx (a:=some dx) ?_
 exact q6v (s:={ s with toks:=s.toks+1 }) D hr hz fun h' n' S1 D1=>h h' n' _ S1 D1
theorem qb7{x:Addr}{ox:Obj}{vs:Array Value}{f:Str}{v:Value}{Q:Unit->Shared->Prop}{Er:Value->Shared->Prop}(kf:KFacts K)(X:K.In s.heap)(hx:s.heap.get? x=some ox)(hcl:ox.cls = .ref 126)
  (hdi:ox.dict=none) (hda:ox.data = .fields vs) (hf:f∈excFields)
  (h:∀h' dx n' tk,dx=s.heap.objs.size->(∀b o,b≠x->s.heap.get? b=some o->h'.get? b=some o)->h'.get? x=some { ox with dict:=some dx }->h'.get? dx=some (dictOf (putL f (hashStr w f) (.str f tk) v []) n')->Q () { s with heap:=h',toks:=s.toks+2 }) :
  wpAny (model prog w) A (PySem.setAttr (.ref x) f v) Q Er s:=by
 obtain⟨cd,hc,hd',_⟩:=cg kf
 refine q2b kf X hx hcl ?_
 refine q74 (s:={ s with toks:=s.toks+1 }) kf X hx hcl hf fun b=>?_
 refine qm (qx (qm (qm (wpAny_loadPart hx ?_))))
 refine rwg hcl ?_
 refine qm (Looks.here (s:={ s with toks:=s.toks+1 }) (looks_clsIn X hc) ?_)
 refine rwg hd' ?_
 dsimp only
 refine rwg hdi ?_
 dsimp only
 refine rwg hda ?_
 (refine rwg (if_neg (by decide)) ?_;rewrite[if_neg (by decide)])
 dsimp only
 have n1:s.heap.get? s.heap.objs.size=none:=u7 _
 have hxs:x≠s.heap.objs.size:=fun q=>by(replace hx:=q▸hx;replace hx:=n1▸hx);exact(j6 hx).elim
 have hx1:=qw (h:=s.heap) { cls:=.type "dict",data:=.dict #[] } hx
 have hd1:(s.heap.push { cls:=.type "dict",data:=.dict #[] }).get? s.heap.objs.size=some { cls:=.type "dict",data:=.dict #[] }:=Heap.get?_push_size _ rfl
 refine qm (wpAny_alloc ?_)
 refine qm (wpAny_update (s:=⟨s.heap.push { cls:=.type "dict",data:=.dict #[] },s.gens,s.drawn,s.toks+1,s.os⟩) hx1 ?_)
 refine qx ?_
 have hx2:=Heap.get?_update_self (fun o=>{ o with dict:=some s.heap.objs.size }) hx1 (Obj.isFreed_of_fields hda)
 have hd2:=(Heap.get?_update_other (s.heap.push { cls:=.type "dict",data:=.dict #[] }) (fun o=>{ o with dict:=some s.heap.objs.size }) hxs).trans hd1
 refine q6v (s:=⟨(s.heap.push { cls:=.type "dict",data:=.dict #[] }).update x (fun o=>{ o with dict:=some s.heap.objs.size }),s.gens,s.drawn,s.toks+1,s.os⟩) (en:=[]) (m:=0) hd2 (fun z_ h=>by exact nomatch h) (Nat.zero_le _) fun h' n' S1 D1=>?_
 refine h h' s.heap.objs.size n' _ rfl (fun b o hb ho=>?_) ((S1.2 x hxs).trans hx2) D1
 have hbs:b≠s.heap.objs.size:=fun q=>by rw[q,n1] at ho;exact(j6 ho).elim
 refine rwg (S1.2 b hbs) ?_
 exact(Heap.get?_update_other _ _ (Ne.symm hb)).trans (qw _ ho)
end
structure Put1 where
 p1:Pos
 p2:Pos
 p3:Pos
 p4:Pos
noncomputable def Put1.st (f:Str) (q:Put1):Stmt:=.Assign [.Attribute (.Name "self" q.p1) f q.p2] (.Name f q.p3) q.p4
noncomputable abbrev fw:Str:="RError.__init__"
theorem q4m:∃a b c:Put1,(ja fw).body=[a.st "message",b.st "call",c.st "condition"]:=i31 ⟨_,_,_,_⟩ ⟨_,_,_,_⟩ ⟨_,_,_,_⟩ rfl
theorem qbc:wx fw=some (ja fw):=by kernel_rfl
theorem i9:((ja fw).params,(ja fw).defaults)=([("self":Str),"message","call","condition"],[]):=by kernel_rfl
theorem q8d:([("self":Str),"message","call","condition"].all fun x=>decide (jc (ja fw).scope x=some .local))=true:=by kernel_rfl
theorem qh1:w8 fw=some 123:=by decide +kernel
section
variable {c:CC}{F:Fr'}{g:Gh}{sg:List SO}{s:Shared}{A:Around}{e:Addr}
theorem t9{x:Str}{p:Pos}{v:Value}{M:Model}{Q:Value->Shared->Prop}{Er:Value->Shared->Prop}{s:Shared}(fs:FrS F)(hk:jc F.sc x=some .local)(hl:F.E.kindOf x=some .local)(H:At F.E s.heap x v)(h:Q v s):wpAny M A (qp (.Name x p) F.E) Q Er s:=by
 induction H using At.casesOn with
 | loc _ a b=>exact wpAny_Name (wpAny_loadName_local fs.kind hl a b h) (fs.ndbg hk)
 | cel k=>exact(lx hl k).elim
noncomputable def Kp(e:Addr)(h h':Heap):Prop:=∀b o,b≠e->h.get? b=some o->h'.get? b=some o
theorem At.kp{E:Env}{x:Str}{v:Value}{h h':Heap}{o:Obj}{vs:Array Value}(H:At E h x v)(hl:E.kindOf x=some .local)(ho:h.get? e=some o)(hd:o.data = .fields vs)(k:Kp e h h'):At E h' x v:=by
 induction H using At.casesOn with
 | @loc m _ a b=>
  refine e12 (gz a) fun o' q1 q2=>?_
  have ne:E.locals≠e:=fun z=>by
   (replace q1:=z▸q1;replace q1:=ho▸q1);cases q1
   refine e21 q2 fun es ep zz2=>?_;clear q2;obtain⟨w,_⟩:=zz2
   rw[hd] at w;cases w
  exact .loc hl (q2.at (k _ _ ne q1)) b
 | cel z=>exact(lx hl z).elim
theorem q0l {f:Str} {v:Value} {q:Put1} {s:Shared} {K:Flow→Shared→Prop} {Er:Value→Shared→Prop} {M:Model} (fs:FrS F) (hk:jc F.sc f=some .local) (hks:jc F.sc "self"=some .local) (hl:F.E.kindOf f=some .local) (hls:F.E.kindOf "self"=some .local) (a1:At F.E s.heap f v) (a2:At F.E s.heap "self" (.ref e))
  (h:wpAny M A (PySem.setAttr (.ref e) f v) (fun z_ s'=>K .next s') Er s):wpAny M A (PySem.exec (q.st f) F.E) K Er s:=
 plainObj_wpAny_Assign_Attribute (t9 fs hk hl a1 (t9 fs hks hls a2 h)) (cr _ _)
theorem q34{a b d:Stmt}{E:Env}{M:Model}{K:Flow->Shared->Prop}{Er:Value->Shared->Prop}{s:Shared}(h:wpAny M A (PySem.exec a E) (fun f s'=>f = .next∧wpAny M A (PySem.exec b E) (fun f s'=>f = .next∧wpAny M A (PySem.exec d E) (fun f s'=>f = .next∧K .next s') Er s') Er s') Er s):wpAny M A (execs [a,b,d] E) K Er s:=by
 refine wpAny_execs_cons (wpAny_mono h (fun f s' z=>?_) fun z_ z_ x=>x)
 obtain⟨rfl,z⟩:=z
 refine wpAny_execs_cons (wpAny_mono z (fun f s' z=>?_) fun z_ z_ x=>x)
 obtain⟨rfl,z⟩:=z
 refine wpAny_execs_cons (wpAny_mono z (fun f s' z=>?_) fun z_ z_ x=>x)
 obtain⟨rfl,z⟩:=z
 exact wpAny_execs_nil z
structure qi2(h:Heap)(e dx t:Addr)(en:List DictEntry)(n':Nat)(v:Value):Prop where
 e:h.get? e=some { ye t with dict:=some dx }
 d:h.get? dx=some (dictOf en n')
 m:getL "message" en=some (some v)
theorem qg7(H:Hp c g sg s)(hg:g e=none){t:Addr}(he:s.heap.get? e=some (ye t))(hroom:A.depth<recursionLimit){v1 v2 v3:Value}{Rr:Result->Shared->Prop}
  (k:∀s' dx en n',Hp c g sg s'->g dx=none->qi2 s'.heap e dx t en n' v1->Rr (.ok (.ret .none)) s'):codeAny (model c.prog c.w) A (.call (.ref 123) ⟨[.ref e,v1,v2,v3],[]⟩) Rr s:=by
 obtain⟨qa,qb,qc,hb⟩:=q4m
 have hp1:(ja fw).params=[("self":Str),"message","call","condition"]:=congrArg (·.1) i9
 have hp2:(ja fw).defaults=[]:=congrArg (·.2) i9
 have hge:hide g e=none:=uq hg
 have H1:Hp c (jp (hide g) e .still (ye t)) sg s:=H.hide.turn (H.hide.fits.upd _ (Heap.SameBut.refl _ _) he) (KeepF.new hge) (yr hge (fun z_ z_=>jb rfl)) rfl rfl
 refine fm H1 (vc qh1 qbc) hroom (env:=[]) (by refine rwg hp1 ?_;exact Nat.le_refl _) (by refine rwg hp1 ?_;exact Nat.le_add_right _ _) (fun dv hdv=>EB.nil) fun E g1 s1 I1 keep EO hat=>?_
 have kl:∀x,x∈[("self":Str),"message","call","condition"]→jc (ja fw).scope x=some .local:=fun x hx=>of_decide_eq_true (qy.mp q8d x hx)
 have hloc:∀x,x∈[("self":Str),"message","call","condition"]→E.kindOf x=some .local:=fun x hx=>by unfold Env.kindOf;refine rwg EO.scope ?_;exact kl x hx
 have m0:("self":Str)∈[("self":Str),"message","call","condition"]:=.head _
 have m1:("message":Str)∈[("self":Str),"message","call","condition"]:=.tail _ (.head _)
 have m2:("call":Str)∈[("self":Str),"message","call","condition"]:=.tail _ (.tail _ (.head _))
 have m3:("condition":Str)∈[("self":Str),"message","call","condition"]:=.tail _ (.tail _ (.tail _ (.head _)))
 have at0:At E s1.heap "self" (.ref e):=hat _ _ (by refine rwg hp1 ?_;rfl) (hloc _ m0)
 have at1:At E s1.heap "message" v1:=hat _ _ (by refine rwg hp1 ?_;rfl) (hloc _ m1)
 have at2:At E s1.heap "call" v2:=hat _ _ (by refine rwg hp1 ?_;rfl) (hloc _ m2)
 have at3:At E s1.heap "condition" v3:=hat _ _ (by refine rwg hp1 ?_;rfl) (hloc _ m3)
 have he1:s1.heap.get? e=some (ye t):=I1.fits.exact (keep _ _ _ jf) (jb rfl)
 have hbe:c.base.get? e=none:=H.nobase hg
 have HX:∀{h:Heap},Kp e s1.heap h->c.K.In h:=fun kp b o q=>by
  have q1:=I1.gd.X b o q
  exact kp b o (fun w=>by rw[w,hbe] at q1;exact j6 q1) (I1.keep b o q1)
 have gn:∀{b k0 o},g b=some (k0,o)->b≠e:=fun q z=>by rw[z,hg] at q;exact j6 q
 have g1k:∀{b k0 o},g b=some (k0,o)->∃k1,g1 b=some (k1,o)∧((k1 = .still∧k0.own=true)∨k1=k0):=fun {b k0 o} q=>by
  induction hk:k0.own using qg with
  | true=>exact i12 _ (keep b _ o ((je (gn q)).trans (wn q hk))) (.inl ⟨rfl,rfl⟩)
  | false=>exact i12 _ (keep b _ o ((je (gn q)).trans (ju q hk))) (.inr rfl)
 have fs:=I1.fs
 obtain⟨hp,ge,dr,tk,os⟩:=s1
 have kp2:∀{dx:Addr}{h h':Heap},dx=hp.objs.size->Kp e hp h->Heap.SameBut dx h h'->Kp e hp h':=fun {dx h h'} e0 kp S b o hb ho=>by
  by_cases hbd:b=dx
  ·(replace ho:=hbd▸ho;replace ho:=e0▸ho;rewrite[u7] at ho);exact(j6 ho).elim
  ·exact(S.2 b hbd).trans (kp b o hb ho)
 refine rwg hb ?_
 refine q34 (q0l (F:=⟨(ja fw).scope,E⟩) fs (kl _ m1) (kl _ m0) (hloc _ m1) (hloc _ m0) at1 at0 (qb7 c.kf I1.X he1 rfl rfl rfl (.head _) fun h2 dx n2 tA dxe k2 x2 D2=>⟨rfl,?_⟩))
 have k2:Kp e hp h2:=k2
 refine q0l (F:=⟨(ja fw).scope,E⟩) fs (kl _ m2) (kl _ m0) (hloc _ m2) (hloc _ m0) (at2.kp (hloc _ m2) he1 rfl k2) (at0.kp (hloc _ m0) he1 rfl k2) (q2c c.kf (HX k2) x2 rfl rfl D2 (fun y hy=>?_) (by(decide):(1:Nat)≤999) (.tail _ (.head _)) fun h3 n3 tB S3 D3=>⟨rfl,?_⟩)
 ·obtain rfl:=List.mem_singleton.mp (by exact hy:y∈[_]);rfl
 have k3:Kp e hp h3:=kp2 dxe k2 S3
 have xe:e≠dx:=fun q=>by(replace x2:=q▸x2;replace x2:=D2▸x2);cases x2
 have x3:=(S3.2 e xe).trans x2
 refine q0l (F:=⟨(ja fw).scope,E⟩) fs (kl _ m3) (kl _ m0) (hloc _ m3) (hloc _ m0) (at3.kp (hloc _ m3) he1 rfl k3) (at0.kp (hloc _ m0) he1 rfl k3) (q2c c.kf (HX k3) x3 rfl rfl D3 (fun y hy=>?_) (by(decide):(2:Nat)≤999) (.tail _ (.tail _ (.head _))) fun h4 n4 tC S4 D4=>⟨rfl,?_⟩)
 ·rcases ql.mp (by exact hy:y∈[_,_]) with rfl | hy
  ·rfl
  ·obtain rfl:=List.mem_singleton.mp hy;rfl
 have k4:Kp e hp h4:=kp2 dxe k3 S4
 have gdx:g dx=none:=by
  induction q:g dx using qe with
  | none=>rfl
  | some z=>
   refine e11 (g1k (k0:=z.1) (o:=z.2) q) fun k1 zz1=>?_;obtain⟨w,_⟩:=zz1
   obtain⟨o',w1,_⟩:=I1.fits _ _ _ w
   rw[dxe,u7] at w1;exact(j6 w1).elim
 refine k _ dx _ n4 ⟨fun b k0 o ho=>?_,H.gd,H.base,H.sig,I1.gens,I1.os⟩ gdx ⟨(S4.2 e xe).trans x3,D4,rfl⟩
 refine e12 (g1k ho) fun k1 w w2=>?_
 refine e12 (I1.fits _ _ _ w) fun o' z1 z2=>?_
 refine i12 o' (k4 b o' (gn ho) z1) ?_
 rcases w2 with ⟨rfl,_⟩ | rfl
 ·have z2:o'=o:=z2
  refine rwg z2 ?_;exact Lk.refl _ _
 ·exact z2
end
theorem ax{M:Model}{A:Around}{Er:Value->Shared->Prop}{env:Env}{s:Shared}{x:Sem Value}{Q:Flow->Shared->Prop}(hh:A.handled=none)
  (h:wpAny M A x (fun v s₁=>∃e t dx,v = .ref e∧q7t s₁.heap∧s₁.heap.get? e=some { ye t with dict:=some dx }∧Er (.ref e) s₁) Er s):wpAny M A (raiseStmt env (some x) none) Q Er s:=by
 unfold raiseStmt
 refine qm (wpAny_mono h (fun v s₁ h₁=>?_) fun z_ z_ x=>x)
 refine e34 h₁ fun e t dx zz3 zz4 he hE=>?_;clear h₁;subst zz3;refine qda zz4 fun nm qn bs hdct sn sub ab col dd k0 zz10=>?_;clear zz4;refine e41 zz10 fun k1 k2 k3 k5 hC=>?_;clear zz10
 have hcB:(Value.ref 126::ci).contains (.type "BaseException")=true:=rfl
 obtain⟨hp,g,d,tk,os⟩:=s₁
 repeat (first | with_reducible refine wpAny_loadPart_at he ?_ | with_reducible refine wpAny_loadPart_at hC ?_ | (with_reducible refine wpAny_isSubtype_exc hC ?_;refine rwg hcB ?_) | wp_step)
 exact wpAny_raiseNew_none hh hE
section
variable {W:Cx}{f:Fns}{F:Fr'}{g:Gh}{st:St}{s:Shared}
theorem ie {c:CC} {M:Model} {A:Around} {p:Pos} {Q:Value→Shared→Prop} {Er:Value→Shared→Prop} (I:Inv c F g st s) (hk:jc F.sc "RError"=some .globalImplicit) (h:Q (.ref 126) s):wpAny M A (qp (.Name "RError" p) F.E) Q Er s:=by
 refine e11 I.here.g fun mg hg=>?_
 exact Name_function_global I.fs.kind (I.fs.glb hk) (loadGlobal_global (by refine rwg I.fs.glob ?_;exact hg) (mg_of I.X hg (beq_iff_eq.mp (c.kf.at 10 rfl))) h) (I.fs.ndbg hk)
theorem q8g (H:Snd W f) (hroom:W.A.depth+1<recursionLimit) (I:Inv W.c F g st s) {args np cpos pos} {P:List T→St→Prop} (hp:args.all xc=true) (hk:jc F.sc "RError"=some .globalImplicit) (h:evL (f.evalT F.sc) args st P) (h3:∀ts st',P ts st'→ts.length=3) {Q:Flow→Shared→Prop} {Er:Value→Shared→Prop}
  (k:∀v1 g1 s1 e t dx en n' t1 r st',Inv W.c F g1 st' s1->StepE g g1->Rep W.c.w g1 v1 t1->g1 e=none->g1 dx=none->qi2 s1.heap e dx t en n' v1->P (t1::r) st'->Er (.ref e) s1) :
  wpAny (model W.c.prog W.c.w) W.A (PySem.exec (.Raise (some (.Call (.Name "RError" np) args [] cpos)) none pos) F.E) Q Er s:=by
 rw[arm_exec_Raise]
 refine qm (wpAny_standAt (ax H.R.handled ?_))
 refine qm (wpAny_mono (wpAny_Call_NameR (Q:=fun v s₁=>∃e t dx,v = .ref e∧q7t s₁.heap∧s₁.heap.get? e=some { ye t with dict:=some dx }∧Er (.ref e) s₁) (ie I hk ?_)) (fun v s3 h3=>qm (wpAny_standAt (qx h3))) fun z_ z_ x=>x)
 refine wo H hp h I (W.c.kf.at 11 rfl) fun vs g1 s1 ts st1 I1 S1 z1 q1=>?_
 have hl:=h3 ts st1 q1
 obtain⟨h,gg,dd,tt,oo⟩:=s1
 cases z1 with
 | nil=>exact Nat.noConfusion hl
 | @cons v1 t1 vs ts z1 r1=>
 cases r1 with
 | nil=>exact nomatch hl
 | @cons v2 t2 vs ts z2 r2=>
 cases r2 with
 | nil=>exact nomatch hl
 | @cons v3 t3 vs ts z3 r3=>
 cases r3 with
 | cons _ _=>exact nomatch hl
 | nil=>
 have n0:∀{b},h.objs.size≤b->g1 b=none:=fun hb=>I1.fits.no (Heap.get?_none_of_le hb)
 have I2:Inv W.c F g1 st1 ⟨d9 h [v1,v2,v3],gg,dd,tt,oo⟩:=I1.grow fun b o e=>qw _ (qw _ e)
 have he:(d9 h [v1,v2,v3]).get? (h.objs.size+1)=some (ye h.objs.size):=by
  refine rwl (show (h.push { cls:=.type "tuple",data:=.seq [v1,v2,v3].toArray }).objs.size=h.objs.size+1 from Heap.size_push ..) ?_;exact Heap.get?_push_size _ rfl
 refine wpAny_call (codeAny_mono (qa2 (R:=fun r s'=>∃v,r = .ok (.ret v)∧∃e t dx,v = .ref e∧q7t s'.heap∧s'.heap.get? e=some { ye t with dict:=some dx }∧Er (.ref e) s') W.c.kf I1.X (by refine rwg sizeLine_eq ?_;exact(by(decide):(3:Nat)≤16777216)) ?_) fun r s' z=>by obtain⟨v,rfl,z⟩:=z;exact z)
 exact qg7 I2.toHp (n0 (Nat.le_succ _)) he hroom fun s' dx en n' H' x0 x1=>⟨rfl,(i12 (.ref (h.objs.size+1)) rfl (i34 (h.objs.size+1) h.objs.size dx rfl (sj W.c.kf H'.X) x1.e (k v1 g1 s' _ h.objs.size dx en n' t1 _ st1 ⟨H',I1.fs,I1.fr⟩ S1 z1 (n0 (Nat.le_succ _)) x0 x1 q1)))⟩
end
noncomputable abbrev po:Str:="Evaluator.signal_error"
structure SigQ where
 np:Pos
 as:List qo
 cp:Pos
 pos:Pos
structure SigS(q:SigQ):Prop where
 body:(ja po).body.drop 1=[.Raise (some (.Call (.Name "RError" q.np) q.as [] q.cp)) none q.pos]
 raised:q71 ((ja po).body.drop 1)=some ⟨.Name "RError" q.np,q.as,q.cp⟩
 plain:q.as.all xc=true
theorem q89:∃q,SigS q:=⟨⟨_,_,_,_⟩,rfl,rfl,rfl⟩
theorem sig_is:wx po=some (ja po):=by kernel_rfl
theorem qb1:jc (ja po).scope "RError"=some .globalImplicit:=by kernel_rfl
theorem qlk:w8 po=some 1028:=by decide +kernel
inductive Thrown(c:CC)(g:Gh)(sg:List SO)(outer:List Env)(x:Str):Value->Shared->Prop
 | mk {e dx:Addr} {en:List DictEntry} {n':Nat} {v:Value} {B:Heap} {s0 s':Shared}:Hp c g sg s0->Fly B outer e dx (some .none) s'.heap->s0.heap.UpToSlots s'.heap->(∀b k o o',g b=some (k,o)->b∉outer.filterMap (·.frame)->s0.heap.get? b=some o'->B.get? b=some o') ->
  B.get? dx=some (dictOf en n')→getL "message" en=some (some v)→g e=none→Rep c.w g v (.str x)→s'.gens=s0.gens→s'.os=s0.os→Thrown c g sg outer x (.ref e) s'
structure qln(g:Gh)(env:Env)(L:Addr)(k:Kd)(o:Obj):Prop where
 kind:env.scope.kind ≠ .module
 frame:env.frame=some L
 at_:g L=some (k,o)
 nf:k ≠ .fdict
 ns:∀i p,k ≠ .shr i p
 d:∀vs,o.data ≠ .fields vs
noncomputable def Waits(g:Gh)(outer:List Env):Prop:=∀env∈outer,∃L k o,qln g env L k o
section
variable {W:Cx}{f:Fns}{F:Fr'}{g:Gh}{st:St}{s:Shared}{c:CC}{A:Around}{sg:List SO}
theorem ot(H:Snd W f){a b:List Stmt}{P:St->Prop}(h:wb (f.exec F.sc) a st fun fl st1=>gd fl.next? (P st1))(I:Inv W.c F g st s){K:Flow->Shared->Prop}{Er:Value->Shared->Prop}(k:∀g1 s1 st1,Inv W.c F g1 st1 s1->StepS g g1->P st1->wpAny (model W.c.prog W.c.w) W.A (execs b F.E) K Er s1):
  wpAny (model W.c.prog W.c.w) W.A (execs (a++b) F.E) K Er s:=by
 refine rwg (rf _ _ _) ?_
 refine qm (nf (xy H h I fun fl s1 g1 fl1 st1 I1 S1 z1 q1=>e8 q1 fun q2 q3=>?_))
 cases z1 with
 | next=>exact k g1 s1 st1 I1 S1 q3
 | ret=>exact(jt q2).elim
theorem ir{g g1:Gh}{L:Addr}{o:Obj}(keep:∀a k o,hide g a=some (k,o)->g1 a=some (k,o))(h:g1 L=some (.frm,o)):g L=none:=by
 induction q:g L using qe with
 | none=>rfl
 | some p=>
  induction w:p.1.own using qg with
  | true=>have:=keep _ _ _ (wn (k:=p.1) (o:=p.2) q w);rw[this] at h;exact nomatch h
  | false=>rw[show p.1 = .frm from congrArg Prod.fst (qd ((keep _ _ _ (ju (k:=p.1) (o:=p.2) q w)).symm.trans h))] at w;exact Bool.noConfusion w
theorem q3r{g g2:Gh}{L:Addr}{o:Obj}(h:g L=none)(h2:g2 L=some (.frm,o)):back g g2 L=none:=by unfold back;exact rwg h<|rwg h2 rfl
theorem q1q{g g1 g2:Gh}{e:Addr}(keep:∀a k o,hide g a=some (k,o)->g1 a=some (k,o))(S:StepS g1 g2)(h2:g2 e=none):back g g2 e=none:=by
 induction q:back g g2 e using qe with
 | none=>rfl
 | some p=>
  rcases ug (k:=p.1) (o:=p.2) q with ⟨a,b⟩ | a
  ·have:=S.still _ _ (keep _ _ _ (wn a b));rw[h2] at this;exact(j6 this).elim
  ·rw[h2] at a;exact(j6 a).elim
theorem Waits.call{g g1 g2:Gh}{outer:List Env}(W:Waits g outer)(keep:∀a k o,hide g a=some (k,o)->g1 a=some (k,o))(S:StepS g1 g2):Waits g2 outer:=fun env he=>by
 refine e31 (W env he) fun L k o Z=>?_
 have mk:∀{k'},g2 L=some (k',o)->k' = .still∨k' = .froz->∃L k o,qln g2 env L k o:=fun e z=>i31 L _ o ⟨Z.kind,Z.frame,e,by rcases z with rfl | rfl <;> nofun,by rcases z with rfl | rfl <;> nofun,Z.d⟩
 induction w:k.own using qg with
 | true=>exact mk (S.still _ _ (keep _ _ _ (wn Z.at_ w))) (.inl rfl)
 | false=>
  have q:=keep _ _ _ (ju Z.at_ w)
  induction k using Kd.casesOn with
  | still=>exact mk (S.still _ _ q) (.inl rfl)
  | froz=>exact mk (S.froz _ _ q) (.inr rfl)
  | fdict=>exact absurd rfl Z.nf
  | shr i p=>exact absurd rfl (Z.ns i p)
  | mine x p=>exact Bool.noConfusion w
  | frm=>exact Bool.noConfusion w
  | cel x=>exact Bool.noConfusion w
theorem Waits.frames{outer:List Env}{h B:Heap}(W:Waits g outer)(F:Fits g h)(hB:∀L∈outer.filterMap (·.frame),B.get? L=none):h.FunFrames B outer:=by
 induction outer with
 | nil=>trivial
 | cons env r ih=>
  refine e31 (W env (.head _)) fun L k o Z=>?_
  refine i03 Z.kind (i24 L o Z.frame (hB L (by refine rwg List.filterMap_cons<|rwg Z.frame ?_;exact .head _)) (F.exact Z.at_ Z.nf) Z.d) (ih (fun x hx=>W x (.tail _ hx)) fun L' h'=>hB L' ?_)
  refine rwg List.filterMap_cons<|rwg Z.frame ?_;exact .tail _ h'
theorem NsO.nofields{o:Obj}{m:Str->Option Value}(H:NsO o m)(vs:Array Value):o.data ≠ .fields vs:=fun q=>by
 refine e21 H fun es ep zz2=>?_;clear H;obtain⟨w,_⟩:=zz2
 rw[w] at q;exact Data.noConfusion q
theorem Waits.own{outer:List Env}(I:Inv c F g st s)(hf:F.E.frame=some F.E.locals)(W:Waits g outer):Waits g (F.E::outer):=fun env he=>by
 rcases ql.mp he with rfl | he
 ·refine e21 I.fr.loc fun oL mL L=>?_
  exact i31 _ _ oL ⟨by refine rwg I.fs.kind ?_;nofun,hf,L.at_,nofun,nofun,L.ns.nofields⟩
 ·exact W env he
theorem ez{ts:List T}{t:T}(h:qaj ts=some t):∃a b,ts=[t,a,b]:=by
 induction ts using qf with
 | nil=>exact(j6 h).elim
 | cons x r=>
  have h:orr (pj r) (fun z_=>some x) none=some t:=h
  induction q:pj r using qe with
  | none=>replace h:=q▸h;exact(j6 h).elim
  | some p=>replace h:=q▸h;obtain rfl:=qd h;exact i21 _ _ (congrArg _ (yo q))
theorem q88(hS:∀E,Snd ⟨c,A.deeper E⟩ f)(hroom:A.depth+2<recursionLimit)(I:Hp c g sg s){ts:List T}{vs:List Value}{as:List Ans}{Q:Str->List SO->List Ans->Prop}{outer:List Env}(h:q6y f ts sg as Q)(hv:RepL c.w g vs ts)(hfr:A.frames=some outer)(W:Waits g outer):
  codeAny (model c.prog c.w) A (.call (.ref 1028) ⟨vs,[]⟩) (fun r s'=>∃ev x sg' as' g',r = .error ev∧Q x sg' as'∧KeepF g g'∧Thrown c g' sg' outer x ev s') s:=by
 refine xh h fun sd hsd h1=>xh h1 fun l hl h2=>?_
 obtain rfl:=qd (sig_is.symm.trans hsd)
 have B:=zx hl
 obtain rfl:=B.l
 have hv':=hv.mono (zf g)
 have hlen:=hv.len
 obtain⟨q,Z⟩:=q89
 refine fm I.hide (vc qlk sig_is) (Nat.lt_of_succ_lt (Nat.lt_of_succ_lt hroom)) (env:=frame (ja po).scope (Mine.ofT ((ja po).params.zip (ts++(ja po).defaults.drop ((ja po).defaults.length-((ja po).params.length-ts.length)))))) (by refine rwg hlen ?_;exact B.le) (by refine rwg hlen ?_;exact B.ge) (fun dv hdv=>EB.frame _ (EB.ofT ?_)) fun E g1 s1 I1 keep EO z_=>?_
 ·refine rwg hdv.len<|rwg hlen ?_
  exact hv'.app (hdv.drop _)
 have hfE:=EO.frame
 refine rwg ((List.take_append_drop 1 (ja po).body).symm)<|rwg Z.body ?_
 refine ot (W:=⟨c,A.deeper E⟩) (F:=⟨(ja po).scope,E⟩) (hS E) h2 (I1.tell as) fun g2 s2 st2 I2 S2 q2=>xh q2 fun r hr q3=>?_
 obtain rfl:=qd (Z.raised.symm.trans hr)
 refine rwg (execs_cons _ _ _) ?_
 refine qm (q8g (W:=⟨c,A.deeper E⟩) (F:=⟨(ja po).scope,E⟩) (hS E) hroom I2 Z.plain qb1 q3 (fun ts st' q=>xh q fun t ht z_=>by refine e21 (ez ht) fun a b zz2=>?_;subst zz2;rfl) fun v1 g3 s3 e t dx en n' t1 rr st3 I3 S3 z3 ge gdx he q4=>?_)
 refine xh q4 fun t ht q5=>xh q5 fun x hx q6=>?_
 obtain⟨_,_,h3⟩:=ez ht
 obtain rfl:=(List.cons.inj h3).1
 obtain rfl:=T.str?_is hx
 have S13:=S2.trans S3.s
 refine e21 I3.fr.loc fun oL mL L=>?_
 have aL:g3 E.locals=some (.frm,oL):=L.at_
 refine e21 I1.fr.loc fun oL1 mL1 L1=>?_
 have gL:g E.locals=none:=ir keep L1.at_
 have W3:=W.call keep S13
 refine e03 (bi (g1:=g1) (fun a o e=>keep a _ o e) (fun a k o e=>i12 o (keep a k o e) (fun z_=>rfl)) S13 I.base I3.toHp) fun b1 b2 b3=>?_
 have FF:s3.heap.FunFrames (hideAll s3.heap (e::(E::outer).filterMap (·.frame))) (E::outer):=
  (W3.own (F:=⟨(ja po).scope,E⟩) I3 hfE).frames I3.fits fun L hL=>hideAll_none _ (.tail _ hL)
 refine il (fl:=none) (dx:=dx) (B:=hideAll s3.heap (e::(E::outer).filterMap (·.frame))) (Around.frames_deeper hfr) hfE ⟨fun b o q=>of_hideAll _ q,hideAll_none _ (.head _),FF,_,_,he.e,rfl,rfl,rfl,rfl⟩ (.inl rfl) fun h' F' U=>?_
 have notin:∀{b:Addr}{o:Obj},s3.heap.get? b=some o->b≠e->b≠E.locals->b∉outer.filterMap (·.frame)->(hideAll s3.heap (e::(E::outer).filterMap (·.frame))).get? b=some o:=fun ho q1 q2 q3=>hideAll_get _ ho fun w=>by
  rcases ql.mp w with w | w
  ·exact q1 w
  ·rw[List.filterMap_cons,hfE] at w
   rcases ql.mp w with w | w
   ·exact q2 w
   ·exact q3 w
 refine i54 _ x st3.sg st3.as (back g g3) rfl q6 b2 (.mk b1 F' U (fun b k o o' q1 q2 q3=>notin q3 (fun w=>?_) (fun w=>?_) q2) (notin he.d (fun w=>?_) (fun w=>?_) fun w=>?_) he.m (q1q keep S13 ge) (b3 (r:=.val (.str _)) z3) rfl rfl)
 ·(replace q1:=w▸q1;rewrite[q1q keep S13 ge] at q1);exact j6 q1
 ·(replace q1:=w▸q1;rewrite[q3r gL aL] at q1);exact j6 q1
 ·have:=he.d;rw[w,he.e] at this;exact nomatch this
 ·(replace gdx:=w▸gdx;replace gdx:=aL▸gdx);exact(j6 gdx.symm).elim
 ·obtain⟨env,w1,w2⟩:=List.mem_filterMap.mp w
  refine e31 (W3 env w1) fun L' k o Y=>?_
  obtain rfl:=qd (Y.frame.symm.trans w2)
  exact j6 (gdx.symm.trans Y.at_)
end
noncomputable abbrev bv:Str:="validate"
structure ValQ where
 t:qo
 v:qo
 ap:Pos
 as:List qo
 cp:Pos
 ep:Pos
 ip:Pos
structure ValS(q:ValQ):Prop where
 body:(ja bv).body.drop 2=[.If q.t [.Expr (.Call (.Attribute q.v "signal_error" q.ap) q.as [] q.cp) q.ep] [] q.ip]
 vt:vt? ((ja bv).body.drop 2)=some ⟨q.t,q.v,q.as⟩
 base:zr q.v=true
 line:(q.ap.endLine==q.cp.line)=true
 len:q.as.length<30
 plain:q.as.all xc=true
theorem q7x:∃q,ValS q:=⟨⟨_,_,_,_,_,_,_⟩,rfl,rfl,rfl,rfl,Nat.le_of_ble_eq_true rfl,rfl⟩
theorem val_is:wx bv=some (ja bv):=by kernel_rfl
theorem qi0:w8 bv=some 801:=by decide +kernel
theorem a_ev:ji "Evaluator" cAddrs=some 1190:=by decide +kernel
theorem q9i {sg:List SO} {r:Ent} {i:Nat} (h:qcz sg r=some i):∃fs,r = .val (.sh i)∧sg[i]? = some (.inst "Evaluator" fs)∧ffget "signal_error" fs=none:=by
 refine e12 (j9 h) fun t h1 h2=>?_
 refine e12 (j9 h2) fun j h3 h4=>?_
 refine e12 (j9 h4) fun o h5 h6=>?_
 refine e12 (j9 h6) fun q h7 h8=>?_
 refine e02 (jh h8) fun h9 h10=>?_
 obtain rfl:=qd h10
 refine yz h9 fun h11 h12=>i13 q.fs (by exact rwg (Ent.val?_is h1)<|rwg (T.sh?_is h3) rfl) ?_ (vw h12)
 exact rwg h5<|rwg (SO.inst?_is h7)<|rwg (of_decide_eq_true h11) rfl
section
variable {c:CC}{A:Around}{g:Gh}{sg:List SO}{s:Shared}{f:Fns}
inductive qjw(c:CC)(g:Gh)(outer:List Env)(Q:Option Str->List SO->List Ans->Prop):Result->Shared->Prop
 | ok {u:Value} {s':Shared} {g':Gh} {sg':List SO} {as':List Ans}:Q none sg' as'->Hp c g' sg' s'->KeepF g g'->qjw c g outer Q (.ok (.ret u)) s'
 | err {ev:Value} {x:Str} {s':Shared} {g':Gh} {sg':List SO} {as':List Ans}:Q (some x) sg' as'->KeepF g g'->Thrown c g' sg' outer x ev s'->qjw c g outer Q (.error ev) s'
theorem Thrown.out{g g1 g6:Gh}{E:Env}{outer:List Env}{sg':List SO}{x:Str}{ev:Value}{oL:Obj}{s6:Shared}(hfr:A.frames=some (E::outer))(hfE:E.frame=some E.locals)(keep:∀a k o,hide g a=some (k,o)->g1 a=some (k,o))(S:StepS g1 g6)(H0:∀a o,c.base.get? a=some o->g a=some (.still,o))(gL:g E.locals=none)(aL:g6 E.locals=some (.frm,oL))
  (h:Thrown c g6 sg' (E::outer) x ev s6) {K:Shared->Prop} {Er:Value->Shared->Prop} (k:∀s',Thrown c (back g g6) sg' outer x ev s'->K s'):wpAny (model c.prog c.w) A (leaving E ev) (fun z_ s'=>K s') Er s6:=by
 cases h with
 | @mk e dx en n' v B s0 _ H6 F6 U6 B6 D6 M6 N6 Z6 G6 O6=>
  refine e03 (bi (g1:=g1) (fun a o e=>keep a _ o e) (fun a k o e=>i12 o (keep a k o e) (fun z_=>rfl)) S H0 H6) fun b1 b2 b3=>?_
  refine il hfr hfE F6 (.inr rfl) fun h' F' U'=>k _ (.mk b1 F' (U6.trans U') (fun b k o o' q1 q2 q3=>?_) D6 M6 (q1q keep S N6) (b3 (r:=.val (.str _)) Z6) G6 O6)
  have hnb:b∉(E::outer).filterMap (·.frame):=fun w=>by
   rw[List.filterMap_cons,hfE] at w
   rcases ql.mp w with w | w
   ·(replace q1:=w▸q1;rewrite[q3r gL aL] at q1);exact j6 q1
   ·exact q2 w
  rcases ug q1 with ⟨w1,w2⟩ | w
  ·exact B6 b _ o o' (S.still _ _ (keep _ _ _ (wn w1 w2))) hnb q3
  ·exact B6 b _ _ o' w hnb q3
theorem q1x(hS:∀E,Snd ⟨c,A.deeper E⟩ f)(hS2:∀E E',Snd ⟨c,(A.deeper E).deeper E'⟩ f)(hroom:A.depth+3<recursionLimit)(I:Hp c g sg s){ts:List T}{vs:List Value}{as:List Ans}{Q:Option Str->List SO->List Ans->Prop}{outer:List Env}(h:eu f ts sg as Q)(hv:RepL c.w g vs ts)(hfr:A.frames=some outer)(W:Waits g outer):
  codeAny (model c.prog c.w) A (.call (.ref 801) ⟨vs,[]⟩) (qjw c g outer Q) s:=by
 refine xh h fun sd hsd h1=>xh h1 fun l hl h2=>?_
 obtain rfl:=qd (val_is.symm.trans hsd)
 have B:=zx hl
 obtain rfl:=B.l
 have hv':=hv.mono (zf g)
 have hlen:=hv.len
 obtain⟨q,Z⟩:=q7x
 refine fm I.hide (vc qi0 val_is) (Nat.lt_of_succ_lt (Nat.lt_of_succ_lt (Nat.lt_of_succ_lt hroom))) (env:=frame (ja bv).scope (Mine.ofT ((ja bv).params.zip (ts++(ja bv).defaults.drop ((ja bv).defaults.length-((ja bv).params.length-ts.length)))))) (by refine rwg hlen ?_;exact B.le) (by refine rwg hlen ?_;exact B.ge) (fun dv hdv=>EB.frame _ (EB.ofT ?_)) fun E g1 s1 I1 keep EO z_=>?_
 ·refine rwg hdv.len<|rwg hlen ?_
  exact hv'.app (hdv.drop _)
 have hfE:=EO.frame
 refine rwg ((List.take_append_drop 2 (ja bv).body).symm)<|rwg Z.body ?_
 refine ot (W:=⟨c,A.deeper E⟩) (F:=⟨(ja bv).scope,E⟩) (hS E) h2 (I1.tell as) fun g2 s2 st2 I2 S2 q2=>xh q2 fun r hr q3=>?_
 obtain rfl:=qd (Z.vt.symm.trans hr)
 refine rwg (execs_cons _ _ _) ?_
 refine qm (wpAny_If (nf ((hS E).test (F:=⟨(ja bv).scope,E⟩) q3 I2 fun b s3 g3 st3 I3 S3 q4=>?_)))
 have S13:=S2.trans S3.s
 induction b using qg with
 | false=>
  obtain⟨b1,b2,_⟩:=bi (g1:=g1) (fun a o e=>keep a _ o e) (fun a k o e=>i12 o (keep a k o e) (fun z_=>rfl)) S13 I.base I3.toHp
  exact wpAny_execs_nil (wpAny_execs_nil (.ok (by exact q4:Q none st3.sg st3.as) b1 b2))
 | true=>
  have q4:q6p f (ja bv).scope ⟨q.t,q.v,q.as⟩ st3 (fun x=>Q (some x)):=q4
  refine(?_:wpAny _ _ (execs [_] E) _ _ _)
  refine rwg (execs_cons _ _ _) ?_
  refine qm (wpAny_Expr_any ?_ (fy I3.fs) rfl)
  refine ij Z.base Z.line Z.len Z.plain (nf ((hS E).peek (F:=⟨(ja bv).scope,E⟩) q4 I3 fun ov s4 g4 rv st4 I4 S4 z4 q5 pl=>xh q5 fun i hi q6=>?_))
  refine e13 (q9i hi) fun fs zz1 hsg hno=>?_;subst zz1
  have z0:=z4.val
  refine e12 (I4.toHp.shInst z0 hsg) fun xa zz1 zz2=>?_;subst zz1;refine e45 zz2 fun CA dx o en a1 a2 a3 a4 a5=>?_;clear zz2
  obtain rfl:=qd (a_ev.symm.trans a1)
  refine e23 (kj (w:=c.w) I4.fits a2 (jb rfl) a3 a4) fun en' k i1 i2 i3=>?_
  obtain rfl:=i3 (jb rfl)
  have K:=wg c.kf a_ev
  refine method_fn I4.X i1 K.get K.noget (beq_iff_eq.mp (c.kf.at 14 rfl)) (beq_iff_eq.mp (c.kf.at 15 rfl)) (by refine(?_:(lookIn "signal_error" (dictOf en' k)).map _=_);refine rwg (lookIn_dict _ _ _)<|rwg ((a5.get "signal_error").2.2 hno) ?_;rfl) ?_
  refine wo (W:=⟨c,A.deeper E⟩) (F:=⟨(ja bv).scope,E⟩) (hS E) Z.plain q6 I4 (c.kf.at 16 rfl) fun vs5 g5 s5 ts5 st5 I5 S5 z5 q7=>?_
  have S15:=S13.trans (S4.s.trans S5.s)
  have hfr2:(A.deeper E).frames=some (E::outer):=Around.frames_deeper hfr
  refine e21 I5.fr.loc fun oL mL L=>?_
  refine e21 I1.fr.loc fun oL1 mL1 L1=>?_
  have gL:g E.locals=none:=ir keep L1.at_
  refine wpAny_call (codeAny_mono (q88 (A:=A.deeper E) (hS2 E) hroom I5.toHp q7 (.cons (z0.mono S5.mono) z5) hfr2 ((W.call keep S15).own (F:=⟨(ja bv).scope,E⟩) I5 hfE)) fun r s6 z=>?_)
  refine e54 z fun ev x sg' as' g6 zz5 q8 K6 T6=>?_;clear z;subst zz5
  have S16:=S15.trans K6.step.s
  have b2:KeepF g (back g g6):=by
   cases T6 with
   | mk H6=>exact(bi (g1:=g1) (fun a o e=>keep a _ o e) (fun a k o e=>i12 o (keep a k o e) (fun z_=>rfl)) S16 I.base H6).2.1
  exact T6.out hfr2 hfE keep S16 I.base gL (K6.keep _ _ _ L.at_ nofun nofun) fun s' T'=>.err q8 b2 T'
end
section
variable {K:Frag}{prog:Program}{w:World}{A:Around}{s:Shared}
theorem qg9{x dx:Addr}{ox:Obj}{en:List DictEntry}{m:Nat}{f:Str}{v:Value}{Q:Value->Shared->Prop}{Er:Value->Shared->Prop}{ex:Bool}(kf:KFacts K)(X:K.In s.heap)(hx:s.heap.get? x=some ox)(hcl:ox.cls = .ref 126)
  (hno:notCls ox=true) (hdi:ox.dict=some dx) (D:s.heap.get? dx=some (dictOf en m)) (hf:f∈excFields) (hl:getL f en=some (some v)) (hv:handedIn v=true) (h:Q v { s with toks:=s.toks+1 }) :
  wpAny (model prog w) A (getAttr (.ref x) f ex) Q Er s:=by
 have I:InstAt s.heap x ox 126 (some (dictOf en m)):=⟨hx,hcl,hno,by refine rwg hdi ?_;exact D⟩
 have hfo:findObj K 126 (some (dictOf en m)) f=some (.value v):=findObj_own (kf.at 19 rfl) (q35 kf hf) rfl hl
 obtain⟨hh,g,d,t,os⟩:=s
 have L0:=I.type (M:=model prog w)
 have L1:=looks_findIn (M:=model prog w) X (beq_iff_eq.mp (kf.at 17 rfl))
 have L2:=looks_findIn (M:=model prog w) X (beq_iff_eq.mp (kf.at 18 rfl))
 have L3:=looks_find (M:=model prog w) X I hfo
 refine e11 (cg kf) fun cd zz1=>?_;obtain⟨hc,_,hm⟩:=zz1
 have sub:Looks (model prog w) hh (isInstance (.ref x) (.type "BaseException")) true:=L0.andThen (looks_mroIn X (by unfold mroIn;refine rwg hc<|rwg (Option.bind_some _ _)<|rwg (if_neg (by rw[hm];decide)) ?_;refine rwg hm ?_;rfl))
 have hk:builtinKind "BaseException.__getattribute__"=some .slot:=by decide +kernel
 have hsplit:splitId "BaseException.__getattribute__"=some ("BaseException","__getattribute__"):=by decide +kernel
 have hx0:(ex&&onTheHeap (Value.builtin "BaseException.__getattribute__"))=false:=by rcases ex with ⟨⟩ <;> rfl
 skip
 refine qm (wpAny_mkText (wpAny_holding (qm (L0.at (qm (L1.at ?_))))))
 refine(?_:wpAny _ _ (getAttrByItsOwn _ _ _ _ _ _) _ _ _)
 delta getAttrByItsOwn callGetattribute
 refine rwg hx0 ?_
 refine qm (L2.at (qm (wpAny_attempt (wpAny_holding ?_))))
 refine(?_:wpAny _ _ (boundAndCalled _ _ _) _ _ _)
 unfold boundAndCalled
 refine rwg (F.excAttr_ValueError.ga.bind _) ?_
 refine qm (qx ?_)
 refine wpAny_call (codeAny_call_builtin F.excAttr_ValueError.ga.plain F.entry_bexc_ga (@check_slot (model prog w) _ _ _ "BaseException.__getattribute__" "BaseException" "__getattribute__" (.ref x) [.str f t] [] _ hk hsplit sub (F.args_bexc_ga (.ref x) (.str f t)) ?_))
 refine qm (qx (qm (qx (qm (L0.at (qm (L3.at ?_)))))))
 refine qx ?_
 refine(?_:wpAny _ _ (handedOut v) _ _ _)
 refine rwg (handedOut_of hv) ?_;exact qx h
end
section
variable {c:CC}{F:Fr'}{g:Gh}{s s0:Shared}{st:St}
theorem Inv.landed{B:Heap}{e dx:Addr}(I:Inv c F g st s0){fl:Option Value}(hE:F.E.frame=some F.E.locals)(Fl:Fly B [F.E] e dx fl s.heap)(U:s0.heap.UpToSlots s.heap)
  (hB:∀b k o o',g b=some (k,o)->b∉[F.E].filterMap (·.frame)->s0.heap.get? b=some o'->B.get? b=some o') (h2:s.gens=s0.gens) (h3:s.os=s0.os):∃o',Inv c F (jp g F.E.locals .frm o') st s∧StepS g (jp g F.E.locals .frm o'):=by
 refine e21 I.fr.loc fun o m L=>?_
 refine e23 L.ns fun es ep q1 q2 q3=>?_
 refine e11 (U _ _ (I.fits.exact L.at_ (jb rfl)) (fun vs z=>by rw[q1] at z;exact Data.noConfusion z)) fun sl hs=>?_
 refine⟨{ o with slots:=sl },I.frame L.at_ (fun b k x q=>?_) (m:=m) (i23 es ep q1 q2 q3) (fun o1 m1 z1 y ey hy=>?_) h2 h3⟩
 ·by_cases z:b=F.E.locals
  ·(replace q:=z▸q;replace q:=jf▸q);replace q:=qd q;cases q;exact i12 _ (z▸hs) (Lk.refl _ _)
  ·rw[je z] at q
   refine e12 (I.fits _ _ _ q) fun x' w1 w2=>?_
   refine i12 x' (Fl.stays _ _ (hB b k x x' q (fun w=>?_) w1)) w2
   rw[List.filterMap_cons,hE] at w
   exact z (List.mem_singleton.mp w)
 ·exact yv (L.ns.at (I.fits.exact L.at_ (jb rfl))) (z1.ns.at (I.fits.exact z1.at_ (jb rfl))) y
theorem Inv.quietName{x:Str}{m:Str->Option Value}{h':Heap}{tk:Nat}(I:Inv c F g st s)(hno:jn x st.env=none)(hn:h'.Ns F.E.locals m)(hs:Heap.SameBut F.E.locals s.heap h')(hm:∀mL,s.heap.Ns F.E.locals mL->∀y,y≠x->m y=mL y):
  ∃o',Inv c F (jp g F.E.locals .frm o') st { s with heap:=h',toks:=tk }∧StepS g (jp g F.E.locals .frm o'):=by
 refine e12 (gz hn) fun o' f4 n4=>?_
 refine e21 I.fr.loc fun o mL L=>?_
 exact⟨o',I.frame (s':={ s with heap:=h',toks:=tk }) L.at_ (I.fits.upd _ hs f4) n4 (fun oM mM LM y e hy=>hm mM (LM.ns.at (I.fits.exact LM.at_ (jb rfl))) y fun w=>by(replace hy:=w▸hy;rewrite[hno] at hy);exact j6 hy) rfl rfl⟩
end
structure TryQ where
 fp:Pos
 as:List qo
 cp:Pos
 ep:Pos
 tp:Pos
 xp:Pos
 yp:Pos
 ap:Pos
 sp:Pos
 hp:Pos
 p:Pos
noncomputable def TryQ.hs (q:TryQ):List ExceptHandler:=[.ExceptHandler (some (.Name "RError" q.tp)) (some "error") [.Assign [.Name "message" q.xp] (.Attribute (.Name "error" q.yp) "message" q.ap) q.sp] q.hp]
noncomputable def TryQ.st (q:TryQ):Stmt:=.Try [.Expr (.Call (.Name "validate" q.fp) q.as [] q.cp) q.ep] q.hs [] [] q.p
structure qlo(q:TryQ):Prop where
 body:(ja "law").body.drop 18=q.st::(ja "law").body.drop 19
 tried:qah ((ja "law").body.drop 18)=some ⟨.Name "validate" q.fp,q.as,q.cp⟩
 plain:q.as.all xc=true
theorem q7y:∃q,qlo q:=⟨⟨_,_,_,_,_,_,_,_,_,_,_⟩,rfl,rfl,rfl⟩
section
variable {c:CC}{F:Fr'}{g:Gh}{s s0:Shared}{st:St}{A:Around}
structure qem(F:Fr'):Prop where
 r:jc F.sc "RError"=some .globalImplicit
 e:jc F.sc "error"=some .local
 el:F.E.kindOf "error"=some .local
 m:u5 (jc F.sc "message")=true
theorem q92{E:Env}(h:E.scope.kind = .function):(E.scope.kind == .class || (E.scope.kind == .module&&E.locals != E.globals))=false:=by rw[h];rfl
theorem q5c{q:TryQ}{B:Heap}{e dx:Addr}{en:List DictEntry}{n':Nat}{v:Value}{x:Str}(I:Inv c F g st s0)(hE:F.E.frame=some F.E.locals)(Fl:Fly B [F.E] e dx (some .none) s.heap)(U:s0.heap.UpToSlots s.heap)
  (hB:∀b k o o',g b=some (k,o)->b∉[F.E].filterMap (·.frame)->s0.heap.get? b=some o'->B.get? b=some o') (h2:s.gens=s0.gens) (h3:s.os=s0.os)
  (D:B.get? dx=some (dictOf en n')) (hl:getL "message" en=some (some v)) (z:Rep c.w g v (.str x)) (N:qem F) (hno:jn "error" st.env=none)
  {K:Flow→Shared→Prop} (k:∀s' g',Inv c F g' ⟨v0 "message" (.val (.str x)) st.env,st.sg,st.as⟩ s'→StepS g g'→K .next s'):wpAny (model c.prog c.w) A (handleBy (.ref e) F.E q.hs) K no s:=by
 have ks:=q92 I.fs.kind
 refine e12 (I.landed hE Fl U hB h2 h3) fun o2 I2 S2=>?_
 have hBL:B.get? F.E.locals=none:=by
  obtain⟨_,⟨L,_,q1,q2,_⟩,_⟩:=Fl.frames
  rw[hE] at q1;replace q1:=qd q1;cases q1;exact q2
 refine wpAny_handleBy_cons ?_ (by exact nofun)
 refine codeAny_handlers_test (ie I2 N.r ?_)
 refine qda (sj c.kf I2.X) fun nm qn bs hdct sn sub ab col dd k0 zz10=>?_;refine e41 zz10 fun k1 k2 k3 k5 hC=>?_;clear zz10
 refine e25 Fl.tr fun oe vs e1 e2 e3 e4 e5=>?_
 obtain⟨hp2,ge2,dr2,tk2,os2⟩:=s
 refine wpAny_excMatches_sub_self hC e1 e2 (by rfl) ?_
 refine codeAny_handlers_suite_as ?_
 refine rk Fl fun h3' F3 U3=>?_
 refine e12 (I.landed (s:=⟨h3',ge2,dr2,tk2,os2⟩) hE F3 (U.trans U3) hB h2 h3) fun o3 I3 S3=>?_
 have z3:Rep c.w (jp g F.E.locals .frm o3) v (.str x):=z.mono S3.mono
 clear I2 S2 hC Fl e1 e4 e5
 refine e21 I3.fr.loc fun oL mL L=>?_
 refine wpAny_storeName_local N.el (L.ns.at (I3.fits.exact L.at_ (jb rfl))) (fun h4 hn4 hs4=>?_) ks
 refine e12 (I3.quietName (x:="error") (tk:=tk2+1) hno hn4 hs4 fun mM hM y hy=>(if_neg hy).trans (yv (L.ns.at (I3.fits.exact L.at_ (jb rfl))) hM y)) fun o4 I4 S4=>?_
 have z4:=z3.mono S4.mono
 refine e25 F3.tr fun oe vs e1 e2 e3 e4 e5=>?_
 have neL:e≠F.E.locals:=fun w=>by
  have:=I3.fits.exact L.at_ (jb rfl)
  rw[←w,e1] at this;replace this:=qd this;cases this
  exact L.ns.nofields _ e4
 have e1':h4.get? e=some oe:=(hs4.2 e neL).trans e1
 have D4:h4.get? dx=some (dictOf en n'):=(hs4.2 dx (fun w=>by rw[w,hBL] at D;exact j6 D)).trans (F3.stays _ _ D)
 refine wpAny_execs_cons (wpAny_Assign_Name ?_ rfl)
 refine ck rfl ?_
 refine t9 (v:=.ref e) I4.fs N.e N.el (.loc N.el hn4 (if_pos rfl)) ?_
 refine qg9 c.kf I4.X e1' e2 (by unfold notCls;rw[e4]) e3 D4 (.head _) hl z4.handed ?_
 refine y7 (e:=.val (.str x)) (I4.re (s':=⟨h4,ge2,dr2,tk2+1+1,os2⟩)) N.m z4 fun g5 s5 I5 S5=>?_
 refine wpAny_execs_nil ?_
 have hno5:jn "error" (v0 "message" (.val (.str x)) st.env)=none:=(za (by decide) _ _).trans hno
 refine e21 I5.fr.loc fun o5 m5 L5=>?_
 refine qm (wpAny_bindName ?_)
 refine wpAny_storeName_local N.el (L5.ns.at (I5.fits.exact L5.at_ (jb rfl))) (fun h6 hn6 hs6=>?_) ks
 refine e12 (I5.quietName (x:="error") (tk:=s5.toks+1) hno5 hn6 hs6 fun mM hM y hy=>(if_neg hy).trans (yv (L5.ns.at (I5.fits.exact L5.at_ (jb rfl))) hM y)) fun o6 I6 S6=>?_
 simp only [unbindBehindTheSuite]
 refine wpAny_onRaise ?_
 refine wpAny_unbindName_local N.el (s:={ s5 with heap:=h6,toks:=s5.toks+1 }) hn6 (if_pos rfl) ks fun h7 u hn7 hs7=>?_
 refine e12 (I6.quietName (x:="error") (tk:=s5.toks+1) hno5 hn7 hs7 fun mM hM y hy=>(if_neg hy).trans (yv hn6 hM y)) fun o7 I7 S7=>?_
 exact k _ _ I7 ((((S3.trans S4).trans S5).trans S6).trans S7)
end
theorem waits_nil{g:Gh}:Waits g []:=fun z_ h=>absurd h j5
theorem law_is:wx "law"=some (ja "law"):=by kernel_rfl
theorem qfv:((ja "law").params,(ja "law").defaults)=([("script":Str)],[]):=by kernel_rfl
theorem q8z:(jc (ja "law").scope "validate",jc (ja "law").scope "RError",jc (ja "law").scope "error",u5 (jc (ja "law").scope "message"))=(some .globalImplicit,some .globalImplicit,some .local,true):=by kernel_rfl
theorem qll:w8 "law"=some 1286:=by decide +kernel
section
variable {c:CC}{g:Gh}{s:Shared}{A:Around}{f:Fns}
theorem qi7 (hS:Snd ⟨c,A⟩ f) (hS1:∀E,Snd ⟨c,A.deeper E⟩ f) (hS2:∀E E',Snd ⟨c,(A.deeper E).deeper E'⟩ f) (hroom:A.depth+3<recursionLimit) {E:Env} {st:St} (hsc:E.scope=(ja "law").scope) (I:Inv c ⟨(ja "law").scope,E⟩ g st s) (hE:E.frame=some E.locals) (hfr:A.frames=some [E]) {q:TryQ} (Z:qlo q) {P:St→Prop} (h:qaf f (ja "law") st P)
  {K:Flow→Shared→Prop} (k:∀s' g' st',Inv c ⟨(ja "law").scope,E⟩ g' st' s'→StepS g g'→P st'→K .next s'):wpAny (model c.prog c.w) A (PySem.exec q.st E) K no s:=by
 refine xh h fun r hr h1=>?_
 obtain rfl:=qd (Z.tried.symm.trans hr)
 have kk:=q8z
 have N:qem ⟨(ja "law").scope,E⟩:=⟨congrArg (·.2.1) kk,congrArg (·.2.2.1) kk,by unfold Env.kindOf;refine rwg hsc ?_;exact congrArg (·.2.2.1) kk,congrArg (·.2.2.2) kk⟩
 skip
 refine wpAny_Try_except ?_
 refine rwg (execs_cons _ _ _) ?_
 refine qm (wpAny_Expr_any ?_ (fy I.fs) rfl)
 refine wpAny_Call_NameR (vk I (congrArg (·.1) kk) (List.mem_append_left _ (js (by(decide +kernel):ji "validate" fAddrs=some 801))) ?_)
 refine wo (W:=⟨c,A⟩) (F:=⟨(ja "law").scope,E⟩) hS Z.plain h1 I (u8 qi0) fun vs g1 s1 ts st1 I1 S1 z1 q1=>?_
 refine wpAny_call (codeAny_mono (q1x hS1 hS2 hroom I1.toHp q1 z1 hfr (waits_nil.own (F:=⟨(ja "law").scope,E⟩) I1 hE)) fun r s2 z=>?_)
 cases z with
 | @ok u _ g2 sg2 as2 q2 H2 K2=>exact wpAny_execs_nil (wpAny_execs_nil (k _ g2 _ (I1.after H2 K2 as2) (S1.s.trans K2.step.s) q2))
 | @err ev x _ g2 sg2 as2 q2 K2 T=>
  refine e8 (by exact q2:gd (jn "error" st1.env).isNone (P ⟨v0 "message" (.val (.str x)) st1.env,sg2,as2⟩)) fun hno q3=>?_
  cases T with
  | mk H2 F2 U2 B2 D2 M2 N2 Z2 G2 O2=>
   have I2:=I1.after H2 K2 as2
   refine q2i hfr hE F2 (.inr rfl) fun h3' F3 U3=>rk F3 fun h4' F4 U4=>?_
   exact nf (q5c (s:={ s2 with heap:=h4' }) I2 hE F4 ((U2.trans U3).trans U4) B2 G2 O2 D2 M2 Z2 N (vw hno) fun s' g' I' S'=>k s' g' _ I' (S1.s.trans (K2.step.s.trans S')) q3)
inductive qjz(c:CC)(g:Gh):Result->Shared->Prop
 | mk {s':Shared} {g':Gh} {sg':List SO}:Hp c g' sg' s'->KeepF g g'->sg'[0]? = some .tab->sg'[1]? = some .tab->qjz c g (.ok (.ret (.bool true))) s'
theorem qiw(hS:∀E,Snd ⟨c,A.deeper E⟩ f)(hS1:∀E E',Snd ⟨c,(A.deeper E).deeper E'⟩ f)(hS2:∀E E' E'',Snd ⟨c,((A.deeper E).deeper E').deeper E''⟩ f)(hroom:A.depth+4<recursionLimit)(I:Hp c g [.tab,.tab] s){script:List Int}{v:Value}{as:List Ans}(hv:Rep c.w g v (.list (script.map .int)))(hfr:A.frames=some [])
  (h:q4j f script as fun r=>r = .val (.bool true)):codeAny (model c.prog c.w) A (.call (.ref 1286) ⟨[v],[]⟩) (qjz c g) s:=by
 refine xh h fun d hd h1=>?_
 obtain rfl:=qd (law_is.symm.trans hd)
 have hp1:(ja "law").params=[("script":Str)]:=congrArg (·.1) qfv
 obtain⟨q,Z⟩:=q7y
 refine fm I.hide (vc qll law_is) (Nat.lt_of_le_of_lt (Nat.le_add_right _ 4) hroom) (env:=frame (ja "law").scope [("script",some (.val (.list (script.map .int))))]) (by refine rwg hp1 ?_;exact Nat.le_refl _) (by refine rwg hp1 ?_;exact Nat.le_add_right _ _) (fun dv hdv=>EB.frame _ ?_) fun E g1 s1 I1 keep EO z_=>?_
 ·refine rwg hp1 ?_;exact EB.cons (by exact hv.mono (zf g):EntR c.w _ (.mine "script") v (.val _)) EB.nil
 have fin:∀{g3:Gh} {s3:Shared} {st3:St} {u:Value} {r:Ent},Inv c ⟨(ja "law").scope,E⟩ g3 st3 s3→StepS g1 g3→(f9 st3.sg 0&&f9 st3.sg 1)=true→r = .val (.bool true)→EntR c.w g3 (.mine "#") u r→qjz c g (.ok (.ret u)) s3:=fun {g3 s3 st3 u r} I3 S3 ht e z=>by
  subst e
  obtain rfl:=Rep.bool_inv (by exact z:Rep c.w g3 u (.bool true))
  obtain⟨b1,b2,_⟩:=bi (g1:=g1) (fun a o e=>keep a _ o e) (fun a k o e=>i12 o (keep a k o e) (fun z_=>rfl)) S3 I.base I3.toHp
  exact yz ht fun h0 h1=>.mk b1 b2 (n9 h0) (n9 h1)
 refine rwg ((List.take_append_drop 18 (ja "law").body).symm)<|rwg Z.body<|rwg (rf _ _ _) ?_
 refine qm (nf (xy (W:=⟨c,A.deeper E⟩) (F:=⟨(ja "law").scope,E⟩) (hS E) h1 (I1.tell as) fun fl s2 g2 fl2 st2 I2 S2 z2 q2=>?_))
 cases z2 with
 | ret z=>exact e8 q2 fun ht q3=>qx (fin I2 S2 ht q3 z)
 | next=>
  refine wpAny_execs_cons (nf (qi7 (A:=A.deeper E) (hS E) (hS1 E) (hS2 E) hroom EO.scope I2 EO.frame (Around.frames_deeper hfr) Z q2 fun s3 g3 st3 I3 S3 q3=>?_))
  refine nf (xy (W:=⟨c,A.deeper E⟩) (F:=⟨(ja "law").scope,E⟩) (hS E) q3 I3 fun fl s4 g4 fl4 st4 I4 S4 z4 q4=>e8 q4 fun ht q4=>xh q4 fun r hr q5=>?_)
  cases z4 with
  | next=>exact(j6 hr).elim
  | ret z=>
   obtain rfl:=qd hr
   exact fin I4 ((S2.trans S3).trans S4) ht q5 z
end
structure Start(K:Frag)(h:Heap):Prop where
 kf:KFacts K
 X:K.In h
 no:(K.all fun p=>p.2.cls != .type "list"&&(p.1 != 1276&&p.1 != 327))=true
 t0:h.get? 1276=some (tabObj #[])
 t1:h.get? 327=some (tabObj #[])
 sysm:∃o,h.get? sysModules=some o
 bm:∃o,h.get? 4=some o∧o.cls = .type "module"∧o.dict=some builtinsNs∧o.data = .plain
theorem Start.keeps{K:Frag}{h h':Heap}(S:Start K h)(k:∀b o,h.get? b=some o->h'.get? b=some o):Start K h':=
 ⟨S.kf,S.X.keeps k,S.no,k _ _ S.t0,k _ _ S.t1,let ⟨o,e⟩:=S.sysm;⟨o,k _ _ e⟩,e12 S.bm fun o e r=>(i12 o (k _ _ e) r)⟩
noncomputable def q0q (vs:List Value) (n:Nat):Obj:={ cls:=.type "list",data:=.seq vs.toArray n }
noncomputable def g0(h:Heap)(l:Addr):Gh:=fun a=>if a=1276 then some (.shr 0 .main,tabObj #[]) else if a=327 then some (.shr 1 .main,tabObj #[]) else if a=l then (h.get? a).map fun o=>(.froz,o) else (h.get? a).map fun o=>(.still,o)
theorem qbe{w:World}{g:Gh}{vs:List Value}{ns:List Int}(h:IntsAre vs ns):RepL w g vs (ns.map .int):=by
 induction h with
 | nil=>exact .nil
 | cons n t _ ih=>exact .cons (.int n t) ih
structure Left(s s':Shared):Prop where
 old:OldK s.heap s'.heap
 os:s'.os=s.os
 gens:s'.gens=#[]
theorem lq{h h':Heap}{c P:Addr}(H:CodeHd h c P)(ht:h.get? P=some (tabObj #[])){o':Obj}{ps:Array Value}(e:h'.get? P=some o')(ho:o'=tabObj ps):asItWas h h' P (tabObj #[]):=by
 refine .inr (.inl (i03 ?_ rfl (i22 #[] ps rfl ?_)))
 ·refine e94 H fun o vs f tf fl tg b n tt h1 h2 h3 zz12=>?_;clear H;obtain⟨h4,_⟩:=zz12
  exact i34 c o vs h1 h2 h3 h4
 ·exact rwg e<|rwg ho<|rwg Array.empty_append rfl
section
variable {prog:Program}{w:World}{s:Shared}{K:Frag}{mg mb:Str->Option Value}{l:Addr}{vs:List Value}{ns:List Int}{n:Nat}
theorem room0:Room callerA 23:=by constructor <;> first | rfl | decide
theorem q54 (S:Start K s.heap) (hg:s.heap.Ns mainGlobals mg) (hb:s.heap.Ns builtinsNs mb) (hb2:∀x:Str,x≠"__name__"→mb x=bootBuiltins x) (hn:s.heap.NoLimit) (hd:∃mc,s.heap.Ns cStatics mc∧mc "sys.int_max_str_digits"=none)
  (hL:s.heap.get? l=some (q0q vs n)) (hI:IntsAre vs ns) (hlen:ns.length≤63) (hl:(l==sysModules)=false) (hgens:s.gens=#[]) :
  wpAny (model prog w) callerA (call (.ref 1286) [.ref l]) (fun v s'=>v = .bool true∧Left s s') no s:=by
 have nl:∀{a:Addr} {o:Obj},s.heap.get? a=some o→o.cls ≠ .type "list"→a≠l:=fun e h q=>h (by(replace e:=q▸e;replace e:=hL▸e);replace e:=qd e;cases e;rfl)
 have l0:l≠1276:=fun q=>by(replace hL:=q▸hL;replace hL:=S.t0▸hL);exact nomatch hL
 have l1:l≠327:=fun q=>by(replace hL:=q▸hL;replace hL:=S.t1▸hL);exact nomatch hL
 have keep:∀{a:Addr}{o:Obj},s.heap.get? a=some o->a≠1276->a≠327->a≠l->(hideAll s.heap [1276,327,l]).get? a=some o:=fun e q1 q2 q3=>hideAll_get _ e (by simp[q1,q2,q3])
 have nsk:∀{a:Addr}{m:Str->Option Value},s.heap.Ns a m->(hideAll s.heap [1276,327,l]).Ns a m:=by
  rintro a m ⟨o,es,ep,e,hd,r⟩
  refine i33 o es ep (keep e (fun q=>?_) (fun q=>?_) (fun q=>?_)) hd r
  ·(replace e:=q▸e;replace e:=S.t0▸e);replace e:=qd e;cases e;exact Data.noConfusion hd
  ·(replace e:=q▸e;replace e:=S.t1▸e);replace e:=qd e;cases e;exact Data.noConfusion hd
  ·(replace e:=q▸e;replace e:=hL▸e);replace e:=qd e;cases e;exact Data.noConfusion hd
 let c:CC:=⟨prog,w,hideAll s.heap [1276,327,l],s.gens,s.os,K,S.kf⟩
 have gd:Gd c c.base:=by
  refine⟨fun a o e=>?_,⟨mg,nsk hg⟩,(i12 mb (nsk hb) hb2),?_,?_,?_,?_⟩
  ·have q:=qy.mp S.no (a,o) (mem_of_lookupK e)
   obtain⟨q1,q2⟩:=qh.mp q
   obtain⟨q2,q3⟩:=qh.mp q2
   exact keep (S.X a o e) (bne_iff_ne.mp q2) (bne_iff_ne.mp q3) (nl (S.X a o e) (bne_iff_ne.mp q1))
  ·refine e12 hn fun mc h1 h2=>?_;clear hn;exact i12 mc (nsk h1) h2
  ·refine e12 hd fun mc h1 h2=>?_;clear hd;exact i12 mc (nsk h1) h2
  ·refine e11 S.sysm fun o e=>?_
   exact⟨o,keep e (by decide) (by decide) fun q=>by replace hl:=(Eq.symm q)▸hl;simp at hl⟩
  ·refine e13 S.bm fun o e r1 r2=>?_
   exact i13 o (keep e (by decide) (by decide) (nl e (by refine rwg r1 ?_;decide))) r1 r2
 have gl:g0 s.heap l l=some (.froz,q0q vs n):=by unfold g0;refine rwg (if_neg l0)<|rwg (if_neg l1)<|rwg (if_pos rfl)<|rwg hL ?_;rfl
 have ga:∀{a:Addr}{k:Kd}{o:Obj},g0 s.heap l a=some (k,o)->(a=1276∧k = .shr 0 .main∧o=tabObj #[])∨(a=327∧k = .shr 1 .main∧o=tabObj #[])∨(s.heap.get? a=some o∧(k = .froz∨k = .still)):=by
  intro a k o e
  by_cases q0:a=1276
  ·rw[g0,if_pos q0] at e;replace e:=qd e;cases e;exact .inl (i03 q0 rfl rfl)
  by_cases q1:a=327
  ·(rewrite[g0] at e;replace e:=(if_neg q0)▸e;replace e:=(if_pos q1)▸e);replace e:=qd e;cases e;exact .inr (.inl (i03 q1 rfl rfl))
  (rewrite[g0] at e;replace e:=(if_neg q0)▸e;replace e:=(if_neg q1)▸e)
  by_cases q2:a=l
  ·replace e:=(if_pos q2)▸e
   refine e12 (Option.map_eq_some_iff.mp e) fun o' h1 h2=>?_
   cases h2;exact .inr (.inr ⟨h1,.inl rfl⟩)
  ·replace e:=(if_neg q2)▸e
   refine e12 (Option.map_eq_some_iff.mp e) fun o' h1 h2=>?_
   cases h2;exact .inr (.inr ⟨h1,.inr rfl⟩)
 have H:Hp c (g0 s.heap l) [.tab,.tab] s:=by
  refine⟨fun a k o e=>?_,gd,fun a o e=>?_,⟨fun i so e=>?_,fun i a a' o o' e e'=>?_,fun i p a o e=>?_⟩,rfl,rfl⟩
  ·rcases ga e with ⟨rfl,rfl,rfl⟩ | ⟨rfl,rfl,rfl⟩ | ⟨h1,rfl | rfl⟩
   ·exact i12 _ S.t0 rfl
   ·exact i12 _ S.t1 rfl
   ·exact i12 _ h1 rfl
   ·exact i12 _ h1 rfl
  ·have ne:∀b∈[1276,327,l],a≠b:=fun b hb q=>by(replace e:=q▸e;replace e:=(hideAll_none _ hb)▸e);exact(j6 e).elim
   (rewrite[g0];refine rwg (if_neg (ne _ (.head _)))<|rwg (if_neg (ne _ (.tail _ (.head _))))<|rwg (if_neg (ne _ (.tail _ (.tail _ (.head _)))))<|rwg (of_hideAll _ e) ?_);rfl
  ·match i,e with
   | 0,e=>cases e;exact i12 1276 rfl (i12 _ (by skip;exact if_pos rfl) (.inl rfl))
   | 1,e=>cases e;exact i12 327 rfl (i12 (tabObj #[]) (by unfold g0;exact rwg (if_neg (by decide))<|rwg (if_pos rfl) rfl) (.inl rfl))
  ·rcases ga e with ⟨rfl,q,_⟩ | ⟨rfl,q,_⟩ | ⟨_,q | q⟩ <;> cases q <;> rcases ga e' with ⟨rfl,q',_⟩ | ⟨rfl,q',_⟩ | ⟨_,q' | q'⟩ <;> cases q' <;> rfl
  ·rcases ga e with ⟨_,q,_⟩ | ⟨_,q,_⟩ | ⟨_,q | q⟩ <;> cases q <;> decide
 refine e11 (qc0 ns hlen) fun as law=>?_
 refine wpAny_call (codeAny_mono (qiw (c:=c) (g:=g0 s.heap l) (f:=vz (q0c 19) KE) (fun E=>ul (qjk 19 _ ((room0.less (m:=21) (by decide)).deeper E)) ((room0.less (m:=2) (by decide)).deeper E) KE)
  (fun E E'=>ul (qjk 19 _ (((room0.less (m:=22) (by decide)).deeper E).deeper E')) (((room0.less (m:=3) (by decide)).deeper E).deeper E') KE)
  (fun E E' E''=>ul (qjk 19 _ (((room0.deeper E).deeper E').deeper E'')) ((((room0.less (m:=4) (by decide)).deeper E).deeper E').deeper E'') KE) (by decide) H (script:=ns) (v:=.ref l) (as:=as) (.list gl ⟨n,rfl⟩ (qbe hI)) rfl law) fun r s' z=>?_)
 cases z with
 | @mk _ g' sg' H' KF h0 h1=>
  have at0:asItWas s.heap s'.heap 1276 (tabObj #[])∧∃o',s'.heap.get? 1276=some o':=by
   obtain⟨a,rfl,o',e1,e2⟩:=H'.sig.at_ 0 .tab h0
   have e3:=H'.fits.exact e1 (jb rfl)
   rcases e2 with rfl | ⟨b,oc,rfl,_⟩
   ·exact⟨lq (codeHd_of_K S.X (S.kf.at 2 rfl)) S.t0 e3 rfl,_,e3⟩
   ·exact⟨lq (codeHd_of_K S.X (S.kf.at 2 rfl)) S.t0 e3 rfl,_,e3⟩
  have at1:asItWas s.heap s'.heap 327 (tabObj #[])∧∃o',s'.heap.get? 327=some o':=by
   obtain⟨a,rfl,o',e1,e2⟩:=H'.sig.at_ 1 .tab h1
   have e3:=H'.fits.exact e1 (jb rfl)
   rcases e2 with rfl | ⟨b,oc,rfl,_⟩
   ·exact⟨lq (codeHd_of_K S.X (S.kf.at 3 rfl)) S.t1 e3 rfl,_,e3⟩
   ·exact⟨lq (codeHd_of_K S.X (S.kf.at 3 rfl)) S.t1 e3 rfl,_,e3⟩
  have all:∀b o,s.heap.get? b=some o->asItWas s.heap s'.heap b o∧∃o',s'.heap.get? b=some o':=fun b o e=>by
   by_cases q0:b=1276
   ·subst q0;rw[S.t0] at e;replace e:=qd e;cases e;exact at0
   by_cases q1:b=327
   ·subst q1;rw[S.t1] at e;replace e:=qd e;cases e;exact at1
   have e2:s'.heap.get? b=some o:=by
    by_cases q2:b=l
    ·subst q2;replace e:=hL▸e;replace e:=qd e;cases e;exact H'.fits.exact (KF.keep _ _ _ gl nofun nofun) (jb rfl)
    ·exact H'.keep b o (keep e q0 q1 q2)
   exact⟨.inl e2,⟨_,e2⟩⟩
  exact⟨rfl,⟨fun b o e=>(all b o e).1,fun b o e=>(all b o e).2⟩,H'.os,H'.gens.trans hgens⟩
end
set_option tactic.hygienic true in
theorem qbz {w:World} {s₀ s₁:Shared} {mg mb:Str→Option Value} (G:Ground bn th lawRow.records (XL bn []) w s₀ mg mb s₁.heap) (Y:∃K,Start K s₁.heap) {a:Addr} (hmg:mg "law"=some (.ref a)) (hgens:s₁.gens=#[])
  {args:List WData} {vals:List Value} {as:List Addr} (hpre:lawRow.claim.pre args=true) (hlay:WData.layableAll args=true) (hrd:ReadsAllW lawRow.records (classAt s₀.heap) s₁.heap vals args as) (hwl:WellAll w.params s₁.heap vals args) (hlo:∀a∈as,(a==sysModules)=false) :
  wpAny (model lawRow.prog w) callerA (call (.ref a) vals) (fun v s'=>GoodWG lawRow.claim (classAt s₀.heap) (ExcName.means s₀.heap) args s₁ (.ok (.ret v)) s')
    (fun e s'=>GoodWG lawRow.claim (classAt s₀.heap) (ExcName.means s₀.heap) args s₁ (.error e) s') s₁:=by
 refine e11 Y fun K S=>?_;clear Y
 have hlo2:=hlo
 wrow_args hpre hlay hrd hwl hlo
 rename_i ns hs hlay0 hly hr1 hl2 as1 as2 l vs as3 hL ra w1 r0 hI hr hcond hcond2
 have ea:a=1286:=by
  have q:=mg_of S.X G.T.g (beq_iff_eq.mp (qy.mp S.kf.glb (("law":Str),1286) (by decide +kernel)))
  rw[hmg] at q;have zz:=Value.ref.inj (qd q);clear q;cases zz;rfl
 subst ea
 have hll:(l==sysModules)=false:=by
  cases r0
  exact hlo2 _ (List.mem_append_left _ (.head _))
 obtain⟨n,hget⟩:∃n,s₁.heap.get? l=some (q0q vs n):=by
  refine e13 hL fun o e1 e2 zz3=>?_;clear hL;refine e11 zz3 fun n e3=>?_;clear zz3
  cases (by exact w1:Well w.params s₁.heap (.ref l) (.list (ofPys (ns.map .int)))) with
  | list h1 _=>rw[h1] at e1;replace e1:=qd e1;cases e1;exact⟨n,by refine rwg h1 ?_;unfold q0q;exact rwl e3 rfl⟩
 have hlen:ns.length≤63:=by omega
 refine wpAny_mono (q54 S G.T.g G.T.b G.T.builtins G.T.nolimit G.T.nodigits hget hI hlen hll hgens) (fun v s' z=>?_) fun z_ z_ h=>h.elim
 obtain⟨rfl,z⟩:=z
 refine i04 (.inl (i35 (.bool true) (.bool true) [] rfl (raisesW_false (by wrow_none_raised)) (.bool true) (by wrow_post) (fun z_=>⟨.nil,fun z_ h=>absurd h j5⟩))) z.old z.os (.of_eq z.gens)
theorem qav{s:SharedT}(e:qbu s=q2q):Start (om s q7e) s.abs.heap:=by
 have h1:=congrArg Look.ok e
 have at_:∀(i:Nat){b:Bool},(qc4 (om s q7e))[i]? = some b->b=true:=fun i b q=>qy.mp h1 b (List.mem_of_getElem? q)
 refine⟨⟨at_ 0 rfl,at_ 1 rfl,at_ 2 rfl,at_ 3 rfl,at_ 4 rfl,congrArg Look.fn e,at_ 5 rfl,at_ 6 rfl⟩,qga,at_ 7 rfl,d6 (congrArg Look.t0 e),d6 (congrArg Look.t1 e),?_,?_⟩
 ·obtain⟨o,h⟩:=Option.isSome_iff_exists.mp (congrArg Look.sysm e)
  exact⟨o,d6 h⟩
 ·refine e12 (Option.map_eq_some_iff.mp (congrArg Look.bm e)) fun o h2 h3=>?_
  exact i14 o (d6 h2) (congrArg (·.1) h3) (congrArg (·.2.1) h3) (congrArg (·.2.2) h3)
end Mine
end
section
open PySem PySem.W PyProof.Rows PySem.Calls
set_option maxHeartbeats 0
namespace Mine
theorem qfs:LeftO PySem.Challenge.rw_pq1361_01.row.prog bn th (fun s=>xlAt bn [] s&&recOk [] s) (fun s=>∃K,Start K s.heap) (fun z_=>True) 9300:=
 q2s q4s rfl q33 rfl qex qf4 fun w os s e=>by
  obtain⟨s',e1,e2⟩:=Option.map_eq_some_iff.mp (qba w os)
  obtain rfl:=qd (e1.symm.trans e)
  exact eq_true ⟨_,qav e2⟩
end Mine
end
section
open PySem PySem.W PyProof.Rows PySem.Calls
set_option maxHeartbeats 0
namespace Mine
theorem said_ok:PySem.Challenge.rw_pq1361_01.wellSaid=true:=by
 unfold OpenLaw.wellSaid OpenRow.wellSaid OpenRow.partSaid looksOpen
 simp only [PySem.W.Fast.te11788848310118352699,PySem.W.Fast.te2368527892694137696,PySem.W.Fast.te9807087744658564304,PySem.W.Fast.te12862048085361865435,PySem.W.Fast.te8377067652309620493,PySem.W.Fast.te18344453789297297638,PySem.W.Fast.te3471404346716756564,PySem.W.Fast.te14412699480532031325,PySem.W.Fast.te8326940854005059898,PySem.W.Fast.te5923862056798008813,PySem.W.Fast.te17691160309236699985,PySem.W.Fast.te13343964577679436407,PySem.W.Fast.te17119622794617984870,PySem.W.Fast.te17868728402115742887,PySem.W.Fast.te2357444279172408678,PySem.W.Fast.te4857012375875476094,PySem.W.Fast.te13582783067957832011,PySem.W.Fast.te5318747976498570220,PySem.W.Fast.te4274047373036748609,PySem.W.Fast.te12749700546528644094,PySem.W.Fast.te10501279942588096481,PySem.W.Fast.te8179353310426384613,PySem.W.Fast.te797321630700447069,PySem.W.Fast.te9572597257264208301,PySem.W.Fast.te9558739934217749035,PySem.W.Fast.te16286561074155671207,PySem.W.Fast.te6984425678791042302,PySem.W.Fast.te17095254045102204799,PySem.W.Fast.te12879404354523853263,PySem.W.Fast.te482687673346738481,PySem.W.Fast.te10792542408131684335,PySem.W.Fast.te7723801398212525404]
 repeat' with_reducible refine look_both ?_ ?_
 all_goals decide +kernel
noncomputable def dL:DefRec×List (Str×qo):=(defOf bn "law").getD ⟨⟨"",default,[],default,default⟩,[]⟩
theorem qhp:defOf bn "law"=some (dL.1,dL.2):=by kernel_rfl
theorem law_holds(said:PySem.Challenge.rw_pq1361_01.row.wellSaid=true):PySem.Challenge.rw_pq1361_01.row.Holds:=
 PySem.W.holds_open (d:=dL.1) (kwd:=dL.2) (q:=bn) (loose:=th) (Xt:=fun s=>xlAt bn [] s&&recOk [] s) (XP:=XL bn []) (YP:=fun z_ h=>∃K,Start K h) qfs (fun w s e=>e.symm▸trivial) (fun w h h' Y k=>let ⟨K,S⟩:=Y;⟨K,S.keeps k⟩)
  (fun s e=>xl_of s (qh.mp e).1) XL.keeps qhp (by kernel_rfl) (by kernel_rfl) (fun s e=>recFacts_of (qh.mp e).2) rfl said (by decide +kernel) ⟨rfl,rfl,rfl,rfl,rfl,by decide +kernel⟩ ⟨[.list [.int 3]],by decide +kernel,by decide +kernel⟩
  fun w s₀ s₁ mg mb G Y a o pm cd doc dV kV ho hd hcd hD hmg hg args vals as hpre hlay hrd hwl hlo=>qbz G Y ((congrArg mg (defOf_name qhp)).symm.trans hmg) hg hpre hlay hrd hwl hlo
end Mine
theorem PySem.Challenge.cw_pq1361_01_holds : PySem.Challenge.rw_pq1361_01.Holds := by
 exact⟨Mine.said_ok,Mine.law_holds (PySem.W.row_said Mine.said_ok)⟩
end
