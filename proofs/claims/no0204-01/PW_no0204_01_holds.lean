import PyProof.Rows.All
import Wide.All
import OpenK.AllK
import PyProof.ExcBaseAll.Exception
import KE.KRevIter
import PyProof.ExcArgsOwn
import Wide.FinOn
import PySem.Eval
import PySem.Challenge.RW_no0204_01
set_option tactic.hygienic false
set_option compiler.extract_closed false
set_option bootstrap.genMatcherCode false
set_option genSizeOf false
set_option genInjectivity false
set_option linter.all false
set_option Elab.async false
set_option maxRecDepth 100000
set_option maxHeartbeats 400000
namespace Mine.Internal
abbrev bj:=@Nat.lt_of_lt_of_le
abbrev bw:=@List.append_assoc
abbrev bW:=@List.length_append
abbrev bO:=@Nat.le_trans
abbrev dD:=@Nat.lt_of_le_of_lt
abbrev dC:=@List.length_cons
abbrev dH:=@List.append_nil
abbrev dN:=@List.length_map
abbrev d9:=@Nat.le_add_right
abbrev dh:=@Nat.le_of_eq
abbrev dw:=@Nat.lt_of_succ_le
abbrev bR:=@Nat.le_refl
abbrev iz:=@List.getElem?_append_right
abbrev gM:=@List.getElem?_eq_getElem
abbrev gw:=@Nat.lt_of_succ_lt_succ
abbrev cH:=@List.map_cons
abbrev eQ:=@List.mem_cons_self
abbrev gq:=@List.mem_of_getElem?
abbrev iy:=@List.getElem?_set_self
abbrev fG:=@List.getElem?_map
abbrev jz:=@Nat.add_sub_cancel_left
abbrev fB:=@List.length_set
abbrev iw:=@Nat.le_of_succ_le
abbrev iY:=@List.getElem?_drop
abbrev dX:=@Nat.ne_of_gt
abbrev jX:=@List.getElem?_set_ne
abbrev lL:=@List.getElem?_eq_none
abbrev iW:=@Nat.le_of_not_lt
abbrev oX:=@List.getElem?_append_left
abbrev jJ:=@List.size_toArray
abbrev mX:=@List.set_append_right
abbrev jH:=@Bool.and_eq_true
abbrev gf:=@Nat.zero_le
abbrev mC:=@Nat.add_right_comm
abbrev j9:=@Nat.lt_succ_self
abbrev iu:=@Nat.add_zero
abbrev lK:=@List.length_drop
abbrev nH:=@Int.lt_of_lt_of_le
abbrev iV:=@Nat.ne_of_lt
abbrev rJ:=@List.getElem?_cons_succ
abbrev jy:=@Nat.sub_self
abbrev oW:=@Nat.succ_le_of_lt
abbrev oV:=@Nat.lt_succ_of_lt
abbrev oU:=@Nat.le_succ_of_le
abbrev mW:=@List.nil_append
abbrev pL:=@Int.natCast_nonneg
abbrev oR:=@Nat.succ_lt_succ
abbrev oO:=@List.map_append
abbrev pK:=@List.lookup_cons
abbrev lJ:=@Nat.le_of_lt
abbrev mz:=@Nat.zero_add
abbrev rI:=@Nat.lt_succ_of_le
abbrev qZ:=@Bool.eq_iff_iff
abbrev nG:=@Int.le_trans
abbrev qY:=@List.nodup_nil
abbrev qX:=@List.drop_drop
abbrev pJ:=@List.mem_cons
abbrev vM:=@Bool.not_eq_true'
abbrev rH:=@Nat.add_le_add
abbrev zH:=@Nat.le_of_ble_eq_true
abbrev zG:=@Nat.eq_of_beq_eq_true
abbrev zF:=@List.contains_iff_mem
abbrev ur:=@Bool.or_eq_true
abbrev yl:=@Bool.false_eq_true
abbrev vL:=@Nat.succ_le_succ
abbrev rG:=@List.any_cons
abbrev qW:=@Int.le_of_lt
abbrev pI:=@Nat.le_succ
abbrev vK:=@List.find?_cons
abbrev yj:=@Nat.gt_of_not_le
abbrev yh:=@List.length_take
abbrev rF:=@Nat.add_comm
abbrev Dh:=@List.getElem?_toArray
abbrev Dg:=@List.set_append_left
abbrev zE:=@List.prefix_refl
abbrev NT:=@List.eq_nil_of_length_eq_zero
abbrev zB:=@List.all_eq_true
abbrev Hv:=@List.take_of_length_le
abbrev Hu:=@Int.fmod_nonneg_of_pos
abbrev Df:=@List.mem_singleton
abbrev zA:=@Nat.le_antisymm
abbrev zz:=@Nat.le_add_left
abbrev vJ:=@List.map_nil
abbrev yg:=@Bool.true_and
abbrev Ht:=@List.mem_of_mem_drop
abbrev Dd:=@List.getElem_mem
abbrev Dc:=@Int.not_lt_of_ge
abbrev Hs:=@Nat.sub_add_cancel
abbrev Hr:=@List.contains_cons
abbrev CZ:=@Int.natCast_add
abbrev Hq:=@Int.fmod_lt_of_pos
noncomputable section
universe u
theorem Z{α:Sort u}{a:α}:a=a:=rfl
theorem Y{p:Prop}[Decidable p](h:decide p=true:=by rfl):p:=of_decide_eq_true h
noncomputable abbrev Mo:=PySem.Str.ofString
def Of{E0 E1 E2 E3:Sort _}{p:Prop}{m:E0->E1->E2->E3->Prop}(z:p->False):∀a b c d,p->m a b c d:=λ_ _ _ _ h=>(z h).elim
def OK{E0 E1 E2:Sort _}{p:Prop}{m:E0->E1->E2->Prop}(z:p->False):∀a b c,p->m a b c:=λ_ _ _ h=>(z h).elim
def PM{E0 E1:Sort _}{p:Prop}{m:E0->E1->Prop}(z:p->False):∀a b,p->m a b:=λ_ _ h=>(z h).elim
def Q2{E0:Sort _}{p:Prop}{m:E0->Prop}(z:p->False):∀a,p->m a:=λ_ h=>(z h).elim
abbrev Q3:=PySem.Value->PySem.Shared->Prop
abbrev Q4:=PySem.Flow->PySem.Shared->Prop
abbrev Sa:=List Nat
abbrev Su:=List (PySem.Addr×PySem.Addr)
abbrev Tu:=List PySem.Value
abbrev za0:=List (List Nat)
abbrev za2:=Unit->PySem.Shared->Prop
abbrev za3:=List PySem.Str
abbrev za5:=List (Nat×Nat)
abbrev za6:=List Int
abbrev za7:=List PySem.Env
abbrev za8:=Array PySem.Value
abbrev za9:=Option Nat
abbrev zb0:=List PySem.Expr
abbrev zb2:=Option PySem.Value
def zb3{α β:Type _}{f:α->β}{b:β}{o:Option α}(h:o.map f=some b):∃a,o=some a∧f a=b:=Option.map_eq_some_iff.mp h
def zb4{α:Type _}[BEq α][LawfulBEq α]{a b:α}(h:a≠b):(a==b)=false:=beq_eq_false_iff_ne.mpr h
def zb5{α:Type _}{a b:α}{l:List α}(h:a∈b::l):a=b∨a∈l:=List.mem_cons.mp h
def zb6{α:Type _}{a:α}{i:Nat}{l:List α}(h:l[i]?=some a):∃h:i<l.length,l[i]=a:=List.getElem?_eq_some_iff.mp h
@[elab_as_elim] theorem rwl{α:Sort u}{b:α}{motive:α->Prop}{a:α}(h:a=b)(k:motive b):motive a:=h▸k
@[elab_as_elim] theorem rwr{α:Sort u}{b:α}{motive:α->Prop}{a:α}(h:b=a)(k:motive b):motive a:=h▸k
end
noncomputable section
variable{P Q R G:Prop}
theorem MN(h:P/\Q/\R)(k:P->Q->R->G):G:=k h.1 h.2.1 h.2.2
variable{S:Prop}
theorem XQ(h:P/\Q/\R/\S)(k:P->Q->R->S->G):G:=k h.1 h.2.1 h.2.2.1 h.2.2.2
theorem C3{T:Prop}(h:P/\Q/\R/\S/\T)(k:P->Q->R->S->T->G):G:=k h.1 h.2.1 h.2.2.1 h.2.2.2.1 h.2.2.2.2
variable{A:Type}
theorem bY{P Q:A->Prop}(h:∃a,P a/\Q a)(k:∀a,P a->Q a->G):G:=h.elim λa h=>k a h.1 h.2
theorem um{P Q R:A->Prop}(h:∃a,P a/\Q a/\R a)(k:∀a,P a->Q a->R a->G):G:=h.elim λa h=>k a h.1 h.2.1 h.2.2
theorem Bu{P Q R S:A->Prop}(h:∃a,P a/\Q a/\R a/\S a)(k:∀a,P a->Q a->R a->S a->G):G:=h.elim λa h=>k a h.1 h.2.1 h.2.2.1 h.2.2.2
theorem C0{P Q R S T:A->Prop}(h:∃a,P a/\Q a/\R a/\S a/\T a)(k:∀a,P a->Q a->R a->S a->T a->G):G:=h.elim λa h=>k a h.1 h.2.1 h.2.2.1 h.2.2.2.1 h.2.2.2.2
theorem Kn{P Q R S T vc:A->Prop}(h:∃a,P a/\Q a/\R a/\S a/\T a/\vc a)(k:∀a,P a->Q a->R a->S a->T a->vc a->G):G:=h.elim λa h=>k a h.1 h.2.1 h.2.2.1 h.2.2.2.1 h.2.2.2.2.1 h.2.2.2.2.2
variable{AD:Type}
theorem mK{P:A->AD->Prop}(h:∃a b,P a b)(k:∀a b,P a b->G):G:=h.elim λa h=>h.elim λb h=>k a b h
theorem gH{P Q:A->AD->Prop}(h:∃a b,P a b/\Q a b)(k:∀a b,P a b->Q a b->G):G:=h.elim λa h=>h.elim λb h=>k a b h.1 h.2
theorem gZ{P Q R:A->AD->Prop}(h:∃a b,P a b/\Q a b/\R a b)(k:∀a b,P a b->Q a b->R a b->G):G:=h.elim λa h=>h.elim λb h=>k a b h.1 h.2.1 h.2.2
theorem oK{P Q R S:A->AD->Prop}(h:∃a b,P a b/\Q a b/\R a b/\S a b)(k:∀a b,P a b->Q a b->R a b->S a b->G):G:=h.elim λa h=>h.elim λb h=>k a b h.1 h.2.1 h.2.2.1 h.2.2.2
theorem JC{P Q R S T:A->AD->Prop}(h:∃a b,P a b/\Q a b/\R a b/\S a b/\T a b)(k:∀a b,P a b->Q a b->R a b->S a b->T a b->G):G:=h.elim λa h=>h.elim λb h=>k a b h.1 h.2.1 h.2.2.1 h.2.2.2.1 h.2.2.2.2
theorem Bt{P Q R S T vc:A->AD->Prop}(h:∃a b,P a b/\Q a b/\R a b/\S a b/\T a b/\vc a b)(k:∀a b,P a b->Q a b->R a b->S a b->T a b->vc a b->G):G:=h.elim λa h=>h.elim λb h=>k a b h.1 h.2.1 h.2.2.1 h.2.2.2.1 h.2.2.2.2.1 h.2.2.2.2.2
theorem Kk{P Q R S T vc V:A->AD->Prop}(h:∃a b,P a b/\Q a b/\R a b/\S a b/\T a b/\vc a b/\V a b)(k:∀a b,P a b->Q a b->R a b->S a b->T a b->vc a b->V a b->G):G:=h.elim λa h=>h.elim λb h=>k a b h.1 h.2.1 h.2.2.1 h.2.2.2.1 h.2.2.2.2.1 h.2.2.2.2.2.1 h.2.2.2.2.2.2
variable{BC:Type}
theorem MJ{P:A->AD->BC->Prop}(h:∃a b c,P a b c)(k:∀a b c,P a b c->G):G:=h.elim λa h=>h.elim λb h=>h.elim λc h=>k a b c h
theorem eW{P Q:A->AD->BC->Prop}(h:∃a b c,P a b c/\Q a b c)(k:∀a b c,P a b c->Q a b c->G):G:=h.elim λa h=>h.elim λb h=>h.elim λc h=>k a b c h.1 h.2
theorem uh{P Q R:A->AD->BC->Prop}(h:∃a b c,P a b c/\Q a b c/\R a b c)(k:∀a b c,P a b c->Q a b c->R a b c->G):G:=h.elim λa h=>h.elim λb h=>h.elim λc h=>k a b c h.1 h.2.1 h.2.2
theorem rC{P Q R S:A->AD->BC->Prop}(h:∃a b c,P a b c/\Q a b c/\R a b c/\S a b c)(k:∀a b c,P a b c->Q a b c->R a b c->S a b c->G):G:=h.elim λa h=>h.elim λb h=>h.elim λc h=>k a b c h.1 h.2.1 h.2.2.1 h.2.2.2
theorem JB{P Q R S T vc:A->AD->BC->Prop}(h:∃a b c,P a b c/\Q a b c/\R a b c/\S a b c/\T a b c/\vc a b c)(k:∀a b c,P a b c->Q a b c->R a b c->S a b c->T a b c->vc a b c->G):G:=h.elim λa h=>h.elim λb h=>h.elim λc h=>k a b c h.1 h.2.1 h.2.2.1 h.2.2.2.1 h.2.2.2.2.1 h.2.2.2.2.2
variable{AM:Type}
theorem Tc{P Q:A->AD->BC->AM->Prop}(h:∃a b c d,P a b c d/\Q a b c d)(k:∀a b c d,P a b c d->Q a b c d->G):G:=h.elim λa h=>h.elim λb h=>h.elim λc h=>h.elim λd h=>k a b c d h.1 h.2
theorem CY{P Q R:A->AD->BC->AM->Prop}(h:∃a b c d,P a b c d/\Q a b c d/\R a b c d)(k:∀a b c d,P a b c d->Q a b c d->R a b c d->G):G:=h.elim λa h=>h.elim λb h=>h.elim λc h=>h.elim λd h=>k a b c d h.1 h.2.1 h.2.2
theorem eT{P Q R S:A->AD->BC->AM->Prop}(h:∃a b c d,P a b c d/\Q a b c d/\R a b c d/\S a b c d)(k:∀a b c d,P a b c d->Q a b c d->R a b c d->S a b c d->G):G:=h.elim λa h=>h.elim λb h=>h.elim λc h=>h.elim λd h=>k a b c d h.1 h.2.1 h.2.2.1 h.2.2.2
theorem Kj{P Q R S T:A->AD->BC->AM->Prop}(h:∃a b c d,P a b c d/\Q a b c d/\R a b c d/\S a b c d/\T a b c d)(k:∀a b c d,P a b c d->Q a b c d->R a b c d->S a b c d->T a b c d->G):G:=h.elim λa h=>h.elim λb h=>h.elim λc h=>h.elim λd h=>k a b c d h.1 h.2.1 h.2.2.1 h.2.2.2.1 h.2.2.2.2
theorem Ki{P Q R S T vc:A->AD->BC->AM->Prop}(h:∃a b c d,P a b c d/\Q a b c d/\R a b c d/\S a b c d/\T a b c d/\vc a b c d)(k:∀a b c d,P a b c d->Q a b c d->R a b c d->S a b c d->T a b c d->vc a b c d->G):G:=h.elim λa h=>h.elim λb h=>h.elim λc h=>h.elim λd h=>k a b c d h.1 h.2.1 h.2.2.1 h.2.2.2.1 h.2.2.2.2.1 h.2.2.2.2.2
variable{E:Type}
theorem CU{P Q R S:A->AD->BC->AM->E->Prop}(h:∃a b c d e,P a b c d e/\Q a b c d e/\R a b c d e/\S a b c d e)(k:∀a b c d e,P a b c d e->Q a b c d e->R a b c d e->S a b c d e->G):G:=h.elim λa h=>h.elim λb h=>h.elim λc h=>h.elim λd h=>h.elim λe h=>k a b c d e h.1 h.2.1 h.2.2.1 h.2.2.2
theorem Kb{P Q R S T vc:A->AD->BC->AM->E->Prop}(h:∃a b c d e,P a b c d e/\Q a b c d e/\R a b c d e/\S a b c d e/\T a b c d e/\vc a b c d e)(k:∀a b c d e,P a b c d e->Q a b c d e->R a b c d e->S a b c d e->T a b c d e->vc a b c d e->G):G:=h.elim λa h=>h.elim λb h=>h.elim λc h=>h.elim λd h=>h.elim λe h=>k a b c d e h.1 h.2.1 h.2.2.1 h.2.2.2.1 h.2.2.2.2.1 h.2.2.2.2.2
variable{F:Type}
theorem J'{P Q R S T vc V W:A->AD->BC->AM->E->F->Prop}(h:∃a b c d e f,P a b c d e f/\Q a b c d e f/\R a b c d e f/\S a b c d e f/\T a b c d e f/\vc a b c d e f/\V a b c d e f/\W a b c d e f)(k:∀a b c d e f,P a b c d e f->Q a b c d e f->R a b c d e f->S a b c d e f->T a b c d e f->vc a b c d e f->V a b c d e f->W a b c d e f->G):G:=h.elim λa h=>h.elim λb h=>h.elim λc h=>h.elim λd h=>h.elim λe h=>h.elim λf h=>k a b c d e f h.1 h.2.1 h.2.2.1 h.2.2.2.1 h.2.2.2.2.1 h.2.2.2.2.2.1 h.2.2.2.2.2.2.1 h.2.2.2.2.2.2.2
variable{H:Type}
theorem sQ{P Q:A->AD->BC->AM->E->F->H->Prop}(h:∃a b c d e f o,P a b c d e f o/\Q a b c d e f o)(k:∀a b c d e f o,P a b c d e f o->Q a b c d e f o->G):G:=h.elim λa h=>h.elim λb h=>h.elim λc h=>h.elim λd h=>h.elim λe h=>h.elim λf h=>h.elim λo h=>k a b c d e f o h.1 h.2
variable{I:Type}
theorem CS{P Q:A->AD->BC->AM->E->F->H->I->Prop}(h:∃a b c d e f o i,P a b c d e f o i/\Q a b c d e f o i)(k:∀a b c d e f o i,P a b c d e f o i->Q a b c d e f o i->G):G:=h.elim λa h=>h.elim λb h=>h.elim λc h=>h.elim λd h=>h.elim λe h=>h.elim λf h=>h.elim λo h=>h.elim λi h=>k a b c d e f o i h.1 h.2
theorem kF{oD K CE M:Type}{P Q R S:A->AD->BC->AM->E->F->H->I->oD->K->CE->M->Prop}(h:∃a b c d e f o i j l m n,P a b c d e f o i j l m n/\Q a b c d e f o i j l m n/\R a b c d e f o i j l m n/\S a b c d e f o i j l m n)(k:∀a b c d e f o i j l m n,P a b c d e f o i j l m n->Q a b c d e f o i j l m n->R a b c d e f o i j l m n->S a b c d e f o i j l m n->G):G:=h.elim λa h=>h.elim λb h=>h.elim λc h=>h.elim λd h=>h.elim λe h=>h.elim λf h=>h.elim λo h=>h.elim λi h=>h.elim λj h=>h.elim λl h=>h.elim λm h=>h.elim λn h=>k a b c d e f o i j l m n h.1 h.2.1 h.2.2.1 h.2.2.2
theorem jW(p:P)(q:Q)(r:R):P/\Q/\R:=⟨p,q,r⟩
theorem Jf(p:P)(q:Q)(r:R)(s:S):P/\Q/\R/\S:=⟨p,q,r,s⟩
theorem Bi{T:Prop}(p:P)(q:Q)(r:R)(s:S)(t:T):P/\Q/\R/\S/\T:=⟨p,q,r,s,t⟩
theorem aZ{P Q:A->Prop}(a:A)(p:P a)(q:Q a):∃a,P a/\Q a:=⟨a,p,q⟩
theorem oH{P Q R:A->Prop}(a:A)(p:P a)(q:Q a)(r:R a):∃a,P a/\Q a/\R a:=⟨a,p,q,r⟩
theorem WR{P Q R S:A->Prop}(a:A)(p:P a)(q:Q a)(r:R a)(s:S a):∃a,P a/\Q a/\R a/\S a:=⟨a,p,q,r,s⟩
theorem A9{P Q R S T:A->Prop}(a:A)(p:P a)(q:Q a)(r:R a)(s:S a)(t:T a):∃a,P a/\Q a/\R a/\S a/\T a:=⟨a,p,q,r,s,t⟩
theorem A8{P Q R S T vc:A->Prop}(a:A)(p:P a)(q:Q a)(r:R a)(s:S a)(t:T a)(u:vc a):∃a,P a/\Q a/\R a/\S a/\T a/\vc a:=⟨a,p,q,r,s,t,u⟩
theorem eO{P:A->AD->Prop}(a:A)(b:AD)(p:P a b):∃a b,P a b:=⟨a,b,p⟩
theorem dK{P Q:A->AD->Prop}(a:A)(b:AD)(p:P a b)(q:Q a b):∃a b,P a b/\Q a b:=⟨a,b,p,q⟩
theorem gn{P Q R:A->AD->Prop}(a:A)(b:AD)(p:P a b)(q:Q a b)(r:R a b):∃a b,P a b/\Q a b/\R a b:=⟨a,b,p,q,r⟩
theorem rA{P Q R S:A->AD->Prop}(a:A)(b:AD)(p:P a b)(q:Q a b)(r:R a b)(s:S a b):∃a b,P a b/\Q a b/\R a b/\S a b:=⟨a,b,p,q,r,s⟩
theorem Mf{P Q R S T:A->AD->Prop}(a:A)(b:AD)(p:P a b)(q:Q a b)(r:R a b)(s:S a b)(t:T a b):∃a b,P a b/\Q a b/\R a b/\S a b/\T a b:=⟨a,b,p,q,r,s,t⟩
theorem Be{P Q R S T vc:A->AD->Prop}(a:A)(b:AD)(p:P a b)(q:Q a b)(r:R a b)(s:S a b)(t:T a b)(u:vc a b):∃a b,P a b/\Q a b/\R a b/\S a b/\T a b/\vc a b:=⟨a,b,p,q,r,s,t,u⟩
theorem A7{P Q R S T vc V:A->AD->Prop}(a:A)(b:AD)(p:P a b)(q:Q a b)(r:R a b)(s:S a b)(t:T a b)(u:vc a b)(v:V a b):∃a b,P a b/\Q a b/\R a b/\S a b/\T a b/\vc a b/\V a b:=⟨a,b,p,q,r,s,t,u,v⟩
theorem Bd{P:A->AD->BC->Prop}(a:A)(b:AD)(c:BC)(p:P a b c):∃a b c,P a b c:=⟨a,b,c,p⟩
theorem yN{P Q:A->AD->BC->Prop}(a:A)(b:AD)(c:BC)(p:P a b c)(q:Q a b c):∃a b c,P a b c/\Q a b c:=⟨a,b,c,p,q⟩
theorem pq{P Q R:A->AD->BC->Prop}(a:A)(b:AD)(c:BC)(p:P a b c)(q:Q a b c)(r:R a b c):∃a b c,P a b c/\Q a b c/\R a b c:=⟨a,b,c,p,q,r⟩
theorem oG{P Q R S:A->AD->BC->Prop}(a:A)(b:AD)(c:BC)(p:P a b c)(q:Q a b c)(r:R a b c)(s:S a b c):∃a b c,P a b c/\Q a b c/\R a b c/\S a b c:=⟨a,b,c,p,q,r,s⟩
theorem A6{P Q R S T:A->AD->BC->Prop}(a:A)(b:AD)(c:BC)(p:P a b c)(q:Q a b c)(r:R a b c)(s:S a b c)(t:T a b c):∃a b c,P a b c/\Q a b c/\R a b c/\S a b c/\T a b c:=⟨a,b,c,p,q,r,s,t⟩
theorem Gw{P Q R S T vc:A->AD->BC->Prop}(a:A)(b:AD)(c:BC)(p:P a b c)(q:Q a b c)(r:R a b c)(s:S a b c)(t:T a b c)(u:vc a b c):∃a b c,P a b c/\Q a b c/\R a b c/\S a b c/\T a b c/\vc a b c:=⟨a,b,c,p,q,r,s,t,u⟩
theorem HK{P:A->AD->BC->AM->Prop}(a:A)(b:AD)(c:BC)(d:AM)(p:P a b c d):∃a b c d,P a b c d:=⟨a,b,c,d,p⟩
theorem WQ{P Q:A->AD->BC->AM->Prop}(a:A)(b:AD)(c:BC)(d:AM)(p:P a b c d)(q:Q a b c d):∃a b c d,P a b c d/\Q a b c d:=⟨a,b,c,d,p,q⟩
theorem rk{P Q R:A->AD->BC->AM->Prop}(a:A)(b:AD)(c:BC)(d:AM)(p:P a b c d)(q:Q a b c d)(r:R a b c d):∃a b c d,P a b c d/\Q a b c d/\R a b c d:=⟨a,b,c,d,p,q,r⟩
theorem WN{P Q R S:A->AD->BC->AM->Prop}(a:A)(b:AD)(c:BC)(d:AM)(p:P a b c d)(q:Q a b c d)(r:R a b c d)(s:S a b c d):∃a b c d,P a b c d/\Q a b c d/\R a b c d/\S a b c d:=⟨a,b,c,d,p,q,r,s⟩
theorem bS{P Q R S T:A->AD->BC->AM->Prop}(a:A)(b:AD)(c:BC)(d:AM)(p:P a b c d)(q:Q a b c d)(r:R a b c d)(s:S a b c d)(t:T a b c d):∃a b c d,P a b c d/\Q a b c d/\R a b c d/\S a b c d/\T a b c d:=⟨a,b,c,d,p,q,r,s,t⟩
theorem rj{P Q R S T vc:A->AD->BC->AM->Prop}(a:A)(b:AD)(c:BC)(d:AM)(p:P a b c d)(q:Q a b c d)(r:R a b c d)(s:S a b c d)(t:T a b c d)(u:vc a b c d):∃a b c d,P a b c d/\Q a b c d/\R a b c d/\S a b c d/\T a b c d/\vc a b c d:=⟨a,b,c,d,p,q,r,s,t,u⟩
theorem ri{P Q R S:A->AD->BC->AM->E->Prop}(a:A)(b:AD)(c:BC)(d:AM)(e:E)(p:P a b c d e)(q:Q a b c d e)(r:R a b c d e)(s:S a b c d e):∃a b c d e,P a b c d e/\Q a b c d e/\R a b c d e/\S a b c d e:=⟨a,b,c,d,e,p,q,r,s⟩
theorem A5{P Q R S T vc:A->AD->BC->AM->E->Prop}(a:A)(b:AD)(c:BC)(d:AM)(e:E)(p:P a b c d e)(q:Q a b c d e)(r:R a b c d e)(s:S a b c d e)(t:T a b c d e)(u:vc a b c d e):∃a b c d e,P a b c d e/\Q a b c d e/\R a b c d e/\S a b c d e/\T a b c d e/\vc a b c d e:=⟨a,b,c,d,e,p,q,r,s,t,u⟩
theorem HI{P Q R:A->AD->BC->AM->E->F->Prop}(a:A)(b:AD)(c:BC)(d:AM)(e:E)(f:F)(p:P a b c d e f)(q:Q a b c d e f)(r:R a b c d e f):∃a b c d e f,P a b c d e f/\Q a b c d e f/\R a b c d e f:=⟨a,b,c,d,e,f,p,q,r⟩
theorem bP{P Q R S T vc V W:A->AD->BC->AM->E->F->Prop}(a:A)(b:AD)(c:BC)(d:AM)(e:E)(f:F)(p:P a b c d e f)(q:Q a b c d e f)(r:R a b c d e f)(s:S a b c d e f)(t:T a b c d e f)(u:vc a b c d e f)(v:V a b c d e f)(w:W a b c d e f):∃a b c d e f,P a b c d e f/\Q a b c d e f/\R a b c d e f/\S a b c d e f/\T a b c d e f/\vc a b c d e f/\V a b c d e f/\W a b c d e f:=⟨a,b,c,d,e,f,p,q,r,s,t,u,v,w⟩
theorem HG{P Q:A->AD->BC->AM->E->F->H->Prop}(a:A)(b:AD)(c:BC)(d:AM)(e:E)(f:F)(o:H)(p:P a b c d e f o)(q:Q a b c d e f o):∃a b c d e f o,P a b c d e f o/\Q a b c d e f o:=⟨a,b,c,d,e,f,o,p,q⟩
theorem A4{P Q:A->AD->BC->AM->E->F->H->I->Prop}(a:A)(b:AD)(c:BC)(d:AM)(e:E)(f:F)(o:H)(i:I)(p:P a b c d e f o i)(q:Q a b c d e f o i):∃a b c d e f o i,P a b c d e f o i/\Q a b c d e f o i:=⟨a,b,c,d,e,f,o,i,p,q⟩
theorem ka{oD K CE M:Type}{P Q R S:A->AD->BC->AM->E->F->H->I->oD->K->CE->M->Prop}(a:A)(b:AD)(c:BC)(d:AM)(e:E)(f:F)(o:H)(i:I)(j:oD)(l:K)(m:CE)(n:M)(p:P a b c d e f o i j l m n)(q:Q a b c d e f o i j l m n)(r:R a b c d e f o i j l m n)(s:S a b c d e f o i j l m n):∃a b c d e f o i j l m n,P a b c d e f o i j l m n/\Q a b c d e f o i j l m n/\R a b c d e f o i j l m n/\S a b c d e f o i j l m n:=⟨a,b,c,d,e,f,o,i,j,l,m,n,p,q,r,s⟩
end
noncomputable section
variable{a b:Nat}
theorem sZ(h:a=b):(a:Int)=b:=congrArg _ h
theorem qI(h:¬a=b):¬(a:Int)=b:=λq=>h (Int.ofNat.inj q)
theorem yL(h:(a:Int)=b):a=b:=Int.ofNat.inj h
theorem Bc(h:a<b):(a:Int)<b:=Int.ofNat_lt.mpr h
theorem xN(h:a<=b):(a:Int)<=b:=Int.ofNat_le.mpr h
theorem Bb(h:b<=a):¬(a:Int)<b:=λq=>Nat.not_lt.mpr h (Int.ofNat_lt.mp q)
theorem uY(h:a<b):¬(OfNat.ofNat b:Int)<=a:=λq=>Nat.not_le.mpr h (Int.ofNat_le.mp q)
theorem Z9(h:(a:Int)<b):a<b:=Int.ofNat_lt.mp h
theorem AI(h:(a:Int)<=b):a<=b:=Int.ofNat_le.mp h
theorem A3:((a+1:Nat):Int)=a+1:=rfl
theorem Je:(0:Int)<((a+1:Nat):Int):=Int.ofNat_lt.mpr (Nat.succ_pos a)
theorem rh:(0:Int)<=(a:Int):=pL a
theorem PX:¬(a:Int)<0:=Int.not_lt.mpr (pL a)
variable{n k:Nat}
theorem EB(h:k+1<=n):n - k=n - (k+1)+1:=(Hs (Nat.sub_pos_of_lt h)).symm
theorem wb(h:k<n):n - k=n - (k+1)+1:=EB h
theorem wa(h:k<n):n - (k+1)+1=n - k:=(EB h).symm
variable{m:Nat}
theorem y9(h:n<=m):n - k<=m:=bO (Nat.sub_le _ _) h
theorem EA(h:n<m):n - k<m:=dD (Nat.sub_le _ _) h
theorem F3(h:n - k=m+1):k<n:=Nat.lt_of_sub_eq_succ h
theorem F4(h:n - k=m+1):k+1+m=n:=by rw[(Nat.sub_eq_iff_eq_add (lJ (F3 h))).mp h,mC,rF k,mC]
theorem Rw(h:n<=k):n - k=0:=Nat.sub_eq_zero_of_le h
variable{c:Nat}
theorem MU(h:b<=c):min a b<=c:=bO (Nat.min_le_right ..) h
theorem XU(h:a<c):min a b<c:=dD (Nat.min_le_left ..) h
theorem XT(h:b<c):min a b<c:=dD (Nat.min_le_right ..) h
theorem XP(h:a<=c)(g:b<=c):max a b<=c:=Nat.max_le.mpr ⟨h,g⟩
variable{d:Nat}
theorem XO(h:a<=c)(g:b<=d):max a b<=max c d:=XP (bO h (Nat.le_max_left ..)) (bO g (Nat.le_max_right ..))
theorem LF(h:a+b<=c):a<=c:=bO (d9 ..) h
theorem BR(h:a+b<=c):b<=c:=bO (zz ..) h
theorem ye(h:a+b<c):a<c:=dD (d9 ..) h
theorem PF(h:a+b<c):b<c:=dD (zz ..) h
theorem vn(h:a<=b):a<=b+c:=bO h (d9 ..)
theorem DM(h:a<b):a<b+c:=bj h (d9 ..)
theorem Tz(h:b<=c - a)(g:a<=c):a+b<=c:=Nat.add_le_of_le_sub' g h
theorem J4(h:a<b)(g:b<=a){p:Prop}:p:=absurd h (Nat.not_lt.mpr g)
theorem dl(h:Nat.ble a b=true):a<=b:=zH h
theorem dm(h:Nat.ble (a+1) b=true):a<b:=zH h
variable{N:Nat}
theorem OI(h:k+m<N):∃M,N=M+(m+1):=⟨N - (m+1),(Hs (bO (zz (m+1) k) h)).symm⟩
theorem Js(h:k<N):∃M,N=M+1:=OI (m:=0) h
theorem eP(h:k+1<N):∃M,N=M+2:=OI (m:=1) h
theorem kB{k:Nat}(h:2*(k+1)+1<N):∃M,N=M+2:=eP (k:=2*(k+1)) h
theorem Ap:(1:Int)<=10^n:=Int.pow_pos (by decide:(0:Int)<10)
variable{v:Int}
theorem Qq{z:Int}(h0:0<=v)(b:48<=z/\z<=57):0<=v*10+(z - 48)/\(v*10+(z - 48)+1)*10^n<=(v+1)*10^(n+1):=by refine⟨by lia,?_⟩;rw[Int.pow_succ',<-Int.mul_assoc];exact Int.mul_le_mul_of_nonneg_right (by lia) (nG Y Ap)
theorem xh{n:Nat}(h0:0<=v):v<(v+1)*10^n:=nH (Int.lt_add_one_of_le (Int.le_refl v)) (by
 have:=Int.mul_le_mul_of_nonneg_left (Ap (n:=n)) (nG h0 (qW (Int.lt_add_one_of_le (Int.le_refl v))))
 rwa [Int.mul_one] at this)
theorem iO(h0:0<=v): -(10^30)<=v:=nG Y h0
variable{CE R:Nat}
theorem LC(e:CE<=R:=by simp +arith only):CE<=R:=e
variable{L1 R1:Nat}
theorem dq(h1:L1<=R1)(e:CE+R1<=R+L1:=by simp +arith only):CE<=R:=Nat.le_of_add_le_add_right (bO e (Nat.add_le_add_left h1 R))
variable{L2 R2:Nat}
theorem fH(h1:L1<=R1)(h2:L2<=R2)(e:CE+(R1+R2)<=R+(L1+L2):=by simp +arith only):CE<=R:=dq (rH h1 h2) e
theorem nU{L3 R3:Nat}(h1:L1<=R1)(h2:L2<=R2)(h3:L3<=R3)(e:CE+(R1+(R2+R3))<=R+(L1+(L2+L3)):=by simp +arith only):CE<=R:=fH h1 (rH h2 h3) e
theorem Wl{L3 R3 L4 R4:Nat}(h1:L1<=R1)(h2:L2<=R2)(h3:L3<=R3)(h4:L4<=R4)(e:CE+(R1+(R2+(R3+R4)))<=R+(L1+(L2+(L3+L4))):=by simp +arith only):CE<=R:=nU h1 h2 (rH h3 h4) e
variable{p:Nat}
theorem ON(h1:a<=p)(h2:p<=a+d):a+(d - (d - (p - a)))=p:=by rw[Nat.sub_sub_self (Nat.sub_le_iff_le_add'.mpr h2),Nat.add_sub_of_le h1]
variable{I:Nat}
theorem ss:N - (N - I)<=I:=by
 rcases Nat.le_total I N with h|h
 .rw[Nat.sub_sub_self h];exact bR I
 .rw[Nat.sub_eq_zero_of_le h];exact h
variable{i V:Nat}
theorem bp7(h2:N<=V+I)(h4:V<=i):N - I+(i - (N - I))=i:=Nat.add_sub_of_le (bO (Nat.sub_le_iff_le_add.mpr h2) h4)
theorem bp4(h2:N<=V+I)(h:i<N - I):i<V:=bj h (Nat.sub_le_iff_le_add.mpr h2)
theorem bp8(h1:I<=N)(h2:N<=V+I)(h3:V<=N)(h4:V<=i):i - (N - I)=I - (N - V)+(i - V):=by rw[Nat.sub_sub_right _ h3,rF I V,<-Nat.sub_sub_right _ h1,rF,Nat.sub_add_sub_cancel h4 (Nat.sub_le_iff_le_add.mpr h2)]
theorem KA(h:n<=k):d+(k - n)+n=d+k:=by rw[Nat.add_assoc,Hs h]
theorem Kx(h:a+b<=k):d+(k - a - b)+a+b=d+k:=by rw[Nat.sub_sub,Nat.add_assoc,Nat.add_assoc,Hs h]
theorem dv(h:n<10^(k+1)):n / 10<10^k:=Nat.div_lt_of_lt_mul (by rwa [Nat.pow_succ,Nat.mul_comm] at h)
theorem Qa:(a:Int)=b↔a=b:=Int.ofNat_inj
end
end Mine.Internal
namespace Mine.Internal
open PySem PySem.W
noncomputable section
structure PS where
 T:BT
 n:Nat
 k:Nat
noncomputable def PS.push(s:PS)(o:Obj):PS:=⟨s.T.ins s.n o,s.n+1,s.k⟩
noncomputable def PS.upd(s:PS)(a:Addr)(f:Obj->Obj):PS:=⟨s.T.set a f,s.n,s.k⟩
noncomputable def PS.tick(s:PS):PS:=⟨s.T,s.n,s.k+1⟩
noncomputable def xy:List Str->Nat->List Value
 |[],_=>[]
 |x::r,k=>.str x k::xy r (k+1)
def PS.texts(s:PS)(l:za3):PS:=PS.push ⟨s.T,s.n,s.k+l.length⟩ {cls:=.type "tuple",data:=.seq (xy l s.k).toArray}
noncomputable def hashOf(P:Params)(x:Str):Int:=if x.cps.isEmpty then 0 else reduceHash (P.strHash x.cps)
def PS.put(P:Params)(s:PS)(a:Addr)(x:Str)(v:Value):PS:=(s.upd a (Obj.putName x (hashOf P x) (.str x s.k) v)).tick
noncomputable def PS.name(s:PS)(a:Addr)(x:Str):Value:=match s.T.get a with
 |some ⟨_,_,.dict es _,_⟩=>(nsFind es x).getD .none
 |_=>.none
noncomputable def Tw(l:Tu):Obj->Obj
 |⟨c,d,.fields vs,sl⟩=>⟨c,d,.fields (vs++l.toArray),sl⟩
 |o=>o
def places:Addr:=12
def file:Str:=PySem.Challenge.pw_no0204_01.main.file
def PS.code(s:PS)(pl:Addr)(name qual:Str)(line LD flags:Nat)(isFn:Bool)(locals:Option (List Str×List Str))(Ur:Option FuncData)(pos:Pos):PS:=
 let k:=s.k
 let s:PS:=⟨s.T,s.n,k+3⟩
 let free:=s.n
 let s:=s.texts []
 let inner:=s.n
 let s:=s.push {cls:=.none,data:=.fields #[]}
 let(s,l1,l2):PS×Value×Value:=match locals with
  |some (a,b)=>let s1:=s.texts a;let s2:=s1.texts b;(s2,.ref s.n,.ref s1.n)
  |none=>(s,.none,.none)
 let(s,tv):PS×Value:=match Ur with
  |some fd=>(s.push {cls:=.none,data:=.func fd},.ref s.n)
  |none=>(s,.none)
 let k2:=s.k
 let c:=s.n
 let s:PS:=⟨s.T,s.n,k2+2⟩
 let s:=s.push {cls:=.type "code",data:=.fields #[.str name k,.str qual (k+1),.str file (k+2),rawInt line,rawInt LD,rawInt 0,rawInt 0,rawInt flags,.ref free,.bool isFn,rawInt 181,.ref inner,.none,l1,l2,tv,rawInt k2,rawInt line,.str file (k2+1)]}
 s.upd pl (Tw [rawInt pos.line,rawInt pos.col,.ref c])
def td(s:PS):PySem.Expr->PS×Value
 | .Constant (.int i) _ _=>(s.tick,.int i s.k)
 | .Constant (.bool b) _ _=>(s,.bool b)
 | .Constant (.str x) _ _=>(s.tick,.str x s.k)
 |_=>(s,.none)
noncomputable def Qt(s:PS):List PySem.Expr->PS×List Value
 |[]=>(s,[])
 |e::r=>let(s,v):=td s e;let(s,vs):=Qt s r;(s,v::vs)
def PS.defn(P:Params)(s:PS)(pl ns:Addr)(pre:Str)(name:Str)(args:Arguments)(body:List Stmt)(scope:Scope)(pos:Pos):PS:=
 let(s,dv):=Qt s args.defaults
 let(s,dV):PS×Value:=match dv with
  |[]=>(s,.none)
  |vs=>(s.push {cls:=.type "tuple",data:=.seq vs.toArray},.ref s.n)
 let qual:=pre++name
 let s:=s.code pl name qual pos.line args.args.length 3 true (localNames args scope (.stmts body)) (some {name,qualname:=qual,params:=args,body:=.stmts body,scope,globals:=builtinsNs,closure:=[],defaults:=.none,kwdefaults:=.none}) pos
 let c:=s.n - 1
 let f:=s.n
 let s:=s.push {cls:=.type "function",data:=.func {name,qualname:=qual,params:=args,body:=.stmts body,scope,globals:=mainGlobals,closure:=[],closureTuple:=.none,code:=.ref c,builtins:=builtinsNs,defaults:=dV,kwdefaults:=.none,annotations:=none,pyModule:=s.name mainGlobals "__name__",doc:=.none}}
 s.put P ns name (.ref f)
noncomputable def PS.members(P:Params)(pl ns:Addr)(pre:Str):List Stmt->PS->PS
 |[],s=>s
 | .FunctionDef name args body _ _ _ scope _ _ pos::r,s=>members P pl ns pre r (s.defn P pl ns pre name args body scope pos)
 |_::r,s=>members P pl ns pre r s
noncomputable def AJ(s:PS):Value->List Value
 | .ref a=>match s.T.get a with
  |some ⟨_,_,.cls cd,_⟩=>cd.mro
  |_=>[]
 | .type n=>if n=="Exception" then[.type "Exception",.type "BaseException",.type "object"] else[.type "object"]
 |_=>[]
noncomputable def af(s:PS):Value->Value
 | .ref a=>match s.T.get a with
  |some ⟨_,_,_,sl⟩=>((sl.toList[4]?).join).getD .none
  |_=>.none
 | .type n=>if n=="Exception" then .builtin "Exception.__new__" else .builtin "object.__new__"
 |_=>.none
noncomputable def vl(v:Value):Obj->Obj
 |⟨c,d,.cls cd,sl⟩=>⟨c,d,.cls {cd with subclasses:=cd.subclasses++[v]},sl⟩
 |o=>o
noncomputable def S8(s:PS)(a:Addr):Array DictEntry:=match s.T.get a with
 |some ⟨_,_,.dict es _,_⟩=>es
 |_=>#[]
def PS.KO(P:Params)(s:PS)(name:Str)(bases:List PySem.Expr)(body:List Stmt)(statics:za3)(pos:Pos):PS:=
 let mod:=s.name mainGlobals "__name__"
 let given:List Value:=match bases with
  |[.Name x _]=>[if x==("Exception":Str) then .type "Exception" else s.name mainGlobals x]
  |_=>[]
 let bs:List Value:=match given with|[]=>[.type "object"]|g=>g
 let hd:=bs.headD .none
 let bT:=s.n
 let s:=s.push {cls:=.type "tuple",data:=.seq given.toArray}
 let kn:=s.k
 let s:PS:=⟨s.T,s.n,kn+2⟩
 let s:=s.push {cls:=.type "builtin_function_or_method",data:=.fields #[.builtin "type.__prepare__",.type "type"]}
 let ns:=s.n
 let s:=s.push {cls:=.type "dict",data:=.dict #[]}
 let pl:=s.n+1
 let s:=s.code places name name pos.line 0 0 false none none pos
 let c:=s.n - 1
 let s:=s.push {cls:=.type "frame",slots:=#[some (.ref c),some (.ref mainGlobals),some (.ref ns),none,some mod,none,some (.ref builtinsNs)]}
 let s:=s.put P ns "__module__" mod
 let kq:=s.k
 let s:=s.tick
 let s:=s.put P ns "__qualname__" (.str name kq)
 let kl:=s.k
 let s:=s.tick
 let s:=s.put P ns "__firstlineno__" (.int pos.line kl)
 let s:=s.members P pl ns (name++".") body
 let st:=s.n
 let s:=s.texts statics
 let s:=s.put P ns "__static_attributes__" (.ref st)
 let iN:=s.n
 let s:=s.push (Obj.dropName "__qualname__" {cls:=.type "dict",data:=.dict (S8 s ns)})
 let me:=s.n
 let isObj:Bool:=match hd with| .type n=>n=="object"|_=>false
 let weak:Bool:=match hd with| .type _=>true|_=>false
 let s:=s.push {cls:=.type "type",data:=.cls {name,bases:=bs,mro:=.ref me::AJ s hd,ns:=iN,qualname:=name},slots:=#[match given with|[]=>none|_=>some (.ref bT),none,some (.str name kn),some (.str name kq),some (af s hd),some (.bool true)]}
 let s:=if isObj then
   let k:=s.k
   let g:=s.n
   (s.tick.push {cls:=.type "getset_descriptor",data:=.fields #[.str "__dict__" k,.ref me,.builtin "function.__dict__",.builtin "function.__dict__#set"]}).put P iN "__dict__" (.ref g)
  else s
 let s:=if weak then
   let k:=s.k
   let g:=s.n
   (s.tick.push {cls:=.type "getset_descriptor",data:=.fields #[.str "__weakref__" k,.ref me,.builtin "ExceptionGroup.__weakref__",.none]}).put P iN "__weakref__" (.ref g)
  else s
 let s:=s.put P iN "__doc__" .none
 let s:=match hd with
  | .ref b=>s.upd b (vl (.ref me))
  | .type n=>if n=="Exception" then(s.put P cStatics "type.__subclasses__.Exception.0" (rawInt me)).put P cStatics "type.__subclasses__.Exception.n" (rawInt 1) else s
  |_=>s
 let s:=s.push {cls:=.type "super",data:=.fields #[.ref me,.ref me,.ref me]}
 let s:=s.tick.push {cls:=.type "builtin_function_or_method",data:=.fields #[.builtin "object.__init_subclass__",.ref me]}
 s.put P mainGlobals name (.ref me)
def PS.val(s:PS):PySem.Expr->PS×Value
 | .Constant (.int i) _ _=>(s.tick,.int i s.k)
 | .Constant (.str x) _ _=>(s.tick,.str x s.k)
 | .UnaryOp .USub (.Constant (.int i) _ _) _=>(s.tick.tick,.int (-i) (s.k+1))
 | .Name x _=>(s,s.name mainGlobals x)
 | .Tuple [.Name x _,.Constant (.int i) _ _] _ _=>(s.tick.push {cls:=.type "tuple",data:=.seq #[s.name mainGlobals x,.int i s.k]},.ref s.n)
 |_=>(s,.none)
def PS.stmt(P:Params)(s:PS):Stmt->PS
 | .FunctionDef name args body _ _ _ scope _ _ pos=>s.defn P places mainGlobals Str.empty name args body scope pos
 | .ClassDef name bases _ body _ _ _ _ _ statics pos=>s.KO P name bases body statics pos
 | .Assign [.Name x _] v _=>let(s,r):=s.val v;s.put P mainGlobals x r
 |_=>s
noncomputable def treeOf:List Obj->Nat->BT->BT
 |[],_,T=>T
 |o::r,i,T=>treeOf r (i+1) (T.ins i o)
def Zk(boot:List Obj):PS:=
 let s:PS:=⟨treeOf boot 0 .nil,11,182⟩
 let s:=s.texts []
 let s:=s.push {cls:=.none,data:=.fields #[]}
 let s:=s.push {cls:=.type "code",data:=.fields #[.str "<module>" 182,.str "<module>" 183,.str file 184,rawInt 1,rawInt 0,rawInt 0,rawInt 0,rawInt 0,.ref 11,.bool false,rawInt 181,.ref 12,.none,.none,.none,.none,rawInt 185,rawInt 1,.str file 186]}
 let s:PS:=⟨s.T,s.n,187⟩
 s.push {cls:=.type "frame",slots:=#[some (.ref 13),some (.ref mainGlobals),some (.ref mainGlobals),none,some (s.name mainGlobals "__name__"),none,some (.ref builtinsNs)]}
def m4(P:Params):PS:=Zk (boot_heap P).objs.toList
def mJ(P:Params)(l:List Stmt):PS:=l.foldl (PS.stmt P) (m4 P)
end
noncomputable section
abbrev P0:Program:=PySem.Challenge.pw_no0204_01
@[irreducible] noncomputable def eH:List Stmt:=behindTheImports P0
@[irreducible] noncomputable def mZ:Env:={scope:=P0.main.scope,locals:=mainNs,globals:=mainNs,cells:=[],code:=.ref 13,frame:=some 14}
@[irreducible] noncomputable def dI:Code:=.body eH mZ
@[irreducible] noncomputable def j8(w:World)(os:OsState)(i:Nat):SharedT:=let s:=mJ w.params (eH.take i);⟨s.T,s.n,(boot_heap w.params).life,Array.mk [],boot_drawn,s.k,os⟩
@[irreducible] noncomputable def posAt(i:Nat):Pos:=match i with
 |0=>default
 |i+1=>match eH[i]? with
  |some (.Assign [.Name _ p] _ _)=>p
  |some (.FunctionDef _ _ _ _ _ _ _ _ _ p)=>p
  |some (.ClassDef _ _ _ _ _ _ _ _ _ _ p)=>p
  |_=>default
def rQ(w:World)(os:OsState)(N i m:Nat):Option (Flow×SharedT×Code×Pos):=
 PySem.W.Fast.tw10110043849684766642 PySem.W.Fast.tw14364793385576792824 P0 w 11 (some (.ref 6)) 1 N (j8 w os i) (piecesOf ((eH.drop i).take m) mZ dI (posAt i) [topFrame default])
end
noncomputable section
theorem zi:∀w os,rQ w os 480 0 4=some (.next,j8 w os 4,dI,posAt 4):=λw os=>by kernel_rfl
theorem zh:∀w os,rQ w os 344 4 7=some (.next,j8 w os 11,dI,posAt 11):=λw os=>by kernel_rfl
theorem pT:∀w os,rQ w os 554 11 1=some (.next,j8 w os 12,dI,posAt 12):=λw os=>by kernel_rfl
theorem pS:∀w os,rQ w os 498 12 19=some (.next,j8 w os 31,dI,posAt 31):=λw os=>by kernel_rfl
theorem pE:∀w os,rQ w os 291 31 22=some (.next,j8 w os 53,dI,posAt 53):=λw os=>by kernel_rfl
theorem pz:∀w os,rQ w os 807 53 1=some (.next,j8 w os 54,dI,posAt 54):=λw os=>by kernel_rfl
theorem pv:∀w os,rQ w os 137 54 12=some (.next,j8 w os 66,dI,posAt 66):=λw os=>by kernel_rfl
theorem pn:∀w os,rQ w os 823 66 1=some (.next,j8 w os 67,dI,posAt 67):=λw os=>by kernel_rfl
theorem pk:∀w os,rQ w os 473 67 4=some (.next,j8 w os 71,dI,posAt 71):=λw os=>by kernel_rfl
theorem pj:∀w os,rQ w os 295 71 10=some (.next,j8 w os 81,dI,posAt 81):=λw os=>by kernel_rfl
theorem pf:∀w os,rQ w os 497 81 9=some (.next,j8 w os 90,dI,posAt 90):=λw os=>by kernel_rfl
theorem pe:∀w os,rQ w os 28 90 3=some (.next,j8 w os 93,dI,posAt 93):=λw os=>by kernel_rfl
theorem pd:∀w os,rQ w os 885 93 1=some (.next,j8 w os 94,dI,posAt 94):=λw os=>by kernel_rfl
theorem pb:∀w os,rQ w os 460 94 17=some (.next,j8 w os 111,dI,posAt 111):=λw os=>by kernel_rfl
abbrev nj:Option Value:=some (.ref 6)
variable{w:World}{N i m:Nat}
theorem V0{os:OsState}{M:Nat}{r:Shared}(h:rQ w os N i m=some (.next,j8 w os (i+m),dI,posAt (i+m)))
  (k:topRun treeTable P0 w 11 nj M (j8 w os (i+m)).abs (restOf (eH.drop (i+m)) mZ dI (posAt (i+m)) [topFrame default])=some r):
  topRun treeTable P0 w 11 nj (N+M) (j8 w os i).abs (restOf (eH.drop i) mZ dI (posAt i) [topFrame default])=some r:=by
 unfold rQ at h;rw[<- PySem.W.Fast.te10110043849684766642,<-PySem.W.Fast.te14364793385576792824] at h;have:=piece_app (rest:=eH.drop (i+m)) (segRun_of h) k;rw[<- qX,List.take_append_drop] at this;exact this
end
end Mine.Internal
namespace Mine.Internal
open PySem PySem.W PySem.Calls PyProof.Rows
noncomputable section
abbrev W6(P:Params)(i:Nat):Heap:=let s:=mJ P (eH.take i);absHeap s.T s.n (boot_heap P).life
theorem ZD:∀(w:World) (os:OsState),PySem.W.Fast.tw15667345088766844465 PySem.W.Fast.tw14364793385576792824 P0 w 11 nj 12 ⟨boot_heap w.params,Array.mk [],boot_drawn,boot_toks,os⟩ (topStub P0)=
  some ((j8 w os 0).abs,⟨PySem.W.Fast.tw11892475500146522536 PySem.W.Fast.tw14364793385576792824 dI,dI,default,[topFrame default]⟩):=λw os=>by kernel_rfl
theorem Rx:∀(w:World) (os:OsState),PySem.W.Fast.tw10110043849684766642 PySem.W.Fast.tw14364793385576792824 P0 w 11 nj 1 1 (j8 w os 0) (blockOf eH mZ dI default [topFrame default])=some (.next,j8 w os 0,dI,default):=λw os=>by kernel_rfl
theorem ZF:∀(w:World) (os:OsState),PySem.W.Fast.tw14082659384304107361 PySem.W.Fast.tw14364793385576792824 P0 w 11 nj 2 (j8 w os 111).abs ⟨doneF .next,dI,posAt 111,[topFrame default]⟩=some (j8 w os 111).abs:=λw os=>by kernel_rfl
theorem Yi:eH.drop 111=[]:=by kernel_rfl
variable{w:World}{N i m j:Nat}
theorem eU{os:OsState}{M:Nat}{r:Shared}(e:i+m=j)(h:rQ w os N i m=some (.next,j8 w os j,dI,posAt j))
  (k:topRun treeTable P0 w 11 nj M (j8 w os j).abs (restOf (eH.drop j) mZ dI (posAt j) [topFrame default])=some r):
  topRun treeTable P0 w 11 nj (N+M) (j8 w os i).abs (restOf (eH.drop i) mZ dI (posAt i) [topFrame default])=some r:=by
 subst e;exact V0 h k
theorem ZG(w:World)(os:OsState):topRun treeTable P0 w 11 nj 2 (j8 w os 111).abs (restOf (eH.drop 111) mZ dI (posAt 111) [topFrame default])=some (j8 w os 111).abs:=by have f:=ZF w os;rw[<- PySem.W.Fast.te14082659384304107361,<-PySem.W.Fast.te14364793385576792824] at f;rw[Yi];exact f
theorem dQ(w:World)(os:OsState):topRun treeTable P0 w 11 nj (460+2) (j8 w os 94).abs (restOf (eH.drop 94) mZ dI (posAt 94) [topFrame default])=some (j8 w os 111).abs:=eU Z (pb w os) (ZG w os)
theorem dS(w:World)(os:OsState):topRun treeTable P0 w 11 nj (885+(460+2)) (j8 w os 93).abs (restOf (eH.drop 93) mZ dI (posAt 93) [topFrame default])=some (j8 w os 111).abs:=eU Z (pd w os) (dQ w os)
theorem dT(w:World)(os:OsState):topRun treeTable P0 w 11 nj (28+(885+(460+2))) (j8 w os 90).abs (restOf (eH.drop 90) mZ dI (posAt 90) [topFrame default])=some (j8 w os 111).abs:=eU Z (pe w os) (dS w os)
theorem d0(w:World)(os:OsState):topRun treeTable P0 w 11 nj (497+(28+(885+(460+2)))) (j8 w os 81).abs (restOf (eH.drop 81) mZ dI (posAt 81) [topFrame default])=some (j8 w os 111).abs:=eU Z (pf w os) (dT w os)
theorem d4(w:World)(os:OsState):topRun treeTable P0 w 11 nj (295+(497+(28+(885+(460+2))))) (j8 w os 71).abs (restOf (eH.drop 71) mZ dI (posAt 71) [topFrame default])=some (j8 w os 111).abs:=eU Z (pj w os) (d0 w os)
theorem d5(w:World)(os:OsState):topRun treeTable P0 w 11 nj (473+(295+(497+(28+(885+(460+2)))))) (j8 w os 67).abs (restOf (eH.drop 67) mZ dI (posAt 67) [topFrame default])=some (j8 w os 111).abs:=eU Z (pk w os) (d4 w os)
theorem d6(w:World)(os:OsState):topRun treeTable P0 w 11 nj (823+(473+(295+(497+(28+(885+(460+2))))))) (j8 w os 66).abs (restOf (eH.drop 66) mZ dI (posAt 66) [topFrame default])=some (j8 w os 111).abs:=eU Z (pn w os) (d5 w os)
theorem eh(w:World)(os:OsState):topRun treeTable P0 w 11 nj (137+(823+(473+(295+(497+(28+(885+(460+2)))))))) (j8 w os 54).abs (restOf (eH.drop 54) mZ dI (posAt 54) [topFrame default])=some (j8 w os 111).abs:=eU Z (pv w os) (d6 w os)
theorem eu(w:World)(os:OsState):topRun treeTable P0 w 11 nj (807+(137+(823+(473+(295+(497+(28+(885+(460+2))))))))) (j8 w os 53).abs (restOf (eH.drop 53) mZ dI (posAt 53) [topFrame default])=some (j8 w os 111).abs:=eU Z (pz w os) (eh w os)
theorem eA(w:World)(os:OsState):topRun treeTable P0 w 11 nj (291+(807+(137+(823+(473+(295+(497+(28+(885+(460+2)))))))))) (j8 w os 31).abs (restOf (eH.drop 31) mZ dI (posAt 31) [topFrame default])=some (j8 w os 111).abs:=eU Z (pE w os) (eu w os)
theorem eB(w:World)(os:OsState):topRun treeTable P0 w 11 nj (498+(291+(807+(137+(823+(473+(295+(497+(28+(885+(460+2))))))))))) (j8 w os 12).abs (restOf (eH.drop 12) mZ dI (posAt 12) [topFrame default])=some (j8 w os 111).abs:=eU Z (pS w os) (eA w os)
theorem eC(w:World)(os:OsState):topRun treeTable P0 w 11 nj (554+(498+(291+(807+(137+(823+(473+(295+(497+(28+(885+(460+2)))))))))))) (j8 w os 11).abs (restOf (eH.drop 11) mZ dI (posAt 11) [topFrame default])=some (j8 w os 111).abs:=eU Z (pT w os) (eB w os)
theorem r9(w:World)(os:OsState):topRun treeTable P0 w 11 nj (344+(554+(498+(291+(807+(137+(823+(473+(295+(497+(28+(885+(460+2))))))))))))) (j8 w os 4).abs (restOf (eH.drop 4) mZ dI (posAt 4) [topFrame default])=some (j8 w os 111).abs:=eU Z (zh w os) (eC w os)
theorem sf(w:World)(os:OsState):topRun treeTable P0 w 11 nj (480+(344+(554+(498+(291+(807+(137+(823+(473+(295+(497+(28+(885+(460+2)))))))))))))) (j8 w os 0).abs (restOf (eH.drop 0) mZ dI (posAt 0) [topFrame default])=some (j8 w os 111).abs:=eU Z (zi w os) (r9 w os)
theorem Vt:posAt 0=default:=by kernel_rfl
theorem fx:dI= .body eH mZ:=by kernel_rfl
theorem ZJ(w:World)(os:OsState):topRun treeTable P0 w 11 nj (12+(1+(480+(344+(554+(498+(291+(807+(137+(823+(473+(295+(497+(28+(885+(460+2)))))))))))))))) ⟨boot_heap w.params,Array.mk [],boot_drawn,boot_toks,os⟩ (topStub P0)=some (j8 w os 111).abs:=by have b:=Rx w os;rw[<- PySem.W.Fast.te10110043849684766642,<-PySem.W.Fast.te14364793385576792824] at b;have p:=ZD w os;rw[<- PySem.W.Fast.te15667345088766844465,<-PySem.W.Fast.te14364793385576792824,<-PySem.W.Fast.te11892475500146522536] at p;have k:=sf w os;rw[List.drop_zero,Vt] at k;have k2:=piece_block (segRun_of b) (p':=default) (b:=eH) (env:=mZ) (q:=default) (N:=(480+(344+(554+(498+(291+(807+(137+(823+(473+(295+(497+(28+(885+(460+2))))))))))))))) (r:=(j8 w os 111).abs) k;rw[<- fx] at k2;exact go_top p k2
end
noncomputable section
abbrev L0:OpenLaw:=PySem.Challenge.rw_no0204_01
theorem nN:L0.row.partSaid=true:=(congrFun PySem.W.Fast.te2436336058641802641 L0.row).trans (by kernel_rfl)
theorem nK:L0.row.wellSaid=true:=by
 unfold OpenRow.wellSaid;rw[nN,yg]
 kernel_rfl
theorem I2:builtinNamed=PySem.W.Fast.qNamed:=PySem.W.Fast.named_eq
theorem oQ:decide (L0.foot<=(behindTheImports L0.prog).length)=true:=by kernel_rfl
theorem oP:L0.footing.all footLine=true:=by rw[PySem.W.Fast.te10501279942588096481];kernel_rfl
theorem oB:noClassBlock L0.prog L0.footing=true:=by rw[PySem.W.Fast.te8179353310426384613];kernel_rfl
theorem oz:noRoadLSs {strict:=true,foot:=some L0.bound',writes:=L0.writes,may:=L0.may} L0.footing=true:=by rw[PySem.W.Fast.te8326940854005059898];kernel_rfl
theorem oy:defStands L0.about L0.above=true:=by rw[PySem.W.Fast.te9558739934217749035];kernel_rfl
theorem oq:L0.namesIt=true:=by rw[PySem.W.Fast.te16286561074155671207];kernel_rfl
theorem oo:(["type","isinstance","issubclass","getattr","hasattr"]:za3).all (λn=>L0.about !=[n])=true:=by kernel_rfl
theorem om:L0.bound'.all (λn=>!builtinNamed n||L0.about==[n]||!L0.reads n)=true:=by rw[I2];kernel_rfl
theorem oj:(!L0.writes||(L0.prog.main.body.flatMap importedNames).all λn=>!L0.reads n)=true:=by kernel_rfl
theorem og:(L0.prog.main.body.flatMap importedNames).all (λn=>!L0.reads n||(drawsOf n L0.prog.main.body).all λmn=>mn.2 !=("attrgetter":Str)&&mn.2 !=("methodcaller":Str))=true:=by kernel_rfl
theorem ob:namesMeet L0.prog L0.footing (λsc n=>(!(["type","isinstance","issubclass","getattr","hasattr"]:za3).contains n||sc.names.lookup n==some .globalImplicit)&&
  (L0.may !=some n||sc.kind== .module||sc.names.lookup n==some .globalImplicit))=true:=by rw[PySem.W.Fast.te17119622794617984870];kernel_rfl
theorem nX:(L0.own.contains L0.name&&L0.own.eraseDups.length==L0.own.length&&L0.own.all (λn=>!builtinNamed n))=true:=by rw[I2];kernel_rfl
theorem nV:namesMeet L0.prog L0.above (λ_ n=>!L0.own.contains n)=true:=by rw[PySem.W.Fast.te17119622794617984870];kernel_rfl
theorem nS:(namesMeet L0.prog L0.footing λsc n=>sc.kind== .module||sc.names.lookup n !=some .globalExplicit)=true:=by rw[PySem.W.Fast.te17119622794617984870];kernel_rfl
theorem F5:L0.wellSaid=true:=by have hl:=nX;simp only[jH] at hl;obtain⟨⟨l1,l2⟩,l3⟩:=hl;exact look_both (look_both (look_both (look_both (look_both (look_both (look_both (look_both (look_both (look_both (look_both (look_both (look_both (look_both (look_both (look_both (look_both (look_both nK oQ) oP) oB) Z) Z) oz) oy) oq) oo) om) oj) og) ob) l1) l2) l3) nV) nS
end
noncomputable section
noncomputable def PJ:List Stmt:=P0.main.body.drop 110
def Q0:Program:={P0 with main:={P0.main with body:=PJ}}
noncomputable def Aq:List Str:=P0.boundNames.filter λn=>n !=("law":Str)
noncomputable def Wd:List Str:=importedModules P0.main.body
abbrev H1(P:Params):Heap:=W6 P 111
abbrev sH(w:World)(os:OsState):Shared:=⟨H1 w.params,Array.mk [],boot_drawn,1684,os⟩
theorem Un:∀P:Params,(mJ P (eH.take 111)).k=1684:=λP=>by kernel_rfl
theorem nk(w:World)(os:OsState):(j8 w os 111).abs=sH w os:=by
 have e:=Un w.params;unfold j8 SharedT.abs sH H1 W6
 dsimp only
 rw[e]
theorem qv:∀w:World,staticsOk Wd (boot_heap w.params) (H1 w.params)=true:=λw=>by kernel_rfl
theorem qs:∀w:World,namesBound P0 (H1 w.params)=true:=λw=>by kernel_rfl
theorem qr:∀(w:World) (os:OsState),gensDone (sH w os)=true:=λw os=>by kernel_rfl
theorem qq:∀w:World,laidKept (boot_heap w.params) (H1 w.params)=true:=λw=>by kernel_rfl
theorem y0:∀w:World,((boot_heap w.params).isNs mainGlobals&&(Array.mk []:Array GenState).size==0,(boot_heap w.params).objs.size,(boot_heap w.params).nsMap mainGlobals "__annotations__")=(true,11,some (.ref 6)):=λw=>by kernel_rfl
theorem AA:∀w:World,(fencedOpening treeTable P0 w 13400).map (λs=>(s.heap,s.gens,s.drawn,s.toks))=some (boot_heap w.params,Array.mk [],boot_drawn,boot_toks):=
 boot_open (by kernel_rfl) Z (λs=>by kernel_rfl)
end
noncomputable section
theorem qo:∀(w:World) (os:OsState),openSeen Q0 Aq Wd (λ_=>true) true (sH w os)=openGood Q0 Aq:=λw os=>by
 rw[show openSeen=PySem.W.Fast.tw4187177175401517315 from PySem.W.Fast.te4187177175401517315]
 kernel_rfl
end
noncomputable section
theorem F8(w:World)(os:OsState):topRun treeTable P0 w 11 nj (12+(1+(480+(344+(554+(498+(291+(807+(137+(823+(473+(295+(497+(28+(885+(460+2)))))))))))))))) ⟨boot_heap w.params,Array.mk [],boot_drawn,boot_toks,os⟩ (topStub P0)=some (sH w os):=nk w os▸ZJ w os
theorem AS:LeftO P0 Q0 Aq (λ_=>true) (λs=>s.heap) (λw=>H1 w.params) 13400:=
 LeftO.of_pieces (H₀:=boot_heap) (H₁:=H1) (gs₀:=Array.mk []) (gs₁:=Array.mk []) (d₀:=boot_drawn) (d₁:=boot_drawn) (k₀:=boot_toks) (k₁:=1684) AA y0 F8 (by rfl) λw=>funext λos=>by rw[show importedModules P0.main.body=Wd from Z,qv w,qs w,qr w os,qq w,qo w os];rfl
abbrev Known(w:World)(h:Heap):Prop:=∀b o,(H1 w.params).get? b=some o->h.get? b=some o
def Aw:DefRec:=match PJ with
 |[.FunctionDef n a b _ _ _ sc _ _ pos]=>⟨n,a,b,sc,pos⟩
 |_=>⟨.empty,default,[],default,default⟩
theorem head(hw:L0.row.toRowW.promised)(call:WalkO Q0 Aq (λ_ _=>True) Known L0.row.toRowW Aw [] λf vs=>PySem.call f vs):L0.Holds:=
 holds_law F5 λk1=>holds_open (Yf:=λs=>s.heap) (Ya:=λw=>H1 w.params) (YP:=Known) (Xt:=λ_=>true) AS (λw s e b o h=>by rw[e];exact h) (λw h h' k q b o e=>q b o (k b o e))
  (λ_ _=>trivial) (λ_ _ _ x _=>x) (by kernel_rfl) (by kernel_rfl) (by kernel_rfl) (λs _=>by exact recFacts_of (by kernel_rfl)) (by kernel_rfl) k1 (by kernel_rfl) ⟨by kernel_rfl,by kernel_rfl,by kernel_rfl,by kernel_rfl,by kernel_rfl,by kernel_rfl⟩ hw call
end
end Mine.Internal
namespace Mine.Internal
noncomputable section
inductive U where
 |L
 |none
 |bool (b:Bool)
 |int (i:Int)
 |str (s:Sa)
 |tup (l:List U)
 |yK (a b c:Int)
 |ref (i:Nat)
 |fn (f:Nat)
 |cls (c:Nat)
 |bi (b:Nat)
abbrev za4:=List (PySem.Str×U)
abbrev YR:=List (U×U)
abbrev TZ:=List (Nat×U)
abbrev Th:=List U
inductive AO where
 |list (l:Th)
 |dict (es:YR)
 |set (l:za6)
 |inst (c:Nat) (fs:TZ)
 |exc (c:Nat) (fs:TZ)
 |up (c:Nat) (fs:TZ)
abbrev zb1:=Option AO
abbrev We:=List AO
abbrev St:=List AO
abbrev Loc:=List U
inductive Res(α:Type) where
 |ok (a:α) (σ:St)
 |exc (i:Nat) (σ:St)
 |bad
noncomputable def Res.bind{α β:Type}(r:Res α)(f:α->St->Res β):Res β:=match r with
 | .ok a σ=>f a σ
 | .exc i σ=>.exc i σ
 | .bad=>.bad
set_option genCtorIdx false in
inductive AFlow where
 |next
 |cont
 |ret (v:U)
set_option genCtorIdx false in
inductive SR where
 |done (f:AFlow) (B:Loc) (σ:St)
 |exc (i:Nat) (B:Loc) (σ:St)
 |bad
abbrev za1:=SR->Prop
inductive YZ where
 |add|sub|mul|fdiv|mod|pow
 deriving DecidableEq
inductive hJ where
 |eq|ne|lt|le|gt|ge|isIn|kW|qS|wC
 deriving DecidableEq
set_option genCtorIdx false in
inductive E where
 |bad
 |lit (v:U)
 |B (i:Nat)
 |bin (o:YZ) (a b:E)
 |neg (a:E)
 |not (a:E)
 |both (aaf:Bool) (l:List E)
 |ite (t a b:E)
 |cmp (o:hJ) (a b:E)
 |list (l:List E)
 |tup (l:List E)
 |lN
 |attr (a:E) (n:Nat)
 |idx (a b:E)
 |Ox (a lo hi:E)
 |rev (a:E)
 |call (f:E) (l:List E)
 |aG (o:E) (n:Nat) (l:List E)
 |comp (elt:E) (slot:Nat) (it:E)
 |joinRev (o:E) (a:E)
set_option genCtorIdx false in
inductive S where
 |expr (e:E)
 |asg (i:Nat) (e:E)
 |Hc (l:Sa) (e:E)
 |fY (o:E) (n:Nat) (e:E)
 |j7 (o i e:E)
 |aug (i:Nat) (o:YZ) (e:E)
 |M5 (o lo:E)
 |ret (e:E)
 |cW (t:E) (a b:List S)
 |gA (t:E) (b:List S)
 |lG (i:Nat) (e:E) (b:List S)
 |raise (e:E)
 |zO (b:List S) (c:Nat) (nm:za9) (h:List S)
 |cont
def NN:Nat:=1000
noncomputable def ig{α β:Type}(z:β)(o:Option α)(f:α->β):β:=match o with
 |some a=>f a
 |Option.none=>z
noncomputable def gd{β:Type}(z:β)(c:Bool)(x:β):β:=match c with
 |true=>x
 |false=>z
noncomputable def vH{β:Type}(z:β)(v:U)(i:Int->β:=λ_=>z)(s:List Nat->β:=λ_=>z)(t:List U->β:=λ_=>z)(r:Nat->β:=λ_=>z)(b:Bool->β:=λ_=>z)(n:β:=z)(c:Nat->β:=λ_=>z)(g:Int->Int->Int->β:=λ_ _ _=>z)(f:Nat->β:=λ_=>z)(k:Nat->β:=λ_=>z):β:=
 U.casesOn (motive_1:=λ_=>β) v z n b i s t g r f c k
noncomputable def Tt{β:Type}(z:β)(o:zb1)(l:List U->β:=λ_=>z)(d:List (U×U)->β:=λ_=>z)(s:List Int->β:=λ_=>z)(i:Nat->List (Nat×U)->β:=λ_ _=>z)(e:Nat->List (Nat×U)->β:=λ_ _=>z)(u:Nat->List (Nat×U)->β:=λ_ _=>z):β:=
 Option.casesOn (motive:=λ_=>β) o z λo=>AO.casesOn (motive:=λ_=>β) o l d s i e u
def fM{β:Type}(z:β)(v:U)(f:Int->β):β:=vH z v (i:=f)
def q8{β:Type}(z:β)(v:U)(f:List Nat->β):β:=vH z v (s:=f)
def lO{β:Type}(z:β)(v:U)(f:Nat->β):β:=vH z v (r:=f)
def J7{β:Type}(z:β)(v:U)(f:List U->β):β:=vH z v (t:=f)
def lB{β:Type}(z:β)(v:U)(f:Bool->β):β:=vH z v (b:=f)
def BL{β:Type}(z:β)(v:U)(f:β):β:=vH z v (n:=f)
def J9{β:Type}(z:β)(o:zb1)(f:List U->β):β:=Tt z o (l:=f)
def DL{β:Type}(z:β)(o:zb1)(f:List (U×U)->β):β:=Tt z o (d:=f)
def Yx{β:Type}(z:β)(o:zb1)(f:List Int->β):β:=Tt z o (s:=f)
noncomputable def tK{α β:Type}(z:β)(as:List α)(f:β):β:=match as with
 |[]=>f
 |_=>z
noncomputable def iM{α β:Type}(z:β)(as:List α)(f:α->β):β:=match as with
 |[v]=>f v
 |_=>z
noncomputable def CV{α β:Type}(z:β)(as:List α)(f:α->α->β):β:=match as with
 |[v,w]=>f v w
 |_=>z
noncomputable def QU{α β:Type}(z:β)(l:List α)(f:α->List α->β):β:=match l with
 |[]=>z
 |a::l=>f a l
mutual
noncomputable def G9:U->U->Bool
 | .int a,b=>fM false b λb=>decide (a=b)
 | .str a,b=>q8 false b λb=>decide (a=b)
 | .tup a,b=>J7 false b λb=>uH a b
 |_,_=>false
noncomputable def uH:List U->List U->Bool
 |[],r=>r.isEmpty
 |a::l,r=>QU false r λb r=>G9 a b&&uH l r
end
mutual
noncomputable def p8:U->Bool
 | .int _=>true
 | .str s=>s.all λc=>decide (c<1114112)
 | .tup l=>pD l
 |_=>false
noncomputable def pD:List U->Bool
 |[]=>true
 |a::l=>p8 a&&pD l
end
mutual
noncomputable def dep:U->Nat
 | .tup l=>deps l+1
 |_=>0
noncomputable def deps:List U->Nat
 |[]=>0
 |a::l=>max (dep a) (deps l)
end
def asPair{β:Type}(z:β)(l:Th)(f:Int->Int->β):β:=CV z l λv w=>fM z v λa=>fM z w λb=>f a b
def kindOf(a:U):Nat:=vH 0 a (i:=λ_=>1) (s:=λ_=>2) (t:=λl=>asPair 0 l λ_ _=>3)
def Ax(a b:U):Bool:=vH false a (i:=λx=>fM false b λy=>decide (x=y)) (s:=λx=>q8 false b λy=>decide (x=y))
 (t:=λl=>J7 false b λr=>asPair false l λa b=>asPair false r λc d=>decide (a=c)&&decide (b=d))
def isKey(a:U):Bool:=kindOf a !=0
def zX(a b:U):Bool:=kindOf a==kindOf b
def IK(a:U):Bool:=vH true a (t:=λ_=>false)
def keyOk(es:YR)(k:U):Bool:=isKey k&&es.all λe=>zX e.1 k
def jN(es:YR)(k:U):Option U:=(es.find? λe=>Ax e.1 k).map (·.2)
def Bw(es:YR)(k:U):Bool:=es.any λe=>Ax e.1 k
noncomputable def oM(es:YR)(k v:U):List (U×U):=
 match es with
 |[]=>[(k,v)]
 |e::r=>if Ax e.1 k then(e.1,v)::r else e::oM r k v
noncomputable def pB(fs:TZ)(n:Nat):Option U:=(fs.find? λe=>e.1==n).map (·.2)
noncomputable def oJ(fs:TZ)(n:Nat)(v:U):List (Nat×U):=
 match fs with
 |[]=>[(n,v)]
 |e::r=>if e.1==n then(n,v)::r else e::oJ r n v
def LL:Nat:=1048576
noncomputable def zu:Int:=2^100
noncomputable def lQ(a:Int):Bool:=decide (-1152921504606846976<=a)&&decide (a<=1152921504606846976)
def smallInt(a:Int):Bool:=decide (-zu<=a)&&decide (a<=zu)
def Ym(a b:U)(σ:St):Res U:=vH .bad a (i:=λx=>fM .bad b λy=>.ok (.int (x+y)) σ)
 (s:=λx=>q8 .bad b λy=>gd .bad (decide ((x++y).length<=LL)) (.ok (.str (x++y)) σ))
 (r:=λi=>lO .bad b λj=>J9 .bad σ[i]? λl=>J9 .bad σ[j]? λr=>gd .bad (decide ((l++r).length<=LL)) (.ok (.ref σ.length) (σ++[.list (l++r)])))
def tP(o:YZ)(x y:Int)(σ:St):Res U:=match o with
 | .add=>.bad
 | .sub=>.ok (.int (x - y)) σ
 | .mul=>gd .bad (smallInt x&&smallInt y) (.ok (.int (x*y)) σ)
 | .fdiv=>gd .bad (decide (0<y)&&smallInt y) (.ok (.int (Int.fdiv x y)) σ)
 | .mod=>gd .bad (decide (0<y)) (.ok (.int (Int.fmod x y)) σ)
 | .pow=>gd .bad (decide (x=10)&&decide (0<=y)&&decide (y<=30)) (.ok (.int (x^y.toNat)) σ)
def binop(o:YZ)(a b:U)(σ:St):Res U:=match o with
 | .add=>Ym a b σ
 |o=>fM .bad a λx=>fM .bad b λy=>tP o x y σ
noncomputable def strsOf:List U->Option (List (List Nat))
 |[]=>some []
 |a::l=>q8 Option.none a λs=>(strsOf l).map (s::·)
noncomputable def boolsOf:List U->Option (List Bool)
 |[]=>some []
 |a::l=>lB Option.none a λs=>(boolsOf l).map (s::·)
def WM(a:U)(l:Th):Option Bool:=vH Option.none a (b:=λb=>(boolsOf l).map λbs=>bs.contains b) (s:=λs=>(strsOf l).map λss=>ss.contains s)
def sV(a:U)(o:zb1):Option Bool:=Tt Option.none o (l:=λl=>WM a l) (d:=λes=>gd Option.none (keyOk es a&&IK a) (some (Bw es a)))
 (s:=λl=>fM Option.none a λk=>some (l.contains k))
def member(a b:U)(σ:St):Option Bool:=vH Option.none b (s:=λs=>q8 Option.none a λx=>iM Option.none x λc=>some (s.contains c)) (r:=λi=>sV a σ[i]?)
def GZ(l r:Th):Option Bool:=gd Option.none (l.isEmpty||r.isEmpty) (some (l.isEmpty&&r.isEmpty))
def equal(a b:U)(σ:St):Option Bool:=vH Option.none a (r:=λi=>lO Option.none b λj=>J9 Option.none σ[i]? λl=>J9 Option.none σ[j]? λr=>GZ l r)
 (i:=λa=>fM Option.none b λb=>some (decide (a=b))) (s:=λa=>q8 Option.none b λb=>some (decide (a=b)))
 (t:=λa=>J7 Option.none b λb=>gd Option.none (pD a&&pD b&&decide (deps a<=60)&&decide (deps b<=60)) (some (uH a b)))
def isNone(a:U):Option Bool:=vH Option.none a (n:=some true) (b:=λ_=>some false) (i:=λ_=>some false) (s:=λ_=>some false) (t:=λ_=>some false) (g:=λ_ _ _=>some false) (r:=λ_=>some false) (f:=λ_=>some false) (c:=λ_=>some false)
noncomputable def Hm(r:Option Bool)(σ:St):Res U:=match r with
 |some b=>.ok (.bool b) σ
 |Option.none=>.bad
def cmpInt(a b:U)(f:Int->Int->Bool)(σ:St):Res U:=fM .bad a λx=>fM .bad b λy=>.ok (.bool (f x y)) σ
def eX(o:hJ)(a b:U)(σ:St):Res U:=match o with
 | .eq=>Hm (equal a b σ) σ
 | .ne=>Hm ((equal a b σ).map Bool.not) σ
 | .isIn=>Hm (member a b σ) σ
 | .kW=>Hm ((member a b σ).map Bool.not) σ
 | .qS=>BL .bad b (Hm (isNone a) σ)
 | .wC=>BL .bad b (Hm ((isNone a).map Bool.not) σ)
 | .lt=>cmpInt a b (λx y=>decide (x<y)) σ
 | .le=>cmpInt a b (λx y=>decide (x<=y)) σ
 | .gt=>cmpInt a b (λx y=>decide (x>y)) σ
 | .ge=>cmpInt a b (λx y=>decide (x>=y)) σ
noncomputable def RQ(r:Option U)(σ:St):Res U:=match r with
 |some v=>.ok v σ
 |Option.none=>.bad
def Yq(k:U)(f:Nat->Option U)(σ:St):Res U:=fM .bad k λk=>gd .bad (decide (0<=k)) (RQ (f k.toNat) σ)
def Gv(o:zb1)(k:U)(σ:St):Res U:=Tt .bad o (l:=λl=>Yq k (λk=>l[k]?) σ) (d:=λes=>gd .bad (keyOk es k&&IK k) (RQ (jN es k) σ))
def getIdx(a b:U)(σ:St):Res U:=vH .bad a (t:=λl=>Yq b (λk=>l[k]?) σ) (s:=λl=>Yq b (λk=>l[k]?.map λc=>.str [c]) σ) (r:=λi=>Gv σ[i]? b σ)
def Fx(o:zb1)(i:Nat)(b v:U)(σ:St):Option St:=Tt Option.none o
 (l:=λl=>fM Option.none b λk=>gd Option.none (decide (0<=k)&&decide (k.toNat<l.length)) (some (σ.set i (.list (l.set k.toNat v)))))
 (d:=λes=>gd Option.none (keyOk es b&&decide (es.length<LL)) (some (σ.set i (.dict (oM es b v)))))
def rP(a b v:U)(σ:St):Option St:=lO Option.none a λi=>Fx σ[i]? i b v σ
def bound{β:Type}(z:β)(a:U)(f:Option Nat->β):β:=vH z a (n:=f Option.none) (i:=λk=>gd z (decide (0<=k)) (f (some k.toNat)))
noncomputable def cut{α:Type}(l:List α)(lo hi:za9):List α:=((match hi with|some h=>l.take h|Option.none=>l).drop (lo.getD 0))
def slice(a lo hi:U)(σ:St):Res U:=bound .bad lo λx=>bound .bad hi λy=>vH .bad a (s:=λs=>.ok (.str (cut s x y)) σ)
 (r:=λi=>J9 .bad σ[i]? λl=>.ok (.ref σ.length) (σ++[.list (cut l x y)]))
def ZM(a:U)(σ:St):Res U:=lO .bad a λi=>J9 .bad σ[i]? λl=>.ok (.ref σ.length) (σ++[.list l.reverse])
def M5(a lo:U)(σ:St):Option St:=lO Option.none a λi=>fM Option.none lo λk=>J9 Option.none σ[i]? λl=>gd Option.none (decide (0<=k)) (some (σ.set i (.list (l.take k.toNat))))
noncomputable def rT(a b c:Int):Nat:=(cond (decide (c=1)) (b - a) (a - b)).toNat
def Vm(a b c:Int)(k:Nat):Option U:=if k<rT a b c then some (.int (a+c*k)) else Option.none
def dJ(v:U)(k:Nat)(σ:St):Option (Option U):=vH Option.none v (t:=λl=>some l[k]?) (s:=λs=>some (s[k]?.map λc=>.str [c])) (g:=λa b c=>some (Vm a b c k)) (r:=λi=>J9 Option.none σ[i]? λl=>some l[k]?)
noncomputable def cB(n:Nat):List Nat:=(Nat.toDigits 10 n).map Char.toNat
def qH(i:Int):List Nat:=if i<0 then 45::cB i.natAbs else cB i.natAbs
noncomputable def intsOf:List U->Option (List Int)
 |[]=>some []
 |a::l=>fM Option.none a λs=>(intsOf l).map (s::·)
def qV(a:U):Option Bool:=vH Option.none a (s:=λ_=>some true) (t:=λ_=>some false) (i:=λ_=>some false)
def br(a:U):Option Bool:=vH Option.none a (b:=λ_=>some true) (i:=λ_=>some false)
def intKeys(es:YR):Bool:=es.all λe=>kindOf e.1==1
def aE(o:zb1)(σ:St):Res U:=Tt .bad o (l:=λl=>.ok (.int l.length) σ) (d:=λl=>gd .bad (intKeys l) (.ok (.int l.length) σ))
def OU(v:U)(σ:St):Res U:=vH .bad v (s:=λs=>.ok (.int s.length) σ) (t:=λl=>.ok (.int l.length) σ) (r:=λi=>aE σ[i]? σ)
def OT(as:Th)(σ:St):Res U:=match as with
 |[a]=>fM .bad a λn=>gd .bad (lQ n) (.ok (.yK 0 n 1) σ)
 |[a,b,c]=>fM .bad a λa=>fM .bad b λb=>fM .bad c λc=>gd .bad (lQ a&&lQ b&&decide (c= -1)) (.ok (.yK a b c) σ)
 |_=>.bad
def LB{β:Type}(z:β)(v:U)(f:Nat->β):β:=vH z v (k:=f)
def OS(v w:U)(σ:St):Res U:=LB .bad w λn=>gd .bad (n==5||n==6) (Hm (cond (n==5) (qV v) (br v)) σ)
def DD(l:Th)(σ:St):Res U:=ig .bad (intsOf l) λns=>.ok (.int ns.sum) σ
def fj(b:Nat)(as:Th)(σ:St):Res U:=match b with
 |0=>iM .bad as λv=>OU v σ
 |1=>OT as σ
 |2=>iM .bad as λv=>q8 .bad v λs=>iM .bad s λc=>.ok (.int c) σ
 |3=>iM .bad as λv=>fM .bad v λn=>gd .bad (decide (0<=n)&&decide (n<=1114111)) (.ok (.str [n.toNat]) σ)
 |4=>CV .bad as λv w=>OS v w σ
 |5=>iM .bad as λv=>fM .bad v λi=>gd .bad (smallInt i) (.ok (.str (qH i)) σ)
 |7=>iM .bad as λv=>lO .bad v λi=>J9 .bad σ[i]? λl=>.ok (.tup l) σ
 |8=>iM .bad as λv=>lO .bad v λi=>DL .bad σ[i]? λes=>gd .bad (intKeys es) (.ok (.ref σ.length) (σ++[.list (es.map (·.1))]))
 |9=>iM .bad as λv=>fM .bad v λi=>.ok (.int i.natAbs) σ
 |10=>CV .bad as λv w=>fM .bad v λa=>fM .bad w λb=>gd .bad (decide (0<b)&&smallInt b) (.ok (.tup [.int (Int.fdiv a b),.int (Int.fmod a b)]) σ)
 |11=>iM .bad as λv=>lO .bad v λi=>J9 .bad σ[i]? λl=>DD l σ
 |12=>tK .bad as (.ok (.ref σ.length) (σ++[.set []]))
 |_=>.bad
noncomputable def zfill(s:Sa)(w:Nat):List Nat:=List.replicate (w - s.length) 48++s
inductive MK where
 |fn (f:Nat)
 |list
 |dict
 |set
 |str
def i8(i:Nat)(l:Th)(n:Nat)(as:Th)(σ:St):Res U:=match n with
 |0=>iM .bad as λv=>gd .bad (decide (l.length<LL)) (.ok .none (σ.set i (.list (l++[v]))))
 |1=>tK .bad as (ig .bad l.getLast? λv=>.ok v (σ.set i (.list l.dropLast)))
 |_=>.bad
def GU(s:Sa)(n:Nat)(as:Th)(σ:St):Res U:=match n with
 |4=>iM .bad as λv=>lO .bad v λi=>J9 .bad σ[i]? λl=>ig .bad (strsOf l) λss=>gd .bad (s.isEmpty&&decide (ss.flatten.length<=LL)) (.ok (.str ss.flatten) σ)
 |5=>iM .bad as λv=>fM .bad v λk=>gd .bad (decide (k=18)&&s.all (λc=>decide (48<=c)&&decide (c<=57))) (.ok (.str (zfill s 18)) σ)
 |_=>.bad
def Yd(k:MK)(o:U)(n:Nat)(as:Th)(σ:St):Res U:=match k with
 | .list=>lO .bad o λi=>J9 .bad σ[i]? λl=>i8 i l n as σ
 | .dict=>lO .bad o λi=>DL .bad σ[i]? λes=>gd .bad (n==2) (CV .bad as λk d=>gd .bad (keyOk es k) (.ok ((jN es k).getD d) σ))
 | .set=>lO .bad o λi=>Yx .bad σ[i]? λl=>gd .bad (n==3) (iM .bad as λv=>fM .bad v λk=>gd .bad (decide (l.length<1000)) (.ok .none (σ.set i (.set (if l.contains k then l else l++[k])))))
 | .str=>q8 .bad o λs=>GU s n as σ
 | .fn _=>.bad
def joinRev(o a:U)(σ:St):Res U:=q8 .bad o λs=>gd .bad s.isEmpty (lO .bad a λi=>J9 .bad σ[i]? λl=>ig .bad (strsOf l) λss=>
 gd .bad (decide (ss.reverse.flatten.length<=LL)) (.ok (.str ss.reverse.flatten) σ))
structure Tab where
 uW:Nat->Option Nat
 isExc:Nat->Bool
 fU:Nat->Nat->Option Nat
def Yz{β:Type}(z:β)(o:zb1)(f:Nat->List (Nat×U)->β):β:=Tt z o (e:=f)
def Yv{β:Type}(z:β)(o:zb1)(f:Nat->β):β:=Tt z o (u:=λc _=>f c)
def QR{β:Type}(z:β)(o:zb1)(f:Nat->List (Nat×U)->β):β:=Tt z o (i:=f) (e:=f) (u:=f)
def getAttr(T:Tab)(a:U)(n:Nat)(σ:St):Res U:=lO .bad a λi=>QR .bad σ[i]? λc fs=>gd .bad (T.fU c n).isNone (RQ (pB fs n) σ)
def yX(T:Tab)(o:zb1)(i n:Nat)(v:U)(σ:St):Option St:=Tt Option.none o
 (i:=λc fs=>gd Option.none ((T.fU c n).isNone&&decide (fs.length<1000)) (some (σ.set i (.inst c (oJ fs n v)))))
 (e:=λc fs=>gd Option.none ((T.fU c n).isNone&&decide (fs.length<1000)) (some (σ.set i (.exc c (oJ fs n v)))))
def setAttr(T:Tab)(a:U)(n:Nat)(v:U)(σ:St):Option St:=lO Option.none a λi=>yX T σ[i]? i n v σ
abbrev iC:=Bool->Nat->List U->St->Res U
section
variable(T:Tab)(Φ:iC)(hd:Bool)
noncomputable def iF{α β:Type}(z:β)(r:Res α)(f:α->St->β):β:=match r with
 | .ok v σ=>f v σ
 |_=>z
def lA(c:Nat)(as:Th)(σ:St):Res U:=ig .bad (T.uW c) λf=>
 iF .bad (Φ hd f (.ref σ.length::as) (σ++[if T.isExc c then .exc c [] else .inst c []])) λv σ'=>BL .bad v (.ok (.ref σ.length) σ')
def kL(f:U)(as:Th)(σ:St):Res U:=vH .bad f (f:=λf=>Φ hd f as σ) (c:=λc=>lA T Φ hd c as σ) (k:=λb=>gd .bad (!(hd&&(b==8||b==11))) (fj b as σ))
def tV(o:zb1)(n:Nat):Option MK:=Tt Option.none o (i:=λc fs=>gd Option.none (!T.isExc c&&(pB fs n).isNone) ((T.fU c n).map MK.fn))
 (l:=λ_=>gd Option.none (decide (n<2)) (some .list)) (d:=λ_=>gd Option.none (decide (n=2)) (some .dict)) (s:=λ_=>gd Option.none (decide (n=3)) (some .set))
def qL(o:U)(n:Nat)(σ:St):Option MK:=vH Option.none o (r:=λi=>tV T σ[i]? n) (s:=λ_=>gd Option.none (decide (n=4)||decide (n=5)) (some .str))
def dj(k:MK)(o:U)(n:Nat)(as:Th)(σ:St):Res U:=match k with
 | .fn f=>Φ hd f (o::as) σ
 |k=>Yd k o n as σ
end
def isCallable(a:U):Bool:=vH false a (f:=λ_=>true) (c:=λ_=>true) (k:=λ_=>true)
def nM(hd:Bool)(v:U):Bool:=!hd||vH false v (g:=λ_ _ _=>true)
def FQ{β:Type}(z:β)(w:Option (Option U))(f:U->β)(e:β):β:=ig z w λw=>match w with
 |some x=>f x
 |Option.none=>e
noncomputable def jO(elt:Loc->St->Res U)(slot:Nat)(v:U)(B:Loc):Nat->Nat->List U->St->Res (List U)
 |0,_,_,_=>.bad
 |n+1,k,acc,σ=>FQ .bad (dJ v k σ) (λx=>iF .bad (elt (B.set slot x) σ) λy σ'=>jO elt slot v B n (k+1) (acc++[y]) σ') (.ok acc σ)
def Tf(v:U)(σ:St):Res U:=U.casesOn (motive_1:=λ_=>Res U) v .bad (.ok .none σ) (λb=>.ok (.bool b) σ) (λb=>.ok (.int b) σ) (λb=>.ok (.str b) σ) (λb=>.ok (.tup b) σ) (λa b c=>.ok (.yK a b c) σ) (λb=>.ok (.ref b) σ) (λb=>.ok (.fn b) σ) (λb=>.ok (.cls b) σ) (λb=>.ok (.bi b) σ)
section
variable(T:Tab)(Φ:iC)(hd:Bool)
mutual
noncomputable def aV:E->Loc->St->Res U
 | .bad,_,_=>.bad
 | .lit v,_,σ=>.ok v σ
 | .B i,B,σ=>ig .bad B[i]? λv=>Tf v σ
 | .bin o a b,B,σ=>(aV a B σ).bind λx σ=>(aV b B σ).bind λy σ=>binop o x y σ
 | .neg a,B,σ=>(aV a B σ).bind λx σ=>fM .bad x λi=>.ok (.int (-i)) σ
 | .not a,B,σ=>(aV a B σ).bind λx σ=>lB .bad x λb=>.ok (.bool (!b)) σ
 | .both c l,B,σ=>Mw c l B σ
 | .ite t a b,B,σ=>(aV t B σ).bind λx σ=>lB .bad x λc=>cond c (aV a B σ) (aV b B σ)
 | .cmp o a b,B,σ=>(aV a B σ).bind λx σ=>(aV b B σ).bind λy σ=>eX o x y σ
 | .list l,B,σ=>(lH l B σ).bind λvs σ=>.ok (.ref σ.length) (σ++[.list vs])
 | .tup l,B,σ=>(lH l B σ).bind λvs σ=>.ok (.tup vs) σ
 | .lN,_,σ=>.ok (.ref σ.length) (σ++[.dict []])
 | .attr a n,B,σ=>(aV a B σ).bind λx σ=>getAttr T x n σ
 | .idx a b,B,σ=>(aV a B σ).bind λx σ=>(aV b B σ).bind λy σ=>getIdx x y σ
 | .Ox a lo hi,B,σ=>(aV a B σ).bind λx σ=>(aV lo B σ).bind λy σ=>(aV hi B σ).bind λz σ=>slice x y z σ
 | .rev a,B,σ=>(aV a B σ).bind λx σ=>ZM x σ
 | .call f l,B,σ=>(aV f B σ).bind λx σ=>gd .bad (isCallable x) ((lH l B σ).bind λvs σ=>kL T Φ hd x vs σ)
 | .aG o n l,B,σ=>(aV o B σ).bind λx σ=>ig .bad (qL T x n σ) λk=>(lH l B σ).bind λvs σ=>dj Φ hd k x n vs σ
 | .comp elt slot it,B,σ=>(aV it B σ).bind λv σ=>gd .bad (nM hd v)
   ((jO (λB σ=>aV elt B σ) slot v B NN 0 [] σ).bind λvs σ=>.ok (.ref σ.length) (σ++[.list vs]))
 | .joinRev o a,B,σ=>gd .bad (!hd) ((aV o B σ).bind λx σ=>(aV a B σ).bind λy σ=>joinRev x y σ)
noncomputable def lH:List E->Loc->St->Res (List U)
 |[],_,σ=>.ok [] σ
 |e::l,B,σ=>(aV e B σ).bind λx σ=>(lH l B σ).bind λr σ=>.ok (x::r) σ
noncomputable def Mw:Bool->List E->Loc->St->Res U
 |_,[],_,_=>.bad
 |c,e::l,B,σ=>(aV e B σ).bind λx σ=>lB .bad x λb=>cond (l.isEmpty||b !=c) (.ok (.bool b) σ) (Mw c l B σ)
end
end
variable{T:Tab}{Φ:iC}{hd c:Bool}{i:Nat}{e:E}{l:List E}{B:Loc}{σ:St}
theorem GX:aV T Φ hd (.B i) B σ=ig .bad B[i]? λv=>Tf v σ:=rfl
theorem Xw{a b:E}:aV T Φ hd (.joinRev a b) B σ=gd .bad (!hd) ((aV T Φ hd a B σ).bind λx σ=>(aV T Φ hd b B σ).bind λy σ=>joinRev x y σ):=rfl
variable{j:Nat}
theorem Xx{elt it:E}:aV T Φ hd (.comp elt j it) B σ=(aV T Φ hd it B σ).bind λv σ=>gd .bad (nM hd v)
   ((jO (λB σ=>aV T Φ hd elt B σ) j v B NN 0 [] σ).bind λvs σ=>.ok (.ref σ.length) (σ++[.list vs])):=rfl
theorem xU:lH T Φ hd (e::l) B σ=(aV T Φ hd e B σ).bind λx σ=>(lH T Φ hd l B σ).bind λr σ=>.ok (x::r) σ:=rfl
theorem Jv:Mw T Φ hd c (e::l) B σ=(aV T Φ hd e B σ).bind λx σ=>lB .bad x λb=>cond (l.isEmpty||b !=c) (.ok (.bool b) σ) (Mw T Φ hd c l B σ):=rfl
def turned(r:SR)(f:Loc->St->SR):SR:=match r with
 | .done .next B σ=>f B σ
 | .done .cont B σ=>f B σ
 |r=>r
noncomputable def f9(t:Loc->St->Res U)(b:Loc->St->SR):Nat->Loc->St->SR
 |0,_,_=>.bad
 |n+1,B,σ=>iF .bad (t B σ) λv σ'=>lB .bad v λc=>cond c (turned (b B σ') λbx kR=>f9 t b n bx kR) (.done .next B σ')
noncomputable def forL(b:Loc->St->SR)(slot:Nat)(v:U):Nat->Nat->Loc->St->SR
 |0,_,_,_=>.bad
 |n+1,k,B,σ=>FQ .bad (dJ v k σ) (λx=>turned (b (B.set slot x) σ) λbx σ'=>forL b slot v n (k+1) bx σ') (.done .next B σ)
noncomputable def Yt:List Nat->List U->Loc->Option Loc
 |[],[],B=>some B
 |i::l,v::r,B=>Yt l r (B.set i v)
 |_,_,_=>Option.none
def fZ{α:Type}(r:Res α)(B:Loc)(f:α->St->SR):SR:=match r with
 | .ok v σ=>f v σ
 | .exc i σ=>Yv .bad σ[i]? λ_=>.exc i B σ
 | .bad=>.bad
def Ac(r:Option St)(B:Loc):SR:=ig .bad r λσ=>.done .next B σ
def gc(x y:U):Option U:=vH Option.none x (i:=λa=>fM Option.none y λb=>some (.int (a+b))) (s:=λa=>q8 Option.none y λb=>gd Option.none (decide ((a++b).length<=LL)) (some (.str (a++b))))
noncomputable def Vg(r:SR)(f:Loc->St->SR):SR:=match r with
 | .done .next B σ=>f B σ
 |r=>r
def Yc(r:SR)(f:Nat->Loc->St->SR):SR:=match r with
 | .exc i B σ=>f i B σ
 |r=>r
noncomputable def My(r:SR)(f:AFlow->Loc->St->SR):SR:=match r with
 | .done k B σ=>f k B σ
 |_=>.bad
section
variable(T:Tab)(Φ:iC)
mutual
noncomputable def zm:S->Bool->Loc->St->SR
 | .expr e,hd,B,σ=>fZ (aV T Φ hd e B σ) B λ_ σ=>.done .next B σ
 | .asg i e,hd,B,σ=>fZ (aV T Φ hd e B σ) B λv σ=>.done .next (B.set i v) σ
 | .Hc is e,hd,B,σ=>gd .bad (!hd) (fZ (aV T Φ hd e B σ) B λv σ=>J7 .bad v λvs=>ig .bad (Yt is vs B) λbx=>.done .next bx σ)
 | .fY o n e,hd,B,σ=>fZ (aV T Φ hd e B σ) B λv σ=>fZ (aV T Φ hd o B σ) B λx σ=>Ac (setAttr T x n v σ) B
 | .j7 o i e,hd,B,σ=>fZ (aV T Φ hd e B σ) B λv σ=>fZ (aV T Φ hd o B σ) B λx σ=>fZ (aV T Φ hd i B σ) B λy σ=>Ac (rP x y v σ) B
 | .aug i o e,hd,B,σ=>fZ (aV T Φ hd (.B i) B σ) B λx σ=>fZ (aV T Φ hd e B σ) B λy σ=>gd .bad (o== .add) (ig .bad (gc x y) λv=>.done .next (B.set i v) σ)
 | .M5 o lo,hd,B,σ=>fZ (aV T Φ hd o B σ) B λx σ=>fZ (aV T Φ hd lo B σ) B λy σ=>Ac (M5 x y σ) B
 | .ret e,hd,B,σ=>fZ (aV T Φ hd e B σ) B λv σ=>.done (.ret v) B σ
 | .cW t a b,hd,B,σ=>fZ (aV T Φ hd t B σ) B λv σ=>lB .bad v λc=>cond c (aN a hd B σ) (aN b hd B σ)
 | .gA t b,hd,B,σ=>f9 (aV T Φ hd t) (λB σ=>aN b hd B σ) NN B σ
 | .lG i e b,hd,B,σ=>fZ (aV T Φ hd e B σ) B λv σ=>gd .bad (nM hd v) (forL (λB σ=>aN b hd B σ) i v NN 0 B σ)
 | .raise e,hd,B,σ=>gd .bad (!hd) (fZ (aV T Φ hd e B σ) B λv σ=>lO .bad v λi=>Yz .bad σ[i]? λc fs=>gd .bad (T.isExc c) (.exc i B (σ.set i (.up c fs))))
 | .zO b c nm h,hd,B,σ=>gd .bad (!hd) (Yc (aN b false B σ) λi B σ=>Yv .bad σ[i]? λc'=>gd .bad (c'==c&&T.isExc c) (ig (My (aN h true B σ) λf B σ=>.done f B σ) nm λj=>
   My (aN h true (B.set j (.ref i)) σ) λf B σ=>gd .bad (decide (j<B.length)) (.done f (B.set j .L) σ)))
 | .cont,_,B,σ=>.done .cont B σ
noncomputable def aN:List S->Bool->Loc->St->SR
 |[],_,B,σ=>.done .next B σ
 |s::l,hd,B,σ=>Vg (zm s hd B σ) λB σ=>aN l hd B σ
end
end
theorem ju{s:S}{l:List S}:aN T Φ (s::l) hd B σ=Vg (zm T Φ s hd B σ) λB σ=>aN T Φ l hd B σ:=rfl
theorem wI{b h:List S}{c:Nat}{nm:za9}:zm T Φ (.zO b c nm h) false B σ=Yc (aN T Φ b false B σ) λi B σ=>Yv .bad σ[i]? λc'=>
  gd .bad (c'==c&&T.isExc c) (ig (My (aN T Φ h true B σ) λf B σ=>.done f B σ) nm λj=>
   My (aN T Φ h true (B.set j (.ref i)) σ) λf B σ=>gd .bad (decide (j<B.length)) (.done f (B.set j .L) σ)):=rfl
structure Fn where
 params:Nat
 slots:Nat
 q7:List U
 body:List S
def ou(f:Fn)(as:Th):Option Loc:=
 gd Option.none (decide (as.length<=f.params)&&decide (f.params<=as.length+f.q7.length))
  (some (as++f.q7.drop (f.q7.length - (f.params - as.length))++List.replicate (f.slots - f.params) .L))
noncomputable def iZ:SR->Res U
 | .done .next _ σ=>.ok .none σ
 | .done (.ret v) _ σ=>.ok v σ
 | .done .cont _ _=>.bad
 | .exc i _ σ=>.exc i σ
 | .bad=>.bad
def Vh(T:Tab)(Φ:iC)(f:Fn)(hd:Bool)(as:Th)(σ:St):Res U:=ig .bad (ou f as) λB=>iZ (aN T Φ f.body hd B σ)
noncomputable def BZ(T:Tab)(F:Nat->Option Fn):Nat->iC
 |0=>λ_ _ _ _=>.bad
 |d+1=>λhd f as σ=>ig .bad (F f) λfn=>Vh T (BZ T F d) fn hd as σ
noncomputable abbrev J(i:Nat):E:=.B i
noncomputable abbrev D(n:Int):E:=.lit (.int n)
noncomputable abbrev Ls(s:Sa):E:=.lit (.str s)
abbrev Cf(f:Nat)(l:List E):E:=.call (.lit (.fn f)) l
abbrev Cb(f:Nat)(l:List E):E:=.call (.lit (.bi f)) l
end
end Mine.Internal
namespace Mine.Internal
open PySem
noncomputable section
theorem and_true{a b:Bool}(h:(a&&b)=true):a=true/\b=true:=by cases a<;>first|exact⟨Z,h⟩|cases h
noncomputable def seq(x y:Str):Bool:=x.cps.toList==y.cps.toList
noncomputable def look{α:Type}(l:List (Str×α))(x:Str):Option α:=match l with
 |[]=>Option.none
 |p::r=>cond (seq p.1 x) (some p.2) (look r x)
noncomputable def place(l:za3)(x:Str):Nat->Option Nat:=λk=>match l with
 |[]=>Option.none
 |y::r=>cond (seq y x) (some k) (place r x (k+1))
structure Cx where
 kinds:List (Str×NameKind)
 slots:List (Str×Nat)
 cv:List Str
 base:Nat
noncomputable def ug{β:Type}(z:β)(e:Expr)(nm:Str->Pos->β:=λ_ _=>z)(at_:Expr->Str->Pos->β:=λ_ _ _=>z)(ca:Expr->List Expr->List Keyword->Pos->β:=λ_ _ _ _=>z)(co:Const->Nat->Pos->β:=λ_ _ _=>z)
  (un:UnaryOp->Expr->Pos->β:=λ_ _ _=>z) (tu:List Expr->Nat->Pos->β:=λ_ _ _=>z) (su:Expr->Expr->Pos->β:=λ_ _ _=>z) (sl:Option Expr->Option Expr->Option Expr->Pos->β:=λ_ _ _ _=>z) (st:Expr->Pos->β:=λ_ _=>z)
  (lc:Expr->List Comprehension->Scope->Pos->β:=λ_ _ _ _=>z) (se:List Expr->Nat->Pos->β:=λ_ _ _=>z):β:=
 Expr.casesOn (motive_1:=λ_=>β) e (λ_ _ _=>z) (λ_ _ _=>z) (λ_ _ _ _=>z) un (λ_ _ _ _=>z) (λ_ _ _ _=>z) (λ_ _ _=>z) se lc (λ_ _ _ _=>z) (λ_ _ _ _ _=>z) (λ_ _ _ _=>z) (λ_ _=>z) (λ_ _=>z) (λ_ _=>z)
  (λ_ _ _ _=>z) ca (λ_ _ _ _=>z) (λ_ _=>z) co at_ su st nm (λ_ _=>z) tu sl
variable{β:Type}{z:β}{e:Expr}{P:β->Prop}{m:Expr->Prop}{nm:Str->Pos->β}{at_:Expr->Str->Pos->β}{ca:Expr->List Expr->List Keyword->Pos->β}{co:Const->Nat->Pos->β}{un:UnaryOp->Expr->Pos->β}{tu se:List Expr->Nat->Pos->β}{su:Expr->Expr->Pos->β}{sl:Option Expr->Option Expr->Option Expr->Pos->β}{st:Expr->Pos->β}{lc:Expr->List Comprehension->Scope->Pos->β}
theorem mj(h:P (ug z e nm at_ ca co un tu su sl st lc se))(k0:∀e,P z->m e)(k1:∀x p,P (nm x p)->m (.Name x p))(k2:∀x n p,P (at_ x n p)->m (.Attribute x n p))(k3:∀x as ks p,P (ca x as ks p)->m (.Call x as ks p))(k4:∀c n p,P (co c n p)->m (.Constant c n p))
  (k5:∀c n p,P (un c n p)->m (.UnaryOp c n p)) (k6:∀x n p,P (tu x n p)->m (.Tuple x n p)) (k7:∀x i p,P (su x i p)->m (.Subscript x i p)) (k8:∀a b c p,P (sl a b c p)->m (.Slice a b c p)) (k9:∀x p,P (st x p)->m (.Starred x p)) (X':∀x as ks p,P (lc x as ks p)->m (.ListComp x as ks p)) (X9:∀x n p,P (se x n p)->m (.Set x n p)):m e:=by
 cases e<;>first|exact k0 _ h|exact k1 _ _ h|exact k2 _ _ _ h|exact k3 _ _ _ _ h|exact k4 _ _ _ h|exact k5 _ _ _ h|exact k6 _ _ _ h|exact k7 _ _ _ h|exact k8 _ _ _ _ h|exact k9 _ _ h|exact X' _ _ _ _ h|exact X9 _ _ _ h
theorem CM(nz:P z->False)(h:P (ug z e (nm:=nm) (at_:=at_) (tu:=tu) (su:=su)))(k1:∀x p,P (nm x p)->m (.Name x p))(k2:∀x n p,P (at_ x n p)->m (.Attribute x n p))(k6:∀x n p,P (tu x n p)->m (.Tuple x n p))(k7:∀x i p,P (su x i p)->m (.Subscript x i p)):m e:=
 mj h (Q2 nz) k1 k2 (Of nz) (OK nz) (OK nz) k6 k7 (Of nz) (PM nz) (Of nz) (OK nz)
section
variable{β:Type}{z:β}{e:Expr}{P:β->Prop}{m:Expr->Prop}(nz:P z->False)
include nz
@[elab_as_elim] theorem GQ{f:Str->Pos->β}(h:P (ug z e (nm:=f)))(k:∀x p,P (f x p)->m (.Name x p)):m e:=mj h (Q2 nz) k (OK nz) (Of nz) (OK nz) (OK nz) (OK nz) (OK nz) (Of nz) (PM nz) (Of nz) (OK nz)
@[elab_as_elim] theorem sM{f:Expr->Str->Pos->β}(h:P (ug z e (at_:=f)))(k:∀x n p,P (f x n p)->m (.Attribute x n p)):m e:=mj h (Q2 nz) (PM nz) k (Of nz) (OK nz) (OK nz) (OK nz) (OK nz) (Of nz) (PM nz) (Of nz) (OK nz)
@[elab_as_elim] theorem sL{f:Expr->List Expr->List Keyword->Pos->β}(h:P (ug z e (ca:=f)))(k:∀x as ks p,P (f x as ks p)->m (.Call x as ks p)):m e:=mj h (Q2 nz) (PM nz) (OK nz) k (OK nz) (OK nz) (OK nz) (OK nz) (Of nz) (PM nz) (Of nz) (OK nz)
@[elab_as_elim] theorem sF{f:Const->Nat->Pos->β}(h:P (ug z e (co:=f)))(k:∀c n p,P (f c n p)->m (.Constant c n p)):m e:=mj h (Q2 nz) (PM nz) (OK nz) (Of nz) k (OK nz) (OK nz) (OK nz) (Of nz) (PM nz) (Of nz) (OK nz)
@[elab_as_elim] theorem sj{f:UnaryOp->Expr->Pos->β}(h:P (ug z e (un:=f)))(k:∀c n p,P (f c n p)->m (.UnaryOp c n p)):m e:=mj h (Q2 nz) (PM nz) (OK nz) (Of nz) (OK nz) k (OK nz) (OK nz) (Of nz) (PM nz) (Of nz) (OK nz)
@[elab_as_elim] theorem sv{f:Expr->Pos->β}(h:P (ug z e (st:=f)))(k:∀x p,P (f x p)->m (.Starred x p)):m e:=mj h (Q2 nz) (PM nz) (OK nz) (Of nz) (OK nz) (OK nz) (OK nz) (OK nz) (Of nz) k (Of nz) (OK nz)
end
section
variable(G:za4)(Nm:za3)
def O3(x:Str):Bool:=seq x "__debug__"||seq x "__classdict__"
def ra(k:NameKind):Bool:=k== .globalImplicit
def BK(cx:Cx)(x:Str):E:=gd .bad (!O3 x) (ig (ig .bad (look cx.kinds x) λk=>gd .bad (ra k) (ig .bad (look G x) .lit)) (look cx.slots x) .B)
def Ye:Const->E
 | .none=>.lit .none
 | .bool b=>.lit (.bool b)
 | .int i=>.lit (.int i)
 | .str s=>gd .bad (decide (s.cps.size<=1000)) (.lit (.str s.cps.toList))
 |_=>.bad
noncomputable def DA:Operator->Option YZ
 | .Add=>some .add| .Sub=>some .sub| .Mult=>some .mul| .FloorDiv=>some .fdiv| .Mod=>some .mod| .Pow=>some .pow
 |_=>Option.none
noncomputable def DB:CmpOp->hJ
 | .Eq=>.eq| .NotEq=>.ne| .Lt=>.lt| .LtE=>.le| .Gt=>.gt| .GtE=>.ge| .Is=>.qS| .IsNot=>.wC| .In=>.isIn| .NotIn=>.kW
def isStar(e:Expr):Bool:=ug false e (st:=λ_ _=>true)
noncomputable def XH:Const->Bool
 | .str s=>s.cps.size==0
 |_=>false
noncomputable def AB:Const->Bool
 | .int i=>decide (i=1)
 |_=>false
def FT(f:Const->Bool)(e:Expr):Bool:=ug false e (co:=λc _ _=>f c)
def tW(cx:Cx)(pos:Pos)(f:Expr)(as:zb0):Option (Expr×Expr):=ug Option.none f (at_:=λo n p=>iM Option.none as λx=>ug Option.none x (ca:=λh as ks _=>iM Option.none as λa=>tK Option.none ks
 (ug Option.none h (nm:=λg _=>gd Option.none (seq n "join"&&seq g "reversed"&&look cx.kinds g==some .globalImplicit&&(look cx.slots g).isNone&&p.endLine==pos.line&&FT XH o&&!isStar a) (some (o,a))))))
def isNeg:UnaryOp->Bool
 | .USub=>true
 |_=>false
def Ay(e:Expr):Bool:=ug false e (un:=λop e _=>isNeg op&&FT AB e)
theorem wj{f:Const->Bool}{e:Expr}(h:FT f e=true):∃c k p,e= .Constant c k p/\f c=true:=by refine sF (e:=e) (z:=false) (P:=(·=true)) (λh=>nomatch h) h λ_ _ _ h=>?_;exact(yN _ _ _ Z h)
theorem V6{op:UnaryOp}(h:isNeg op=true):op= .USub:=by cases op<;>first|rfl|cases h
theorem Vx{c:Const}(h:AB c=true):c= .int 1:=by cases c<;>first|exact congrArg _ (of_decide_eq_true h)|cases h
theorem Ly{e:Expr}(h:Ay e=true):∃k p q,e= .UnaryOp .USub (.Constant (.int 1) k p) q:=by refine sj (e:=e) (z:=false) (P:=(·=true)) (λh=>nomatch h) h λop e q h=>?_;obtain⟨c,k,p,h1,h2⟩:=wj (and_true h).2;exact(Bd k p q (by rw[h1,Vx h2,V6 (and_true h).1]))
noncomputable def tZ:List Str->Bool
 |[]=>true
 |x::r=>!r.any (λy=>seq x y)&&tZ r
def isSet(e:Expr):Bool:=ug false e (se:=λ_ _ _=>true)
def Ef(ks:List (Str×NameKind)):List (Str×NameKind):=ks.filter λp=>p.2== .globalImplicit
def inner(cx:Cx)(x:Str)(i:Nat)(ks:List (Str×NameKind)):Cx:=
 {kinds:=Ef ks,slots:=(x,i)::cx.slots.filter (λp=>!seq p.1 x&&look ks p.1==some .free),cv:=[],base:=i+1}
def M8(cx:Cx)(sc:Scope)(x:Str)(it:Expr):Bool:=sc.kind== .function&&look sc.names x==some .local&&tZ (sc.names.map (·.1))&&sc.names.all (λp=>p.2 != .cell)&&
 sc.names.all (λp=>p.2 != .free||(look cx.kinds p.1==some .cell&&(look cx.slots p.1).isSome))&&!isSet it
def wV(e:Expr):Bool:=ug false e (ca:=λf as _ _=>as.isEmpty&&ug false f (nm:=λ_ _=>true))
def Vy{β:Type}(z:β)(gs:List Comprehension)(f:Str->Pos->Expr->β):β:=iM z gs λg=>match g with
 |⟨t,it,ifs,a⟩=>ug z t (nm:=λx p=>gd z (ifs.isEmpty&&a==0) (f x p it))
noncomputable def cE:Nat->Cx->Expr->E
 |0,_,_=>.bad
 |n+1,cx,e=>match e with
  | .Constant c _ _=>Ye c
  | .Name x _=>BK G cx x
  | .BoolOp op vs _=>.both (op== .And) (vs.map (cE n cx))
  | .BinOp l op r _=>ig .bad (DA op) λo=>.bin o (cE n cx l) (cE n cx r)
  | .UnaryOp op x _=>match op with
   | .Not=>.not (cE n cx x)
   | .USub=>.neg (cE n cx x)
   |_=>.bad
  | .IfExp t a b _=>.ite (cE n cx t) (cE n cx a) (cE n cx b)
  | .Compare l ops rs _=>iM .bad ops λop=>iM .bad rs λr=>gd .bad (!behindInMarks op r) (.cmp (DB op) (cE n cx l) (cE n cx r))
  | .List es _=>gd .bad (decide (es.length<=1000)) (.list (es.map (cE n cx)))
  | .Tuple es _ _=>gd .bad (decide (es.length<=1000)) (.tup (es.map (cE n cx)))
  | .Dict ks vs _=>tK .bad ks (tK .bad vs .lN)
  | .Attribute v a _=>gd .bad (!wV v) (ig .bad (place Nm a 0) λk=>.attr (cE n cx v) k)
  | .Subscript v s _=>ug (.idx (cE n cx v) (cE n cx s)) s (sl:=λlo hi st _=>ig (.Ox (cE n cx v) (ig (.lit .none) lo (cE n cx)) (ig (.lit .none) hi (cE n cx))) st λst=>gd .bad (lo.isNone&&hi.isNone&&Ay st) (.rev (cE n cx v)))
  | .Call f as ks pos=>gd .bad (!as.any isStar) (tK .bad ks (ig (ug .bad f (nm:=λ_ _=>.call (cE n cx f) (as.map (cE n cx)))
    (at_:=λo a p=>gd .bad (!wV o&&p.endLine==pos.line&&decide (as.length<=28)) (ig .bad (place Nm a 0) λk=>.aG (cE n cx o) k (as.map (cE n cx)))))
    (tW cx pos f as) λoa=>.joinRev (cE n cx oa.1) (cE n cx oa.2)))
  | .ListComp elt gens sc _=>Vy .bad gens λx _ it=>ig .bad (place cx.cv x cx.base) λi=>gd .bad (M8 cx sc x it) (.comp (cE n (inner cx x i sc.names) elt) i (cE n cx it))
  |_=>.bad
def Fq(cx:Cx)(e:Expr):Option Nat:=ug Option.none e (nm:=λx _=>look cx.slots x)
noncomputable def slotsOf(cx:Cx):List Expr->Option (List Nat)
 |[]=>some []
 |e::r=>ig Option.none (Fq cx e) λi=>(slotsOf cx r).map (i::·)
def uV(e:Expr):Bool:=ug false e (lc:=λ_ _ _ _=>true)
def PQ(e:Expr):Bool:=ug false e (tu:=λ_ _ _=>true)
def isSlice(e:Expr):Bool:=ug false e (sl:=λ_ _ _ _=>true)
def Wj(e:E):Option Nat:=match e with
 | .lit v=>vH Option.none v (c:=some)
 |_=>Option.none
def kH(cx:Cx)(e:Expr):Option Nat:=ug Option.none e (nm:=λx _=>Wj (BK G cx x))
def jx:S:=.expr .bad
noncomputable def O2{β:Type}(z:β)(hs:List ExceptHandler)(f:Expr->Option Str->List Stmt->β):β:=match hs with
 |[.ExceptHandler (some t) nm h _]=>f t nm h
 |_=>z
noncomputable def cS:Nat->Cx->Stmt->S
 |0,_,_=>jx
 |n+1,cx,s=>match s with
  | .Expr v _=>gd jx (!uV v) (.expr (cE G Nm 40 cx v))
  | .Return v _=>ig (.ret (.lit .none)) v λe=>.ret (cE G Nm 40 cx e)
  | .Assign ts v _=>iM jx ts λt=>ug jx t (nm:=λx _=>ig jx (look cx.slots x) λi=>.asg i (cE G Nm 40 cx v))
    (tu:=λes _ _=>ig jx (slotsOf cx es) λl=>gd jx (!PQ v&&!uV v) (.Hc l (cE G Nm 40 cx v)))
    (at_:=λo a _=>ig jx (place Nm a 0) λk=>gd jx (!uV v) (.fY (cE G Nm 40 cx o) k (cE G Nm 40 cx v)))
    (su:=λo i _=>gd jx (!isSlice i&&!uV v) (.j7 (cE G Nm 40 cx o) (cE G Nm 40 cx i) (cE G Nm 40 cx v)))
  | .AugAssign t op v _=>ig jx (Fq cx t) λi=>ig jx (DA op) λo=>.aug i o (cE G Nm 40 cx v)
  | .Delete ts _=>iM jx ts λt=>ug jx t (su:=λo s _=>ug jx s (sl:=λlo hi st _=>ig jx lo λlo=>gd jx (hi.isNone&&st.isNone) (.M5 (cE G Nm 40 cx o) (cE G Nm 40 cx lo))))
  | .If t a b _=>.cW (cE G Nm 40 cx t) (a.map (cS n cx)) (b.map (cS n cx))
  | .While t b o _=>tK jx o (.gA (cE G Nm 40 cx t) (b.map (cS n cx)))
  | .For t it b o _=>ig jx (Fq cx t) λi=>tK jx o (.lG i (cE G Nm 40 cx it) (b.map (cS n cx)))
  | .Raise e c _=>ig jx e λe=>gd jx c.isNone (.raise (cE G Nm 40 cx e))
  | .Try b hs o f _=>O2 jx hs λt nm h=>tK jx o (tK jx f (ig jx (kH G cx t) λc=>ig (.zO (b.map (cS n cx)) c Option.none (h.map (cS n cx))) nm λx=>
    ig jx (look cx.slots x) λi=>.zO (b.map (cS n cx)) c (some i) (h.map (cS n cx))))
  | .Continue _=>.cont
  |_=>jx
end
noncomputable def number:List (Str×NameKind)->Nat->List (Str×Nat)
 |[],_=>[]
 |p::r,i=>cond (p.2== .local||p.2== .cell) ((p.1,i)::number r (i+1)) (number r i)
noncomputable def G5(sc:Scope)(cv:za3):Cx:=let l:=number sc.names 0;{kinds:=sc.names,slots:=l,cv,base:=l.length}
def Jq(G:za4)(Nm:za3)(ps:List Arg)(body:List Stmt)(sc:Scope)(cv:za3)(q7:Th):Fn:=
 let cx:=G5 sc cv
 {params:=ps.length,slots:=cx.base+cv.length,q7,body:=body.map (cS G Nm 20 cx)}
end
end Mine.Internal
open Lean in
local macro_rules (kind:=Lean.Parser.Tactic.cases)
 |stx=>do
  let a:=stx[3]
  let t:=stx[1]
  let i:=t[0][1]
  if !stx[2].isNone||t.getNumArgs !=1||(a.isNone&&!(i.isIdent&&t[0][0].isNone))||!a[0][1].isNone then Macro.throwUnsupported
  let q:=λ(x:Syntax)=>mkNode ``Lean.Parser.Tactic.tacticSeq #[mkNode ``Lean.Parser.Tactic.tacticSeq1Indented #[mkNullNode #[x]]]
  let r:=#[`Option.casesOn,`List.casesOn,`Bool.casesOn,`Sum.casesOn,`Prod.casesOn,`Mine.Internal.U.casesOn,`Mine.Internal.AO.casesOn,`Mine.Internal.Res.casesOn,`Mine.Internal.SR.casesOn,`Mine.Internal.AFlow.casesOn,`Mine.Internal.MK.casesOn,`Mine.Internal.El.casesOn,`PySem.Expr.casesOn].map λc=>
   q (mkNode ``Lean.Parser.Tactic.induction #[mkAtom "induction",t,mkNullNode #[mkAtom "using",mkIdent c],mkNullNode,a])
  if a.isNone then
   let j:Ident:=⟨i⟩
   let x:=mkIdent `inj1
   let y:=mkIdent `inj2
   let z:=mkIdent `inj3
   `(tactic| first|(subst $j:ident)|(injection $j:ident;done)|(injection $j:ident with $x:ident $y:ident $z:ident;cases $x:ident<;>cases $y:ident<;>cases $z:ident)|(injection $j:ident with $x:ident $y:ident;cases $x:ident<;>cases $y:ident)|(injection $j:ident with $x:ident;cases $x:ident) $[| $r]* |(cases($j)))
  else
   let s <-`(tactic| skip)
   let b:=q (stx.setArg 3 (a.setArg 0 (a[0].setArg 1 (mkNullNode #[s]))))
   `(tactic| first $[| $r]* |$b)
open Lean in
local macro_rules (kind:=Lean.Parser.Tactic.rwSeq)
 |stx=>do
  if stx[3].getNumArgs !=0 then Macro.throwUnsupported
  let mut s:Array (TSyntax `tactic):=#[]
  for r in stx[2][1].getSepArgs do
   let t:Term:=⟨r[1]⟩
   let f:=mkIdent (if r[0].isNone then `Mine.Internal.rwl else `Mine.Internal.rwr)
   let r:TSyntax ``Lean.Parser.Tactic.rwRule:=⟨r⟩
   s:=s.push (<- `(tactic| first|refine $f $t ?_|refine $f ($t _) ?_|refine $f ($t _ _) ?_|rewrite[$r:rwRule]))
  `(tactic| ($[$s]*;try with_reducible rfl))
namespace Mine.Internal
open PySem PySem.W PyProof.Rows PySem.Calls
abbrev aU:=@wpAny_bind
abbrev fO:=@decide_eq_true_iff
abbrev dF:=@decide_eq_true
abbrev eY:=@of_decide_eq_true
abbrev dY:=@decide_eq_false
abbrev cF:=@wpAny_pure
abbrev bh:=@if_neg
abbrev mY:=@Heap.get?_push_of_some
abbrev bz:=@if_pos
abbrev oE:=@Heap.get?_push_size
abbrev dB:=@eq_of_beq
abbrev kh:=@wpAny_holding
abbrev uv:=@Heap.get?_none_of_le
abbrev oY:=@wpAny_standAt
abbrev ym:=@Heap.get?_update_self
abbrev nJ:=@wpAny_field
abbrev vO:=@Heap.size_push
abbrev pM:=@wpAny_mono
abbrev vN:=@Heap.lt_size
abbrev N5:=@decide_eq_false_iff_not
abbrev NZ:=@Heap.get?_update_other
abbrev Hw:=@wpAny_loadPart_at
noncomputable section
structure Ctx where
 prog:Program
 w:World
 h₀:Heap
 fa:Nat->Addr
 ca:Nat->Addr
 nm:Nat->Str
 nn:Nat
 K:Frag
 T:Tab
abbrev Ctx.M(X:Ctx):Model:=model X.prog X.w
open Builtin in
structure yH(X:Ctx)(c:Nat):Prop where
 cd:∃cd,clsIn X.K (X.ca c)=some cd/\cd.hasDict=true/\cd.mro.isEmpty=false/\cd.mro.contains (.type "object")=true/\∀self,refuseLoop self "__setattr__" cd.mro=pure ()
 ga:X.T.isExc c=false->findIn X.K (.ref (X.ca c)) "__getattribute__"=some (some (.builtin "object.__getattribute__"))
 gx:X.T.isExc c=true->findIn X.K (.ref (X.ca c)) "__getattribute__"=some (some (.builtin "BaseException.__getattribute__"))/\mroIn X.K (X.ca c) (.type "BaseException")=some true
 gk:findIn X.K (.ref (X.ca c)) "__getattr__"=some none
 sa:findIn X.K (.ref (X.ca c)) "__setattr__"=some (some (.builtin "object.__setattr__"))
 fld:∀n,n<X.nn->X.T.fU c n=none->findIn X.K (.ref (X.ca c)) (X.nm n)=some none
 GN:∀n f,n<X.nn->X.T.fU c n=some f->findIn X.K (.ref (X.ca c)) (X.nm n)=some (some (.ref (X.fa f)))/\typeIn X.K (.ref (X.fa f))=some (.type "function")
noncomputable def qd:Nat->Value
 |0=>.builtin "len"|1=>.type "range"|2=>.builtin "ord"|3=>.builtin "chr"|4=>.builtin "isinstance"|5=>.type "str"|6=>.type "bool"
 |7=>.type "tuple"|8=>.type "list"|9=>.builtin "abs"|10=>.builtin "divmod"|11=>.builtin "sum"|12=>.type "set"|_=>.ellipsis
mutual
noncomputable def VR(X:Ctx)(h:Heap)(ρ:Su):U->Value->Prop
 | .L,_=>False
 | .none,v=>v= .none
 | .bool b,v=>v= .bool b
 | .int i,v=>∃t,v= .int i t
 | .str s,v=>s.length<=LL/\∃t,v= .str ⟨s.toArray⟩ t
 | .tup l,v=>l.length<=LL/\∃a vs n,v= .ref a/\IsT h a vs.toArray n/\cA X h ρ l vs
 | .yK a b c,v=>lQ a=true/\lQ b=true/\(c=1\/c= -1)/\∃r t u w,v= .ref r/\IsRange h r a b c t u w
 | .ref i,v=>∃p,ρ[i]?=some p/\v= .ref p.1
 | .fn f,v=>v= .ref (X.fa f)
 | .cls c,v=>v= .ref (X.ca c)
 | .bi b,v=>b<=12/\v=qd b
noncomputable def cA(X:Ctx)(h:Heap)(ρ:Su):List U->List Value->Prop
 |[],vs=>vs=[]
 |a::l,vs=>∃v r,vs=v::r/\VR X h ρ a v/\cA X h ρ l r
end
noncomputable def tracked(o:Obj):Bool:=match o.cls with
 | .type n=>n=="list"||n=="dict"||n=="set"
 | .ref _=>true
 |_=>false
def NP(X:Ctx)(h:Heap)(ρ:Su)(fs:TZ)(m:Str->Option Value):Prop:=
 ∀n,n<X.nn->match pB fs n with
  |some v=>∃r,m (X.nm n)=some r/\VR X h ρ v r
  |none=>m (X.nm n)=none
inductive tM(X:Ctx)(h:Heap)(ρ:Su)(fs:TZ)(d:Addr):Prop
 |mk (m:Str->Option Value) (ns:h.Ns1 d m) (f:NP X h ρ fs m) (w:Within m (fs.map λe=>X.nm e.1)) (od:Obj) (x:h.get? d=some od) (y:od.cls= .type "dict")
inductive jB(X:Ctx)(h:Heap)(ρ:Su)(d:Addr)(es:YR):Prop where
 |kI (jm:List (Int×Value)):h.DictOf (intKind X.prog X.w) d jm->es.map (·.1)=jm.map (λp=>U.int p.1)->cA X h ρ (es.map (·.2)) (jm.map (·.2))->jB X h ρ d es
 |kS (jm:List (Str×Value)):h.DictOf (strKind X.prog X.w) d jm->es.map (·.1)=jm.map (λp=>U.str p.1.cps.toList)->cA X h ρ (es.map (·.2)) (jm.map (·.2))->jB X h ρ d es
 |kT (xs:List (List Int×Addr×Value)):h.DictOfH (tupleKind (intKind X.prog X.w)) d xs->es.map (·.1)=xs.map (λp=>U.tup (p.1.map U.int))->cA X h ρ (es.map (·.2)) (xs.map (·.2.2))->jB X h ρ d es
inductive kP(X:Ctx)(h:Heap)(ρ:Su)(p:Addr×Addr)(l:Th):Prop
 |mk (pp:p.2=p.1) (ll:l.length<=LL) (vs:Tu) (n:Nat) (il:IsL h p.1 vs.toArray n) (w:cA X h ρ l vs)
inductive DV(X:Ctx)(h:Heap)(ρ:Su)(p:Addr×Addr)(c:Nat)(fs:TZ):Prop
 |mk (cs:yH X c) (hl:fs.length<=1000) (ox:Obj) (a:h.get? p.1=some ox) (b:ox.cls= .ref (X.ca c)) (g:notCls ox=true) (d:ox.dict=some p.2) (f:tM X h ρ fs p.2)
inductive Kl(X:Ctx)(h:Heap)(ρ:Su)(p:Addr×Addr)(c:Nat)(fs:TZ)(P:Array Value->Prop):Prop
 |mk (cs:yH X c) (hl:fs.length<=1000) (ox:Obj) (vs:za8) (a:h.get? p.1=some ox) (b:ox.cls= .ref (X.ca c)) (d:ox.data= .fields vs) (q:P vs) (f:(ox.dict=none/\fs=[]/\p.2=p.1)\/(ox.dict=some p.2/\fs≠[]/\tM X h ρ fs p.2))
def OR(X:Ctx)(h:Heap)(ρ:Su)(p:Addr×Addr):AO->Prop
 | .list l=>kP X h ρ p l
 | .dict es=>p.2=p.1/\es.length<=LL/\jB X h ρ p.1 es
 | .set l=>p.2=p.1/\l.length<=1000/\h.SetOf (intKind X.prog X.w) p.1 (λk=>l.contains k) l.length
 | .inst c fs=>DV X h ρ p c fs
 | .exc c fs=>Kl X h ρ p c fs λvs=>vs[2]?=some .none/\vs[1]?=some .none
 | .up c fs=>Kl X h ρ p c fs λvs=>vs[2]?=some .none
def foot(ρ:Su)(b:Addr):Prop:=∃p∈ρ,b=p.1\/b=p.2
inductive Kh(X:Ctx)(h:Heap)(env:Env):Prop
 |mk (kind:env.scope.kind≠.module) (CE:Addr) (o:Obj) (es:Array DictEntry) (n:Nat) (f:env.frame=some CE) (low:X.h₀.get? CE=none) (g:h.get? CE=some o) (c:o.cls= .type "frame") (d:o.data= .dict es n)
structure Inv(X:Ctx)(l:za7)(h:Heap)(ρ:Su)(σ:St):Prop where
 low:∀b o,X.h₀.get? b=some o->h.get? b=some o
 len:ρ.length=σ.length
 objs:∀(i:Nat) p o,ρ[i]?=some p->σ[i]?=some o->OR X h ρ p o
 there:∀p∈ρ,∃o o',h.get? p.1=some o/\tracked o=true/\h.get? p.2=some o'/\tracked o'=true
 apart:∀(i j:Nat) p q,i≠j->ρ[i]?=some p->ρ[j]?=some q->p.1≠q.1/\p.1≠q.2/\p.2≠q.1/\p.2≠q.2
 new:∀b,foot ρ b->X.h₀.get? b=none/\(b==sysModules)=false
 SQ:∀env∈l,Kh X h env
def Kg(ir:Addr->Prop)(h:Heap)(ρ:Su)(h':Heap):Prop:=
 ∀b o,h.get? b=some o->¬foot ρ b->¬ir b->h'.get? b=some o\/(o.cls= .type "frame"/\∃sl,h'.get? b=some {o with slots:=sl})
def jF(ρ cY:Su):Prop:=∀(i:Nat) p,ρ[i]?=some p->∃p',cY[i]?=some p'/\p'.1=p.1
def Ext(h:Heap)(ρ cY:Su):Prop:=jF ρ cY/\(∀ b,foot ρ b->foot cY b)/\∀b,foot cY b->foot ρ b\/h.get? b=none
theorem jF.refl(ρ:Su):jF ρ ρ:=λ_ p e=>(aZ p e Z)
variable{ρ:Su}
theorem jF.trans{cY xo:Su}(a:jF ρ cY)(b:jF cY xo):jF ρ xo:=λi p e=>by refine bY (a i p e) λp' e' q=>?_;refine bY (b i p' e') λp'' e'' q'=>?_;exact(aZ p'' e'' (q'.trans q))
theorem jF.of{cY:Su}(h:∀(i:Nat) p,ρ[i]?=some p->cY[i]?=some p):jF ρ cY:=λi p e=>(aZ p (h i p e) Z)
theorem jF.app(ρ δ:Su):jF ρ (ρ++δ):=.of λi p e=>by rw[oX (zb6 e).1];exact e
def j6(h:Heap)(b:Addr):Prop:=∃o vs,h.get? b=some o/\o.data= .fields vs/\vs[2]?=some .none
structure Step(X:Ctx)(l:za7)(ir:Addr->Prop)(h:Heap)(ρ:Su)(h':Heap)(cY:Su)(σ':St):Prop where
 inv:Inv X l h' cY σ'
 keep:Kg ir h ρ h'
 ext:Ext h ρ cY
 there:∀b o,h.get? b=some o->∃o',h'.get? b=some o'
 exc:∀b,j6 h b->j6 h' b
variable{b:Addr}
theorem nW{δ:Su}:foot (ρ++δ) b↔foot ρ b\/foot δ b:=by
 unfold foot
 constructor
 .rintro⟨p,hp,h⟩
  rcases List.mem_append.mp hp with q|q
  .exact .inl (aZ p q h)
  .exact .inr (aZ p q h)
 .rintro(⟨p,hp,h⟩|⟨p,hp,h⟩)
  .exact(aZ p (List.mem_append_left _ hp) h)
  .exact(aZ p (List.mem_append_right _ hp) h)
variable{p:Addr×Addr}
theorem gB(h:p∈ρ):foot ρ p.1:=(aZ p h (.inl Z))
theorem nq(h:p∈ρ):foot ρ p.2:=(aZ p h (.inr Z))
theorem Ext.refl(h:Heap)(ρ:Su):Ext h ρ ρ:=(jW (jF.refl _) (λ_ f=>f) (λ_ f=>.inl f))
variable{X:Ctx}{l:za7}{ir:Addr->Prop}{h aJ eZ:Heap}{ρ aM jd:Su}{σ aC bL:St}
variable{o:Obj}
theorem Inv.qC(I:Inv X l h ρ σ)(e:h.get? b=some o)(t:tracked o=false):¬foot ρ b:=by
 rintro⟨p,hp,q⟩
 refine oK (I.there p hp) λo1 o2 a1 a2 a3 a4=>?_
 rcases q with rfl|rfl
 .rw[e] at a1;cases a1;rw[t] at a2;cases a2
 .rw[e] at a3;cases a3;rw[t] at a4;cases a4
theorem Step.refl(I:Inv X l h ρ σ):Step X l ir h ρ h ρ σ:=⟨I,λ_ _ e _ _=>.inl e,Ext.refl _ _,λ_ o e=>⟨o,e⟩,λ_ e=>e⟩
theorem Kg.mono{Y':Addr->Prop}(k:Kg ir h ρ aJ)(s:∀b,ir b->Y' b):Kg Y' h ρ aJ:=λb o e f y=>k b o e f λz=>y (s b z)
theorem Step.mono{Y':Addr->Prop}(S:Step X l ir h ρ aJ aM aC)(s:∀b,ir b->Y' b):Step X l Y' h ρ aJ aM aC:=⟨S.inv,S.keep.mono s,S.ext,S.there,S.exc⟩
theorem Step.trans(S:Step X l ir h ρ aJ aM aC)(T:Step X l ir aJ aM eZ jd bL):Step X l ir h ρ eZ jd bL:=by
 refine⟨T.inv,λb o e f y=>?_,(jW (S.ext.1.trans T.ext.1) (λb f=>T.ext.2.1 b (S.ext.2.1 b f)) (λb f=>?_)),λb o e=>?_,λb e=>T.exc b (S.exc b e)⟩
 .have f1:¬foot aM b:=λq=>by
   rcases S.ext.2.2 b q with q|q
   .exact f q
   .rw[e] at q;cases q
  rcases S.keep b o e f y with k|⟨c,sl,k⟩
  .exact T.keep b o k f1 y
  .rcases T.keep b _ k f1 y with k2|⟨_,Se,k2⟩
   .exact .inr ⟨c,sl,k2⟩
   .exact .inr ⟨c,Se,k2⟩
 .rcases T.ext.2.2 b f with q|q
  .exact S.ext.2.2 b q
  .refine .inr ?_
   cases g:h.get? b with
   |none=>rfl
   |some o=>obtain⟨o',e'⟩:=S.there b o g;rw[e'] at q;cases q
 .obtain⟨o',e'⟩:=S.there b o e;exact T.there b o' e'
noncomputable def iD(o:Obj):Bool:=(o.cls== .type "tuple"||o.cls== .type "range")&&(match o.data with| .cell _=>false|_=>true)
def Still(h h':Heap):Prop:=∀b o,h.get? b=some o->iD o=true->h'.get? b=some o
theorem pP(h:(o.cls== .type "tuple"||o.cls== .type "range")=false):iD o=false:=by unfold iD;rw[h];rfl
theorem iR(e:iD o=true):tracked o=false/\o.cls≠.type "frame"/\o.cls≠.type "cell":=by
 unfold iD at e;rw[jH,ur,beq_iff_eq,beq_iff_eq] at e;unfold tracked
 rcases e.1 with e|e<;>rw[e]<;>decide
mutual
theorem VR.mono(st:Still h aJ)(e:jF ρ aM):∀(a:U) (v:Value),VR X h ρ a v->VR X aJ aM a v
 | .L,_,q=>q
 | .none,_,q=>q
 | .bool _,_,q=>q
 | .int _,_,q=>q
 | .str _,_,q=>q
 | .tup l,v,q=>by obtain⟨q0,a,vs,n,rfl,ho,q2⟩:=q;exact⟨q0,a,vs,n,Z,st a _ ho Z,cA.mono st e l vs q2⟩
 | .yK _ _ _,v,q=>by obtain⟨q0,q1,q2,r,t,u,w,rfl,hr⟩:=q;exact⟨q0,q1,q2,r,t,u,w,Z,st _ _ hr Z⟩
 | .ref i,v,q=>by obtain⟨p,hp,rfl⟩:=q;refine bY (e i p hp) λp' hp' q=>?_;exact(aZ p' hp' (by rw[q]))
 | .fn _,_,q=>q
 | .cls _,_,q=>q
 | .bi _,_,q=>q
theorem cA.mono(st:Still h aJ)(e:jF ρ aM):∀(a:Th) (v:Tu),cA X h ρ a v->cA X aJ aM a v
 |[],_,q=>q
 |a::l,vs,q=>by obtain⟨v,r,rfl,q1,q2⟩:=q;exact(gn v r Z (VR.mono st e a v q1) (cA.mono st e l r q2))
end
theorem Step.iD(I:Inv X l h ρ σ)(S:Step X l ir h ρ aJ aM aC)(hy:∀b o,ir b->h.get? b=some o->Mine.Internal.iD o=false):Still h aJ:=by
 intro b o e t;refine MN (iR t) λt1 t2 t3=>?_
 rcases S.keep b o e (I.qC e t1) (λy=>by
  rw[hy b o y e] at t;cases t) with k|⟨q,_⟩
 .exact k
 .exact absurd q t2
def uA:Addr->Prop:=λ_=>False
inductive BW(h₀ h:Heap)(e:Addr):Prop
 |mk (oe:Obj) (vs:za8) (a0:Value) (T:Addr) (oT:Obj) (ts:za8) (n:h₀.get? T=none) (u1:h.get? e=some oe) (u2:oe.data= .fields vs) (u3:vs[0]?=some a0) (u4:vs[1]?=some (.ref T)) (u5:h.get? T=some oT) (u6:oT.data= .fields ts) (u7:ts[3]?=some .none) (u8:oT.cls= .type "traceback")
def aB{α β:Type}(X:Ctx)(l:za7)(rel:Heap->List (Addr×Addr)->α->β->Prop)(r:Res α)(s:Shared)(ρ:Su)(Q:β->Shared->Prop)(E:Q3):Prop:=match r with
 | .ok v σ'=>∀h' tk cY x,Step X l uA s.heap ρ h' cY σ'->rel h' cY v x->Q x {s with heap:=h',toks:=tk}
 | .exc i σ'=>∀h' tk cY p,Step X l uA s.heap ρ h' cY σ'->cY[i]?=some p->BW s.heap h' p.1->E (.ref p.1) {s with heap:=h',toks:=tk}
 | .bad=>False
theorem BW.from{h₀:Heap}{e:Addr}(F:BW aJ h e)(S:Step X l ir h₀ ρ aJ aM aC):BW h₀ h e:=by
 obtain⟨oe,vs,a0,T,oT,ts,n,u1,u2,u3,u4,u5,u6,u7,u8⟩:=F;refine⟨oe,vs,a0,T,oT,ts,?_,u1,u2,u3,u4,u5,u6,u7,u8⟩
 cases g:h₀.get? T with
 |none=>rfl
 |some o=>obtain⟨o',e'⟩:=S.there T o g;rw[n] at e';cases e'
variable{α β γ δ:Type}{rel:Heap->List (Addr×Addr)->α->β->Prop}{zw:Heap->List (Addr×Addr)->γ->δ->Prop}{s:Shared}
section
variable{E:Q3}
theorem aB.at{r:Res α}{Q:β->Shared->Prop}(H:aB X l rel r s ρ Q E){aJ:Heap}{tk:Nat}{aM:Su}{aC:St}(S:Step X l uA s.heap ρ aJ aM aC):
  aB X l rel r {s with heap:=aJ,toks:=tk} aM Q E:=by
 cases r with
 |ok v σ'=>intro h' tk' cY x S' V;exact H h' tk' cY x (S.trans S') V
 |exc i σ'=>intro h' tk' cY p S' e F;exact H h' tk' cY p (S.trans S') e (F.from S)
 |bad=>exact H
theorem aB.step{r:Res α}{f:α->St->Res γ}{Q:δ->Shared->Prop}{Q1:β->Shared->Prop}(H:aB X l zw (r.bind f) s ρ Q E)
  (k:∀v aC aJ cj aM x,r= .ok v aC->Step X l uA s.heap ρ aJ aM aC->rel aJ aM v x->aB X l zw (f v aC) {s with heap:=aJ,toks:=cj} aM Q E->Q1 x {s with heap:=aJ,toks:=cj}):
  aB X l rel r s ρ Q1 E:=by
 cases r with
 |ok v σ'=>intro h' tk' cY x S' V;exact k v σ' h' tk' cY x Z S' V (aB.at H S')
 |exc i σ'=>exact H
 |bad=>exact H
end
def vC(env:Env)(h:Heap)(m:Str->Option Value)(x:Str)(w:zb2):Prop:=
 (env.kindOf x=some .local/\m x=w)\/((env.kindOf x=some .cell\/env.kindOf x=some .free)/\∃c,env.cells.lookup x=some c/\h.IsCell c w)
def LR(X:Ctx)(env:Env)(h:Heap)(ρ:Su)(slots:List (Str×Nat))(B:Loc):Prop:=
 ∃m,h.Ns env.locals m/\∀x i,(x,i)∈slots->∃w,vC env h m x w/\∀v,B[i]?=some v->v= .L\/∃r,w=some r/\VR X h ρ v r
structure Ok(X:Ctx)(hd:Bool)(d:Nat)(A:Around)(l:za7)(env:Env)(cx:Cx):Prop where
 frames:A.frames=some l
 Gg:∃env' outer,l=env'::outer/\env'.frame=env.frame
 kind:env.scope.kind= .function
 kinds:∀x k,look cx.kinds x=some k->k= .globalImplicit\/k= .cell->env.kindOf x=some k
 base:∀x i,(x,i)∈cx.slots->i<cx.base
 Qg:env.globals=mainGlobals
 QF:env.builtins=builtinsNs
 depth:A.depth+2*d<=500
 units:A.units+30*d<=9000
 once:∀x y i,(x,i)∈cx.slots->(y,i)∈cx.slots->x=y
 cells:∀x y c,env.cells.lookup x=some c->env.cells.lookup y=some c->x=y
def HO(A:Around)(hd:Bool)(h:Heap):Prop:=(hd=false->A.handled=none)/\(hd=true->∃e,A.handled=some (.ref e)/\j6 h e)
variable{hd:Bool}
theorem HO.step{A:Around}(q:HO A hd h)(S:Step X l ir h ρ aJ aM aC):HO A hd aJ:=
 ⟨q.1,λz=>let⟨e,a,b⟩:=q.2 z;(aZ e a (S.exc e b))⟩
structure At(X:Ctx)(hd:Bool)(A:Around)(l:za7)(env:Env)(cx:Cx)(h:Heap)(ρ:Su)(σ:St)(B:Loc):Prop where
 inv:Inv X l h ρ σ
 B:LR X env h ρ cx.slots B
 uf:¬foot ρ env.locals
 new:X.h₀.get? env.locals=none
 qj:HO A hd h
 JS:∀x c,env.cells.lookup x=some c->X.h₀.get? c=none
 wU:∀x c,env.cells.lookup x=some c->¬foot ρ c/\∃w,h.IsCell c w
variable{x:Str}
theorem o6{y:Str}:seq x y=true↔x=y:=by
 unfold seq;rw[beq_iff_eq]
 constructor
 .intro h;cases x;cases y;simp only at h;rw[Array.ext' h]
 .intro h;rw[h]
theorem jL{v:α}{l:List (Str×α)}(h:look l x=some v):(x,v)∈l:=by
 induction l with
 |nil=>cases h
 |cons p r ih=>
  have h:cond (seq p.1 x) (some p.2) (look r x)=some v:=h
  cases q:seq p.1 x with
  |true=>rw[q] at h;injection h with h;rw[<- h,<-o6.mp q];exact .head _
  |false=>rw[q] at h;exact .tail _ (ih h)
theorem I8{l:List (Str×α)}:look l x=l.lookup x:=by
 induction l with
 |nil=>rfl
 |cons p r ih=>
  show cond (seq p.1 x) (some p.2) (look r x)=match x==p.1 with|true=>some p.2|false=>r.lookup x
  rw[ih,show(x==p.1)=seq p.1 x by rw[qZ,o6,beq_iff_eq];exact⟨Eq.symm,Eq.symm⟩]
  cases seq p.1 x<;>rfl
variable{env:Env}{cx:Cx}{B:Loc}{slots:List (Str×Nat)}{hd:Bool}{d:Nat}{A:Around}
variable{a:Addr}
theorem Kg.ns(k:Kg ir h ρ aJ){m:Str->Option Value}(hn:h.Ns a m)(f:¬foot ρ a)(y:¬ir a):aJ.Ns a m:=by
 refine rC hn λo es ep ho xP hk hm=>?_
 rcases k a o ho f y with q|⟨_,sl,q⟩
 .exact(oG o es ep q xP hk hm)
 .exact(oG _ es ep q xP hk hm)
theorem Kg.cell(k:Kg ir h ρ aJ){c:Addr}{v:zb2}(hc:h.IsCell c v)(f:¬foot ρ c)(y:¬ir c):aJ.IsCell c v:=by
 refine bY hc λo ho xP=>?_
 rcases k c o ho f y with q|⟨_,sl,q⟩
 .exact(aZ o q xP)
 .exact(aZ _ q xP)
theorem Ext.lX(e:Ext h ρ aM)(f:¬foot ρ b)(g:h.get? b=some o):¬foot aM b:=λq=>by
 rcases e.2.2 b q with q|q
 .exact f q
 .rw[g] at q;cases q
theorem LR.to(H:LR X env h ρ slots B)(kn:∀m,h.Ns env.locals m->aJ.Ns env.locals m)(kc:∀x c w,env.cells.lookup x=some c->h.IsCell c w->aJ.IsCell c w)(st:Still h aJ)(re:jF ρ aM):LR X env aJ aM slots B:=by
 obtain⟨m,hn,hl⟩:=H;refine(aZ m (kn m hn) (λx i hx=>?_));obtain⟨w,N,hv⟩:=hl x i hx;refine(aZ w ?_ (λv e=>?_))
 .rcases N with q|⟨k,c,hc,jM⟩
  .exact .inl q
  .exact .inr ⟨k,c,hc,kc x c w hc jM⟩
 .rcases hv v e with q|⟨r,q1,q2⟩
  .exact .inl q
  .exact .inr (aZ r q1 (VR.mono st re _ _ q2))
theorem At.step(a:At X hd A l env cx h ρ σ B)(S:Step X l uA h ρ aJ aM aC):At X hd A l env cx aJ aM aC B:=by have kc:∀x c w,env.cells.lookup x=some c->h.IsCell c w->aJ.IsCell c w:=λx c w hc q=>S.keep.cell q (a.wU x c hc).1 id;obtain⟨m,⟨oL,_,_,hL,_⟩,_⟩:=a.B;refine⟨S.inv,a.B.to (λm hn=>S.keep.ns hn a.uf id) kc (S.iD a.inv (λ_ _ y _=>y.elim)) S.ext.1,S.ext.lX a.uf hL,a.new,a.qj.step S,a.JS,λx c hc=>?_⟩;obtain⟨f,w,hw⟩:=a.wU x c hc;exact⟨S.ext.lX f hw.choose_spec.1,w,kc x c w hc hw⟩
variable{fs:TZ}
set_option tactic.hygienic true in
theorem NP.mono{m:Str->Option Value}(st:Still h aJ)(e:jF ρ aM)(q:NP X h ρ fs m):NP X aJ aM fs m:=by
 intro n hn;have:=q n hn
 split
 .rename_i v hv
  rw[hv] at this;refine bY this λr a b=>?_;exact(aZ r a (VR.mono st e v r b))
 .rename_i hv
  rw[hv] at this;exact this
theorem jB.mono{d:Addr}{es:YR}(k:∀o,h.get? d=some o->aJ.get? d=some o)(st:Still h aJ)(e:jF ρ aM)(q:jB X h ρ d es):jB X aJ aM d es:=by
 cases q with
 |kI jm a b c=>exact .kI jm (a.at k) b (cA.mono st e _ _ c)
 |kS jm a b c=>exact .kS jm (a.at k) b (cA.mono st e _ _ c)
 |kT xs a b c=>refine JB a λo es' ep ho hc hd he hk hn=>?_;refine .kT xs (Gw o es' ep (k _ ho) hc hd he (λx hx=>?_) hn) b (cA.mono st e _ _ c);refine rC (hk x hx) λok items n h1 h2 h3 h4=>?_;exact(oG ok items n (st _ _ h1 (by unfold iD;rw[h2,h3];rfl)) h2 h3 h4)
theorem Ns1.at{m:Str->Option Value}(q:h.Ns1 a m)(k:∀o,h.get? a=some o->aJ.get? a=some o):aJ.Ns1 a m:=by refine eW q λo es ep ho r=>?_;exact(yN o es ep (k o ho) r)
theorem tM.mono{d:Addr}(k:∀o,h.get? d=some o->aJ.get? d=some o)(st:Still h aJ)(e:jF ρ aM)(q:tM X h ρ fs d):tM X aJ aM fs d:=by obtain⟨m,a,b,c,od,x,y⟩:=q;exact⟨m,Ns1.at a k,b.mono st e,c,od,k _ x,y⟩
variable{c:Nat}
theorem Kl.mono{P:Array Value->Prop}(k1:∀o,h.get? p.1=some o->aJ.get? p.1=some o)(k2:∀o,h.get? p.2=some o->aJ.get? p.2=some o)(st:Still h aJ)(e:jF ρ aM)(q:Kl X h ρ p c fs P):Kl X aJ aM p c fs P:=by obtain⟨cs,hl,ox,vs,a,b,c1,c2,f⟩:=q;exact⟨cs,hl,ox,vs,k1 _ a,b,c1,c2,f.imp id λf=>(jW f.1 f.2.1 (f.2.2.mono k2 st e))⟩
theorem OR.mono{o:AO}(k1:∀o,h.get? p.1=some o->aJ.get? p.1=some o)(k2:∀o,h.get? p.2=some o->aJ.get? p.2=some o)(st:Still h aJ)(e:jF ρ aM)
  (q:OR X h ρ p o):OR X aJ aM p o:=by
 cases o with
 |list l=>obtain⟨a,b,vs,n,c,d⟩:=q;exact⟨a,b,vs,n,k1 _ c,cA.mono st e _ _ d⟩
 |dict es=>exact(jW q.1 q.2.1 (q.2.2.mono k1 st e))
 |set l=>refine(jW q.1 q.2.1 ?_);refine Tc q.2.2 λo es ep t ho r=>?_;exact(WQ o es ep t (k1 _ ho) r)
 |inst c fs=>obtain⟨cs,hl,ox,a,b,c1,d,f⟩:=q;exact⟨cs,hl,ox,k1 _ a,b,c1,d,f.mono k2 st e⟩
 |exc c fs=>exact Kl.mono k1 k2 st e q
 |up c fs=>exact Kl.mono k1 k2 st e q
theorem Kh.same(q:Kh X h env)(k:∀b o,h.get? b=some o->o.cls= .type "frame"->aJ.get? b=some o):Kh X aJ env:=by obtain⟨a,CE,o,es,n,b,c,d,e,f⟩:=q;exact⟨a,CE,o,es,n,b,c,k CE o d e,e,f⟩
theorem eF(k:∀b o,h.get? b=some o->aJ.get? b=some o):Still h aJ:=λb o e _=>k b o e
theorem Inv.keeps(I:Inv X l h ρ σ)(k:∀b o,h.get? b=some o->aJ.get? b=some o):Inv X l aJ ρ σ where
 low b o e:=k b o (I.low b o e)
 len:=I.len
 objs i p o a b:=(I.objs i p o a b).mono (λo e=>k _ o e) (λo e=>k _ o e) (eF k) (jF.refl _)
 there p hp:=by refine oK (I.there p hp) λo o' a b c d=>?_;exact(rA o o' (k _ _ a) b (k _ _ c) d)
 apart:=I.apart
 new:=I.new
 SQ env he:=(I.SQ env he).same λb o e _=>k b o e
theorem Step.keeps(I:Inv X l h ρ σ)(k:∀b o,h.get? b=some o->aJ.get? b=some o):Step X l ir h ρ aJ ρ σ:=
 ⟨I.keeps k,λb o e _ _=>.inl (k b o e),Ext.refl _ _,λb o e=>⟨o,k b o e⟩,λb ⟨o,vs,e,r⟩=>(dK o vs (k b o e) r)⟩
variable{o1 o2:Obj}
theorem Inv.adopt(I:Inv X l h ρ σ){o:AO}(e1:h.get? p.1=some o1)(t1:tracked o1=true)(e2:h.get? p.2=some o2)(t2:tracked o2=true)
  (n1:¬foot ρ p.1) (n2:¬foot ρ p.2) (m1:X.h₀.get? p.1=none/\(p.1==sysModules)=false) (m2:X.h₀.get? p.2=none/\(p.2==sysModules)=false) (q:OR X h (ρ++[p]) p o):Inv X l h (ρ++[p]) (σ++[o]):=by
 have ex:∀(i:Nat) r,ρ[i]?=some r->(ρ++[p])[i]?=some r:=λi r e=>by rw[oX (zb6 e).1];exact e
 have ne:∀r∈ρ,p.1≠r.1/\p.1≠r.2/\p.2≠r.1/\p.2≠r.2:=λr hr=>
  (Jf (λz=>n1 (aZ r hr (.inl z))) (λz=>n1 (aZ r hr (.inr z))) (λz=>n2 (aZ r hr (.inl z))) (λz=>n2 (aZ r hr (.inr z))))
 refine⟨I.low,by rw[bW,bW,I.len];rfl,λi r o' a b=>?_,λr hr=>?_,λi j r q' cq a b=>?_,λb hb=>?_,I.SQ⟩
 .by_cases hi:i<ρ.length
  .rw[oX hi] at a;rw[oX (I.len▸hi)] at b;exact(I.objs i r o' a b).mono (λo e=>e) (λo e=>e) (eF λ_ _ e=>e) (.of ex)
  .have hi':i=ρ.length:=by have:=(zb6 a).1;rw[bW,List.length_singleton] at this;exact zA (Nat.le_of_lt_succ this) (iW hi)
   subst hi';rw[iz (bR _),jy] at a;rw[I.len,iz (bR _),jy] at b
   cases a;cases b;exact q
 .rcases List.mem_append.mp hr with hr|hr
  .exact I.there r hr
  .rw[Df] at hr;subst hr;exact(rA o1 o2 e1 t1 e2 t2)
 .have cs:∀(i:Nat) r,(ρ++[p])[i]?=some r->(i<ρ.length/\ρ[i]?=some r)\/(i=ρ.length/\r=p):=λi r a=>by
   by_cases hi:i<ρ.length
   .rw[oX hi] at a;exact .inl ⟨hi,a⟩
   .have hi':i=ρ.length:=by have:=(zb6 a).1;rw[bW,List.length_singleton] at this;exact zA (Nat.le_of_lt_succ this) (iW hi)
    subst hi';rw[iz (bR _),jy] at a
    cases a;exact .inr ⟨Z,Z⟩
  rcases cs i r a with⟨_,a'⟩|⟨hi1,ET⟩<;>rcases cs j q' b with⟨_,b'⟩|⟨BS,rS⟩
  .exact I.apart i j r q' cq a' b'
  .subst rS;have:=ne r (gq a');exact(Jf (Ne.symm this.1) (Ne.symm this.2.2.1) (Ne.symm this.2.1) (Ne.symm this.2.2.2))
  .subst ET;exact ne q' (gq b')
  .exact absurd (hi1.trans BS.symm) cq
 .rcases nW.mp hb with hb|hb
  .exact I.new b hb
  .refine bY hb λr hr hbb=>?_;rw[Df] at hr;subst hr
   rcases hbb with w|w
   .rw[w];exact m1
   .rw[w];exact m2
theorem Inv.qO(I:Inv X l h ρ σ)(f:foot ρ b):∃o,h.get? b=some o:=by
 refine bY f λr hr w=>?_;refine oK (I.there r hr) λo o' a _ c _=>?_
 rcases w with w|w
 .exact⟨o,w▸a⟩
 .exact⟨o',w▸c⟩
theorem Step.alloc(I:Inv X l h ρ σ)(k:∀b o,h.get? b=some o->aJ.get? b=some o){o:AO}(e1:aJ.get? p.1=some o1)(t1:tracked o1=true)(e2:aJ.get? p.2=some o2)(t2:tracked o2=true)
  (n1:h.get? p.1=none) (n2:h.get? p.2=none) (m1:(p.1==sysModules)=false) (m2:(p.2==sysModules)=false) (q:OR X aJ (ρ++[p]) p o):Step X l ir h ρ aJ (ρ++[p]) (σ++[o]):=by
 have nf:∀a,h.get? a=none->¬foot ρ a:=λa n f=>by obtain⟨o,e⟩:=I.qO f;rw[n] at e;cases e
 have nn:∀a,h.get? a=none->X.h₀.get? a=none:=λa n=>by
  cases g:X.h₀.get? a with
  |none=>rfl
  |some o=>have:=I.low a o g;rw[n] at this;cases this
 refine⟨(I.keeps k).adopt e1 t1 e2 t2 (nf _ n1) (nf _ n2) ⟨nn _ n1,m1⟩ ⟨nn _ n2,m2⟩ q,λb o e _ _=>.inl (k b o e),(jW (jF.app _ _) (λb f=>nW.mpr (.inl f)) (λb f=>?_)),λb o e=>⟨o,k b o e⟩,λb ⟨o,vs,e,r⟩=>(dK o vs (k b o e) r)⟩
 rcases nW.mp f with f|f
 .exact .inl f
 refine bY f λr hr hb=>?_;rw[Df] at hr;subst hr
 rcases hb with hb|hb
 .rw[hb];exact .inr n1
 .rw[hb];exact .inr n2
variable{i:Nat}
theorem Step.update(I:Inv X l h ρ σ){o:AO}(hp:ρ[i]?=some p)(ha:a=p.1\/a=p.2)(k:Heap.SameBut a h aJ)(xk:j6 h a->j6 aJ a)(e1:aJ.get? p.1=some o1)(t1:tracked o1=true)(e2:aJ.get? p.2=some o2)(t2:tracked o2=true)
  (q:OR X aJ ρ p o):Step X l ir h ρ aJ ρ (σ.set i o):=by
 have fa:foot ρ a:=(aZ p (gq hp) ha)
 obtain⟨oa,IB,FF⟩:∃o,h.get? a=some o/\tracked o=true:=by
  refine oK (I.there p (gq hp)) λo o' x1 x2 x3 x4=>?_
  rcases ha with rfl|rfl
  .exact(aZ o x1 x2)
  .exact(aZ o' x3 x4)
 have ot:∀b,b≠a->∀o,h.get? b=some o->aJ.get? b=some o:=λb hb o e=>(k.2 b hb).trans e
 have nt:∀b o,h.get? b=some o->tracked o=false->b≠a:=λb o e t z=>by subst z;rw[IB] at e;cases e;rw[FF] at t;cases t
 have st:Still h aJ:=λb o e t=>ot b (nt b o e (iR t).1) o e;refine⟨⟨λb o e=>?_,by rw[I.len,fB],λj r o' x y=>?_,λr hr=>?_,I.apart,I.new,λenv he=>(I.SQ env he).same λb o e c=>ot b (nt b o e (by unfold tracked;rw[c];decide)) o e⟩,λb o e f _=>.inl (ot b (λz=>f (z▸fa)) o e),Ext.refl _ _,λb o e=>?_,λb e=>?_⟩
 .refine ot b (λz=>?_) o (I.low b o e);have:=(I.new a fa).1;rw[<- z,e] at this;cases this
 .by_cases hj:i=j
  .subst hj;rw[hp] at x;cases x;rw[iy (by rw[<- I.len];exact(zb6 hp).1)] at y
   cases y;exact q
  .rw[jX hj] at y;have ap:=I.apart i j p r hj hp x;refine(I.objs j r o' x y).mono (ot _ ?_) (ot _ ?_) st (jF.refl _)
   .rcases ha with rfl|rfl
    .exact Ne.symm ap.1
    .exact Ne.symm ap.2.2.1
   .rcases ha with rfl|rfl
    .exact Ne.symm ap.2.1
    .exact Ne.symm ap.2.2.2
 .by_cases Nn:r=p
  .subst Nn;exact(rA o1 o2 e1 t1 e2 t2)
  .obtain⟨j,hj⟩:=List.getElem?_of_mem hr;have cq:i≠j:=λz=>by subst z;rw[hp] at hj;cases hj;exact Nn Z
   have ap:=I.apart i j p r cq hp hj;refine oK (I.there r hr) λo o' x1 x2 x3 x4=>?_;refine(rA o o' (ot _ ?_ _ x1) x2 (ot _ ?_ _ x3) x4)
   .rcases ha with rfl|rfl
    .exact Ne.symm ap.1
    .exact Ne.symm ap.2.2.1
   .rcases ha with rfl|rfl
    .exact Ne.symm ap.2.1
    .exact Ne.symm ap.2.2.2
 .by_cases hb:b=a
  .subst hb
   rcases ha with rfl|rfl
   .exact⟨o1,e1⟩
   .exact⟨o2,e2⟩
  .exact⟨o,ot b hb o e⟩
 .by_cases hb:b=a
  .subst hb;exact xk e
  .refine gH e λo vs e r=>?_;exact(dK o vs (ot b hb o e) r)
theorem km(I:Inv X l h ρ σ)(hp:ρ[i]?=some p)(ha:a=p.1\/a=p.2)(k:Heap.SameBut a h aJ):Still h aJ:=by
 obtain⟨oa,IB,FF⟩:∃o,h.get? a=some o/\tracked o=true:=by
  refine oK (I.there p (gq hp)) λo o' x1 x2 x3 x4=>?_
  rcases ha with rfl|rfl
  .exact(aZ o x1 x2)
  .exact(aZ o' x3 x4)
 intro b o e t';have t:=(iR t').1;refine(k.2 b λz=>?_).trans e;subst z;rw[IB] at e;cases e;rw[FF] at t;cases t
theorem cA.length:∀{a:Th} {v:Tu},cA X h ρ a v->v.length=a.length
 |[],_,q=>by rw[show _=[] from q];rfl
 |_::_,_,q=>by obtain⟨v,r,rfl,_,q2⟩:=q;rw[dC,dC,cA.length q2]
theorem cA.get:∀{a:Th} {v:Tu} {i:Nat} {x:U},cA X h ρ a v->a[i]?=some x->∃r,v[i]?=some r/\VR X h ρ x r
 |[],_,_,_,_,e=>by simp at e
 |a::l,_,0,x,q,e=>by
  obtain⟨v,r,rfl,q1,_⟩:=q
  cases e;exact(aZ v Z q1)
 |a::l,_,i+1,x,q,e=>by obtain⟨v,r,rfl,_,q2⟩:=q;rw[rJ] at e;refine bY (cA.get q2 e) λr' e' q'=>?_;exact(aZ r' (by rw[rJ];exact e') q')
theorem cA.append:∀{a b:Th} {v w:Tu},cA X h ρ a v->cA X h ρ b w->cA X h ρ (a++b) (v++w)
 |[],_,_,_,q,r=>by rw[show _=[] from q];exact r
 |a::l,b,_,_,q,r=>by obtain⟨v,u,rfl,q1,q2⟩:=q;exact(gn v (u++_) Z q1 (cA.append q2 r))
theorem cA.nil:cA X h ρ [] []:=rfl
theorem cA.cons{a:U}{l:Th}{v:Value}{r:Tu}(q:VR X h ρ a v)(q2:cA X h ρ l r):cA X h ρ (a::l) (v::r):=(gn v r Z q q2)
theorem cA.set:∀{a:Th} {v:Tu} {i:Nat} {x:U} {r:Value},cA X h ρ a v->VR X h ρ x r->cA X h ρ (a.set i x) (v.set i r)
 |[],_,_,_,_,q,_=>by rw[show _=[] from q];exact Z
 |a::l,_,0,_,_,q,e=>by obtain⟨v,r,rfl,_,q2⟩:=q;exact(gn _ _ Z e q2)
 |a::l,_,i+1,_,_,q,e=>by obtain⟨v,r,rfl,q1,q2⟩:=q;exact(gn _ _ Z q1 (cA.set q2 e))
theorem cA.take:∀{a:Th} {v:Tu} (n:Nat),cA X h ρ a v->cA X h ρ (a.take n) (v.take n)
 |[],_,n,q=>by rw[show _=[] from q];simp;exact Z
 |a::l,_,0,q=>rfl
 |a::l,_,n+1,q=>by obtain⟨v,r,rfl,q1,q2⟩:=q;exact(gn _ _ Z q1 (cA.take n q2))
theorem cA.drop:∀{a:Th} {v:Tu} (n:Nat),cA X h ρ a v->cA X h ρ (a.drop n) (v.drop n)
 |[],_,n,q=>by rw[show _=[] from q];simp;exact Z
 |a::l,_,0,q=>q
 |a::l,_,n+1,q=>by obtain⟨v,r,rfl,q1,q2⟩:=q;exact cA.drop n q2
theorem cA.reverse:∀{a:Th} {v:Tu},cA X h ρ a v->cA X h ρ a.reverse v.reverse
 |[],_,q=>by rw[show _=[] from q];exact Z
 |a::l,_,q=>by obtain⟨v,r,rfl,q1,q2⟩:=q;rw[List.reverse_cons,List.reverse_cons];exact cA.append (cA.reverse q2) (gn v ([]) Z q1 Z)
structure vB(X:Ctx)(G:za4)(Nm:za3):Prop where
 glob:∃mg mb,X.h₀.Ns mainGlobals mg/\X.h₀.Ns builtinsNs mb/\∀x v,look G x=some v->∃r,(mg x=some r\/(mg x=none/\mb x=some r))/\VR X X.h₀ [] v r
 pX:X.h₀.NoLimit
 nm:∀a k,place Nm a 0=some k->X.nm k=a/\k<X.nn
 inj:∀i j,i<X.nn->j<X.nn->X.nm i=X.nm j->i=j
 Jo:X.K.In X.h₀
def uo(X:Ctx)(G:za4)(Nm:za3)(T:Tab)(Φ:iC)(d n:Nat):Prop:=
 ∀(hd:Bool) (A:Around) (l:za7) (env:Env) (cx:Cx) (e:Expr) (B:Loc) (s:Shared) (ρ:Su) (σ:St) (Q:Q3) (E:Q3),Ok X hd d A l env cx->At X hd A l env cx s.heap ρ σ B->aB X l (VR X) (aV T Φ hd (cE G Nm n cx e) B σ) s ρ Q E->wpAny X.M A (eval e env) Q E s
def Ke(X:Ctx)(Φ:iC)(d:Nat):Prop:=
 ∀(hd:Bool) (f:Nat) (as:Th) (σ:St) (A:Around) (l:za7) (s:Shared) (ρ:Su) (vs:Tu) (Q:Q3) (E:Q3),A.frames=some l->HO A hd s.heap->A.depth+2*d<=500->A.units+30*d<=9000->Inv X l s.heap ρ σ->cA X s.heap ρ as vs->
  aB X l (VR X) (Φ hd f as σ) s ρ Q E->wpAny X.M A (call (.ref (X.fa f)) vs) Q E s
variable{G:za4}{Nm:za3}{T:Tab}{Φ:iC}{n:Nat}{Q:Q3}
section
variable{E:Q3}
theorem aB.val{α β:Type}{rel:Heap->List (Addr×Addr)->α->β->Prop}{v:α}{x:β}{Q:β->Shared->Prop}{tk:Nat}(I:Inv X l s.heap ρ σ)(H:aB X l rel (.ok v σ) s ρ Q E)(V:rel s.heap ρ v x):
  Q x {s with toks:=tk}:=H s.heap tk ρ x (Step.refl I) V
theorem aB.q9{α β:Type}{rel:Heap->List (Addr×Addr)->α->β->Prop}{v:α}{x:β}{Q:β->Shared->Prop}(I:Inv X l s.heap ρ σ)(H:aB X l rel (.ok v σ) s ρ Q E)(V:rel s.heap ρ v x):
  Q x s:=H s.heap s.toks ρ x (Step.refl I) V
section
variable{β:Type}{z:β}{P:β->Prop}{a:U}{o:zb1}{G:Prop}(nz:P z->False)
include nz
theorem ni{f:Int->β}(H:P (fM z a f))(k:∀n,a= .int n->P (f n)->G):G:=by cases a<;>first|exact k _ Z H|exact(nz H).elim
theorem ud{f:List Nat->β}(H:P (q8 z a f))(k:∀n,a= .str n->P (f n)->G):G:=by cases a<;>first|exact k _ Z H|exact(nz H).elim
theorem QQ{f:List U->β}(H:P (J7 z a f))(k:∀n,a= .tup n->P (f n)->G):G:=by cases a<;>first|exact k _ Z H|exact(nz H).elim
theorem ue{f:Nat->β}(H:P (lO z a f))(k:∀n,a= .ref n->P (f n)->G):G:=by cases a<;>first|exact k _ Z H|exact(nz H).elim
theorem wX{f:Bool->β}(H:P (lB z a f))(k:∀n,a= .bool n->P (f n)->G):G:=by cases a<;>first|exact k _ Z H|exact(nz H).elim
theorem J8{f:β}(H:P (BL z a f))(k:a= .none->P f->G):G:=by cases a<;>first|exact k Z H|exact(nz H).elim
theorem yE{f:List U->β}(H:P (J9 z o f))(k:∀l,o=some (.list l)->P (f l)->G):G:=by
 cases o with
 |none=>exact(nz H).elim
 |some o=>cases o<;>first|exact k _ Z H|exact(nz H).elim
theorem DJ{f:List (U×U)->β}(H:P (DL z o f))(k:∀l,o=some (.dict l)->P (f l)->G):G:=by
 cases o with
 |none=>exact(nz H).elim
 |some o=>cases o<;>first|exact k _ Z H|exact(nz H).elim
theorem gi{f:List Int->β}(H:P (Yx z o f))(k:∀l,o=some (.set l)->P (f l)->G):G:=by
 cases o with
 |none=>exact(nz H).elim
 |some o=>cases o<;>first|exact k _ Z H|exact(nz H).elim
theorem jZ{α:Type}{o:Option α}{f:α->β}(H:P (ig z o f))(k:∀a,o=some a->P (f a)->G):G:=by cases o<;>first|exact k _ Z H|exact(nz H).elim
theorem lF{c:Bool}{r:β}(H:P (gd z c r))(k:c=true->P r->G):G:=by cases c<;>first|exact k Z H|exact(nz H).elim
theorem Nx{α:Type}{as:List α}{f:β}(H:P (tK z as f))(k:as=[]->P f->G):G:=by cases as<;>first|exact k Z H|exact(nz H).elim
theorem pG{α:Type}{as:List α}{f:α->β}(H:P (iM z as f))(k:∀a,as=[a]->P (f a)->G):G:=by
 rcases as with _|⟨a,_|⟨b,as⟩⟩<;>first|exact k _ Z H|exact(nz H).elim
theorem YB{α:Type}{as:List α}{f:α->α->β}(H:P (CV z as f))(k:∀a b,as=[a,b]->P (f a b)->G):G:=by
 rcases as with _|⟨a,_|⟨b,_|⟨c,as⟩⟩⟩<;>first|exact k _ _ Z H|exact(nz H).elim
end
section
variable{h:Heap}{x:Value}{a b:U}{vs:Tu}{motive:Value->Prop}{m:List Value->Prop}
@[elab_as_elim] theorem VR.int{i:Int}(V:VR X h ρ (.int i) x)(k:∀t,motive (.int i t)):motive x:=by obtain⟨t,rfl⟩:=V;exact k t
@[elab_as_elim] theorem VR.str{w:Sa}(V:VR X h ρ (.str w) x)(k:∀t,w.length<=LL->motive (.str ⟨w.toArray⟩ t)):motive x:=by obtain⟨q,t,rfl⟩:=V;exact k t q
@[elab_as_elim] theorem VR.tup{w:Th}(V:VR X h ρ (.tup w) x)(k:∀a vs n,w.length<=LL->IsT h a vs.toArray n->cA X h ρ w vs->motive (.ref a)):motive x:=by obtain⟨q,a,vs,n,rfl,q1,q2⟩:=V;exact k a vs n q q1 q2
@[elab_as_elim] theorem VR.ref{i:Nat}(V:VR X h ρ (.ref i) x)(k:∀p,ρ[i]?=some p->motive (.ref p.1)):motive x:=by obtain⟨p,hp,rfl⟩:=V;exact k p hp
@[elab_as_elim] theorem VR.bool{i:Bool}(V:VR X h ρ (.bool i) x)(k:motive (.bool i)):motive x:=by rw[show x= .bool i from V];exact k
@[elab_as_elim] theorem VR.none(V:VR X h ρ .none x)(k:motive .none):motive x:=by rw[show x= .none from V];exact k
@[elab_as_elim] theorem cA.zero(W:cA X h ρ [] vs)(k:m []):m vs:=by rw[show vs=[] from W];exact k
@[elab_as_elim] theorem cA.one(W:cA X h ρ [a] vs)(k:∀v,VR X h ρ a v->m [v]):m vs:=by obtain⟨v,r,rfl,V,e⟩:=W;rw[show r=[] from e];exact k v V
@[elab_as_elim] theorem cA.two(W:cA X h ρ [a,b] vs)(k:∀v w,VR X h ρ a v->VR X h ρ b w->m [v,w]):m vs:=by obtain⟨v,r,rfl,V,e⟩:=W;exact e.one λw vc=>k v w V vc
end
section
variable{γ δ:Type}{R:Heap->List (Addr×Addr)->γ->δ->Prop}{Q:δ->Shared->Prop}{h:Heap}{cY:Su}{x:Value}{a:U}{as:Th}{vs:Tu}{motive:Value->Prop}{m:List Value->Prop}{G:Prop}{i:Nat}{p:Addr×Addr}
theorem aB.ig{α:Type}{o:Option α}{f:α->Res γ}(H:aB X l R (ig .bad o f) s ρ Q E)(k:∀a,o=some a->aB X l R (f a) s ρ Q E->G):G:=jZ (P:=λr=>aB X l R r s ρ Q E) id H k
theorem aB.gd{c:Bool}{r:Res γ}(H:aB X l R (gd .bad c r) s ρ Q E)(k:c=true->aB X l R r s ρ Q E->G):G:=lF (P:=λr=>aB X l R r s ρ Q E) id H k
@[elab_as_elim] theorem aB.int{f:Int->Res γ}(V:VR X h cY a x)(H:aB X l R (fM .bad a f) s ρ Q E)(k:∀n t,aB X l R (f n) s ρ Q E->motive (.int n t)):motive x:=
 ni (P:=λr=>aB X l R r s ρ Q E) id H λn e H=>by subst e;exact V.int λt=>k n t H
@[elab_as_elim] theorem aB.str{f:List Nat->Res γ}(V:VR X h cY a x)(H:aB X l R (q8 .bad a f) s ρ Q E)(k:∀w t,w.length<=LL->aB X l R (f w) s ρ Q E->motive (.str ⟨w.toArray⟩ t)):motive x:=
 ud (P:=λr=>aB X l R r s ρ Q E) id H λn e H=>by subst e;exact V.str λt q=>k n t q H
@[elab_as_elim] theorem aB.ref{f:Nat->Res γ}(V:VR X h cY a x)(H:aB X l R (lO .bad a f) s ρ Q E)(k:∀i p,cY[i]?=some p->aB X l R (f i) s ρ Q E->motive (.ref p.1)):motive x:=
 ue (P:=λr=>aB X l R r s ρ Q E) id H λn e H=>by subst e;exact V.ref λp hp=>k n p hp H
@[elab_as_elim] theorem aB.bool{f:Bool->Res γ}(V:VR X h cY a x)(H:aB X l R (lB .bad a f) s ρ Q E)(k:∀b,aB X l R (f b) s ρ Q E->motive (.bool b)):motive x:=
 wX (P:=λr=>aB X l R r s ρ Q E) id H λn e H=>by subst e;exact V.bool (k n H)
@[elab_as_elim] theorem aB.none{f:Res γ}(V:VR X h cY a x)(H:aB X l R (BL .bad a f) s ρ Q E)(k:aB X l R f s ρ Q E->motive .none):motive x:=
 J8 (P:=λr=>aB X l R r s ρ Q E) id H λe H=>by subst e;exact V.none (k H)
@[elab_as_elim] theorem aB.tK{f:Res γ}(W:cA X h cY as vs)(H:aB X l R (tK .bad as f) s ρ Q E)(k:aB X l R f s ρ Q E->m []):m vs:=
 Nx (P:=λr=>aB X l R r s ρ Q E) id H λe H=>by subst e;exact W.zero (k H)
@[elab_as_elim] theorem aB.iM{f:U->Res γ}(W:cA X h cY as vs)(H:aB X l R (iM .bad as f) s ρ Q E)(k:∀a v,VR X h cY a v->aB X l R (f a) s ρ Q E->m [v]):m vs:=
 pG (P:=λr=>aB X l R r s ρ Q E) id H λa e H=>by subst e;exact W.one λv V=>k a v V H
@[elab_as_elim] theorem aB.CV{f:U->U->Res γ}(W:cA X h cY as vs)(H:aB X l R (CV .bad as f) s ρ Q E)(k:∀a b v w,VR X h cY a v->VR X h cY b w->aB X l R (f a b) s ρ Q E->m [v,w]):m vs:=
 YB (P:=λr=>aB X l R r s ρ Q E) id H λa b e H=>by subst e;exact W.two λv w V vc=>k a b v w V vc H
theorem aB.list{f:List U->Res γ}(I:Inv X l s.heap ρ σ)(hp:ρ[i]?=some p)(H:aB X l R (J9 .bad σ[i]? f) s ρ Q E)
  (k:∀ls vs n,p.2=p.1->ls.length<=LL->IsL s.heap p.1 vs.toArray n->cA X s.heap ρ ls vs->vs.length=ls.length->aB X l R (f ls) s ρ Q E->G):G:=
 yE (P:=λr=>aB X l R r s ρ Q E) id H λls e H=>by obtain⟨a,b,vs,n,c,d⟩:=I.objs i p _ hp e;exact k ls vs n a b c d (cA.length d) H
theorem aB.dict{f:List (U×U)->Res γ}(I:Inv X l s.heap ρ σ)(hp:ρ[i]?=some p)(H:aB X l R (DL .bad σ[i]? f) s ρ Q E)
  (k:∀es,p.2=p.1->es.length<=LL->jB X s.heap ρ p.1 es->(p.1==sysModules)=false->aB X l R (f es) s ρ Q E->G):G:=
 DJ (P:=λr=>aB X l R r s ρ Q E) id H λes e H=>by refine MN (I.objs i p _ hp e) λa b c=>?_;exact k es a b c (I.new p.1 (gB (gq hp))).2 H
theorem aB.Tf{v:U}{Q:Q3}(H:aB X l (VR X) (Tf v σ) s ρ Q E):aB X l (VR X) (.ok v σ) s ρ Q E:=by cases v<;>first|exact H|exact H.elim
end
theorem snd_const{c:Const}{k:Nat}{pos:Pos}(a:At X hd A l env cx s.heap ρ σ B)(H:aB X l (VR X) (aV T Φ hd (Ye c) B σ) s ρ Q E):wpAny X.M A (eval (.Constant c k pos) env) Q E s:=by
 rw[eval_Constant]
 cases c with
 |none=>exact cF (H.q9 a.inv Z)
 |bool b=>exact cF (H.q9 a.inv Z)
 |int i=>exact wpAny_mkInt (H.val a.inv ⟨_,Z⟩)
 |str x=>
  refine lF (P:=λe=>aB X l (VR X) (aV T Φ hd e B σ) s ρ Q E) id H λq H=>?_;refine wpAny_mkText (aB.val a.inv H ⟨?_,s.toks,?_⟩)
  .rw[Array.length_toList];unfold LL;exact bO (eY q) (dl Z)
  .cases x;rfl
 |_=>exact H.elim
theorem FZ{x y:Str}(h:seq x y=false):(x==y)=false:=by refine zb4 λe=>?_;rw[o6.mpr e] at h;cases h
theorem or_false{a b:Bool}(h:(a||b)=false):a=false/\b=false:=by cases a<;>first|exact⟨Z,h⟩|cases h
theorem Zo{x:Str}{i:Nat}(ok:Ok X hd d A l env cx)(a:At X hd A l env cx s.heap ρ σ B)(hx:(x,i)∈cx.slots)(hn:O3 x=false)(H:aB X l (VR X) (aV T Φ hd (.B i) B σ) s ρ Q E):wpAny X.M A (loadName env x) Q E s:=by
 refine bY a.B λm Eb hl=>?_;refine bY (hl x i hx) λw N hv=>?_;rw[GX] at H;refine H.ig λv hg H=>?_
 rcases hv v hg with rfl|⟨r,rfl,V⟩
 .exact H.elim
 .have q:=H.Tf.q9 a.inv V
  rcases N with⟨k,hm⟩|⟨k|k,c,hc,jM⟩
  .exact wpAny_loadName_local ok.kind k Eb hm q
  .exact wpAny_loadName_cell ok.kind k hc jM q
  .exact wpAny_loadName_free ok.kind k hc jM q (FZ (or_false hn).2)
theorem H5{x:Str}{v:U}{pos:Pos}(S:vB X G Nm)(ok:Ok X hd d A l env cx)(a:At X hd A l env cx s.heap ρ σ B)(cw:(x==("__debug__":Str))=false)(hk:look cx.kinds x=some .globalImplicit)(hv:look G x=some v)
  (q:∀r,VR X s.heap ρ v r->Q r s):wpAny X.M A (eval (.Name x pos) env) Q E s:=by
 refine gZ S.glob λmg mb hg hb hG=>?_;refine bY (hG x v hv) λr hr V=>?_;have q:=q r (VR.mono (λb o e _=>a.inv.low b o e) (.of λi p hp=>by cases(hp)) v r V);refine Name_function_global ok.kind (ok.kinds x _ hk (.inl Z)) ?_ cw;unfold loadGlobal;rw[ok.Qg,ok.QF];refine aU (wpAny_nsGet (hg.keeps a.inv.low) ?_)
 rcases hr with hr|⟨h1,h2⟩
 .rw[hr];exact cF q
 .rw[h1];refine aU (wpAny_nsGet (hb.keeps a.inv.low) ?_);rw[h2];exact cF q
theorem UW{x:Str}{pos:Pos}(S:vB X G Nm)(ok:Ok X hd d A l env cx)(a:At X hd A l env cx s.heap ρ σ B)(H:aB X l (VR X) (aV T Φ hd (BK G cx x) B σ) s ρ Q E):wpAny X.M A (eval (.Name x pos) env) Q E s:=by
 refine lF (P:=λe=>aB X l (VR X) (aV T Φ hd e B σ) s ρ Q E) id H λJi H=>?_;have Ji:=vM _▸Ji;have cw:=FZ (or_false Ji).1
 cases hi:look cx.slots x with
 |some i=>rw[hi] at H;exact wpAny_Name (Zo ok a (jL hi) Ji H) cw
 |none=>rw[hi] at H;refine jZ (o:=look cx.kinds x) (P:=λe=>aB X l (VR X) (aV T Φ hd e B σ) s ρ Q E) id H λk hk H=>?_;refine lF (P:=λe=>aB X l (VR X) (aV T Φ hd e B σ) s ρ Q E) id H λhg H=>?_;refine jZ (P:=λe=>aB X l (VR X) (aV T Φ hd e B σ) s ρ Q E) id H λv hv H=>?_;exact H5 S ok a cw (by rw[hk];exact congrArg some (dB hg)) hv λr V=>aB.q9 a.inv H V
end
variable{a b:U}{x y:Value}
section
variable{E:Q3}
theorem Dr{k:Int}(h:smallInt k=true):k.natAbs<2^101:=by
 have h1:=and_true h;have h2:=eY h1.1;have h3:=eY h1.2;unfold zu at h2 h3
 lia
theorem xm{k:Int}(h:smallInt k=true):k.natAbs.log2<101:=by
 rcases Nat.eq_zero_or_pos k.natAbs with h0|hp
 .rw[h0];decide
 .exact(Nat.log2_lt (dX hp)).mpr (Dr h)
theorem bits_le{k:Int}(h:smallInt k=true):Builtin.Int.intBits k<=101:=by
 unfold Builtin.Int.intBits
 split
 .exact gf _
 .exact oW (xm h)
theorem Wh{k:Int}(h:smallInt k=true):k.natAbs.log2<9000:=bj (xm h) (dl Z)
theorem qn{a b:Int}(h:smallInt a=true)(k:smallInt b=true):IntMulOk a b:=by
 unfold IntMulOk;rw[jH,jH]
 rintro⟨_,q⟩
 have h1:=bits_le h;have h2:=bits_le k
 have:Builtin.Int.intTooBig (Builtin.Int.intBits a+Builtin.Int.intBits b)=false:=by
  unfold Builtin.Int.intTooBig;have hb:bitsLine=134217728:=Y
  simp only[N5]
  lia
 rw[this] at q;cases q
theorem vR(s t:Sa):((⟨s.toArray⟩:Str)++(⟨t.toArray⟩:Str))=⟨(s++t).toArray⟩:=by show(⟨s.toArray++t.toArray⟩:Str)=_;rw[List.append_toArray]
theorem Inv.MX(I:Inv X l s.heap ρ σ){i:Nat}{p:Addr×Addr}{ls:Th}(hp:ρ[i]?=some p)(e:σ[i]?=some (.list ls)):
  ls.length<=LL/\∃vs n,IsL s.heap p.1 vs.toArray n/\cA X s.heap ρ ls vs:=by
 obtain⟨a,b,vs,n,c,d⟩:=I.objs i p _ hp e;exact⟨b,vs,n,c,d⟩
theorem rO(SS:X.h₀.NoLimit)(I:Inv X l s.heap ρ σ):(s.heap.objs.size==sysModules)=false:=by refine bY (SS.keeps I.low) λmc hn _=>?_;have:(2:Nat)<s.heap.objs.size:=hn.lt;refine zb4 λz=>?_;have z':=z;exact J4 this (oU (dh z'))
theorem sU(SS:X.h₀.NoLimit)(I:Inv X l s.heap ρ σ){ls:Th}{vs:Tu}(V:cA X s.heap ρ ls vs)(hl:ls.length<=LL):
  Step X l uA s.heap ρ (s.heap.push {cls:=.type "list",data:=.seq vs.toArray}) (ρ++[(s.heap.objs.size,s.heap.objs.size)]) (σ++[.list ls])/\
  VR X (s.heap.push {cls:=.type "list",data:=.seq vs.toArray}) (ρ++[(s.heap.objs.size,s.heap.objs.size)]) (.ref σ.length) (.ref s.heap.objs.size):=by
 have k:∀b o,s.heap.get? b=some o->(s.heap.push {cls:=.type "list",data:=.seq vs.toArray}).get? b=some o:=λb o e=>mY _ e;have g:(s.heap.push {cls:=.type "list",data:=.seq vs.toArray}).get? s.heap.objs.size=some {cls:=.type "list",data:=.seq vs.toArray}:=oE _ Z;have z:s.heap.get? s.heap.objs.size=none:=uv (bR _);have sm:=rO SS I;refine⟨Step.alloc I k g Z g Z z z sm sm ⟨Z,hl,vs,0,g,cA.mono (eF k) (jF.app _ _) _ _ V⟩,(aZ (s.heap.objs.size,s.heap.objs.size) ?_ Z)⟩
 .rw[<- I.len,iz (bR _),jy];rfl
theorem Oo{w:Sa}(h:((⟨w.toArray⟩:Str).length==0)=true):w=[]:=NT (by simpa [Str.length] using h)
theorem jP{k:Nat}(h:k<=LL):k<=sizeLine:=by rw[sizeLine_eq];unfold LL at h;exact bO h (dl Z)
theorem Wk{j k:Nat}(h:j<=LL)(h2:k<=LL):j+k<=sizeLine:=by rw[sizeLine_eq];unfold LL at h h2;exact bO (rH h h2) (dl Z)
theorem Zw(SS:X.h₀.NoLimit)(I:Inv X l s.heap ρ σ)(V:VR X s.heap ρ a x)(W:VR X s.heap ρ b y)(H:aB X l (VR X) (Ym a b σ) s ρ Q E):wpAny X.M A (binaryOp .Add x y) Q E s:=by
 cases a with
 |int x1=>refine V.int λt=>?_;refine aB.int W H λy1 u H=>?_;exact P.add_int (aB.val I H ⟨_,Z⟩)
 |str s1=>
  refine V.str λt q1=>?_;refine aB.str W H λs2 u q2 H=>?_;refine H.gd λhl H=>?_;have hl:=eY hl;refine P.add_str ?_
  split
  .rename_i q
   show Q _ s;exact aB.q9 I H ⟨hl,u,by rw[Oo q];rfl⟩
  .split
   .rename_i q
    show Q _ s;exact aB.q9 I H ⟨hl,t,by rw[Oo q,dH]⟩
   .exact⟨by rw[vR];exact jP hl,aB.val I H ⟨hl,s.toks,by rw[vR]⟩⟩
 |ref i=>
  refine V.ref λp hp=>?_;refine aB.ref W H λj q hq H=>?_;refine aB.list I hp H λl1 vs n1 _ z1 i1 w1 _ H=>?_;refine aB.list I hq H λl2 ws n2 _ z2 i2 w2 _ H=>?_;refine H.gd λhl H=>?_;obtain⟨S,R⟩:=sU SS I (cA.append w1 w2) (eY hl);refine P.add_list i1 i2 ?_ ?_
  .rw[List.append_toArray];exact H _ s.toks _ _ S R
  .rw[jJ,jJ,cA.length w1,cA.length w2];exact Wk z1 z2
 |_=>exact H.elim
noncomputable def GB:YZ->Operator
 | .add=>.Add| .sub=>.Sub| .mul=>.Mult| .fdiv=>.FloorDiv| .mod=>.Mod| .pow=>.Pow
theorem tJ{o:Operator}{o':YZ}(h:DA o=some o'):o=GB o':=by cases o<;>first|(injection h with h;subst h;rfl)|cases h
theorem Ru(SS:X.h₀.NoLimit){o:Operator}{o':YZ}(ho:DA o=some o')(I:Inv X l s.heap ρ σ)(V:VR X s.heap ρ a x)(W:VR X s.heap ρ b y)(H:aB X l (VR X) (binop o' a b σ) s ρ Q E):
  wpAny X.M A (binaryOp o x y) Q E s:=by
 rw[tJ ho];clear ho
 have i2:∀{f:Int->Int->Res U} {o:Operator},aB X l (VR X) (fM .bad a λx=>fM .bad b λy=>f x y) s ρ Q E->(∀ x y t u,aB X l (VR X) (f x y) s ρ Q E->wpAny X.M A (binaryOp o (.int x t) (.int y u)) Q E s)->wpAny X.M A (binaryOp o x y) Q E s:=λH k=>by refine aB.int V H λx1 t H=>?_;refine aB.int W H λy1 u H=>?_;exact k _ _ _ _ H
 cases o' with
 |add=>exact Zw SS I V W H
 |sub=>exact i2 H λ_ _ _ _ H=>P.sub_int (aB.val I H ⟨_,Z⟩)
 |mul=>exact i2 H λ_ _ _ _ H=>aB.gd H λq H=>P.mul_int (aB.val I H ⟨_,Z⟩) (qn (and_true q).1 (and_true q).2)
 |mod=>exact i2 H λ_ _ _ _ H=>aB.gd H λq H=>mod_int' (Int.ne_of_gt (eY q)) (aB.val I H ⟨_,Z⟩)
 |fdiv=>exact i2 H λ_ _ _ _ H=>aB.gd H λq H=>floordiv_int (Int.ne_of_gt (eY (and_true q).1)) (aB.val I H ⟨_,Z⟩) (.inl (PyProof.noPylong_of_log2 (Wh (and_true q).2)))
 |pow=>refine i2 H λx1 y1 _ _ H=>aB.gd H λq H=>?_;obtain rfl:=eY (and_true (and_true q).1).1;exact pow_int_small (eY (and_true (and_true q).1).2) (nG (eY (and_true q).2) Y) Y (aB.val I H ⟨_,Z⟩)
end
section
variable{E:Q3}
mutual
noncomputable def toPy:U->PyData
 | .int i=>.int i
 | .str s=>.str ⟨s.toArray⟩
 | .tup l=>.tuple (ux l)
 |_=>.none
noncomputable def ux:List U->List PyData
 |[]=>[]
 |a::l=>toPy a::ux l
end
theorem str_beq(i j:Sa):((⟨i.toArray⟩:Str)==⟨j.toArray⟩)=decide (i=j):=by
 by_cases h:i=j
 .subst h;simp
 .rw[dY h];refine zb4 λe=>h ?_
  simpa using congrArg (λs:Str=>s.cps.toList) e
theorem ft{p:Prop}(h:false=true):p:=(Bool.false_ne_true h).elim
theorem Ig:∀(a:U) (x:Value),p8 a=true->VR X h ρ a x->∃as,Reads h x (toPy a) as:=
 @U.rec (λa=>∀x,p8 a=true->VR X h ρ a x->∃as,Reads h x (toPy a) as) (λl=>∀x,pD l=true->cA X h ρ l x->∃as,ReadsAll h x (ux l) as)
  (λ_ c=>ft c) (λ_ c=>ft c) (λ_ _ c=>ft c) (λi x _ V=>V.int λt=>⟨[],.int i t⟩) (λ_ x _ V=>V.str λt _=>⟨[],.str _ t⟩)
  (λl ih x c V=>V.tup λa vs n _ ht W=>by obtain⟨as,R⟩:=ih vs c W;exact⟨as,.tuple ht Z Z R⟩)
  (λ_ _ _ _ c=>ft c) (λ_ _ c=>ft c) (λ_ _ c=>ft c) (λ_ _ c=>ft c) (λ_ _ c=>ft c)
  (λx _ V=>by rw[show x=[] from V];exact⟨[],.nil⟩)
  λa l ia il x c V=>by refine gZ V λv r e V1 V2=>?_;obtain⟨as,R⟩:=ia v (and_true c).1 V1;obtain⟨bs,R2⟩:=il r (and_true c).2 V2;exact⟨as++bs,e▸ .cons R R2⟩
theorem lay_of:∀a:U,p8 a=true->(toPy a).canLay0=true:=
 @U.rec (λa=>p8 a=true->(toPy a).canLay0=true) (λl=>pD l=true->PyData.canLayAll0 (ux l)=true)
  ft ft (λ_=>ft) (λ_ _=>rfl) (λs c=>by
   show(Array.all _ _)=true;rw[<- Array.all_toList];refine List.all_eq_true.mpr λz hz=>?_;have:=List.all_eq_true.mp c z hz
   simpa using this)
  (λ_ ih c=>ih c) (λ_ _ _=>ft) (λ_=>ft) (λ_=>ft) (λ_=>ft) (λ_=>ft) (λ_=>rfl)
  λa l ia il c=>by have c:=and_true c;show((toPy a).canLay0&&PyData.canLayAll0 (ux l))=true;rw[ia c.1,il c.2];rfl
theorem XR:∀a:U,(toPy a).depth<=dep a:=
 @U.rec (λa=>(toPy a).depth<=dep a) (λl=>PyData.depthAll (ux l)<=deps l)
  (gf _) (gf _) (λ_=>gf _) (λ_=>gf _) (λ_=>gf _) (λ_ ih=>vL ih) (λ_ _ _=>gf _) (λ_=>gf _) (λ_=>gf _) (λ_=>gf _) (λ_=>gf _)
  (gf _) λ_ _ ia il=>XO ia il
theorem sN:∀a b:U,p8 a=true->p8 b=true->PyData.eqv (toPy a) (toPy b)=G9 a b:=
 @U.rec (λa=>∀b,p8 a=true->p8 b=true->PyData.eqv (toPy a) (toPy b)=G9 a b) (λl=>∀r,pD l=true->pD r=true->PyData.eqvAll (ux l) (ux r)=uH l r)
  (λ_ c=>ft c) (λ_ c=>ft c) (λ_ _ c=>ft c)
  (λi b _ c=>by
   cases b<;>first|exact ft c|rfl)
  (λi b _ c=>by
   cases b<;>first|exact ft c|rfl|exact str_beq _ _)
  (λl ih b c1 c=>by
   cases b<;>first|exact ft c|rfl|exact ih _ c1 c)
  (λ_ _ _ _ c=>ft c) (λ_ _ c=>ft c) (λ_ _ c=>ft c) (λ_ _ c=>ft c) (λ_ _ c=>ft c)
  (λr _ _=>by cases r<;>rfl)
  λa l ia il r c c'=>by
   cases r with
   |nil=>rfl
   |cons b r=>show(PyData.eqv (toPy a) (toPy b)&&PyData.eqvAll (ux l) (ux r))=(G9 a b&&uH l r);rw[ia b (and_true c).1 (and_true c').1,il r (and_true c).2 (and_true c').2]
theorem xK(l:Addr)(items:za8)(n:Nat)(b:Addr)(Wy:za8)(n2:Nat)(hc0:(items.size !=Wy.size)=true):
  Meets (Builtin.«list.__ne__» ⟨[.ref l,.ref b],[]⟩) (λ_ R s=>s.heap.get? l=some {cls:=.type "list",dict:=none,data:=.seq items n,slots:=#[]}/\s.heap.get? b=some {cls:=.type "list",dict:=none,data:=.seq Wy n2,slots:=#[]}/\R (.ok (.ret (Value.bool true))) {s with heap:=s.heap,toks:=s.toks}):=
 .of_wp λprog w A R s h=>by obtain⟨hp,g,d,tk,os⟩:=s;obtain⟨hl,hb,h⟩:=h;have f1:=PySem.AutoSeq1.idx_int;have f3:=PySem.AutoSeq1.sub_list_list;wp_walk using wpAny_loadPart' hl,wpAny_loadPart' hb;exact(aZ _ Z h)
end
section
variable{E:Q3}
theorem Ka{β:Type}{P:β->Prop}{z:β}{f:Int->β}(a:U)(hz:P z)(hf:∀n,P (f n)):P (fM z a f):=by cases a<;>first|exact hf _|exact hz
theorem Ja(l:Th):kindOf (.tup l)=0\/kindOf (.tup l)=3:=by
 rcases l with _|⟨a,_|⟨b,_|⟨c,l⟩⟩⟩<;>first|exact .inl Z|skip
 exact Ka (P:=λr=>r=0\/r=3) a (.inl Z) λ_=>Ka (P:=λr=>r=0\/r=3) b (.inl Z) λ_=>.inr Z
theorem AZ{a:U}(h:kindOf a=1):∃i,a= .int i:=by
 cases a<;>first|exact⟨_,Z⟩|(cases h;done)|(rcases Ja _ with q|q<;>rw[q] at h<;>cases h)
theorem AY{a:U}(h:kindOf a=2):∃i,a= .str i:=by
 cases a<;>first|exact⟨_,Z⟩|(cases h;done)|(rcases Ja _ with q|q<;>rw[q] at h<;>cases h)
theorem Wu{a:U}(h:kindOf a=3):∃p q,a= .tup [.int p,.int q]:=by
 cases a<;>first|(cases h;done)|skip
 refine YB (z:=0) (P:=(·=3)) (λq=>nomatch q) h λa b e h=>?_;refine ni (z:=0) (P:=(·=3)) (λq=>nomatch q) h λp e1 h=>?_;refine ni (z:=0) (P:=(·=3)) (λq=>nomatch q) h λq e2 h=>?_;exact(eO p q (by rw[e,e1,e2]))
theorem R7(a:U):kindOf a=0\/kindOf a=1\/kindOf a=2\/kindOf a=3:=by
 cases a<;>first|exact .inl Z|exact .inr (.inl Z)|exact .inr (.inr (.inl Z))|exact(Ja _).imp id λh=>.inr (.inr h)
theorem X5(es:YR)(k:U):Bw es k=(jN es k).isSome:=by
 unfold Bw jN;rw[Option.isSome_map]
 induction es with
 |nil=>rfl
 |cons e r ih=>rw[rG,vK,ih];cases Ax e.1 k<;>rfl
theorem wO{K K':Type}[DecidableEq K][DecidableEq K']{prog:Program}{w:World}{knd:KeyKind prog w K}{knd':KeyKind prog w K'}{h:Heap}{a:Addr}{jm:List (K×Value)}(q:h.DictOf knd a jm)(e:jm=[]):h.DictOf knd' a []:=by
 subst e;refine JB q λo es ep h1 h2 h3 h4 h5 h6=>?_
 have:es=#[]:=by cases es with|mk l=>cases h5;rfl
 subst this;exact(Gw o (#[]) ep h1 h2 h3 (λ_ he=>by simp at he) .nil qY)
theorem CP{K K':Type}[DecidableEq K][DecidableEq K']{prog:Program}{w:World}{knd:HeapKind prog w K}{knd':KeyKind prog w K'}{h:Heap}{a:Addr}{xs:List (K×Addr×Value)}(q:h.DictOfH knd a xs)(e:xs=[]):h.DictOf knd' a []:=by
 subst e;refine JB q λo es ep h1 h2 h3 h4 _ _=>?_
 have:es=#[]:=by cases es with|mk l=>simpa using h4
 subst this;exact(Gw o (#[]) ep h1 h2 h3 (λ_ he=>by simp at he) .nil qY)
theorem CK{K K':Type}[DecidableEq K][DecidableEq K']{prog:Program}{w:World}{knd:KeyKind prog w K}{knd':HeapKind prog w K'}{h:Heap}{a:Addr}{jm:List (K×Value)}(q:h.DictOf knd a jm)(e:jm=[]):h.DictOfH knd' a []:=by
 subst e;refine JB q λo es ep h1 h2 h3 h4 h5 h6=>?_
 have:es=#[]:=by cases es with|mk l=>cases h5;rfl
 subst this;exact(Gw o (#[]) ep h1 h2 h3 Z (λ_ he=>by simp at he) qY)
theorem jB.empty{h:Heap}{d:Addr}(AM:jB X h ρ d []){K:Type}[DecidableEq K]{knd:KeyKind X.prog X.w K}:h.DictOf knd d []:=by
 cases AM with
 |kI jm a b c=>exact wO a (List.map_eq_nil_iff.mp b.symm)
 |kS jm a b c=>exact wO a (List.map_eq_nil_iff.mp b.symm)
 |kT xs a b c=>exact CP a (List.map_eq_nil_iff.mp b.symm)
theorem qK{α:Type}{e:U×U}{r:YR}{l:List α}{g:α->U}(b:(e::r).map (·.1)=l.map g):∃p,e.1=g p:=by
 cases l with
 |nil=>cases b
 |cons p q=>exact⟨p,(List.cons.inj b).1⟩
theorem bp(a k:Str):Ax (.str a.cps.toList) (.str k.cps.toList)=decide (a=k):=by
 refine decide_eq_decide.mpr ⟨λe=>?_,λe=>by rw[e]⟩
 cases a;cases k
 exact congrArg Str.mk (Array.toList_inj.mp e)
theorem jB.key{h:Heap}{es:YR}{d:Addr}{k:U}{kv:Value}{G:Prop}(AM:jB X h ρ d es)(ok:keyOk es k=true)(nt:kindOf k≠3)(V:VR X h ρ k kv)
  (f:∀{K:Type} [DecidableEq K] (knd:KeyKind X.prog X.w K) (enc:K->U) (jm:List (K×Value)) (kk:K),k=enc kk->knd.is kk kv=true->h.DictOf knd d jm->es.map (·.1)=jm.map (λp=>enc p.1)->cA X h ρ (es.map (·.2)) (jm.map (·.2))->
   (∀ a b,Ax (enc a) (enc b)=decide (a=b))->(∀ {h':Heap} {es':YR} (kvs':List (K×Value)),h'.DictOf knd d kvs'->es'.map (·.1)=kvs'.map (λp=>enc p.1)->cA X h' ρ (es'.map (·.2)) (kvs'.map (·.2))->jB X h' ρ d es')->G):G:=by
 have hI:∀jm:List (Int×Value),kindOf k=1->h.DictOf (intKind X.prog X.w) d jm->es.map (·.1)=jm.map (λp=>U.int p.1)->cA X h ρ (es.map (·.2)) (jm.map (·.2))->G:=λjm e a b c=>by obtain⟨i,rfl⟩:=AZ e;obtain⟨t,rfl⟩:=V;exact f _ U.int jm i Z (intKind_is _ _ _ _) a b c (λ_ _=>rfl) λkvs'=>.kI kvs'
 have hS:∀jm:List (Str×Value),kindOf k=2->h.DictOf (strKind X.prog X.w) d jm->es.map (·.1)=jm.map (λp=>U.str p.1.cps.toList)->cA X h ρ (es.map (·.2)) (jm.map (·.2))->G:=λjm e a b c=>by obtain⟨i,rfl⟩:=AY e;obtain⟨_,t,rfl⟩:=V;exact f _ (λx:Str=>U.str x.cps.toList) jm ⟨i.toArray⟩ Z (strKind_is _ _ _ _) a b c bp λkvs'=>.kS kvs'
 have ok:=and_true ok
 cases es with
 |nil=>
  rcases R7 k with e|e|e|e
  .have q:=ok.1;unfold isKey at q;rw[e] at q;cases q
  .exact hI [] e AM.empty Z Z
  .exact hS [] e AM.empty Z Z
  .exact absurd e nt
 |cons e r=>
  have sk:=dB (and_true ok.2).1
  cases AM with
  |kI jm a b c=>obtain⟨p,hp⟩:=qK b;rw[hp] at sk;exact hI jm sk.symm a b c
  |kS jm a b c=>obtain⟨p,hp⟩:=qK b;rw[hp] at sk;exact hS jm sk.symm a b c
  |kT xs a b c=>
   obtain⟨p,hp⟩:=qK b;rw[hp] at sk
   rcases Ja (p.1.map U.int) with q|q<;>rw[q] at sk
   .have q:=ok.1;unfold isKey at q;rw[<- sk] at q;cases q
   .exact absurd sk.symm nt
def DZ(X:Ctx)(h:Heap)(ρ:Su)(o:Option U)(r:zb2):Prop:=(o=none/\r=none)\/∃v x,o=some v/\r=some x/\VR X h ρ v x
theorem zc{α K:Type}[DecidableEq K]{h:Heap}{key:α->K}{val:α->Value}{enc:K->U}{k:K}(rV:∀a,Ax (enc a) (enc k)=decide (a=k)){es:YR}{xs:List α}(e:es.map (·.1)=xs.map (λx=>enc (key x)))(V:cA X h ρ (es.map (·.2)) (xs.map val)):
  DZ X h ρ (jN es (enc k)) ((xs.find? λx=>decide (key x=k)).map val):=by
 induction es generalizing xs with
 |nil=>rw[List.map_eq_nil_iff.mp e.symm];exact .inl ⟨Z,Z⟩
 |cons p es ih=>
  cases xs with
  |nil=>cases e
  |cons x xs=>
   have e:=List.cons.inj e;refine gZ V λv r he V1 V2=>?_;have he:=List.cons.inj he;unfold jN;rw[vK,vK,show p.1=enc (key x) from e.1,rV]
   cases decide (key x=k) with
   |true=>exact .inr (gn _ _ Z Z (by rw[he.1];exact V1))
   |false=>exact ih e.2 (by rw[he.2];exact V2)
theorem PL{p q:Int}(k:za6):Ax (.tup (k.map U.int)) (.tup [.int p,.int q])=decide (k=[p,q]):=by
 rcases k with _|⟨a,_|⟨b,_|⟨c,l⟩⟩⟩<;>first|exact(dY λh=>nomatch h).symm|skip
 show(decide (a=p)&&decide (b=q))=_
 by_cases h1:a=p<;>by_cases h2:b=q<;>simp[h1,h2]
theorem jB.AK{h:Heap}{es:YR}{dd:Addr}{p q:Int}{kv:Value}{G:Prop}(AM:jB X h ρ dd es)(ok:keyOk es (.tup [.int p,.int q])=true)(V:VR X h ρ (.tup [.int p,.int q]) kv)
  (f:∀(xs:List (List Int×Addr×Value)) (a:Addr),kv= .ref a->h.DictOfH (tupleKind (intKind X.prog X.w)) dd xs->(tupleKind (intKind X.prog X.w)).is h [p,q] a->es.map (·.1)=xs.map (λp=>U.tup (p.1.map U.int))->cA X h ρ (es.map (·.2)) (xs.map (·.2.2))->G):G:=by
 obtain⟨_,a,vs,n,rfl,ht,W⟩:=V
 have key:(tupleKind (intKind X.prog X.w)).is h [p,q] a:=by
  revert ht
  refine W.two λv w V1 V2=>?_;refine V1.int λt1=>?_;refine V2.int λt2=>?_;exact λht=>(oG _ _ _ ht Z Z (.cons (intKind_is _ _ _ _) (.cons (intKind_is _ _ _ _) .nil)))
 cases es with
 |nil=>exact f [] a Z (CK (AM.empty (knd:=intKind X.prog X.w)) Z) key Z Z
 |cons e r=>
  have sk:=dB (and_true (and_true ok).2).1
  cases AM with
  |kI jm a b c=>obtain⟨p,hp⟩:=qK b;rw[hp] at sk;cases sk
  |kS jm a b c=>obtain⟨p,hp⟩:=qK b;rw[hp] at sk;cases sk
  |kT xs a' b c=>exact f xs a Z a' key b c
end
section
variable{E:Q3}
theorem wu{r:Option Bool}(H:aB X l (VR X) (Hm r σ) s ρ Q E)(I:Inv X l s.heap ρ σ):∃b,r=some b/\∀tk,Q (.bool b) {s with toks:=tk}:=by
 cases r with
 |none=>exact H.elim
 |some b=>exact(aZ b Z (λtk=>H.val I Z))
theorem ns{α:Type}{a:α}(h:Option.none=some a):False:=nomatch h
theorem Qu(i j:Sa):decide (i=j)=(i==j):=by rw[qZ,beq_iff_eq,fO]
noncomputable def OM(k:Str)(y:Value):Bool:=match y with
 | .str z _=>z==k
 |_=>false
noncomputable def eqB(k:Bool)(y:Value):Bool:=match y with
 | .bool z=>z==k
 |_=>false
theorem JN{α:Type}{v:Value}{vs:Tu}{f:Value->Bool}{p:Value->Bool->Prop}[BEq α][LawfulBEq α]{k b:α}{ss:List α}(h1:p v (f v))(h2:f v=(b==k))(ih:(∀ y,y∈vs->p y (f y))/\vs.any f=ss.contains k):
  (∀ y,y∈v::vs->p y (f y))/\(v::vs).any f=(b::ss).contains k:=by
 refine⟨λy hy=>?_,by rw[rG,ih.2,h2,Hr,BEq.comm]⟩
 rcases zb5 hy with rfl|hy
 .exact h1
 .exact ih.1 y hy
theorem UG{h:Heap}{k:Sa}{u:Tok}(A:Around)(s:Shared){ls:Th}:∀{vs:Tu} {ss:za0},cA X h ρ ls vs->strsOf ls=some ss->
  (∀ y,y∈vs->SeqAt.EqAt A s y (.str ⟨k.toArray⟩ u) (OM ⟨k.toArray⟩ y))/\vs.any (OM ⟨k.toArray⟩)=ss.contains k:=by
 induction ls with
 |nil=>intro vs ss V e;injection e with e;rw[<- e,show vs=[] from V];exact⟨λ_ hy=>(nomatch hy),Z⟩
 |cons a ls ih=>intro vs ss V e;refine ud (P:=(·=some ss)) ns e λz ez e=>?_;obtain⟨q,hq,rfl⟩:=zb3 e;subst ez;refine gZ V λv r hv V1 V2=>?_;rw[hv];refine V1.str λt _=>?_;exact JN (SeqAt.EqAt.str_str _ _ _ _) ((str_beq z k).trans (Qu z k)) (ih V2 hq)
theorem Tp{h:Heap}{k:Bool}(A:Around)(s:Shared){ls:Th}:∀{vs:Tu} {ss:List Bool},cA X h ρ ls vs->boolsOf ls=some ss->
  (∀ y,y∈vs->SeqAt.EqAt A s y (.bool k) (eqB k y))/\vs.any (eqB k)=ss.contains k:=by
 induction ls with
 |nil=>intro vs ss V e;injection e with e;rw[<- e,show vs=[] from V];exact⟨λ_ hy=>(nomatch hy),Z⟩
 |cons a ls ih=>intro vs ss V e;refine wX (P:=(·=some ss)) ns e λz ez e=>?_;obtain⟨q,hq,rfl⟩:=zb3 e;subst ez;refine gZ V λv r hv V1 V2=>?_;rw[hv];refine V1.bool<|JN (SeqAt.EqAt.bool_bool z k) Z (ih V2 hq)
theorem Iz(h:IK a=true):kindOf a≠3:=λe=>by obtain⟨_,_,rfl⟩:=Wu e;cases h
open Builtin Builtin.Str in
theorem qc(st:Sa)(c:Nat):(!(occurrences (⟨st.toArray⟩:Str) ⟨#[c]⟩ 0 (⟨st.toArray⟩:Str).length 1).isEmpty)=st.contains c:=by rw[StrLaws.found_one];simp[List.contains_eq_mem]
def PI(X:Ctx)(A:Around)(E:Q3)(s:Shared)(x y:Value)(r:Bool):Prop:=
 (∀ Q:Q3,(∀ tk,Q (.bool r) {s with toks:=tk})->wpAny X.M A (compareOp .In x y) Q E s)/\(∀ Q:Q3,(∀ tk,Q (.bool (!r)) {s with toks:=tk})->wpAny X.M A (compareOp .NotIn x y) Q E s)
theorem in_list{p:Addr}{vs:Tu}{n:Nat}{f:Value->Bool}{r:Bool}(il:IsL s.heap p vs.toArray n)(h:(∀ y,y∈vs->SeqAt.EqAt A.in1 s y x (f y))/\vs.any f=r):PI X A E s x (.ref p) r:=by obtain⟨h1,rfl⟩:=h;exact⟨λQ hq=>SeqAt.in_listAt f il.isList (λy hy=>h1 y (by simpa using hy)) (by rw[List.any_toArray];exact hq s.toks),λQ hq=>SeqAt.notIn_listAt f il.isList (λy hy=>h1 y (by simpa using hy)) (by rw[List.any_toArray];exact hq s.toks)⟩
theorem Ov(I:Inv X l s.heap ρ σ)(V:VR X s.heap ρ a x)(W:VR X s.heap ρ b y){r:Bool}(e:member a b σ=some r):PI X A E s x y r:=by
 cases b with
 |str st=>refine W.str λu _=>?_;refine ud (P:=(·=some r)) ns e λz ez e=>?_;refine pG (P:=(·=some r)) ns e λc ec e=>?_;subst ez ec;refine V.str λt _=>?_;rw[<- Option.some.inj e,<-qc st c];exact⟨λQ hq=>P.in_str (hq s.toks),λQ hq=>P.notIn_str (hq s.toks)⟩
 |ref i=>
  refine W.ref λp hp=>?_;have e:sV a σ[i]?=some r:=e
  cases ho:σ[i]? with
  |none=>rw[ho] at e;cases e
  |some o=>
   rw[ho] at e;have R:=I.objs i p o hp ho
   cases o with
   |list ls=>
    obtain⟨_,_,vs,n,il,w⟩:=R;have e:=e
    cases a with
    |bool k=>refine V.bool ?_;obtain⟨ss,h1,rfl⟩:=zb3 e;exact in_list il (Tp A.in1 s w h1)
    |str k=>refine V.str λt _=>?_;obtain⟨ss,h1,rfl⟩:=zb3 e;exact in_list il (UG A.in1 s w h1)
    |_=>cases e
   |dict es=>
    refine lF (P:=(·=some r)) ns e λok e=>?_;obtain rfl:=Option.some.inj e;have sm:=(I.new p.1 (gB (gq hp))).2;refine jB.key R.2.2 (and_true ok).1 (Iz (and_true ok).2) V λknd enc jm kk ek h1 h2 h3 h4 h5 _=>?_
    have q:Bw es a=(valueAt jm kk).isSome:=by
     rw[X5,ek]
     rcases zc (h5 · kk) h3 h4 with⟨g1,g2⟩|⟨_,_,g1,g2,_⟩<;>rw[g1,show valueAt jm kk=_ from g2]<;>rfl
    rw[q];exact⟨λQ hq=>wpAny_in_of h1 sm h2.mapOf (hq _),λQ hq=>wpAny_notIn_of h1 sm h2.mapOf (hq _)⟩
   |set ls=>refine ni (P:=(·=some r)) ns e λz ez e=>?_;obtain rfl:=Option.some.inj e;subst ez;refine V.int λt=>?_;exact⟨λQ hq=>wpAny_inSet_of (intKind_is _ _ _ _) Z R.2.2 (hq _),λQ hq=>wpAny_notInSet_of (intKind_is _ _ _ _) Z R.2.2 (hq _)⟩
   |_=>cases e
 |_=>cases e
def LV(X:Ctx)(A:Around)(E:Q3)(s:Shared)(x y:Value)(r:Bool):Prop:=
 (∀ Q:Q3,Q (.bool r) s->wpAny X.M A (compareOp .Eq x y) Q E s)/\(∀ Q:Q3,Q (.bool (!r)) s->wpAny X.M A (compareOp .NotEq x y) Q E s)
theorem XC{p q:Addr}{vs ws:Tu}{n m:Nat}{r:Bool}(hu:A.units+64<cLine)(i1:IsL s.heap p vs.toArray n)(i2:IsL s.heap q ws.toArray m)(e:gd Option.none (vs.isEmpty||ws.isEmpty) (some (vs.isEmpty&&ws.isEmpty))=some r):LV X A E s (.ref p) (.ref q) r:=by
 have ne:(vs.length !=ws.length)=true->LV X A E s (.ref p) (.ref q) false:=λhc=>
  ⟨λQ hq=>P.eq_list_lengths i1 i2 hc (ye hu) hq,λQ hq=>richCompare_meets_room (op:=.NotEq) (aZ _ i1 Z) (aZ _ i2 Z) PySem.F.slot_list_ne PySem.F.entry_list_ne (PySem.F.args_list_ne_2 _ _) (xK _ _ _ _ _ _ hc)
   (jW i1 i2 (show Value.bool true≠Value.notImplemented/\Q (.bool true) s from⟨(λx=>nomatch x),hq⟩)) (ye hu)⟩
 cases vs with
 |nil=>
  cases ws with
  |nil=>obtain rfl:=Option.some.inj e;have r1:Reads s.heap (.ref p) (.list []) [p]:=.list i1 Z Z .nil;have r2:Reads s.heap (.ref q) (.list []) [q]:=.list i2 Z Z .nil;exact⟨λQ hq=>eq_dataH r1 r2 Y Y hu hq,λQ hq=>ne_dataH r1 r2 Y Y hu hq⟩
  |cons w ws=>obtain rfl:=Option.some.inj e;exact ne Z
 |cons v vs=>
  cases ws with
  |nil=>obtain rfl:=Option.some.inj e;exact ne Z
  |cons w ws=>cases e
theorem Qn{α β:Type}{a:List α}{b:List β}(h:a.length=b.length):b.isEmpty=a.isEmpty:=by cases a<;>cases b<;>first|rfl|cases h
theorem H8{z:Th}(h1:pD z=true)(h2:deps z<=60):SeqAt.shaped (toPy (.tup z))=true:=by unfold SeqAt.shaped;rw[lay_of (.tup z) h1,yg];exact dF (bO (XR (.tup z)) (bO (vL h2) (dl Z)))
theorem U0(I:Inv X l s.heap ρ σ)(hu:A.units+64<cLine)(V:VR X s.heap ρ a x)(W:VR X s.heap ρ b y){r:Bool}(e:equal a b σ=some r):LV X A E s x y r:=by
 cases a with
 |ref i=>refine V.ref λp hp=>?_;refine ue (P:=(·=some r)) ns e λj ej e=>?_;subst ej;refine W.ref λq hq=>?_;refine yE (P:=(·=some r)) ns e λl1 e1 e=>?_;refine yE (P:=(·=some r)) ns e λl2 e2 e=>?_;obtain⟨_,vs,n1,i1,w1⟩:=I.MX hp e1;obtain⟨_,ws,n2,i2,w2⟩:=I.MX hq e2;unfold GZ at e;rw[Qn (cA.length w1),Qn (cA.length w2)] at e;exact XC hu i1 i2 e
 |int i=>refine V.int λt=>?_;refine ni (P:=(·=some r)) ns e λj ej e=>?_;subst ej;refine W.int λu=>?_;obtain rfl:=Option.some.inj e;exact⟨λQ hq=>P.eq_int hq,λQ hq=>P.ne_int hq⟩
 |str i=>refine V.str λt _=>?_;refine ud (P:=(·=some r)) ns e λj ej e=>?_;subst ej;refine W.str λu _=>?_;obtain rfl:=Option.some.inj e;rw[Qu];exact⟨λQ hq=>P.eq_str hq,λQ hq=>P.ne_str hq⟩
 |tup l1=>refine QQ (P:=(·=some r)) ns e λl2 ej e=>?_;subst ej;refine lF (P:=(·=some r)) ns e λc e=>?_;obtain rfl:=Option.some.inj e;have c:=and_true c;have c':=and_true c.1;have c2:=and_true c'.1;obtain⟨as,r1⟩:=Ig (.tup l1) x c2.1 V;obtain⟨bs,r2⟩:=Ig (.tup l2) y c2.2 W;rw[<- show PyData.eqv (toPy (.tup l1)) (toPy (.tup l2))=uH l1 l2 from sN (.tup l1) (.tup l2) c2.1 c2.2];have s1:=H8 c2.1 (eY c'.2);have s2:=H8 c2.2 (eY c.2);exact⟨λQ hq=>eq_dataH r1 r2 s1 s2 hu hq,λQ hq=>ne_dataH r1 r2 s1 s2 hu hq⟩
 |_=>cases e
theorem HW(V:VR X s.heap ρ a x){r:Bool}(e:isNone a=some r):plainIs x .none=true/\(x== .none)=r:=by
 cases a<;>first|(cases e;done)|(injection e with e;subst e)
 .exact V.none ⟨Z,Z⟩
 .exact V.bool ⟨Z,Z⟩
 .exact V.int λ_=>⟨Z,Z⟩
 .exact V.str λ_ _=>⟨Z,Z⟩
 .exact V.tup λ_ _ _ _ _ _=>⟨Z,Z⟩
 .obtain⟨_,_,_,_,_,_,_,rfl,_⟩:=V;exact⟨Z,Z⟩
 .exact V.ref λ_ _=>⟨Z,Z⟩
 .rw[show x= .ref _ from V];exact⟨Z,Z⟩
 .rw[show x= .ref _ from V];exact⟨Z,Z⟩
end
section
variable{E:Q3}
theorem vV{f:Int->Int->Bool}{o:CmpOp}(I:Inv X l s.heap ρ σ)(V:VR X s.heap ρ a x)(W:VR X s.heap ρ b y)(H:aB X l (VR X) (cmpInt a b f σ) s ρ Q E)
  (k:∀i j t u,Q (.bool (f i j)) s->wpAny X.M A (compareOp o (.int i t) (.int j u)) Q E s):wpAny X.M A (compareOp o x y) Q E s:=by
 refine aB.int V H λi t H=>?_;refine aB.int W H λj u H=>?_;exact k i j t u (aB.q9 I H Z)
theorem Dq{o:CmpOp}(I:Inv X l s.heap ρ σ)(hu:A.units+64<cLine)(V:VR X s.heap ρ a x)(W:VR X s.heap ρ b y)(H:aB X l (VR X) (eX (DB o) a b σ) s ρ Q E):
  wpAny X.M A (compareOp o x y) Q E s:=by
 have neg:∀{r:Option Bool},aB X l (VR X) (Hm (r.map Bool.not) σ) s ρ Q E->∃b,r=some b/\∀tk,Q (.bool (!b)) {s with toks:=tk}:=λ{r} H=>by
  cases r with
  |none=>exact H.elim
  |some b=>exact(aZ b Z (λtk=>aB.val I H Z))
 cases o
 .refine bY (wu H I) λr e q=>?_;exact(U0 I hu V W e).1 Q (q s.toks)
 .refine bY (neg H) λr e q=>?_;exact(U0 I hu V W e).2 Q (q s.toks)
 .exact vV I V W H λ_ _ _ _ q=>P.lt_int q
 .exact vV I V W H λ_ _ _ _ q=>P.le_int q
 .exact vV I V W H λ_ _ _ _ q=>P.gt_int q
 .exact vV I V W H λ_ _ _ _ q=>P.ge_int q
 .refine aB.none W H λH=>?_;refine bY (wu H I) λr e q=>?_;obtain⟨q1,rfl⟩:=HW V e;exact wpAny_is_plain q1 (q s.toks)
 .refine aB.none W H λH=>?_;refine bY (neg H) λr e q=>?_;obtain⟨q1,rfl⟩:=HW V e;exact wpAny_isNot_plain q1 (q s.toks)
 .refine bY (wu H I) λr e q=>?_;exact(Ov I V W e).1 Q q
 .refine bY (neg H) λr e q=>?_;exact(Ov I V W e).2 Q q
set_option tactic.hygienic true in
theorem Zj(sl:Expr)(o i:Value):∃ops,subscripted sl false o i=operate ops (getItem o i):=by
 cases sl<;>first|exact⟨_,Z⟩|skip
 case Slice lo hi st p=>cases st<;>exact⟨_,Z⟩
theorem mF{value sl:Expr}{o i:Value}{Ty id:String}(hT:s.TypeIs o Ty)(hl:typeLookup (.type Ty) "__getitem__"=pure (some (.builtin id)))(h:wpAny X.M A (getItem o i) Q E s):
  wpAny X.M A (subscriptTail value sl o i) Q E s:=by
 unfold subscriptTail;refine aU ?_;rw[getitemInPython_of_ne hT.not_modules];refine aU (wpAny_specialOf hT hl ?_);obtain⟨ops,e⟩:=Zj sl o i
 have fin:wpAny X.M A (subscripted sl false o i) (λr KH=>wpAny X.M A (letTemporaryGo value o r>>=λ_=>pure r) Q E KH) E s:=by rw[e];exact wpAny_operating (pM h (λr KH s6=>aU (wpAny_letTemporaryGo (cF s6))) λ_ _ x=>x)
 first
  |exact cF (aU fin)
  |exact aU (cF (aU fin))
  |exact aU fin
theorem Ad{r:Option U}(H:aB X l (VR X) (RQ r σ) s ρ Q E)(I:Inv X l s.heap ρ σ):∃v,r=some v/\∀tk x,VR X s.heap ρ v x->Q x {s with toks:=tk}:=by
 cases r with
 |none=>exact H.elim
 |some b=>exact(aZ b Z (λtk x h=>H.val I h))
theorem EL{k:Int}{n:Nat}(_h0:0<=k)(h:k.toNat<n)(hn:n<=LL):k<2^63:=by unfold LL at hn;lia
theorem vY{k:Int}{n:Nat}(h0:0<=k)(h:k.toNat<n):seqIndex? k n=some k.toNat:=by
 unfold seqIndex?;have h1:¬k<0:=by exact Dc h0
 simp only[bh h1];rw[bz (by rw[jH,decide_eq_true_eq,decide_eq_true_eq];lia)]
theorem Nr{f:Nat->Option U}{G:Prop}(I:Inv X l s.heap ρ σ){k:Int}(H:aB X l (VR X) (gd .bad (decide (0<=k)) (RQ (f k.toNat) σ)) s ρ Q E)
  (g:∀v,0<=k->f k.toNat=some v->(∀ tk x,VR X s.heap ρ v x->Q x {s with toks:=tk})->G):G:=by
 refine H.gd λh0 H=>?_;refine bY (Ad H I) λv e q=>?_;exact g v (eY h0) e q
theorem KZ{value sl:Expr}(I:Inv X l s.heap ρ σ)(V:VR X s.heap ρ a x)(W:VR X s.heap ρ b y)(H:aB X l (VR X) (getIdx a b σ) s ρ Q E):
  wpAny X.M A (subscriptTail value sl x y) Q E s:=by
 cases a with
 |tup ls=>refine V.tup λad vs nn ll ht w=>?_;refine aB.int W H λk u H=>?_;refine Nr I H λv h0 e q=>?_;refine bY (cA.get w e) λr e' R=>?_;have hk:=(zb6 e).1;have hk':=(zb6 e').1;exact mF (aZ _ ht Z) F.slot_tuple_getitem.lookup (P.getItem_tuple ht (by lia) (EL h0 hk ll) (vY h0 (by simpa using hk')) (by simpa using e') (q s.toks r R))
 |str ls=>
  refine V.str λt ll=>?_;refine aB.int W H λk u H=>?_;refine Nr (f:=λk=>ls[k]?.map λc=>.str [c]) I H λv h0 e q=>?_;obtain⟨c,e',rfl⟩:=zb3 e;have hk:=(zb6 e').1;have:=EL h0 hk ll;refine mF (typeIs_str _ _ _) F.slot_str_getitem.lookup (P.getItem_str (by simp;lia) ?_ (q _ _ ⟨by simp[LL],s.toks,Z⟩));rw[vY h0 (by simpa [Str.length] using hk)]
  simpa using e'
 |ref i=>
  refine V.ref λp hp=>?_;have H:aB X l (VR X) (Gv σ[i]? b σ) s ρ Q E:=H
  cases ho:σ[i]? with
  |none=>rw[ho] at H;exact H.elim
  |some o=>
   rw[ho] at H;have R:=I.objs i p o hp ho
   cases o with
   |list ls=>refine aB.int W H λk u H=>?_;refine Nr I H λv h0 e q=>?_;obtain⟨_,ll,vs,nn,il,w⟩:=R;refine bY (cA.get w e) λr e' R=>?_;have hk:=(zb6 e).1;exact mF il.isList.typeIs list_getitem_lookup (wpAny_getItem_list il.isList h0 (EL h0 hk ll) (by simpa using e') (q s.toks r R))
   |dict es=>
    refine aB.gd H λok H=>?_;refine bY (Ad H I) λv e q=>?_;refine jB.key R.2.2 (and_true ok).1 (Iz (and_true ok).2) W λknd enc jm kk ek h1 h2 h3 h4 h5 _=>?_
    rcases zc (h5 · kk) h3 h4 with⟨g1,_⟩|⟨v',r,g1,g2,g3⟩<;>rw[<- ek,e] at g1
    .cases g1
    .obtain rfl:=Option.some.inj g1;exact mF h2.typeIs slot_dict_getitem.lookup (wpAny_getItem_of h1 h2.mapOf g2 (q _ r g3))
   |_=>exact H.elim
 |_=>exact H.elim
end
end
end Mine.Internal
namespace Mine.Internal
open PySem PySem.W PyProof.Rows PySem.Calls Builtin Builtin.ObjectAttr
noncomputable section
variable{prog:Program}{w:World}{A:Around}{s:Shared}{K:Frag}{x BC:Addr}{ox:Obj}{od:Option Obj}{name:Str}{expr:Bool}{Q:Q3}
section
variable{E:Q3}
theorem df:builtinKind "BaseException.__getattribute__"=some .slot:=by decide +kernel
theorem Jl:splitId "BaseException.__getattribute__"=some ("BaseException","__getattribute__"):=by decide +kernel
theorem Xd:plainId "BaseException.__getattribute__"=true:=by decide +kernel
theorem dp(self:Value):bindSpecial (.builtin "BaseException.__getattribute__") self=pure (.builtin "BaseException.__getattribute__",[self]):=
 (Slot.of (T:="BaseException") (name:="__getattribute__") (by rw[typeLookup_type,builtinLookup_eq_fast];kernel_rfl) Jl (by decide +kernel) (by decide +kernel)
  (.inl (by decide +kernel)) (by rw[isSubtype_type];kernel_rfl)).bind self
theorem Cw{v:Value}(X:K.In s.heap)(I:InstAt s.heap x ox BC od)(hga:findIn K (.ref BC) "__getattribute__"=some (some (.builtin "BaseException.__getattribute__")))
  (hk:findIn K (.ref BC) "__getattr__"=some none) (hm:mroIn K BC (.type "BaseException")=some true)
  (hf:findObj K BC od name=some (.value v)) (hh:handedIn v=true) (h:Q v {s with toks:=s.toks+1}):wpAny (model prog w) A (PySem.getAttr (.ref x) name expr) Q E s:=by
 obtain⟨hp,g,d,t,os⟩:=s;have L0:=I.type (M:=model prog w);have L1:=looks_findIn (M:=model prog w) X hga;have L2:=looks_findIn (M:=model prog w) X hk;have L3:=looks_find (M:=model prog w) X I hf;have L4:Looks (model prog w) hp (isInstance (.ref x) (.type "BaseException")) true:=L0.andThen (looks_mroIn X hm);have f3:=dp (.ref x);have hx0:(expr&&onTheHeap (Value.builtin "BaseException.__getattribute__"))=false:=by cases expr<;>rfl
 have HU:(Value.builtin "BaseException.__getattribute__"==Value.builtin "object.__getattribute__")=false:=by decide +kernel
 have BA:(onTheHeap (Value.ref BC)&&Value.builtin "BaseException.__getattribute__"==Value.builtin "object.__getattribute__")=false:=by rw[HU];rfl
 unfold PySem.getAttr getAttrBy;refine aU (wpAny_mkText (kh (aU (L0.at (aU (L1.at ?_))))))
 dsimp only
 rw[BA];simp only[yl,if_false];unfold getAttrByItsOwn hookBefore
 repeat (any_goals (first|assumption|with_reducible refine L0.at ?_|with_reducible refine L2.at ?_|wp_step))
 refine codeAny_call_builtin Xd F.entry_bexc_ga<|@check_slot (model prog w) _ _ ⟨hp,g,d,t+1,os⟩ "BaseException.__getattribute__" "BaseException" "__getattribute__" (.ref x) [.str name t] [] _ df Jl L4 (F.args_bexc_ga (.ref x) (.str name t)) ?_;unfold Builtin.«object.__getattribute__»;refine aU (wpAny_of_eq (show slotArgs "__getattribute__" 1 ⟨[.ref x,.str name t],[]⟩=pure (.ref x,[.str name t]) from Z) ?_)
 dsimp only
 refine aU (wpAny_of_eq (show attrName (.str name t)=pure name from Z) ?_);refine aU (L0.at (aU (L3.at ?_)))
 dsimp only
 refine cF ?_;show wpAny _ _ (handedOut v) _ _ _;rw[handedOut_of hh];exact cF h
end
variable{X:Ctx}{G:za4}{Nm:za3}{T:Tab}{Φ:iC}{d n:Nat}{hd:Bool}{l:za7}{env:Env}{cx:Cx}{B:Loc}{ρ:Su}{σ:St}{a b c:U}{x y z:Value}
section
variable{E:Q3}
theorem Vu{h:Heap}{a:Addr}{m:Str->Option Value}(q:h.Ns a m):∃o,h.get? a=some o/\∀n,lookIn n o=some (m n):=by
 refine rC q λo es ep ho hd hk hm=>?_;refine(aZ o ho (λn=>?_));unfold lookIn;rw[hd]
 dsimp only
 rw[<- hm n];unfold nsFind findBy;rw[<- Array.find?_toList]
 cases g:es.toList.find? (λe=>e.key.isStr n) with
 |some e=>rfl
 |none=>
  have:es.toList.any (·.refKey)=false:=by rw[List.any_eq_false];intro e he;refine mK (hk e (by simpa using he)) λnn t q=>?_;unfold DictEntry.refKey;rw[q];exact Bool.false_ne_true
  rw[this];rfl
theorem SN:∀b,b<=12->handedIn (qd b)=true:=by decide +kernel
theorem Ec{h:Heap}{v:U}{r:Value}(V:VR X h ρ v r):handedIn r=true:=by
 cases v with
 |L=>exact V.elim
 |none=>exact V.none Z
 |bool b=>exact V.bool Z
 |int i=>exact V.int λ_=>rfl
 |str i=>exact V.str λ_ _=>rfl
 |tup l=>exact V.tup λ_ _ _ _ _ _=>rfl
 |yK _ _ _=>obtain⟨_,_,_,_,_,_,_,rfl,_⟩:=V;rfl
 |ref i=>exact V.ref λ_ _=>rfl
 |fn i=>rw[show r= .ref _ from V];rfl
 |cls i=>rw[show r= .ref _ from V];rfl
 |bi b=>rw[V.2];exact SN b V.1
inductive IR(X:Ctx)(h:Heap)(ρ:Su)(p:Addr×Addr)(c:Nat)(fs:TZ):Prop
 |mk (m:Str->Option Value) (od ox:Obj) (cs:yH X c) (IA:InstAt h p.1 ox (X.ca c) (some od)) (hd:ox.dict=some p.2) (ns:h.Ns1 p.2 m) (F:NP X h ρ fs m) (gd:h.get? p.2=some od) (lk:∀n,lookIn n od=some (m n))
  (wi:Within m (fs.map λe=>X.nm e.1)) (oc:od.cls= .type "dict")
theorem ja{h:Heap}{p:Addr×Addr}{c:Nat}{fs:TZ}{ox:Obj}(cs:yH X c)(h1:h.get? p.1=some ox)(h2:ox.cls= .ref (X.ca c))(h3:notCls ox=true)(h4:ox.dict=some p.2)(f:tM X h ρ fs p.2):IR X h ρ p c fs:=by obtain⟨m,h5,h6,h9,od,x1,x2⟩:=f;refine bY (Vu h5.ns) λod' h7 h8=>?_;rw[x1] at h7;obtain rfl:=Option.some.inj h7;exact⟨m,od,ox,cs,⟨h1,h2,h3,by rw[h4];exact x1⟩,h4,h5,h6,x1,h8,h9,x2⟩
theorem O9{ox:Obj}{vs:za8}(h:ox.data= .fields vs):notCls ox=true:=by unfold notCls;rw[h]
theorem Wz{h:Heap}{p:Addr×Addr}{c:Nat}{fs:TZ}{P:Array Value->Prop}(q:Kl X h ρ p c fs P)(ne:fs≠[]):IR X h ρ p c fs:=by obtain⟨cs,_,ox,vs,h1,h2,h3,_,hh⟩:=q;exact hh.elim (λhh=>absurd hh.2.1 ne) λhh=>ja cs h1 h2 (O9 h3) hh.1 hh.2.2
theorem Inv.inst(I:Inv X l s.heap ρ σ){i:Nat}{p:Addr×Addr}{c:Nat}{fs:TZ}(hp:ρ[i]?=some p)(e:σ[i]?=some (.inst c fs)\/((σ[i]?=some (.exc c fs)\/σ[i]?=some (.up c fs))/\fs≠[])):IR X s.heap ρ p c fs:=by
 rcases e with e|⟨e|e,ne⟩
 .obtain⟨cs,_,ox,h1,h2,h3,h4,f⟩:=I.objs i p _ hp e;exact ja cs h1 h2 h3 h4 f
 .exact Wz (I.objs i p _ hp e) ne
 .exact Wz (I.objs i p _ hp e) ne
theorem sY{α:Type}{o:Option α}(h:o.isNone=true):o=none:=by cases o<;>first|rfl|cases h
theorem gu{β:Type}{z:β}{P:β->Prop}{o:zb1}{G:Prop}{f:Nat->List (Nat×U)->β}(nz:P z->False)(H:P (QR z o f))(k:∀c fs,(o=some (.inst c fs)\/o=some (.exc c fs)\/o=some (.up c fs))->P (f c fs)->G):G:=by
 cases o with
 |none=>exact(nz H).elim
 |some o=>cases o<;>first|exact k _ _ (.inl Z) H|exact k _ _ (.inr (.inl Z)) H|exact k _ _ (.inr (.inr Z)) H|exact(nz H).elim
theorem H7(SF:X.K.In X.h₀)(I:Inv X l s.heap ρ σ){k:Nat}{expr:Bool}(hk:k<X.nn)(V:VR X s.heap ρ a x)(H:aB X l (VR X) (getAttr X.T a k σ) s ρ Q E):
  wpAny X.M A (PySem.getAttr x (X.nm k) expr) Q E s:=by
 have KF:=SF.keeps I.low;refine aB.ref V H λi p hp H=>?_;refine gu (P:=λr=>aB X l (VR X) r s ρ Q E) id H λc fs e H=>?_;refine aB.gd H λhm H=>?_;refine bY (Ad H I) λv e' q=>?_
 induction I.inst hp (e.imp id λe=>⟨e,λz=>by rw[z] at e';cases e'⟩) with
 |mk m od ox cs IA h4 h5 h6 h7 h8 _ _=>
 have h9:=h6 k hk;rw[e'] at h9;refine bY h9 λr xe R=>?_;refine um cs.cd λcd hc wF _=>?_
 have hf:findObj X.K (X.ca c) (some od) (X.nm k)=some (.value r):=by
  unfold findObj;rw[hc,Option.bind_some,cs.fld k hk (sY hm),Option.bind_some]
  dsimp only
  rw[Option.bind_some,Option.bind_some]
  dsimp only
  unfold PySem.W.ownOf;rw[wF,bz Z]
  dsimp only
  rw[h8,xe];rfl
 cases hx:X.T.isExc c with
 |false=>exact get_value KF IA (cs.ga hx) hf (Ec R) (q _ r R)
 |true=>exact Cw KF IA (cs.gx hx).1 cs.gk (cs.gx hx).2 hf (Ec R) (q _ r R)
def jA(X:Ctx)(l:za7)(r:Option St)(s:Shared)(ρ:Su)(Q:Shared->Prop):Prop:=match r with
 |some σ'=>∀h' tk cY,Step X l uA s.heap ρ h' cY σ'->Q {s with heap:=h',toks:=tk}
 |none=>False
theorem SX{fs:TZ}{k j:Nat}{v:U}:pB (oJ fs k v) j=if j=k then some v else pB fs j:=by
 induction fs with
 |nil=>
  show Option.map _ (cond (k==j) _ _)=_
  by_cases h:j=k
  .rw[bz h,h,beq_self_eq_true];rfl
  .rw[bh h,beq_false_of_ne (Ne.symm h)];rfl
 |cons e r ih=>
  have fc:∀(e:Nat×U) l,pB (e::l) j=if e.1=j then some e.2 else pB l j:=λe l=>by
   unfold pB;rw[vK]
   by_cases h:e.1=j
   .rw[bz h,show(e.1==j)=true from beq_iff_eq.mpr h];rfl
   .rw[bh h,beq_false_of_ne h]
  show pB (if(e.1==k)=true then(k,v)::r else e::oJ r k v) j=_
  by_cases q:e.1=k
  .rw[bz (beq_iff_eq.mpr q),fc,fc,q]
   by_cases h:k=j
   .rw[bz h,bz h.symm]
   .rw[bh h,bh (Ne.symm h),bh h]
  .rw[bh (λz=>q (beq_iff_eq.mp z)),fc,fc,ih]
   by_cases h:e.1=j
   .rw[bz h,bz h,bh λz=>q (h.trans z)]
   .rw[bh h,bh h]
theorem DQ{M:Model}{a:Addr}{name:Str}{v:Value}{Q:za2}{E:Q3}{s:Shared}{R:Heap->Prop}{o:Obj}{es:Array DictEntry}{ep:Nat}(ho:s.heap.get? a=some o)(hd:o.data= .dict es ep)(hk:StrKeys es)
  (base:∀Γ p,Sem.wp M Γ (nsSet a name v) (λ_ _ s'=>R s'.heap) (λe _ s=>E e s) p s) (hQ:∀h',R h'->(∃ o',h'.get? a=some o'/\o'.cls=o.cls)->Q () {s with heap:=h',toks:=s.toks+1}):wpAny M A (nsSet a name v) Q E s:=λΓ p _=>by
 have base:=base Γ p
 have r5:es.any (·.refKey)=false:=by rw[Array.any_eq_false'];intro e he;obtain⟨n,t,h⟩:=hk e he;simp[DictEntry.refKey,h]
 simp only[nsSet,strHash,Sem.wp_bind',Sem.wp_cmd_ask,Sem.wp_pure',Sem.wp_cmd_mkText] at base ⊢;rw[Sem.wp_loadPart_of M Γ (λe _ s=>E e s) _ {s with toks:=s.toks+1} _ ho] at base ⊢;simp only[hd,aRefKeyMayBeTheName_eq,aRefKeyMayBeTheNameByArray,r5,Bool.and_false,yl,if_false,Sem.wp_cmd_updatePart] at base ⊢;refine⟨base.1,hQ _ base.2 ?_⟩;obtain⟨oc,od,dt,sl⟩:=o;subst hd;refine(aZ _ (ym _ ho ?_) ?_)
 .simp only[Obj.putName_eq,Obj.putNameByArray];split<;>rfl
 .simp only[Obj.putName_eq,Obj.putNameByArray];split<;>rfl
theorem O5{M:Model}{a:Addr}{m:Str->Option Value}{name:Str}{v c:Value}{Q:za2}{E:Q3}{s:Shared}(hn:s.heap.Ns1 a m)(hc:∃o,s.heap.get? a=some o/\o.cls=c)
  (hQ:∀h',h'.Ns1 a (λx=>if x=name then some v else m x)->Heap.SameBut a s.heap h'->(∃ o,h'.get? a=some o/\o.cls=c)->Q () {s with heap:=h',toks:=s.toks+1}):
  wpAny M A (nsSet a name v) Q E s:=by
 have hn':=hn;obtain⟨o,es,ep,ho,hd,hk,_⟩:=hn';obtain⟨o',ho',rX⟩:=hc;rw[ho] at ho';cases ho';refine DQ (R:=λh'=>h'.Ns1 a (λx=>if x=name then some v else m x)/\Heap.SameBut a s.heap h') ho hd hk (λΓ p=>Sem.wp_nsSet1 M Γ _ p s hn name v _ λh' a b=>⟨a,b⟩) λh' q ⟨o',g,c⟩=>?_;exact hQ h' q.1 q.2 (aZ o' g (c.trans rX))
end
section
variable{E:Q3}
theorem As{K:Frag}{x BC:Addr}{ox:Obj}{od:Option Obj}{name:Str}{tk:Tok}{v:Value}{cd:ClassData}{R:Result->Shared->Prop}(XK:K.In s.heap)(I:InstAt s.heap x ox BC od)(hc:clsIn K BC=some cd)(ne:cd.mro.isEmpty=false)
  (ho:cd.mro.contains (.type "object")=true) (BE:∀self,refuseLoop self "__setattr__" cd.mro=pure ()) (ht:findIn K (.ref BC) name=some none)
  (h:wpAny X.M A.in1 (storeInOwnDict (.ref x) (.ref BC) (.str name tk) name v false)
   (λfin s'=>match fin with| .done f=>R (.ok f) s'| .again c'=>c'.quiet=true/\codeAny X.M A c' R s') (λe s'=>R (.error e) s') s):
  codeAny X.M A (.call (.builtin "object.__setattr__") ⟨[.ref x,.str name tk,v],[]⟩) R s:=by
 have SF:=PySem.F.store_object;have sub:Looks X.M s.heap (isInstance (.ref x) (.type "object")) true:=I.type.andThen (looks_mroIn XK (by unfold mroIn;rw[hc,Option.bind_some,bh (by rw[ne];decide),ho]));refine codeAny_call_builtin SF.slot.plain SF.entry (@check_slot X.M _ _ s "object.__setattr__" "object" "__setattr__" (.ref x) [.str name tk,v] [] _ SF.kind SF.split sub (SF.args (.ref x) (.str name tk) v) ?_);have hm:Looks X.M s.heap (mroOf (.ref BC)) cd.mro:=(looks_clsIn XK hc).andThen .now;rw[osa_eq,refuse_eq];refine aU (aU (I.type.here (aU (hm.here ?_))));rw[BE];refine cF (aU (I.type.here (aU ((looks_findIn XK ht).here (aU (cF ?_))))));exact h
theorem Eh{e:Nat×U}{r:TZ}{k:Nat}{v:U}:oJ (e::r) k v=if(e.1==k)=true then(k,v)::r else e::oJ r k v:=rfl
theorem I5{j k:Nat}{v:U}{fs:TZ}(h:j∈fs.map (·.1)\/j=k):j∈(oJ fs k v).map (·.1):=by
 induction fs with
 |nil=>exact h.elim (λh=>nomatch h) λh=>h▸ .head _
 |cons e r ih=>
  rw[Eh]
  by_cases q:(e.1==k)=true
  .rw[bz q]
   rcases h with h|h
   .rcases zb5 h with h|h
    .exact List.mem_cons.mpr (.inl (h.trans (dB q)))
    .exact .tail _ h
   .rw[h];exact .head _
  .rw[bh q]
   rcases h with h|h
   .rcases zb5 h with h|h
    .exact List.mem_cons.mpr (.inl h)
    .exact .tail _ (ih (.inl h))
   .exact .tail _ (ih (.inr h))
theorem Bp{h aJ:Heap}{fs:TZ}{d:Addr}{k:Nat}{m:Str->Option Value}(inj:∀i j,i<X.nn->j<X.nn->X.nm i=X.nm j->i=j)(hk:k<X.nn)(F:NP X h ρ fs m)(W:Within m (fs.map λe=>X.nm e.1))(V:VR X h ρ b y)
  (st:Still h aJ) {aM:Su} (rn:jF ρ aM) (hn:aJ.Ns1 d (λx=>if x=X.nm k then some y else m x)) {od:Obj} (hc:aJ.get? d=some od) (SM:od.cls= .type "dict"):tM X aJ aM (oJ fs k b) d:=by
 refine⟨_,hn,λn w8=>?_,λz hz=>?_,od,hc,SM⟩
 .rw[SX]
  by_cases e:n=k
  .subst e;rw[bz Z];exact(aZ y (bz Z) (VR.mono st rn _ _ V))
  .rw[bh e];simp only[bh λq=>e (inj n k w8 hk q)];have F':=NP.mono st rn F n w8;exact F'
 .have up:∀j,(j∈fs.map (·.1)\/j=k)->X.nm j∈(oJ fs k b).map λe=>X.nm e.1:=λj hj=>by refine bY (List.mem_map.mp (I5 (v:=b) hj)) λe he q=>?_;exact List.mem_map.mpr (aZ e he (by rw[q]))
  by_cases e:z=X.nm k
  .rw[e];exact up k (.inr Z)
  .simp only[bh e] at hz;refine bY (List.mem_map.mp (W z hz)) λe he q=>?_;rw[<- q];exact up _ (.inl (List.mem_map_of_mem he))
theorem yx{fs:TZ}{k:Nat}{v:U}:(oJ fs k v).length<=fs.length+1:=by
 induction fs with
 |nil=>exact bR _
 |cons e r ih=>
  rw[Eh]
  by_cases q:(e.1==k)=true
  .rw[bz q];exact pI _
  .rw[bh q];exact vL ih
theorem jF.set{i:Nat}{p q:Addr×Addr}(hp:ρ[i]?=some p)(e:q.1=p.1):jF ρ (ρ.set i q):=λj r hr=>by
 by_cases h:i=j
 .subst h;rw[hp] at hr;cases hr;exact(aZ q (iy (zb6 hp).1) e)
 .exact(aZ r (by rw[jX h];exact hr) Z)
theorem Jp{i:Nat}{q:Addr×Addr}{b:Addr}(f:foot (ρ.set i q) b):foot ρ b\/b=q.1\/b=q.2:=by
 refine bY f λr hr e=>?_
 rcases List.mem_or_eq_of_mem_set hr with h|h
 .exact .inl (aZ r h e)
 .subst h;exact .inr e
theorem Step.lazy{h s6:Heap}(I:Inv X l h ρ σ){ir:Addr->Prop}{i:Nat}{p:Addr×Addr}{o:AO}{AM:Addr}(hp:ρ[i]?=some p)(pp:p.2=p.1)(hD:h.get? AM=none)(sm:(AM==sysModules)=false)
  (k:∀b o,b≠p.1->h.get? b=some o->s6.get? b=some o) (xk:j6 h p.1->j6 s6 p.1) {o1 o2:Obj} (e1:s6.get? p.1=some o1) (t1:tracked o1=true) (e2:s6.get? AM=some o2) (t2:tracked o2=true)
  (q:OR X s6 (ρ.set i (p.1,AM)) (p.1,AM) o):Step X l ir h ρ s6 (ρ.set i (p.1,AM)) (σ.set i o):=by
 have fp:=gB (gq hp);have li:=(zb6 hp).1
 have nt:∀b o,h.get? b=some o->tracked o=false->b≠p.1:=λb o e t z=>by have:=I.qC e t;exact this (z▸fp)
 have st:Still h s6:=λb o e t=>k b o (nt b o e (iR t).1) e
 have RI:∀b o,h.get? b=some o->∃o',s6.get? b=some o':=λb o e=>by
  by_cases z:b=p.1
  .subst z;exact⟨o1,e1⟩
  .exact⟨o,k b o z e⟩
 have EE:∀b,foot ρ b->b≠AM:=λb f z=>by obtain⟨o,e⟩:=I.qO f;rw[z,hD] at e;cases e
 have cs:∀(j:Nat) r,(ρ.set i (p.1,AM))[j]?=some r->(j=i/\r=(p.1,AM))\/(j≠i/\ρ[j]?=some r):=λj r e=>by
  by_cases z:i=j
  .subst z;rw[iy li] at e
   cases e;exact .inl ⟨Z,Z⟩
  .rw[jX z] at e;exact .inr ⟨Ne.symm z,e⟩
 refine⟨⟨λb o e=>k b o (λz=>?_) (I.low b o e),by rw[fB,fB,I.len],λj r o' a b=>?_,λr hr=>?_,λj j' r r' cq a b=>?_,λb f=>?_,λenv he=>(I.SQ env he).same λb o e c=>k b o (nt b o e (by unfold tracked;rw[c];decide)) e⟩,λb o e f _=>.inl (k b o (λz=>f (z▸fp)) e),(jW (jF.set hp Z) (λb f=>?_) (λb f=>?_)),RI,λb e=>?_⟩
 .have:=(I.new _ fp).1;rw[<- z,e] at this;cases this
 .rcases cs j r a with⟨rfl,rfl⟩|⟨z,a⟩
  .rw[iy (by rw[<- I.len];exact li)] at b
   cases b;exact q
  .rw[jX (Ne.symm z)] at b;have ap:=I.apart i j p r (Ne.symm z) hp a;exact(I.objs j r o' a b).mono (λo e=>k _ _ (Ne.symm ap.1) e) (λo e=>k _ _ (Ne.symm ap.2.1) e) st (jF.set hp Z)
 .obtain⟨j,hj⟩:=List.getElem?_of_mem hr
  rcases cs j r hj with⟨_,rfl⟩|⟨z,a⟩
  .exact(rA o1 o2 e1 t1 e2 t2)
  .have ap:=I.apart i j p r (Ne.symm z) hp a;refine oK (I.there r (gq a)) λo o' x1 x2 x3 x4=>?_;exact(rA o o' (k _ _ (Ne.symm ap.1) x1) x2 (k _ _ (Ne.symm ap.2.1) x3) x4)
 .rcases cs j r a with⟨rfl,rfl⟩|⟨z,a'⟩<;>rcases cs j' r' b with⟨rfl,rfl⟩|⟨z',b'⟩
  .exact absurd Z cq
  .have ap:=I.apart _ _ p r' cq hp b';have m:=gq b';exact(Jf ap.1 ap.2.1 (Ne.symm (EE _ (gB m))) (Ne.symm (EE _ (nq m))))
  .have ap:=I.apart _ _ p r (Ne.symm cq) hp a';have m:=gq a';exact(Jf (Ne.symm ap.1) (EE _ (gB m)) (Ne.symm ap.2.1) (EE _ (nq m)))
  .exact I.apart _ _ r r' cq a' b'
 .rcases Jp f with f|f|f
  .exact I.new b f
  .rw[f];exact I.new _ fp
  .rw[f];refine⟨?_,sm⟩
   cases g:X.h₀.get? AM with
   |none=>rfl
   |some o=>have:=I.low _ o g;rw[hD] at this;cases this
 .refine bY f λr hr e=>?_
  by_cases z:r=p
  .subst z;have:b=r.1:=by rcases e with e|e<;>simp_all
   subst this;exact(aZ (r.1,AM) (gq (iy li)) (.inl Z))
  .obtain⟨j,hj⟩:=List.getElem?_of_mem hr;have:i≠j:=λz'=>by subst z';rw[hp] at hj;cases hj;exact z Z
   exact(aZ r (gq (by rw[jX this];exact hj)) e)
 .rcases Jp f with f|f|f
  .exact .inl f
  .rw[f];exact .inl fp
  .rw[f];exact .inr hD
 .by_cases z:b=p.1
  .subst z;exact xk e
  .refine gH e λo vs e r=>?_;exact(dK o vs (k b o z e) r)
theorem UL{dx x BC:Addr}{ox:Obj}{od:Option Obj}{name:Str}{tk:Tok}{v:Value}{cd:ClassData}{K:Frag}{m:Str->Option Value}{ns:za3}{Q:Fin->Shared->Prop}(XK:K.In s.heap)(I:InstAt s.heap x ox BC od)(hc:clsIn K BC=some cd)
  (wF:cd.hasDict=true) (hd:ox.dict=some dx) (hn:s.heap.Ns1 dx m) (rX:∃o,s.heap.get? dx=some o/\o.cls= .type "dict") (W:Within m ns) (hl:ns.length<1001)
  (h:∀h',h'.Ns1 dx (λx=>if x=name then some v else m x)->Heap.SameBut dx s.heap h'->(∃ o,h'.get? dx=some o/\o.cls= .type "dict")->Q (.done (.ret .none)) {s with heap:=h',toks:=s.toks+1}):
  wpAny X.M A (storeInOwnDict (.ref x) (.ref BC) (.str name tk) name v false) Q E s:=by
 obtain⟨hx,W9,ZI, -⟩:=I;obtain⟨oc,So,Sp,MH⟩:=ox
 dsimp only at W9 hd
 subst W9 hd;refine aU (cF (aU (aU (wpAny_loadPart hx (aU ((looks_clsIn XK hc).here ?_))))));rw[wF];refine cF (aU (cF (aU ?_)));refine O5 hn rX λh' hn' hs hc'=>?_;refine uh (hn'.count (Within.cons name v W)) λoD esD epD IC IQ IT=>?_;refine aU (wpAny_lookBehind IC (by rw[IQ];exact pastItsLine_dict (bO IT (by rw[dC,sizeLine_eq];exact oW (bj hl (dl Z))))) ?_);exact cF (h h' hn' hs hc')
theorem HD{x BC:Addr}{ox:Obj}{od:Option Obj}{name:Str}{tk:Tok}{v:Value}{cd:ClassData}{K:Frag}{Q:Fin->Shared->Prop}(XK:K.In s.heap)(I:InstAt s.heap x ox BC od)(hc:clsIn K BC=some cd)
  (wF:cd.hasDict=true) (hd:ox.dict=none) {vs:za8} (xP:ox.data= .fields vs)
  (h:∀h',h'.Ns1 s.heap.objs.size (λx=>if x=name then some v else none)->(∀ b o,b≠x->s.heap.get? b=some o->h'.get? b=some o)->h'.get? x=some {ox with dict:=some s.heap.objs.size}->(∃ o,h'.get? s.heap.objs.size=some o/\o.cls= .type "dict")->Q (.done (.ret .none)) {s with heap:=h',toks:=s.toks+1}):
  wpAny X.M A (storeInOwnDict (.ref x) (.ref BC) (.str name tk) name v false) Q E s:=by
 obtain⟨hx,W9,ZI, -⟩:=I;obtain⟨oc,So,Sp,MH⟩:=ox
 dsimp only at W9 hd xP
 subst W9 hd xP;have kb:(s.heap.push {cls:=.type "dict",data:=.dict #[]}).get? x=some ⟨.ref BC,none,.fields vs,MH⟩:=mY _ hx;have M1:=iV (vN hx);refine aU (cF (aU (aU (wpAny_loadPart hx (aU ((looks_clsIn XK hc).here ?_))))));rw[wF];refine aU (wpAny_alloc ?_);refine aU (wpAny_update kb ?_);refine cF (aU (cF (aU ?_)))
 have NG:((s.heap.push {cls:=.type "dict",data:=.dict #[]}).update x λo=>{o with dict:=some s.heap.objs.size}).get? s.heap.objs.size
   =some {cls:=.type "dict",data:=.dict #[]}:=
  (Heap.get?_update_ne _ _ _ _ M1.symm).trans (Heap.get?_push_at Z Z)
 have qj:((s.heap.push {cls:=.type "dict",data:=.dict #[]}).update x λo=>{o with dict:=some s.heap.objs.size}).Ns s.heap.objs.size (λ_=>none):=
  (oG _ (#[]) _ NG Z (λe he=>absurd he (by simp)) (λ_=>rfl))
 refine O5 (Heap.Ns1.of_empty qj) (aZ _ NG Z) λh' hn' hs hc'=>?_;refine uh (hn'.count (Within.cons name v Within.nil)) λoD esD epD IC IQ IT=>?_;refine aU (wpAny_lookBehind IC (by rw[IQ];exact pastItsLine_dict (bO IT (by rw[dC,List.length_nil,sizeLine_eq];exact dl Z))) ?_);refine cF (h h' hn' (λb o ne e=>?_) ?_ hc')
 .exact(hs.2 b (iV (vN e))).trans ((Heap.get?_update_ne _ _ _ _ ne).trans (mY _ e))
 .exact(hs.2 x M1).trans (ym _ kb Z)
theorem Ql{fs:TZ}{k:Nat}{v:U}:oJ fs k v≠[]:=λz=>by have:=I5 (v:=v) (fs:=fs) (j:=k) (.inr Z);rw[z] at this;cases this
theorem VV{h aJ:Heap}{b:Addr}{m:Str->Option Value}(q:h.Ns1 b m):j6 h b->j6 aJ b:=λ⟨o,vs,e,d,_⟩=>by refine uh q λo' es ep e' d' _=>?_;rw[e] at e';cases e';rw[d] at d';cases d'
theorem Sd{p:Addr×Addr}{ox:Obj}{c:Addr}(h1:s.heap.get? p.1=some ox)(h2:ox.cls= .ref c){od:Obj}(h3:s.heap.get? p.2=some od)(h4:od.cls= .type "dict"):p.1≠p.2:=λz=>by rw[<- z,h1] at h3;cases h3;rw[h2] at h4;cases h4
theorem lP{od:Obj}(e:od.cls= .type "dict"):tracked od=true:=by unfold tracked;rw[e];rfl
theorem Mc{od:Obj}{c:Addr}(e:od.cls= .ref c):tracked od=true:=by unfold tracked;rw[e]
theorem Ve(SF:X.K.In X.h₀)(inj:∀i j,i<X.nn->j<X.nn->X.nm i=X.nm j->i=j)(I:Inv X l s.heap ρ σ){k i c:Nat}(hk:k<X.nn){p:Addr×Addr}{fs:TZ}(hp:ρ[i]?=some p)(R:IR X s.heap ρ p c fs)(W:VR X s.heap ρ b y)(hm:((X.T.fU c k).isNone&&decide (fs.length<1000))=true){o:AO}{Q:Shared->Prop}
  (f:∀(h':Heap) (ox:Obj),yH X c->(oJ fs k b).length<=1000->s.heap.get? p.1=some ox->h'.get? p.1=some ox->ox.cls= .ref (X.ca c)->notCls ox=true->ox.dict=some p.2->tM X h' ρ (oJ fs k b) p.2->OR X h' ρ p o)
  (H:jA X l (some (σ.set i o)) s ρ Q):wpAny X.M A (PySem.setAttr (.ref p.1) (X.nm k) y) (λ_ s'=>Q s') E s:=by
 have KF:=SF.keeps I.low;have hm:=and_true hm
 induction R with
 |mk m od ox cs IA h4 h5 h6 h7 h8 h9 xe=>
 refine C0 cs.cd λcd hc wF qJ ho BE=>?_;refine set_plain KF IA cs.sa ?_;refine As KF IA hc qJ ho BE (cs.fld k hk (sY hm.1)) ?_;have hl:=eY hm.2;refine UL KF IA hc wF h4 h5 (aZ _ h7 xe) h9 (by rw[dN];exact oV hl) λh' hn' hs hc'=>?_;refine bY hc' λod' g2 g3=>?_;have g1:=(hs.2 _ (Sd IA.at_ IA.cls h7 xe)).trans IA.at_;exact H _ _ _ (Step.update I hp (.inr Z) hs (VV h5) g1 (Mc IA.cls) g2 (lP g3) (f h' ox cs (bO yx (oW hl)) IA.at_ g1 IA.cls IA.no h4 (Bp inj hk h6 h9 W (km I hp (.inr Z) hs) (jF.refl _) hn' g2 g3)))
theorem HR(SS:X.h₀.NoLimit)(SF:X.K.In X.h₀)(inj:∀i j,i<X.nn->j<X.nn->X.nm i=X.nm j->i=j)(I:Inv X l s.heap ρ σ){k:Nat}(hk:k<X.nn)(V:VR X s.heap ρ a x)(W:VR X s.heap ρ b y){Q:Shared->Prop}(H:jA X l (setAttr X.T a k b σ) s ρ Q):
  wpAny X.M A (PySem.setAttr x (X.nm k) y) (λ_ s'=>Q s') E s:=by
 refine ue (P:=λr=>jA X l r s ρ Q) id H λi ei H=>?_;subst ei;refine V.ref λp hp=>?_;have H:jA X l (yX X.T σ[i]? i k b σ) s ρ Q:=H
 cases e:σ[i]? with
 |none=>rw[e] at H;exact H.elim
 |some o=>
  rw[e] at H;have R:=I.objs i p o hp e
  cases o with
  |inst c fs=>refine lF (P:=λr=>jA X l r s ρ Q) id H λhm H=>?_;exact Ve (o:=.inst c (oJ fs k b)) SF inj I hk hp (I.inst hp (.inl e)) W hm (λh' ox cs hl _ g1 h2 h3 h4 f=>⟨cs,hl,ox,g1,h2,h3,h4,f⟩) H
  |exc c fs=>
   refine lF (P:=λr=>jA X l r s ρ Q) id H λhm H=>?_;obtain⟨cs,_,ox,vs,h1,h2,h3,NX,h4⟩:=R
   by_cases ne:fs=[]
   .subst ne
    rcases h4 with⟨h4,_,h5⟩|⟨_,h4,_⟩
    .have hm:=and_true hm;refine C0 cs.cd λcd hc wF qJ ho BE=>?_;have KF:=SF.keeps I.low;have IA:InstAt s.heap p.1 ox (X.ca c) none:=⟨h1,h2,O9 h3,by rw[h4];trivial⟩;refine set_plain KF IA cs.sa<|As KF IA hc qJ ho BE (cs.fld k hk (sY hm.1)) ?_;refine HD KF IA hc wF h4 h3 λh' hn' NC hx hc'=>?_;refine bY hc' λod' g2 g3=>?_;have st:Still s.heap h':=λbb o eo to=>NC bb o (λz=>I.qC eo (iR to).1 (z▸gB (gq hp))) eo
     exact H h' _ _ (Step.lazy I hp h5 (uv (bR _)) (rO SS I) NC (λ⟨o,vs,e,r⟩=>(gn _ vs hx (by rw[h1] at e;cases e;exact r.1) r.2)) hx (Mc h2) g2 (lP g3)
      ⟨cs,bO yx Y,_,vs,hx,h2,h3,NX,.inr (jW Z Ql (Bp inj hk (λn _=>rfl) Within.nil W st (jF.set hp Z) hn' g2 g3))⟩)
    .exact absurd Z h4
   .refine Ve SF inj I hk hp (I.inst hp (.inr ⟨.inl e,ne⟩)) W hm (λh' ox' cs hl q1 g1 h2 _ h4 f=>?_) H;obtain rfl:=Option.some.inj (h1.symm.trans q1);exact⟨cs,hl,ox,vs,g1,h2,h3,NX,.inr (jW h4 Ql f)⟩
  |_=>exact H.elim
end
section
variable{E:Q3}
theorem Bv{e:U×U}{r:YR}{k v:U}:oM (e::r) k v=if Ax e.1 k=true then(e.1,v)::r else e::oM r k v:=rfl
theorem JH{α K:Type}[DecidableEq K]{h:Heap}(key:α->K)(val:α->Value)(enc:K->U)(k:K)(rV:∀a,Ax (enc a) (enc k)=decide (a=k))(put:α->α)(new:α)(y:Value)(b:U)
  (p1:∀x,key (put x)=key x) (p2:∀x,val (put x)=if key x=k then y else val x) (n1:key new=k) (n2:val new=y) (V:VR X h ρ b y) (es:YR):
  ∀xs:List α,es.map (·.1)=xs.map (λx=>enc (key x))->cA X h ρ (es.map (·.2)) (xs.map val)->(xs.map key).Nodup->
   ∃zs,zs=(if xs.any (λx=>decide (key x=k)) then xs.map put else xs++[new])/\(oM es (enc k) b).map (·.1)=zs.map (λx=>enc (key x))/\cA X h ρ ((oM es (enc k) b).map (·.2)) (zs.map val):=by
 induction es with
 |nil=>intro xs e _ _;rw[List.map_eq_nil_iff.mp e.symm];exact(oH _ Z (congrArg (λz=>[enc z]) n1.symm) (cA.cons (n2▸V) cA.nil))
 |cons e es ih=>
  intro xs he hv nd
  cases xs with
  |nil=>cases he
  |cons x xs=>
   have he:=List.cons.inj he;refine gZ hv λv r hr V1 V2=>?_;have hr:=List.cons.inj hr;rw[<- hr.1] at V1;rw[<- hr.2] at V2;rw[cH,List.nodup_cons] at nd;rw[Bv,show e.1=enc (key x) from he.1,rV,rG]
   by_cases q:key x=k
   .have no:∀z∈xs,key z≠k:=λz hz e=>nd.1 (by rw[q,<-e];exact List.mem_map_of_mem hz);rw[dF q];refine(oH (put x::xs.map put) Z ?_ ?_)
    .rw[bz Z,cH,cH,List.map_map,p1,show es.map (·.1)=_ from he.2];exact congrArg _ (List.map_congr_left λz _=>congrArg enc (p1 z).symm)
    .rw[bz Z,cH,cH,List.map_map,p2,bz q];refine cA.cons V ?_;rw[show xs.map (val ∘ put)=xs.map val from List.map_congr_left λz hz=>(p2 z).trans (bh (no z hz))];exact V2
   .refine um (ih xs he.2 V2 nd.2) λzs h1 h2 h3=>?_;rw[dY q,Bool.false_or,bh Bool.false_ne_true]
    by_cases g:(xs.any λx=>decide (key x=k))=true
    .rw[bz g] at h1 ⊢;refine(oH _ Z ?_ ?_)
     .rw[cH,cH,h2,h1,cH,List.map_map,p1,show e.1=enc (key x) from he.1]
     .rw[cH,cH,cH,p2,bh q,<-h1];exact cA.cons V1 h3
    .rw[bh g] at h1 ⊢;refine(oH _ Z ?_ ?_)
     .rw[cH,List.cons_append,cH,h2,h1,show e.1=enc (key x) from he.1]
     .rw[cH,List.cons_append,cH,<-h1];exact cA.cons V1 h3
theorem JL{es:YR}{k v:U}:(oM es k v).length<=es.length+1:=by
 induction es with
 |nil=>exact bR _
 |cons e r ih=>
  rw[Bv]
  by_cases q:Ax e.1 k=true
  .rw[bz q];exact pI _
  .rw[bh q];exact vL ih
theorem G3{K:Type}[DecidableEq K]{prog:Program}{w:World}{knd:KeyKind prog w K}{h:Heap}{a:Addr}{jm:List (K×Value)}(q:h.DictOf knd a jm):(jm.map (·.1)).Nodup:=JB q λ_ _ _ _ _ _ _ _ n=>n
theorem CN{K:Type}[DecidableEq K]{prog:Program}{w:World}{knd:HeapKind prog w K}{h:Heap}{a:Addr}{jm:List (K×Addr×Value)}(q:h.DictOfH knd a jm):(jm.map (·.1)).Nodup:=JB q λ_ _ _ _ _ _ _ _ n=>n
theorem jB.dat{h:Heap}{d:Addr}{es:YR}(AM:jB X h ρ d es):∃o es' ep,h.get? d=some o/\o.cls= .type "dict"/\o.dict=none/\o.data= .dict es' ep:=by
 cases AM with
 |kI _ a _ _=>exact rC a λo es ep h1 h2 h3 _=>(oG o es ep h1 h2.1 h2.2.1 h3)
 |kS _ a _ _=>exact rC a λo es ep h1 h2 h3 _=>(oG o es ep h1 h2.1 h2.2.1 h3)
 |kT _ a _ _=>exact rC a λo es ep h1 h2 h3 _=>(oG o es ep h1 h2.1 h2.2.1 h3)
theorem M4{K:Type}[DecidableEq K]{prog:Program}{w:World}{knd:KeyKind prog w K}{h:Heap}{a:Addr}{jm:List (K×Value)}(q:h.DictOf knd a jm):∃o,h.get? a=some o/\tracked o=true:=by refine uh q λo _ _ ho hc _=>?_;exact(aZ o ho (by unfold tracked;rw[hc.1];rfl))
theorem JF{K:Type}[DecidableEq K]{prog:Program}{w:World}{knd:HeapKind prog w K}{h:Heap}{a:Addr}{jm:List (K×Addr×Value)}(q:h.DictOfH knd a jm):∃o,h.get? a=some o/\tracked o=true:=by refine uh q λo _ _ ho hc _=>?_;exact(aZ o ho (by unfold tracked;rw[hc.1];rfl))
theorem Rv{la:Addr}{items:za8}{n:Nat}{k:Int}{t:Tok}{v:Value}{Q:za2}(hl:IsL s.heap la items n)
  (h0:0<=k) (B1:k<2^63) (hn:k<items.size)
  (hQ:∀h',(∃ n',IsL h' la (items.setIfInBounds k.toNat v) n')->Heap.SameBut la s.heap h'->Q () {s with heap:=h'}):
  wpAny X.M A (setItem (.ref la) (.int k t) v) Q E s:=by
 have hL:=hl.isList;unfold setItem
 try with_reducible refine kh ?_
 first|refine aU (cF ?_)|skip
 refine aU (wpAny_sequenceKey hL.typeIs Y ?_)
 refine aU (wpAny_callSpecial?_slot hL.typeIs slot_list_setitem
  (wpAny_call_entry slot_list_setitem hL.typeIs entry_list_setitem ?_ (args_list_setitem _ _ _)))
 show wpAny _ _ (Builtin.List.listSubscript? (.int k t)>>=_) _ _ s;refine aU (wpAny_listSubscript_int (fitsIndex_of h0 B1) ?_);clear B1;obtain⟨j,rfl⟩:=Int.eq_ofNat_of_zero_le h0;have hj:j<items.size:=by exact Z9 hn
 have hx':=Array.getElem?_eq_getElem hj;refine aU (aU (wpAny_seqItemAt hl Z (cF ?_)));rw[hx'];refine aU (wpAny_setSeqItemAt hl Z ?_);have B2:=hQ _ ⟨_,IsL.update hl (λxs=>xs.setIfInBounds j v)⟩ (Heap.SameBut.update ..)
 first
  |exact aU (cF (cF (aZ .none Z (cF B2))))
  |exact cF ⟨.none,Z,cF B2⟩
theorem jA.at'{r:Option St}{Q:Shared->Prop}(H:jA X l r s ρ Q){aJ:Heap}{tk:Nat}{aM:Su}{aC:St}(S:Step X l uA s.heap ρ aJ aM aC):jA X l r {s with heap:=aJ,toks:=tk} aM Q:=by
 cases r with
 |some σ'=>intro h' tk' cY S';exact H h' tk' cY (S.trans S')
 |none=>exact H
theorem Gd{h aJ:Heap}{b:Addr}{YA:za8}{n:Nat}(q:IsL h b YA n):j6 h b->j6 aJ b:=λ⟨o,vs,e,d,_⟩=>by rw[q] at e;cases e;cases d
theorem Z5{h aJ:Heap}{b:Addr}{es:YR}(AM:jB X h ρ b es):j6 h b->j6 aJ b:=λq=>by refine rC AM.dat λo' es' ep e' _ _ d'=>?_;refine gZ q λo vs e d _=>?_;rw[<- Option.some.inj (e.symm.trans e'),d] at d';cases d'
theorem YD{α K:Type}[DecidableEq K](key:α->K)(k:K)(xs:List α):(xs.any λx=>decide (key x=k))=(xs.find? λx=>decide (key x=k)).isSome:=by
 induction xs with
 |nil=>rfl
 |cons a r ih=>rw[rG,vK,ih];cases decide (key a=k)<;>rfl
theorem ite_val{α β:Type}{p:Prop}[Decidable p]{f:α->β}{a b:α}:f (if p then a else b)=if p then f a else f b:=by by_cases h:p<;>simp only[h,if_true,if_false]
theorem map_len{α β γ:Type}{f:α->γ}{g:β->γ}{l:List α}{r:List β}(h:l.map f=r.map g):r.length=l.length:=by have:=congrArg List.length h;rw[dN,dN] at this;exact this.symm
theorem KY(I:Inv X l s.heap ρ σ)(hu:A.units+64<cLine)(V:VR X s.heap ρ a x)(W:VR X s.heap ρ b y)(gz:VR X s.heap ρ c z){Q:Shared->Prop}(H:jA X l (rP a b c σ) s ρ Q):
  wpAny X.M A (setItem x y z) (λ_ s'=>Q s') E s:=by
 refine ue (P:=λr=>jA X l r s ρ Q) id H λi ei H=>?_;subst ei;refine V.ref λp hp=>?_;have H:jA X l (Fx σ[i]? i b c σ) s ρ Q:=H
 cases e:σ[i]? with
 |none=>rw[e] at H;exact H.elim
 |some o=>
  rw[e] at H;have R:=I.objs i p o hp e
  cases o with
  |list ls=>refine ni (P:=λr=>jA X l r s ρ Q) id H λk ek H=>?_;subst ek;refine W.int λt=>?_;refine lF (P:=λr=>jA X l r s ρ Q) id H λhk H=>?_;have h0:=eY (and_true hk).1;have hk:=eY (and_true hk).2;obtain⟨pp,ll,vs,nn,il,w⟩:=R;have lv:=cA.length w;refine Rv il h0 (EL h0 hk ll) ((Int.toNat_lt h0).mp (show k.toNat<vs.length by rw[lv];exact hk)) λh' ⟨n',g⟩ sb=>?_;rw[List.setIfInBounds_toArray] at g;exact H h' s.toks ρ (Step.update I hp (.inl Z) sb (Gd il) g Z (by rw[pp];exact g) Z ⟨pp,by rw[fB];exact ll,_,n',g,cA.mono (km I hp (.inl Z) sb) (jF.refl _) _ _ (cA.set w gz)⟩)
  |dict es=>
   refine lF (P:=λr=>jA X l r s ρ Q) id H λok H=>?_;have ok:=and_true ok;have lt:=eY ok.2;obtain⟨pp,ll,AM⟩:=R
   have fin:∀{h':Heap} {tk:Nat} {o:Obj},Heap.SameBut p.1 s.heap h'->h'.get? p.1=some o->tracked o=true->(Still s.heap h'->jB X h' ρ p.1 (oM es b c))->Q {s with heap:=h',toks:=tk}:=λ{h' tk o} sb g t q=>
    H h' tk ρ (Step.update I hp (.inl Z) sb (Z5 AM) g t (by rw[pp];exact g) t (jW pp (bO JL (oW lt)) (q (km I hp (.inl Z) sb))))
   by_cases k3:kindOf b=3
   .obtain⟨u,v,rfl⟩:=Wu k3;refine AM.AK ok.1 W λxs ad ey h1 h2 h3 h4=>?_;subst ey;refine wpAny_setItem_heap (tupleKind_room_in1 (dq hu)) h2 h1 (λh' g sb=>?_) (by rw[map_len h3];exact jP ll);refine bY (JF g) λo g1 g2=>?_;refine fin sb g1 g2 λst=>?_;refine um (JH (λx:List Int×Addr×Value=>x.1) (λx=>x.2.2) (λk=>U.tup (k.map U.int)) [u,v] PL (putAt [u,v] z) ([u,v],ad,z) z c (λx=>by unfold putAt;split<;>rfl) (λx=>by unfold putAt;rw[ite_val (f:=λx:List Int×Addr×Value=>x.2.2)]) Z Z gz es xs h3 h4 (CN h1)) λzs e r1 r2=>?_;have e':zs=storedH xs [u,v] ad z:=by rw[e,YD];unfold storedH atKey;rw[Option.isSome_map]
    exact .kT zs (e'▸g) r1 (cA.mono st (jF.refl _) _ _ r2)
   .refine AM.key ok.1 k3 W λknd enc jm kk ek h1 h2 h3 h4 h5 mk=>?_;refine wpAny_setItem_pairs h1 h2 (λh' g sb=>?_) (by rw[map_len h3];exact jP ll);refine bY (M4 g) λo g1 g2=>?_;refine fin sb g1 g2 λst=>?_;refine um (JH Prod.fst Prod.snd enc kk (h5 · kk) (λx=>if x.1=kk then(x.1,z) else x) (kk,z) z c (λx=>by rw[ite_val (f:=Prod.fst)];split<;>rfl) (λx=>by rw[ite_val (f:=Prod.snd)]) Z Z gz es jm h3 h4 (G3 h2)) λzs e r1 r2=>?_;rw[<- ek] at r1 r2;exact mk zs (e▸g) r1 (cA.mono st (jF.refl _) _ _ r2)
  |_=>exact H.elim
end
end
end Mine.Internal
namespace Mine.Internal
open PySem PySem.W PyProof.Rows PySem.Calls Builtin Builtin.ObjectAttr Builtin.Str
noncomputable section
variable{X:Ctx}{G:za4}{Nm:za3}{T:Tab}{Φ:iC}{d n:Nat}{hd:Bool}{A:Around}{l:za7}{env:Env}{cx:Cx}{B:Loc}{s:Shared}{ρ:Su}{σ:St}{Q:Q3}{a b c:U}{x y z:Value}
section
variable{E:Q3}
noncomputable def jb(o:za9):Option Int:=o.map Int.ofNat
theorem QD{β:Type}{z:β}{P:β->Prop}{h:Heap}{f:Option Nat->β}{G:Prop}(nz:P z->False)(V:VR X h ρ a x)(H:P (bound z a f))(k:∀(o:za9) (p:Option (Int×Tok)),IsPart x (jb o)->x=partValue p->p.map (·.1)=jb o->P (f o)->G):G:=by
 cases a with
 |none=>exact k none none (by rw[show x= .none from V];exact .none) V Z H
 |int i=>refine lF nz H λhk H=>?_;obtain⟨t,rfl⟩:=V;have e:jb (some i.toNat)=some i:=congrArg some (Int.toNat_of_nonneg (eY hk));exact k (some i.toNat) (some (i,t)) (by rw[e];exact .int i t) Z e.symm H
 |_=>exact(nz H).elim
theorem M7{α:Type}(vs:List α)(lo hi:za9):((vs.drop ((jb lo).elim 0 (clipAt vs.length))).take ((jb hi).elim vs.length (clipAt vs.length) - (jb lo).elim 0 (clipAt vs.length)))=cut vs lo hi:=by
 have cc:∀k:Nat,clipAt vs.length (Int.ofNat k)=min k vs.length:=λk=>clipAt_nat _ k;rw[<- List.drop_take]
 have go:∀X:List α,X.length<=vs.length->X.drop ((jb lo).elim 0 (clipAt vs.length))=X.drop (lo.getD 0):=λX hX=>by
  cases lo with
  |none=>rfl
  |some a=>
   refine(congrArg X.drop (cc a)).trans ?_
   rcases Nat.le_total a vs.length with h|h
   .rw[Nat.min_eq_left h];rfl
   .rw[Nat.min_eq_right h,List.drop_eq_nil_of_le hX];exact(List.drop_eq_nil_of_le (bO hX h)).symm
 cases hi with
 |none=>exact(congrArg (List.drop _) List.take_length).trans (go vs (bR _))
 |some b=>
  have e:vs.take (min b vs.length)=vs.take b:=by rw[<- List.take_take,List.take_length]
  exact(congrArg (λk=>(vs.take k).drop _) (cc b)).trans ((congrArg (List.drop _) e).trans (go _ (List.length_take_le' _ _)))
theorem Im(vs:Tu)(lo hi:za9):slicePick vs.toArray (jb lo) (jb hi) none=(cut vs lo hi).toArray:=by rw[slicePick_plain];simp only[jJ];rw[M7]
theorem Qx{α:Type}(vs:List α)(lo hi:za9):(cut vs lo hi).Sublist vs:=by
 cases hi
 .exact List.drop_sublist _ _
 .exact(List.drop_sublist _ _).trans (List.take_sublist _ _)
theorem G6{α:Type}(vs:List α)(lo hi:za9):(cut vs lo hi).length<=vs.length:=(Qx vs lo hi).length_le
theorem cA.cut{h:Heap}{as:Th}{vs:Tu}(lo hi:za9)(V:cA X h ρ as vs):cA X h ρ (Mine.Internal.cut as lo hi) (Mine.Internal.cut vs lo hi):=by
 unfold Mine.Internal.cut
 cases hi
 .exact cA.drop _ V
 .exact cA.drop _ (cA.take _ V)
theorem JT(n:Nat)(o:za9)(dflt:Nat)(hd:dflt<=n):(match jb o with
  |none=>(dflt:Int)
  |some i=>max 0 (min (if i<0 then i+(n:Int) else i) n))=(((jb o).elim dflt (clipAt n):Nat):Int)/\(jb o).elim dflt (clipAt n)<=n:=by
 cases o with
 |none=>exact⟨Z,hd⟩
 |some k=>refine⟨(clipAt_cast n (Int.ofNat k)).symm,?_⟩;show clipAt n (Int.ofNat k)<=n;have:=clipAt_nat n k;rw[Int.ofNat_eq_natCast,this];exact Nat.min_le_right _ _
theorem yu(n:Nat)(lo hi:za9):∃a b:Nat,a<=n/\b<=n/\a=(jb lo).elim 0 (clipAt n)/\b=(jb hi).elim n (clipAt n)/\strSliceIndices (jb lo) (jb hi) 1 n=(List.range (b - a)).map (λk=>a+k):=by
 have h1:=JT n lo 0 (gf _);have h2:=JT n hi n (bR _);refine(Mf _ _ h1.2 h2.2 Z Z ?_);generalize(jb lo).elim 0 (clipAt n)=a at h1;generalize(jb hi).elim n (clipAt n)=b at h2;unfold strSliceIndices;simp only[show((1:Int)>0)=True from by simp,if_true];have e1:=h1.1;have e2:=h2.1;simp only[Int.natCast_zero] at e1;show sliceRange (match jb lo with|none=>0|some i=>max 0 (min (if i<0 then i+(n:Int) else i) n)) (match jb hi with|none=>(n:Int)|some i=>max 0 (min (if i<0 then i+(n:Int) else i) n)) 1=_;rw[e1,e2]
 by_cases r6:a<=b
 .have:=StrLaws.strSliceIndices_plain r6 h2.2
  have cl:∀k:Nat,k<=n->max 0 (min (if(k:Int)<0 then(k:Int)+n else k) n)=(k:Int):=λk h=>by rw[bh (PX),Int.min_eq_left (Int.ofNat_le.mpr h),Int.max_eq_right (pL k)]
  unfold strSliceIndices at this;simp only[show((1:Int)>0)=True from by simp,if_true,cl a h1.2,cl b h2.2] at this;exact this
 .have:b - a=0:=by exact Rw (lJ (yj r6))
  rw[this];unfold sliceRange;simp only[show((1:Int)>0)=True from by simp,if_true];rw[bh (Bb (lJ (yj r6)))]
  rfl
theorem UJ(x:Str)(lo hi:za9):(strSliceIndices (jb lo) (jb hi) 1 x.length).filterMap (x.cps[·]?)=Mine.Internal.cut x.cps.toList lo hi:=by
 refine JC (yu x.length lo hi) λa b ha hb ea eb e=>?_;have c:=M7 x.cps.toList lo hi;have lx:x.cps.toList.length=x.length:=by simp[Str.length]
 rw[lx,<-ea,<-eb] at c;rw[<- c,e]
 by_cases r6:a<=b
 .have:=StrLaws.sliced_plain x r6 hb;rw[StrLaws.strSliceIndices_plain r6 hb] at this;exact this
 .have:b - a=0:=by exact Rw (lJ (yj r6))
  rw[this];simp
theorem str_len(x:Str)(lo hi:za9):(strSliceIndices (jb lo) (jb hi) 1 x.length).length=(Mine.Internal.cut x.cps.toList lo hi).length:=by
 refine JC (yu x.length lo hi) λa b ha hb ea eb e=>?_;have c:=M7 x.cps.toList lo hi;have lx:x.cps.toList.length=x.length:=by simp[Str.length]
 rw[lx,<-ea,<-eb] at c;rw[<- c,e,dN,List.length_range,yh,lK,lx];exact(Nat.min_eq_left (Nat.sub_le_sub_right hb a)).symm
theorem Tg{α:Type}(vs:List α)(lo hi:za9)(h:(Mine.Internal.cut vs lo hi).length=vs.length):Mine.Internal.cut vs lo hi=vs:=(Qx vs lo hi).eq_of_length h
theorem jl{o:Obj}(b:Addr)(o':Obj)(e:s.heap.get? b=some o'):(s.heap.push o).get? b=some o':=mY _ e
theorem Rn(SS:X.h₀.NoLimit){value sl:Expr}(I:Inv X l s.heap ρ σ)(V:VR X s.heap ρ a x)(CE:VR X s.heap ρ b y)(vc:VR X s.heap ρ c z)(H:aB X l (VR X) (slice a b c σ) s ρ Q E):
  wpAny X.M A (subscriptTail value sl x (.ref s.heap.objs.size)) Q E {s with heap:=s.heap.push {cls:=.type "slice",data:=.fields #[y,z,.none]}}:=by
 refine QD (P:=λr=>aB X l (VR X) r s ρ Q E) id CE H λlo q1 p1 r1 t1 H=>?_;refine QD (P:=λr=>aB X l (VR X) r s ρ Q E) id vc H λhi q2 p2 r2 t2 H=>?_;have S1:Step X l uA s.heap ρ (s.heap.push {cls:=.type "slice",data:=.fields #[y,z,.none]}) ρ σ:=Step.keeps I jl;have H1:=aB.at (tk:=s.toks) H S1
 cases a with
 |str st=>
  refine V.str λt ll=>?_;refine mF (typeIs_str _ _ _) F.slot_str_getitem.lookup (wpAny_getItem_str_slice (st:=none) (oH _ (oE _ Z) Z (by rw[r1,r2];rfl)) Z ?_);have B4:=UJ ⟨st.toArray⟩ lo hi;have hlen:=str_len ⟨st.toArray⟩ lo hi;simp only at B4 hlen;have lst:(⟨st.toArray⟩:Str).length=st.length:=by simp[Str.length]
  unfold sliceMade slicePicked;rw[t1,t2];have lc:=bO (G6 st lo hi) ll
  split
  .rename_i q
   simp only[Option.map_none,Option.getD_none,beq_self_eq_true,yg,beq_iff_eq] at q;rw[hlen,lst] at q;show Q _ _;exact aB.q9 S1.inv H1 ⟨lc,t,by rw[Tg st lo hi q]⟩
  .show _/\_;simp only[Option.map_none,Option.getD_none];rw[B4];exact⟨jP lc,aB.val S1.inv H1 ⟨lc,_,Z⟩⟩
 |ref i=>refine V.ref λp hp=>?_;refine aB.list S1.inv hp H1 λls vs nn _ ll il w lv H1=>?_;refine mF il.isList.typeIs list_getitem_lookup (wpAny_getItem_list_slice il.isList (Heap.IsSliceOf.new ..) p1 p2 .none (by simp) ?_ (by rw[jJ,lv];exact jP ll));rw[Im];obtain⟨S,R⟩:=sU SS S1.inv (cA.cut lo hi w) (bO (G6 _ _ _) ll);exact H1 _ s.toks _ _ S R
 |_=>exact H1.elim
theorem Zn(SS:X.h₀.NoLimit){value sl:Expr}{t:Tok}(I:Inv X l s.heap ρ σ)(V:VR X s.heap ρ a x)(H:aB X l (VR X) (ZM a σ) s ρ Q E):
  wpAny X.M A (subscriptTail value sl x (.ref s.heap.objs.size)) Q E {s with heap:=s.heap.push {cls:=.type "slice",data:=.fields #[.none,.none,.int (-1) t]}}:=by
 have S1:Step X l uA s.heap ρ (s.heap.push {cls:=.type "slice",data:=.fields #[.none,.none,.int (-1) t]}) ρ σ:=Step.keeps I jl;refine aB.ref V H λi p hp H=>?_;refine aB.list S1.inv hp (aB.at (tk:=s.toks) H S1) λls vs nn _ ll il w lv H1=>?_;refine mF il.isList.typeIs list_getitem_lookup (wpAny_getItem_list_slice il.isList (Heap.IsSliceOf.new ..) .none .none (.int (-1) t) (by simp) ?_ (by rw[jJ,lv];exact jP ll));rw[krv_pick];obtain⟨S,R⟩:=sU SS S1.inv (cA.reverse w) (by rw[List.length_reverse];exact ll);exact H1 _ s.toks _ _ S R
noncomputable def Wb(start stop step:Int)(i:Nat):Bool:=
 if step>0 then start<=i&&i<stop&&(i - start)%step==0
 else stop<i&&i<=start&&(start - i)%(-step)==0
theorem X3(vs:Tu)(k:Nat):∀j,(vs.zipIdx j).filterMap (λ(x,i)=>if Wb (k:Int) ((j:Int)+vs.length) 1 i then none else some x)=vs.take (k - j):=by
 induction vs with
 |nil=>intro j;simp
 |cons a r ih=>
  intro j;rw[List.zipIdx_cons,List.filterMap_cons];have ih':=ih (j+1);have e:((j+1:Nat):Int)+(r.length:Int)=(j:Int)+((a::r).length:Int):=by simp only[dC];lia
  rw[e] at ih';rw[ih'];unfold Wb;simp only[show((1:Int)>0)=True from by simp,if_true,Int.emod_one,beq_self_eq_true,Bool.and_true]
  by_cases h:k<=j
  .have h1:(decide ((k:Int)<=(j:Int))&&decide ((j:Int)<(j:Int)+((a::r).length:Int)))=true:=by simp only[dC,jH,decide_eq_true_eq];lia
   rw[h1];simp only[if_true];rw[show k - j=0 by exact Rw h,show k - (j+1)=0 by exact Rw (oU h)];rfl
  .have h1:(decide ((k:Int)<=(j:Int))&&decide ((j:Int)<(j:Int)+((a::r).length:Int)))=false:=by rw[Bool.and_eq_false_iff];left;simp only[N5];exact uY (yj h)
   rw[h1];simp only[yl,if_false];rw[show k - j=(k - (j+1))+1 by exact wb (yj h)];rfl
theorem G4{la sl:Addr}{vs:Tu}{n:Nat}{k:Int}{u:Tok}{Q:za2}(hl:IsL s.heap la vs.toArray n)(hs:s.heap.IsSliceOf sl (.int k u) .none .none)(h0:0<=k)(wq:vs.length<=LL)
  (h:∀h',(∃ n',IsL h' la (vs.take k.toNat).toArray n')->Heap.SameBut la s.heap h'->Q () {s with heap:=h'}):wpAny X.M A (delItem (.ref la) (.ref sl)) Q E s:=by
 refine um (id hs) λos EN xc Ho=>?_;have hL:=hl.isList;have NV:s.TypeIs (.ref sl) "slice":=(aZ os EN xc);refine wpAny_delItem_slot (aZ _ hl Z) Y F.slot_list_delitem (wpAny_call_entry F.slot_list_delitem (aZ _ hl Z) F.entry_list_delitem ?_ (F.args_list_delitem_2 _ _));show wpAny _ _ (Builtin.List.listSubscript? (.ref sl)>>=_) _ _ s;refine aU ?_;unfold Builtin.List.listSubscript?;refine aU (wpAny_specialOf NV slice_no_index ?_);simp only[Option.isNone_none,if_true];refine cF ?_;refine aU (wpAny_typeOf NV ?_);rw[bh Y];rw[listSliceParts_eq];refine aU (aU (nJ EN Ho Z (aU (wpAny_listPart .none ?_))));rw[bh Y];refine aU (nJ EN Ho Z (aU (wpAny_listPart (.int k u) ?_)));refine aU (nJ EN Ho Z (aU (wpAny_listPart .none (cF ?_))));refine aU (listItems_at hl Z ?_);refine aU (wpAny_of_eq (sliceIndices_raw (some k) none none vs.toArray.size (by simp)) ?_);refine aU (wpAny_rule ?_);have key:∀F:Array Value->Array Value,F vs.toArray=(vs.take k.toNat).toArray->∃n',IsL (s.heap.update la (Obj.mapSeq F)) la (vs.take k.toNat).toArray n':=λF e=>⟨_,by have:=IsL.update hl F;rw[e] at this;exact this⟩
 have cl:clipAt vs.length k=min k.toNat vs.length:=by have:=clipAt_nat vs.length k.toNat;rw[Int.toNat_of_nonneg h0] at this;exact this
 have ff:((vs.toArray.toList.zipIdx.filterMap λ(x,i)=>if Wb (sliceBounds (some k) none none vs.toArray.size).1 (sliceBounds (some k) none none vs.toArray.size).2.1 (sliceBounds (some k) none none vs.toArray.size).2.2 i then none else some x).toArray)=(vs.take k.toNat).toArray:=by
  rw[sliceBounds_plain];simp only[Option.elim,jJ,cl];have:=X3 vs (min k.toNat vs.length) 0;simp only[Int.natCast_zero,Int.zero_add,Nat.sub_zero] at this;rw[this]
  congr 1
  by_cases q:k.toNat<=vs.length
  .rw[Nat.min_eq_left q]
  .rw[Nat.min_eq_right (lJ (yj q)),Hv (bR _),Hv (lJ (yj q))]
 refine aU (listUpdate_at hl Z ?_ (by rw[jJ,sizeLine_eq];unfold LL at wq;exact bO wq (dl Z)) ?_)
 .refine aU (wpAny_letGo (cF (aZ _ Z (h _ (key _ ff) (Heap.SameBut.update ..)))))
 .refine bO (dh (congrArg Array.size ff)) ?_;rw[jJ,yh,sizeLine_eq];unfold LL at wq;exact MU (bO wq (dl Z))
theorem U6(I:Inv X l s.heap ρ σ)(V:VR X s.heap ρ a x)(W:VR X s.heap ρ b y){Q:Shared->Prop}(H:jA X l (M5 a b σ) s ρ Q):
  wpAny X.M A (delItem x (.ref s.heap.objs.size)) (λ_ s'=>Q s') E {s with heap:=s.heap.push {cls:=.type "slice",data:=.fields #[y,.none,.none]}}:=by
 refine ue (P:=λr=>jA X l r s ρ Q) id H λi ei H=>?_;refine ni (P:=λr=>jA X l r s ρ Q) id H λk ek H=>?_;refine yE (P:=λr=>jA X l r s ρ Q) id H λls e H=>?_;refine lF (P:=λr=>jA X l r s ρ Q) id H λh0 H4=>?_;subst ei ek;refine V.ref λp hp=>?_;refine W.int λu=>?_;have S1:Step X l uA s.heap ρ (s.heap.push {cls:=.type "slice",data:=.fields #[.int k u,.none,.none]}) ρ σ:=Step.keeps I jl;obtain⟨pp,ll,vs,nn,il,w⟩:=S1.inv.objs i p _ hp e;refine G4 il (Heap.IsSliceOf.new ..) (eY h0) (by rw[cA.length w];exact ll) λh' ⟨n',g⟩ sb=>?_;exact jA.at' H4 S1 h' s.toks ρ (Step.update S1.inv hp (.inl Z) sb (Gd il) g Z (by rw[pp];exact g) Z ⟨pp,by rw[yh];exact MU ll,_,n',g,cA.mono (km S1.inv hp (.inl Z) sb) (jF.refl _) _ _ (cA.take _ w)⟩)
end
variable{aM:Su}{aC:St}{h aJ eZ:Heap}{ir:Addr->Prop}
section
variable{E:Q3}
def Hid(h:Heap)(b:Addr):Prop:=∀o,h.get? b=some o->iD o=false/\o.cls≠.type "frame"
theorem Step.Ny(S:Step X l ir h ρ aJ aM aC){b:Addr}(b0:h.get? b=none)(x0:X.h₀.get? b=none)(bf:¬foot aM b)(uf:Hid aJ b)(k:Heap.ExtBut b aJ eZ):Step X l ir h ρ eZ aM aC:=by
 have st:Still aJ eZ:=λc o e t=>k c o (λz=>by subst z;have:=(uf o e).1;rw[t] at this;cases this) e;have nb:∀c,foot aM c->c≠b:=λc f z=>bf (z▸f);have n0:∀c o,h.get? c=some o->c≠b:=λc o e z=>by subst z;rw[b0] at e;cases e
 refine⟨⟨λc o e=>k c o (λz=>by subst z;rw[x0] at e;cases e) (S.inv.low c o e),S.inv.len,λi p o ep eo=>?_,λp hp=>?_,S.inv.apart,S.inv.new,λenv he=>?_⟩,λc o e f y=>?_,S.ext,λc o e=>?_,λc e=>?_⟩
 .have m:=gq ep;exact(S.inv.objs i p o ep eo).mono (λo e=>k _ o (nb _ (gB m)) e) (λo e=>k _ o (nb _ (nq m)) e) st (jF.refl _)
 .refine oK (S.inv.there p hp) λo o' x1 x2 x3 x4=>?_;exact(rA o o' (k _ _ (nb _ (gB hp)) x1) x2 (k _ _ (nb _ (nq hp)) x3) x4)
 .obtain⟨q1,CE,o,es,n,q2,q3,q4,q5,q6⟩:=S.inv.SQ env he;exact⟨q1,CE,o,es,n,q2,q3,k CE o (λz=>by subst z;exact(uf o q4).2 q5) q4,q5,q6⟩
 .rcases S.keep c o e f y with q|⟨q1,sl,q2⟩
  .exact .inl (k c o (n0 c o e) q)
  .exact .inr ⟨q1,sl,k c _ (n0 c o e) q2⟩
 .obtain⟨o',e'⟩:=S.there c o e;exact⟨o',k c o' (n0 c o e) e'⟩
 .refine gH e λo vs e1 e2=>?_;refine gH (S.exc c (dK o vs e1 e2)) λo' vs' e3 e4=>?_;exact(dK o' vs' (k c o' (n0 c o e1) e3) e4)
theorem kZ(I:Inv X l h ρ σ){b:Addr}(e:h.get? b=none):X.h₀.get? b=none:=by
 cases g:X.h₀.get? b with
 |none=>rfl
 |some o=>have:=I.low b o g;rw[e] at this;cases this
def Et(X:Ctx)(h:Heap)(ρ:Su)(I:Addr)(k:Nat):U->Prop
 | .tup l=>∃a vs n,l.length<=LL/\IsT h a vs.toArray n/\cA X h ρ l vs/\h.IsTupleIter I a k
 | .str s=>∃t,h.IsStrIter I (if(⟨s.toArray⟩:Str).cps.all (·<128) then "str_ascii_iterator" else "str_iterator") ⟨s.toArray⟩ t k
 | .yK a b c=>lQ a=true/\lQ b=true/\(c=1\/c= -1)/\IsRangeIter h I (a+c*k) (Builtin.Range.rangeSize a b c - k) c
 | .ref i=>∃p,ρ[i]?=some p/\h.IsListIter I p.1 k
 |_=>False
theorem Et.mono{I:Addr}{k:Nat}(st:Still h aJ)(e:jF ρ aM)(ki:∀o,h.get? I=some o->aJ.get? I=some o){v:U}(q:Et X h ρ I k v):Et X aJ aM I k v:=by
 cases v with
 |tup l=>refine rC q λa vs n q0 q1 q2 it=>?_;refine bY it λo q3 q4=>?_;exact⟨a,vs,n,q0,st _ _ q1 Z,cA.mono st e _ _ q2,o,ki _ q3,q4⟩
 |str s=>refine gH q λt o q3 q4=>?_;exact(dK t o (ki _ q3) q4)
 |yK a b c=>exact(Jf q.1 q.2.1 q.2.2.1 (ki _ q.2.2.2))
 |ref i=>refine bY q λp q1 it=>?_;refine bY it λo q2 q3=>?_;refine bY (e i p q1) λp' e' q=>?_;exact⟨p',e',o,ki _ q2,by rw[q];exact q3⟩
 |_=>exact q.elim
theorem FY(s:Sa):(if(⟨s.toArray⟩:Str).cps.all (·<128) then "str_ascii_iterator" else "str_iterator")="str_ascii_iterator"\/(if(⟨s.toArray⟩:Str).cps.all (·<128) then "str_ascii_iterator" else "str_iterator")="str_iterator":=by
 split
 .exact .inl Z
 .exact .inr Z
theorem Gp{I:Addr}{o:Obj}{n:String}(e:h.get? I=some o)(c:o.cls= .type n)(k:(n=="list"||n=="dict"||n=="set")=false/\(Value.type n== .type "tuple"||Value.type n== .type "range")=false/\Value.type n≠.type "frame"):∃o,h.get? I=some o/\tracked o=false/\iD o=false/\o.cls≠.type "frame":=
 (WR o e (by unfold tracked;rw[c];exact k.1) (pP (by rw[c];exact k.2.1)) (by rw[c];exact k.2.2))
theorem Et.obj{I:Addr}{k:Nat}{v:U}(q:Et X h ρ I k v):∃o,h.get? I=some o/\tracked o=false/\iD o=false/\o.cls≠.type "frame":=by
 cases v with
 |tup l=>refine rC q λ_ _ _ _ _ _ it=>?_;exact um it λo q3 q4 _=>Gp q3 q4 Y
 |str s=>
  refine gZ q λt o q3 q4 _=>?_
  rcases FY s with e|e<;>rw[e] at q4<;>exact Gp q3 q4 Y
 |yK a b c=>exact Gp q.2.2.2 Z Y
 |ref i=>refine bY q λ_ _ it=>?_;exact um it λo q3 q4 _=>Gp q3 q4 Y
 |_=>exact q.elim
theorem Et.uf{I:Addr}{k:Nat}{v:U}(q:Et X h ρ I k v):Hid h I:=λo e=>by refine Bu q.obj λo' e' q1 q2 q3=>?_;rw[e] at e';cases e';exact⟨q2,q3⟩
theorem Et.lX{I:Addr}{k:Nat}{v:U}(q:Et X h ρ I k v)(oD:Inv X l h ρ σ):¬foot ρ I:=by refine Bu q.obj λo' e' q1 q2 q3=>?_;exact oD.qC e' q1
theorem Vj(a b:Int):(if a<b then(b - a - 1) / 1+1 else 0)=(((b - a).toNat:Nat):Int):=by
 rw[Int.ediv_one,Int.sub_add_cancel]
 by_cases q:a<b
 .rw[bz q,Int.toNat_of_nonneg (Int.sub_nonneg_of_le (qW q))]
 .rw[bh q,Int.toNat_of_nonpos (Int.sub_nonpos_of_le (Int.not_lt.mp q))];rfl
theorem Vl{a:Int}(h:lQ a=true): -1152921504606846976<=a/\a<=1152921504606846976:=⟨eY (and_true h).1,eY (and_true h).2⟩
theorem xr{a b c:Int}(h1:lQ a=true)(h2:lQ b=true)(h3:c=1\/c= -1):Builtin.Range.small a b c=true/\Builtin.Range.rangeSize a b c=(rT a b c:Nat):=by
 have h1:=Vl h1;have h2:=Vl h2
 have fits:∀i:Int, -4611686018427387904<=i->i<=4611686018427387904->Builtin.Range.rangeFitsLong i=true:=λi p q=>by unfold Builtin.Range.rangeFitsLong;rw[dF (nG Y p),dF (Int.lt_of_le_of_lt q Y)];rfl
 rcases h3 with rfl|rfl
 .have e:Builtin.Range.rangeSize a b 1=(((b - a).toNat:Nat):Int):=Vj a b;refine⟨?_,e⟩;unfold Builtin.Range.small;rewrite[e,fits a (by lia) (by lia),fits b (by lia) (by lia),fits 1 Y Y,fits ↑(b - a).toNat (by lia) (by lia),bz Y,fits (b+(1 - 1)) (by lia) (by lia),Bool.or_true];rfl
 .have e:Builtin.Range.rangeSize a b (-1)=(((a - b).toNat:Nat):Int):=Vj b a;refine⟨?_,e⟩;unfold Builtin.Range.small;rewrite[e,fits a (by lia) (by lia),fits b (by lia) (by lia),fits (-1) Y Y,fits ↑(a - b).toNat (by lia) (by lia),bh Y,fits (b+(-1+1)) (by lia) (by lia),Bool.or_true];rfl
theorem HY(I:Inv X l s.heap ρ σ)(V:VR X s.heap ρ a x){r:Option U}(e:dJ a n σ=some r)
  (hQ:∀o,Et X (s.heap.push o) ρ s.heap.objs.size 0 a->Q (.ref s.heap.objs.size) {s with heap:=s.heap.push o}):wpAny X.M A (pyIter x) Q E s:=by
 cases a with
 |tup ls=>refine V.tup λad vs nn ll ht w=>?_;exact wpAny_pyIter_tuple ⟨_,ht,Z,nn,Z⟩ (hQ _ ⟨ad,vs,nn,ll,jl _ _ ht,cA.mono (eF jl) (jF.refl _) _ _ w,_,oE _ Z,Z,Z⟩)
 |str st=>
  refine V.str λt ll=>?_
  cases ha:(⟨st.toArray⟩:Str).cps.all (·<128) with
  |true=>exact wpAny_pyIter_ascii ha (hQ _ ⟨t,by rw[ha];exact(oH _ (oE _ Z) Z Z)⟩)
  |false=>exact wpAny_pyIter_wide ha (hQ _ ⟨t,by rw[ha];exact(oH _ (oE _ Z) Z Z)⟩)
 |yK p q r'=>obtain⟨q1,q2,q3,r,t,u,w,rfl,hr⟩:=V;refine wpAny_pyIter_range hr (xr q1 q2 q3).1 (hQ _ (Jf q1 q2 q3 ?_));simp only[Int.natCast_zero,Int.mul_zero,Int.add_zero,Int.sub_zero];exact oE _ Z
 |ref i=>refine V.ref λp hp=>?_;refine yE (P:=(·=some r)) ns e λls el _=>?_;obtain⟨_,_,vs,nn,il,w⟩:=I.objs i p _ hp el;exact wpAny_pyIter_list il.isList (hQ _ ⟨p,hp,_,oE _ Z,Z,Z⟩)
 |_=>cases e
theorem QS{vs:Tu}{k:Nat}{r:Value}(h:vs[k]?=some r):vs.toArray[k]?=some r:=by rw[Dh];exact h
open PySem.StrLaws in
theorem HX{I:Addr}{k:Nat}(oD:Inv X l s.heap ρ σ)(V:Et X s.heap ρ I k a){v:U}(e:dJ a k σ=some (some v)){Q:Option Value->Shared->Prop}
  (hQ:∀r h' tk,VR X s.heap ρ v r->Heap.ExtBut I s.heap h'->Et X h' ρ I (k+1) a->Q (some r) {s with heap:=h',toks:=tk}):wpAny X.M A (pyNext (.ref I)) Q E s:=by
 have uf:=V.uf
 cases a with
 |tup ls=>
  refine rC V λad vs nn ll ht w it=>?_;refine bY (cA.get w (Option.some.inj e)) λr e' R=>?_;refine wpAny_pyNext_tuple_item it ⟨_,ht,Z,nn,Z⟩ (QS e') λh' it' sb=>hQ r h' s.toks R sb.extBut (oG ad vs nn ll (sb.extBut _ _ ?_ ht) (cA.mono (λb o eb t=>sb.extBut b o ?_ eb) (jF.refl _) _ _ w) it')
  .intro z;rw[z] at ht;exact Bool.noConfusion (uf _ ht).1
  .intro z;rw[z] at eb;rw[(uf o eb).1] at t;cases t
 |str st=>
  refine Exists.elim V λt it=>?_;obtain⟨cc,e',rfl⟩:=zb3 (Option.some.inj e);have e':st.toArray[k]?=some cc:=by rw[Dh];exact e'
  cases ha:(⟨st.toArray⟩:Str).cps.all (·<128) with
  |true=>rw[ha] at it;exact wpAny_pyNext_ascii_item it e' λh' it' sb=>hQ _ h' _ ⟨dl Z,_,Z⟩ sb.extBut ⟨t,by rw[ha];exact it'⟩
  |false=>rw[ha] at it;exact wpAny_pyNext_wide_item it e' λh' it' sb=>hQ _ h' _ ⟨dl Z,_,Z⟩ sb.extBut ⟨t,by rw[ha];exact it'⟩
 |yK p q r=>
  refine XQ V λq1 q2 q3 it=>?_;have sm:=(xr q1 q2 q3).2;have e:=Option.some.inj e;unfold Vm at e
  by_cases lt:k<rT p q r
  .rw[bz lt] at e;obtain rfl:=Option.some.inj e;rw[sm] at it;refine wpAny_pyNext_range_item it (Int.sub_pos_of_lt (Int.ofNat_lt.mpr lt)) λh' it' sb=>hQ _ h' _ ⟨_,Z⟩ sb.extBut (Jf q1 q2 q3 ?_);have e1:p+r*((k+1:Nat):Int)=p+r*k+r:=by rw[CZ,Int.mul_add];simp;exact Eq.symm (Int.add_assoc _ _ _)
   rw[sm,e1,show(rT p q r:Int) - ((k+1:Nat):Int)=rT p q r - k - 1 by rw[CZ,Int.sub_sub];rfl];exact it'
  .rw[bh lt] at e;cases e
 |ref i=>refine bY V λp hp it=>?_;refine yE (P:=(·=some (some v))) ns e λls el e=>?_;obtain⟨_,_,vs,nn,il,w⟩:=oD.objs i p _ hp el;refine bY (cA.get w (Option.some.inj e)) λr e' R=>?_;exact wpAny_pyNext_list_item it il.isList (QS e') λh' it' sb=>hQ r h' s.toks R sb.extBut (aZ p hp it')
 |_=>cases e
theorem CG:entryFor table "proto.unchain"=some Builtin.«proto.unchain»:=entryFor_of_tree (by kernel_rfl)
theorem Fw{it:Addr}{x left step:Int}{e:Addr}{Q:Option Value->Shared->Prop}(hh:A.handled=some (.ref e))(ex:j6 s.heap e)(hit:IsRangeIter s.heap it x left step)(BO:left<=0)
  (hQ:∀h',Heap.ExtBut it s.heap h'->Q none {s with heap:=h'}):wpAny X.M A (pyNext (.ref it)) Q E s:=by
 have hT:s.TypeIs (.ref it) "range_iterator":=(aZ _ hit Z);refine gZ ex λoe vs e1 e2 e3=>?_;unfold pyNext
 refine aU (wpAny_attempt (wpAny_callSpecial?_slot hT F.slot_range_iterator_next
  (wpAny_call_entry F.slot_range_iterator_next hT F.entry_range_iterator_next ?_ (F.args_range_iterator_next_1 _))))
 show wpAny _ _ (field (.ref it) 0>>=_) _ _ s;refine aU (nJ hit Z Z ?_);refine aU (nJ hit Z Z ?_);refine aU (nJ hit Z Z ?_);show wpAny _ _ (if left<=0 then _ else _) _ _ s;rw[bz BO];refine aU (wpAny_rule ?_);refine aU ?_;refine aU ?_;simp only[newExc,newTuple];refine aU (wpAny_newObj_type ?_ (by size_fits));refine aU (wpAny_of_eq (by first|rfl|(simp only[firstArgMember];rfl)) ?_);refine wpAny_newObj_type ?_ (by size_fits);unfold raiseNew;refine aU (wpAny_handled ?_)
 first|rw[show A.in1.handled=some (.ref e) from hh]|rw[hh]
 have rE:=vN e1
 have qJ:(Value.ref e !=Value.ref (s.heap.push {cls:=.type "tuple",data:=.seq #[]}).objs.size)=true:=by rw[bne_iff_ne,vO];intro z;injection z with z;exact iV (oV rE) z
 dsimp only
 rw[qJ,bz Z];generalize hN:(s.heap.push {cls:=.type "tuple",data:=.seq #[]}).objs.size=N at qJ;have K:∀(o1 o2:Obj) b o,s.heap.get? b=some o->((s.heap.push o1).push o2).get? b=some o:=λo1 o2 b o q=>mY _ (mY _ q);refine aU (kh (wpAny_runValue (codeAny_builtin CG ?_)));unfold Builtin.«proto.unchain»;refine aU (nJ (K _ _ _ _ e1) e2 e3 ?_);refine cF ?_;have gN:∀o1 o2:Obj,o2.isFreed=false->((s.heap.push o1).push o2).get? (s.heap.push o1).objs.size=some o2:=λo1 o2 hf=>oE _ hf;subst hN;refine aU ?_;unfold updateField;refine aU (wpAny_load (oE _ Z) ?_)
 dsimp only
 rw[bz (by simp;exact dm Z)];refine wpAny_update (oE _ Z) (wpAny_throw ?_);refine aU (wpAny_isInstance (aZ _ (ym _ (oE _ Z) Z) Z) isSubtype_stop ?_);refine cF (hQ _ λb o nb eb=>?_);have hb:=vN eb
 have hb':b≠(s.heap.push {cls:=.type "tuple",data:=.seq #[]}).objs.size:=by rw[vO];exact iV (oV hb)
 exact(Heap.get?_update_ne _ _ _ _ hb').trans (K _ _ b o eb)
theorem QT{vs:Tu}{ls:Th}{k:Nat}(h:ls[k]?=none)(lv:vs.length=ls.length):vs.toArray[k]?=none:=by rw[Dh];exact lL (lv▸List.getElem?_eq_none_iff.mp h)
theorem HN{I:Addr}{k:Nat}(oD:Inv X l s.heap ρ σ)(ho:HO A hd s.heap)(wk:nM hd a=true)(V:Et X s.heap ρ I k a)(e:dJ a k σ=some none){Q:Option Value->Shared->Prop}
  (hQ:∀h',Heap.ExtBut I s.heap h'->Q none {s with heap:=h'}):wpAny X.M A (pyNext (.ref I)) Q E s:=by
 have nh:=ho.1
 cases a with
 |tup ls=>refine rC V λad vs nn ll ht w it=>?_;exact wpAny_pyNext_tuple_end (nh (by cases hd<;>first|rfl|cases wk)) it ⟨_,ht,Z,nn,Z⟩ (QT (Option.some.inj e) (cA.length w)) hQ
 |str st=>
  refine Exists.elim V λt it=>?_;have e:=Option.map_eq_none_iff.mp (Option.some.inj e);have e:st.toArray[k]?=none:=by rw[Dh];exact e
  cases ha:(⟨st.toArray⟩:Str).cps.all (·<128) with
  |true=>rw[ha] at it;exact wpAny_pyNext_ascii_end (nh (by cases hd<;>first|rfl|cases wk)) it e hQ
  |false=>rw[ha] at it;exact wpAny_pyNext_wide_end (nh (by cases hd<;>first|rfl|cases wk)) it e hQ
 |yK p q r=>
  refine XQ V λq1 q2 q3 it=>?_;have e:=Option.some.inj e;unfold Vm at e
  by_cases lt:k<rT p q r
  .rw[bz lt] at e;cases e
  .rw[(xr q1 q2 q3).2] at it;have le:=Int.sub_nonpos_of_le (Int.ofNat_le.mpr (iW lt))
   cases hd with
   |false=>exact wpAny_pyNext_range_end (ho.1 Z) it le hQ
   |true=>exact bY (ho.2 Z) λex x1 x2=>Fw x1 x2 it le hQ
 |ref i=>refine bY V λp hp it=>?_;refine yE (P:=(·=some none)) ns e λls el e=>?_;obtain⟨_,_,vs,nn,il,w⟩:=oD.objs i p _ hp el;exact wpAny_pyNext_list_end (nh (by cases hd<;>first|rfl|cases wk)) it il.isList (QT (Option.some.inj e) (cA.length w)) hQ
 |_=>cases e
end
section
variable{E:Q3}
theorem aB.DY{α β:Type}{rel:Heap->List (Addr×Addr)->α->β->Prop}{v:α}{x:β}{Q:β->Shared->Prop}{h':Heap}{tk:Nat}(I:Inv X l s.heap ρ σ)(H:aB X l rel (.ok v σ) s ρ Q E)(k:∀b o,s.heap.get? b=some o->h'.get? b=some o)(V:rel h' ρ v x):
  Q x {s with heap:=h',toks:=tk}:=H h' tk ρ x (Step.keeps I k) V
theorem ints_of{l:Th}:∀{ns:za6} {vs:Tu},intsOf l=some ns->cA X h ρ l vs->IntsAre vs ns:=by
 induction l with
 |nil=>intro ns vs e V;injection e with e;rw[<- e,show vs=[] from V];exact .nil
 |cons a l ih=>intro ns' vs e V;refine ni (P:=(·=some ns')) ns e λz ez e=>?_;obtain⟨q,hq,rfl⟩:=zb3 e;subst ez;refine gZ V λv r hv V1 V2=>?_;rw[hv];exact V1.int λt=>.cons _ _ (ih hq V2)
theorem IV(SS:X.h₀.NoLimit)(I:Inv X l s.heap ρ σ){h':Heap}(k:∀b o,s.heap.get? b=some o->h'.get? b=some o){ls:Th}{vs:Tu}{n:Nat}(g:IsL h' s.heap.objs.size vs.toArray n)(V:cA X h' ρ ls vs)(hl:ls.length<=LL):
  Step X l uA s.heap ρ h' (ρ++[(s.heap.objs.size,s.heap.objs.size)]) (σ++[.list ls])/\VR X h' (ρ++[(s.heap.objs.size,s.heap.objs.size)]) (.ref σ.length) (.ref s.heap.objs.size):=by
 have z:s.heap.get? s.heap.objs.size=none:=uv (bR _);have sm:=rO SS I;refine⟨Step.alloc I k g Z g Z z z sm sm ⟨Z,hl,vs,n,g,cA.mono (eF λ_ _ e=>e) (jF.app _ _) _ _ V⟩,(aZ (s.heap.objs.size,s.heap.objs.size) ?_ Z)⟩;rw[<- I.len,iz (bR _),jy];rfl
theorem int_text(i:Int):(toString i:String).toList.map Char.toNat=qH i:=by
 show(Int.repr i).toList.map Char.toNat=_;unfold Int.repr qH
 cases i with
 |ofNat m=>simp[Nat.repr,cB]
 |negSucc m=>simp[Nat.repr,cB]
theorem int_str(i:Int):(Str.ofString (toString i))=⟨(qH i).toArray⟩:=by rw[Str.ofString_eq_toList,int_text]
theorem bt{v:Value}{k:Int}(e:(intKind X.prog X.w).is k v=true):∃t,v= .int k t:=by
 cases v<;>first|(cases e;done)|exact⟨_,congrArg (Value.int · _) (dB e)⟩
theorem Te{es:YR}{jm:List (Int×Value)}{vs:Tu}(e:es.map (·.1)=jm.map (λp=>U.int p.1))(hl:vs.length=jm.length)(hp:∀(j:Nat) (v:Value),vs[j]?=some v->∃k x,jm[j]?=some (k,x)/\(intKind X.prog X.w).is k v=true):cA X h ρ (es.map (·.1)) vs:=by
 rw[e];clear e
 induction jm generalizing vs with
 |nil=>exact NT hl
 |cons p r ih=>
  cases vs with
  |nil=>cases hl
  |cons v w=>refine gH (hp 0 v Z) λk x e1 e2=>?_;rw[Option.some.inj e1];exact cA.cons (bt e2) (ih (Nat.succ.inj hl) λj v e=>hp (j+1) v e)
theorem yt{d:Addr}{es:YR}(AM:jB X h ρ d es)(k:intKeys es=true):∃jm:List (Int×Value),h.DictOf (intKind X.prog X.w) d jm/\es.map (·.1)=jm.map (λp=>U.int p.1):=by
 cases es with
 |nil=>exact(aZ ([]) AM.empty Z)
 |cons e r=>
  have k1:=dB (and_true k).1
  cases AM with
  |kI jm a b c=>exact(aZ jm a b)
  |kS jm a b c=>obtain⟨p,hp⟩:=qK b;rw[hp] at k1;cases k1
  |kT xs a b c=>obtain⟨p,hp⟩:=qK b;rw[hp] at k1;rcases Ja (p.1.map U.int) with q|q<;>rw[q] at k1<;>cases k1
theorem text_len{k:Int}(h:smallInt k=true):(qH k).length<=LL:=by
 have h1:k.natAbs<10^31:=bj (Dr h) (dl Z);have h3:(cB k.natAbs).length<=31:=by unfold cB;rw[dN];exact digits10_le (by decide:0<31) h1
 unfold qH LL
 split
 .rw[dC];exact oW (dD h3 (dm Z))
 .exact bO h3 (dl Z)
theorem ax(s:Sa):∃t,(Value.int ((⟨s.toArray⟩:Str).length:Int) n)= .int (s.length:Int) t:=⟨n,by simp[Str.length]⟩
theorem bE{k:Nat}(h:k<=LL):(k:Int)<2^63:=by unfold LL at h;exact Bc (dD h (dm Z))
theorem Zq{v:Value}(I:Inv X l s.heap ρ σ)(V:VR X s.heap ρ a v)(H:aB X l (VR X) (OU a σ) s ρ Q E):wpAny X.M A (call (qd 0) [v]) Q E s:=by
 cases a with
 |str w=>exact V.str λt ll=>P.len_str (by simp[Str.length];exact bE ll) (aB.val I H (ax _))
 |tup w=>refine V.tup λad ws nn ll ht w=>?_;have lv:=cA.length w;exact P.len_tuple ht (by rw[jJ,lv];exact Int.not_le_of_gt (bE ll)) (aB.val I H ⟨s.toks+1,by rw[jJ,lv]⟩)
 |ref i=>
  refine V.ref λp hp=>?_;have H:aB X l (VR X) (aE σ[i]? σ) s ρ Q E:=H
  cases e:σ[i]? with
  |none=>rw[e] at H;exact H.elim
  |some o=>
   rw[e] at H;have R:=I.objs i p o hp e
   cases o with
   |list ls=>obtain⟨_,ll,ws,nn,il,w⟩:=R;have lv:=cA.length w;exact call_len_list il.isList (by rw[jJ,lv];exact bE ll) (aB.val I H ⟨s.toks+1,by rw[jJ,lv]⟩)
   |dict es=>refine aB.gd H λik H=>?_;refine bY (yt R.2.2 ik) λjm q b=>?_;have lk:=map_len b;exact call_len_dict (I.new p.1 (gB (gq hp))).2 q (by rw[lk];exact bE R.2.1) (aB.val I H ⟨s.toks+1,by rw[lk]⟩)
   |_=>exact H.elim
 |_=>exact H.elim
theorem Zr{v w:Value}(I:Inv X l s.heap ρ σ)(V:VR X s.heap ρ a v)(vc:VR X s.heap ρ b w)(H:aB X l (VR X) (OS a b σ) s ρ Q E):wpAny X.M A (call (qd 4) [v,w]) Q E s:=by
 cases b with
 |bi c=>
  rw[vc.2];refine aB.gd H λc56 H=>?_;refine bY (wu H I) λr e q=>?_
  by_cases c5:c=5
  .subst c5
   cases a with
   |int i=>injection e with e;subst e;exact V.int λt=>IsiPair.int_str (q _)
   |str i=>injection e with e;subst e;exact V.str λt _=>IsiPair.str_str (q s.toks)
   |tup l=>injection e with e;subst e;exact V.tup λad ws nn _ ht _=>IsiPair.tuple_str ht Z (q _)
   |_=>cases e
  .have c6:=(Bool.or_eq_true_iff.mp c56).elim (λz=>absurd (dB z) c5) dB;subst c6
   cases a with
   |bool i=>injection e with e;subst e;exact V.bool (IsiPair.bool_bool (q s.toks))
   |int i=>injection e with e;subst e;exact V.int λt=>IsiPair.int_bool (q _)
   |_=>cases e
 |_=>exact H.elim
theorem UT(SS:X.h₀.NoLimit)(I:Inv X l s.heap ρ σ)(H:aB X l (VR X) (.ok (.ref σ.length) (σ++[.set []])) s ρ Q E):wpAny X.M A (call (qd 12) []) Q E s:=by refine call_set_0 λled=>?_;have g:(s.heap.push {cls:=.type "set",dict:=none,data:=.set #[] 0 (.fresh 0 0 led)}).get? s.heap.objs.size=some {cls:=.type "set",dict:=none,data:=.set #[] 0 (.fresh 0 0 led)}:=oE _ Z;have z:s.heap.get? s.heap.objs.size=none:=uv (bR _);have sm:=rO SS I;refine H _ s.toks _ _ (Step.alloc I jl (p:=(s.heap.objs.size,s.heap.objs.size)) g Z g Z z z sm sm (jW Z (gf _) (((intSetOf_fresh led).kind X.prog X.w).setOf g Y))) (aZ (s.heap.objs.size,s.heap.objs.size) ?_ Z);rw[<- I.len,iz (bR _),jy];rfl
theorem Ro{vs:Tu}{as:Th}(I:Inv X l s.heap ρ σ)(W:cA X s.heap ρ as vs)(H:aB X l (VR X) (OT as σ) s ρ Q E):wpAny X.M A (call (qd 1) vs) Q E s:=by
 rcases as with _|⟨a,_|⟨b,_|⟨c,_|⟨d,as⟩⟩⟩⟩
 .exact H.elim
 .refine W.one λv V=>?_;refine aB.int V H λn t H=>?_;refine aB.gd H λq H=>?_;exact call_range_1 (aB.DY I H jl ⟨by decide,q,.inl Z,_,_,_,_,Z,oE _ Z⟩)
 .exact H.elim
 .refine gZ W λv r e V W=>?_;rw[e];clear e;refine W.two λw u V2 V3=>?_;refine aB.int V H λn t H=>?_;refine aB.int V2 H λn t H=>?_;refine aB.int V3 H λn t H=>?_;refine aB.gd H λq H=>?_;have q:=and_true q;obtain rfl:=eY q.2;exact call_range_3 Y (aB.DY I H jl ⟨(and_true q.1).1,(and_true q.1).2,.inr Z,_,_,_,_,Z,oE _ Z⟩) (.inl (PyProof.noPylong_of_log2 (by decide +kernel)))
 .exact H.elim
theorem nB{bb:Nat}{as:Th}{vs:Tu}(SS:X.h₀.NoLimit)(I:Inv X l s.heap ρ σ)(hh:(bb=8\/bb=11)->A.handled=none)(W:cA X s.heap ρ as vs)(H:aB X l (VR X) (fj bb as σ) s ρ Q E):
  wpAny X.M A (call (qd bb) vs) Q E s:=by
 match bb,hh,H with
 |0,_,H=>exact aB.iM W H λa v V H=>Zq I V H
 |1,_,H=>exact Ro I W H
 |2,_,H=>refine aB.iM W H λa v V H=>?_;refine aB.str V H λw t _ H=>?_;refine pG (P:=λr=>aB X l (VR X) r s ρ Q E) id H λc e H=>?_;subst e;exact P.ord_of_char (aB.val I H ⟨_,Z⟩)
 |3,_,H=>refine aB.iM W H λa v V H=>?_;refine aB.int V H λn t H=>?_;refine aB.gd H λq H=>?_;exact P.chr_of_int (by simp;exact⟨eY (and_true q).1,eY (and_true q).2⟩) (aB.val I H ⟨dl Z,_,Z⟩)
 |4,_,H=>exact aB.CV W H λa b v w V vc H=>Zr I V vc H
 |5,_,H=>refine aB.iM W H λa v V H=>?_;refine aB.int V H λn t H=>?_;refine aB.gd H λq H=>?_;refine P.str_of_int (bj (xm q) (dl Z)) (aB.val I H ⟨text_len q,s.toks,?_⟩);rw[int_str]
 |7,_,H=>refine aB.iM W H λa v V H=>?_;refine aB.ref V H λi p hp H=>?_;refine aB.list I hp H λls ws nn _ ll il w lv H=>?_;refine call_tuple_list il.isList (λh' k=>?_) (by rw[jJ,lv];exact jP ll);have k':∀b o,s.heap.get? b=some o->(h'.push {cls:=.type "tuple",data:=.seq ws.toArray}).get? b=some o:=λb o e=>mY _ (k b o e);exact aB.DY I H k' ⟨ll,_,ws,0,Z,IsT.new _ _,cA.mono (eF k') (jF.refl _) _ _ w⟩
 |8,hh,H=>
  refine aB.iM W H λa v V H=>?_;refine aB.ref V H λi p hp H=>?_;refine aB.dict I hp H λes _ ll AM sm H=>?_;refine aB.gd H λik H=>?_;refine bY (yt AM ik) λjm q b=>?_;have lk:=map_len b;obtain⟨ep,dat⟩:=q.dictAt;refine kdl_call (kdl_dict sm) (hh (.inl Z)) dat (by rw[lk];exact jP ll) λh' tk acc' c' k g it=>?_;have V:cA X h' ρ (es.map (·.1)) acc'.toList:=Te b (by rw[Array.length_toList];exact it.1) λj v e=>it.2 j v (by rw[<- Array.getElem?_toList];exact e);have g':IsL h' s.heap.objs.size acc'.toList.toArray c':=by rw[Array.toArray_toList];exact g
  obtain⟨S,R⟩:=IV SS I k g' V (by rw[dN];exact ll);exact H h' tk _ _ S R
 |9,_,H=>
  refine aB.iM W H λa v V H=>?_;refine aB.int V H λn t H=>?_;refine call_abs_int λu tk=>aB.val I H ⟨u,?_⟩
  congr 1
  split<;>lia
 |10,_,H=>refine aB.CV W H λa b v w V vc H=>?_;refine aB.int V H λn t H=>?_;refine aB.int vc H λn t H=>?_;refine aB.gd H λq H=>?_;exact divmod_int (Int.ne_of_gt (eY (and_true q).1)) (aB.DY I H jl ⟨dl Z,_,[_,_],0,Z,IsT.new _ _,.cons ⟨_,Z⟩ (.cons ⟨_,Z⟩ .nil)⟩) (.inl (PyProof.noPylong_of_log2 (Wh (and_true q).2)))
 |11,hh,H=>
  refine aB.iM W H λa v V H=>?_;refine aB.ref V H λi p hp H=>?_;refine aB.list I hp H λls ws nn _ ll il w lv H=>?_;refine aB.ig H λns en H=>?_;have hi:=ints_of en w;obtain⟨xs,hx⟩:=hi.allInts.items;have hl:=il.isList;have hn:numsOf ws.toArray.toList=ns:=by rw[show ws.toArray.toList=ws from Z,hi.numsOf]
  rw[hx] at hl hn;rw[nums_intItems] at hn;refine sum_intListG (hh (.inr Z)) hl λh' tk t' hk=>?_;refine aB.DY I H hk ⟨t',?_⟩;rw[preSum_eq,Hv (by simp),hn]
 |12,_,H=>exact aB.tK W H λH=>UT SS I H
 |6,_,H=>exact H.elim
 |n+13,_,H=>exact H.elim
end
section
variable{E:Q3}
structure Bn(X:Ctx):Prop where
 n0:X.nm 0="append"
 n1:X.nm 1="pop"
 n2:X.nm 2="get"
 n3:X.nm 3="add"
 n4:X.nm 4="join"
 n5:X.nm 5="zfill"
noncomputable def yp(X:Ctx)(k:MK)(n:Nat):Value:=match k with
 | .fn f=>.ref (X.fa f)
 | .list=>.builtin (if n=0 then "list.append" else "list.pop")
 | .dict=>.builtin "dict.get"
 | .set=>.builtin "set.add"
 | .str=>.builtin (if n=4 then "str.join" else "str.zfill")
theorem i6:yp X .list 0= .builtin "list.append":=rfl
theorem i5:yp X .list 1= .builtin "list.pop":=rfl
theorem i0:yp X .str 4= .builtin "str.join":=rfl
theorem iX:yp X .str 5= .builtin "str.zfill":=rfl
theorem Hg{α:Type}{c:Bool}{x y:α}{G:Prop}(H:gd Option.none c (some x)=some y)(k:c=true->x=y->G):G:=lF (P:=(·=some y)) ns H λh e=>k h (Option.some.inj e)
theorem no_dict{s:Shared}{a:Addr}{o:Obj}(e:s.heap.get? a=some o)(d:o.dict=none):∀b,Value.ref a= .ref b->∃o,s.heap.get? b=some o/\o.dict=none:=λb z=>by injection z with z;subst z;exact(aZ o e d)
theorem H6(AD:Bn X)(SF:X.K.In X.h₀)(I:Inv X l s.heap ρ σ){k:MK}{pl:Sem Bool}{Q:Value×List Value->Shared->Prop}(hn:n<X.nn)(V:VR X s.heap ρ a x)(e:qL X.T a n σ=some k)(h:Q (yp X k n,[x]) s):
  wpAny X.M A (getMethod x (X.nm n) pl) Q E s:=by
 have KF:=SF.keeps I.low
 cases a with
 |ref i=>
  revert h
  refine V.ref λp hp h=>?_;have e:tV X.T σ[i]? n=some k:=e
  cases ei:σ[i]? with
  |none=>rw[ei] at e;cases e
  |some o=>
   rw[ei] at e;have R:=I.objs i p o hp ei
   cases o with
   |inst c fs=>
    refine lF (P:=(·=some k)) ns e λq e=>?_;have q:=and_true q;obtain⟨f,e2,rfl⟩:=zb3 e
    induction I.inst hp (.inl ei) with
    |mk m od ox cs IA h4 h5 h6 h7 h8 _ _=>
    obtain⟨m1,m2⟩:=cs.GN n f hn e2;have:=h6 n hn;rw[Option.isNone_iff_eq_none.mp q.2] at this
    exact method_fn KF IA (cs.ga (vM _▸q.1)) cs.gk m1 m2 (by
     unfold shadowIn
     dsimp only at this ⊢
     rw[h8,this];rfl) h
   |list ls=>
    refine Hg e λlt e=>?_;subst e;obtain⟨_,_,vs,nn,il,w⟩:=R
    rcases Nat.lt_succ_iff_lt_or_eq.mp (eY lt) with lt|rfl
    .obtain rfl:=Nat.lt_one_iff.mp lt;rw[i6] at h;rw[AD.n0];exact getMethod_builtin il.isList.typeIs F.plainAttrs_list F.slot_list_append F.type_list_append (no_dict il Z) h
    .rw[i5] at h;rw[AD.n1];exact getMethod_builtin il.isList.typeIs F.plainAttrs_list F.slot_list_pop F.type_list_pop (no_dict il Z) h
   |dict es=>refine Hg e λlt e'=>?_;obtain rfl:=eY lt;subst e';refine uh R.2.2.dat λo _ _ h1 h2 h3=>?_;rw[AD.n2];exact getMethod_builtin (aZ o h1 h2) F.plainAttrs_dict F.slot_dict_get F.type_dict_get (no_dict h1 h3.1) h
   |set ls=>refine Hg e λlt e'=>?_;obtain rfl:=eY lt;subst e';rw[AD.n3];exact getMethod_set_add R.2.2 h
   |_=>cases e
 |str st=>
  revert h
  refine V.str λt _ h=>?_;refine Hg e λlt e=>?_;subst e;have nd:∀b,Value.str (⟨List.toArray st⟩:Str) t= .ref b->∃o,s.heap.get? b=some o/\o.dict=none:=λb e=>nomatch e
  rcases Bool.or_eq_true_iff.mp lt with lt|lt
  .obtain rfl:=eY lt;rw[i0] at h;rw[AD.n4];exact getMethod_builtin (typeIs_str _ _ _) F.plainAttrs_str F.slot_str_join F.type_str_join nd h
  .obtain rfl:=eY lt;rw[iX] at h;rw[AD.n5];exact getMethod_builtin (name:=Mo "zfill") (typeIs_str _ _ _) F.plainAttrs_str F.slot_str_zfill F.type_str_zfill nd h
 |_=>cases e
theorem Om{l:Th}:∀{ss:za0} {vs:Tu},strsOf l=some ss->cA X h ρ l vs->StrsAre vs (ss.map λs=>(⟨s.toArray⟩:Str)):=by
 induction l with
 |nil=>intro ss vs e V;injection e with e;rw[<- e,show vs=[] from V];exact .nil
 |cons a l ih=>intro ss vs e V;refine ud (P:=(·=some ss)) ns e λz ez e=>?_;obtain⟨q,hq,rfl⟩:=zb3 e;subst ez;refine gZ V λv r hv V1 V2=>?_;rw[hv];exact V1.str λt _=>.cons _ _ (ih hq V2)
theorem join_nil(ss:za0):Txt.join (⟨([]:Sa).toArray⟩:Str) (ss.map λs=>(⟨s.toArray⟩:Str))=⟨ss.flatten.toArray⟩:=by
 unfold Txt.join;rw[StrLaws.glued_eq_join]
 induction ss with
 |nil=>rfl
 |cons a r ih=>
  cases r with
  |nil=>simp[Str.join]
  |cons b r=>simp only[cH,Str.join] at ih ⊢;rw[ih,vR,vR];simp
theorem Ol(ss:za0):((ss.map λs=>(⟨s.toArray⟩:Str)).map (·.length)).sum=ss.flatten.length:=by
 induction ss with
 |nil=>rfl
 |cons a r ih=>simp only[cH,List.sum_cons,List.flatten_cons,bW,ih];simp[Str.length]
theorem Ua(s:Sa)(hs:s.all (λc=>decide (48<=c)&&decide (c<=57))=true):Txt.zfill ⟨s.toArray⟩ 18=⟨(zfill s 18).toArray⟩:=by
 have lx:(⟨s.toArray⟩:Str).length=s.length:=by simp[Str.length]
 have pad:∀k,padded (⟨s.toArray⟩:Str) k 0 48=⟨(List.replicate k 48++s).toArray⟩:=λk=>by
  unfold padded
  congr 1
  apply Array.toList_inj.mp;simp
 unfold Txt.zfill zfill;rw[lx]
 split
 .rename_i h
  rw[show 18 - s.length=0 by exact Rw (AI h)];rfl
 .rename_i h
  rw[show(18:Int).toNat - s.length=18 - s.length by lia];unfold zfilled
  cases s with
  |nil=>exact pad _
  |cons c r=>
   have hc:=List.all_eq_true.mp hs c (.head _);simp only[jH,decide_eq_true_eq] at hc;have e:(⟨(c::r).toArray⟩:Str).cps[0]?=some c:=by simp
   rw[e]
   split
   .rename_i q;injection q with q;lia
   .rename_i q;injection q with q;lia
   .exact pad _
theorem get_or{o:Option U}{r:zb2}{d:U}{z:Value}(g:DZ X h ρ o r)(vc:VR X h ρ d z):VR X h ρ (o.getD d) (r.getD z):=by
 rcases g with⟨rfl,rfl⟩|⟨_,_,rfl,rfl,R⟩
 .exact vc
 .exact R
theorem Rr(I:Inv X l s.heap ρ σ){i:Nat}{p:Addr×Addr}{ls as:Th}{vs:Tu}(hp:ρ[i]?=some p)(R:kP X s.heap ρ p ls)(W:cA X s.heap ρ as vs)(H:aB X l (VR X) (i8 i ls n as σ) s ρ Q E):
  wpAny X.M A (call (yp X .list n) (.ref p.1::vs)) Q E s:=by
 obtain⟨pp,ll,ws,nn,il,w⟩:=R;have lv:=cA.length w;have sz:ws.toArray.size<=sizeLine:=by rw[jJ,lv];exact jP ll
 have fin:∀{F:Array Value->Array Value} {ws':Tu} {ls':Th} {r:U} {r':Value} {t:Nat},F ws.toArray=ws'.toArray->ls'.length<=LL->cA X s.heap ρ ls' ws'->VR X s.heap ρ r r'->aB X l (VR X) (.ok r (σ.set i (.list ls'))) s ρ Q E->Q r' {s with heap:=s.heap.update p.1 (Obj.mapSeq F),toks:=t}:=λ{F ws' ls' r r' t} e le w' V H=>by have g:=IsL.update il F;rw[e] at g;have sb:Heap.SameBut p.1 s.heap (s.heap.update p.1 (Obj.mapSeq F)):=Heap.SameBut.update ..;have st:=km I hp (.inl Z) sb;exact H _ t ρ _ (Step.update I hp (.inl Z) sb (Gd il) g Z (by rw[pp];exact g) Z ⟨pp,le,_,_,g,cA.mono st (jF.refl _) _ _ w'⟩) (VR.mono st (jF.refl _) _ _ V)
 match n,H with
 |0,H=>refine aB.iM W H λa v V H=>?_;refine aB.gd H λrE H=>?_;rw[i6];exact call_meets F.slot_list_append (aZ _ il Z) F.entry_list_append (F.args_list_append_2 _ _) (list_append p.1 ws.toArray nn v sz) ⟨il,fin (r:=.none) (List.push_toArray ..) (by rw[bW];exact oW (eY rE)) (cA.append w (.cons V .nil)) Z H⟩
 |1,H=>
  refine aB.tK W H λH=>?_;refine aB.ig H λv hv H=>?_;rw[List.getLast?_eq_getElem?] at hv;refine bY (cA.get w hv) λr e' R=>?_;rw[i5];refine call_meets F.slot_list_pop (aZ _ il Z) F.entry_list_pop (F.args_list_pop_1 _) (MeetsSeq.list_pop_last p.1 ws.toArray nn r (by simpa [lv] using e') sz) ⟨il,fin (ws':=ws.dropLast) ?_ (by rw[List.length_dropLast];exact y9 ll) ?_ R H⟩
  .rw[List.eraseIdxIfInBounds_toArray,jJ,List.eraseIdx_length_sub_one]
  .rw[List.dropLast_eq_take,List.dropLast_eq_take,lv];exact cA.take _ w
 |n+2,H=>exact H.elim
theorem WD(ls:za6)(kk:Int):(λk'=>ls.contains k'||decide (k'=kk))=λk'=>(if ls.contains kk then ls else ls++[kk]).contains k':=by
 funext k'
 by_cases q:ls.contains kk=true
 .rw[bz q]
  by_cases e:k'=kk
  .subst e;rw[q];rfl
  .rw[dY e,Bool.or_false]
 .rw[bh q];simp[List.contains_eq_mem,Bool.decide_or]
theorem Rt(I:Inv X l s.heap ρ σ){k:MK}(hk:∀f,k≠.fn f){as:Th}{vs:Tu}(hu:A.units+64<cLine)(V:VR X s.heap ρ a x)(W:cA X s.heap ρ as vs)(H:aB X l (VR X) (Yd k a n as σ) s ρ Q E):
  wpAny X.M A (call (yp X k n) (x::vs)) Q E s:=by
 cases k with
 |fn f=>exact absurd Z (hk f)
 |list=>refine aB.ref V H λi p hp H=>?_;refine yE (P:=λr=>aB X l (VR X) r s ρ Q E) id H λls e H=>?_;exact Rr I hp (I.objs i p _ hp e) W H
 |dict=>
  refine aB.ref V H λi p hp H=>?_;refine aB.dict I hp H λes _ _ AM sm H=>?_;refine aB.gd H λ_ H=>?_;refine aB.CV W H λkk dd kv dv V vc H=>?_;refine aB.gd H λok H=>?_
  by_cases k3:kindOf kk=3
  .obtain⟨u,v,rfl⟩:=Wu k3;refine AM.AK ok V λxs ad ey h1 h2 h3 h4=>?_;subst ey;refine call_meetsIn F.slot_dict_get h1.typeIs F.entry_dict_get (F.args_dict_get_3 _ _ _) (meetsH_dict_get_default (tupleKind (intKind X.prog X.w)) p.1 ad sm dv) ⟨tupleKind_room_in1 (dq hu),[u,v],xs,h2,h1,?_⟩;show Q _ {s with toks:=_}
   exact aB.val I H (get_or (by
    have g:=zc (k:=[u,v]) PL h3 h4;rw[show(atKey xs [u,v]).map (·.2)=_ from Option.map_map ..];exact g) vc)
  .refine AM.key ok k3 V λknd enc jm k0 ek h1 h2 h3 h4 h5 _=>?_;refine call_meetsIn F.slot_dict_get h2.typeIs F.entry_dict_get (F.args_dict_get_3 _ _ _) (meets_dict_get_default knd p.1 h1 sm dv) (aZ _ h2.mapOf ?_);show Q _ {s with toks:=_};exact aB.val I H (get_or (by rw[ek];exact zc (h5 · k0) h3 h4) vc)
 |set=>
  refine aB.ref V H λi p hp H=>?_;refine gi (P:=λr=>aB X l (VR X) r s ρ Q E) id H λls el H=>?_;refine aB.gd H λ_ H=>?_;refine aB.iM W H λa v V H=>?_;refine aB.int V H λkk t H=>?_;refine aB.gd H λrE H=>?_;have rE:=eY rE;obtain⟨pp,_,S⟩:=I.objs i p _ hp el;refine call_set_add (intKind_is _ _ kk t) Z S (by unfold scanBound;exact oR (bj rE (dl Z))) λh' sb S'=>?_;refine CY (id S') λo _ _ _ g1 g2 _=>?_;have tr:tracked o=true:=by unfold tracked;rw[g2.1];rfl
  have xk:j6 s.heap p.1->j6 h' p.1:=λq=>by refine gZ q λo vs e d _=>?_;refine eT S λo' _ _ _ h1 _ h3 _=>?_;rw[<- Option.some.inj (e.symm.trans h1),d] at h3;cases h3
  rw[WD] at S'
  have ln:(if ls.contains kk then ls.length else ls.length+1)=(if ls.contains kk then ls else ls++[kk]).length:=by
   by_cases q:ls.contains kk=true
   .rw[bz q,bz q]
   .rw[bh q,bh q,bW];rfl
  rw[ln] at S';refine H h' _ ρ _ (Step.update I hp (.inl Z) sb xk g1 tr (by rw[pp];exact g1) tr (jW pp ?_ S')) Z;rw[<- ln]
  split
  .exact lJ rE
  .exact rE
 |str=>
  refine aB.str V H λst t lst H=>?_
  match n,H with
  |4,H=>refine aB.iM W H λa v V H=>?_;refine aB.ref V H λi p hp H=>?_;refine aB.list I hp H λls ws nn _ ll il w _ H=>?_;refine aB.ig H λss e H=>?_;refine aB.gd H λq H'=>?_;have hle:=eY (and_true q).2;obtain rfl:=List.isEmpty_iff.mp (and_true q).1;rw[i0];refine join_list il.isList (Om e w) ?_ λt' k=>aB.val I H' ⟨hle,t',by rw[join_nil]⟩;rw[Ol];exact jP hle
  |5,H=>refine aB.iM W H λa v V H=>?_;refine aB.int V H λkk t2 H=>?_;refine aB.gd H λq H'=>?_;obtain rfl:=eY (and_true q).1;rw[iX];refine SC.zfill (by decide +kernel) λt' k=>aB.val I H' ⟨?_,t',by rw[Ua st (and_true q).2]⟩;unfold zfill;simp only[bW,List.length_replicate];unfold LL at lst ⊢;lia
  |0,H=>exact H.elim
  |1,H=>exact H.elim
  |2,H=>exact H.elim
  |3,H=>exact H.elim
  |n+6,H=>exact H.elim
end
variable{jd:Su}{bL:St}
section
variable{E:Q3}
theorem Step.vr(I:Inv X l h ρ σ)(S:Step X l uA h ρ aJ aM aC)(V:VR X h ρ a x):VR X aJ aM a x:=VR.mono (S.iD I λ_ _ y _=>y.elim) S.ext.1 _ _ V
theorem Step.FD{as:Th}{vs:Tu}(I:Inv X l h ρ σ)(S:Step X l uA h ρ aJ aM aC)(V:cA X h ρ as vs):cA X aJ aM as vs:=cA.mono (S.iD I λ_ _ y _=>y.elim) S.ext.1 _ _ V
def Eu(X:Ctx)(Φ:iC):Prop:=∀hd f as σ,Φ hd f as σ≠.bad->∃o fd,X.h₀.get? (X.fa f)=some o/\o.data= .func fd
structure Kf(X:Ctx)(Φ:iC)(d:Nat):Prop where
 cls:∀hd c as σ,lA X.T Φ hd c as σ≠.bad->∃o cd,X.h₀.get? (X.ca c)=some o/\o.data= .cls cd/\specialIn X.K (.ref (X.ca c)) "__call__"=some (some (.builtin "type.__call__"))
 make:∀(hd:Bool) (c:Nat) (as:Th) (σ:St) (A:Around) (l:za7) (s:Shared) (ρ:Su) (vs:Tu) (Q:Q3) (E:Q3),A.frames=some l->HO A hd s.heap->A.depth+2*d<=500->A.units+30*d<=9000->Inv X l s.heap ρ σ->cA X s.heap ρ as vs->
  aB X l (VR X) (lA X.T Φ hd c as σ) s ρ Q E->wpAny X.M A (call (.ref (X.ca c)) vs) Q E s
theorem FN{α β:Type}{rel:Heap->List (Addr×Addr)->α->β->Prop}{r:Res α}{Q:β->Shared->Prop}(H:aB X l rel r s ρ Q E):r≠.bad:=λe=>by subst e;exact H
set_option tactic.hygienic true in
theorem vy{o:Expr}{nm:Str}{whole:Sem Value}(h:wV o=false):attributeBase o nm env whole=whole:=by
 cases o<;>first|rfl|skip
 case Call f as ks p=>
  cases as with
  |nil=>cases f<;>first|rfl|cases h
  |cons _ _=>cases f<;>rfl
theorem callWith_cls{pos:Pos}{c:Addr}{o:Obj}{cd:ClassData}{args:List (Bool×Sem Value)}(ry:args.any (·.1)=false)
  (h:wpAny X.M A (evalArgs (.ref c) true args []) (λx mD=>(mD.heap.get? c=some o/\o.data= .cls cd/\Looks X.M mD.heap (specialOf (.ref c) "__call__") (some (.builtin "type.__call__")))/\x.kw=[]/\wpAny X.M A (call (.ref c) x.pos) Q E mD) E s):
  wpAny X.M A (callWith pos (.ref c) [] args []) Q E s:=by
 unfold callWith;refine aU (kh (pM h (λx mD aJ=>aU (oY ?_)) λ_ _ x=>x));obtain⟨⟨h1,h2,h3⟩,hk,h4⟩:=aJ
 have tail:∀{t:Sem Value},wpAny X.M A t Q E mD->wpAny X.M A (t>>=λr=>holding [r] point>>=λ_=>pure r) Q E mD:=
  λht=>aU (pM ht (λr Ci hr=>aU (kh (wpAny_point (cF hr)))) λ_ _ x=>x)
 refine aU ?_;unfold keeperOf;refine aU (wpAny_load h1 ?_);rw[h2];refine aU (h3.here ?_);rw[bz (by decide +kernel)];refine cF ?_;rw[show(args.any (λx=>x.1)||([]:List (Option Str×Sem Value)).any λx=>x.1.isNone)=false by rw[ry];rfl];obtain⟨xp,xk⟩:=x
 dsimp only at hk h4 ⊢
 subst hk;exact tail h4
theorem gG{f:Value}{args:List (Bool×Sem Value)}(hp:args.any (·.1)=false){Q:Args->Shared->Prop}(h:wpAny X.M A (spliced args) (λvs s'=>Q ⟨vs,[]⟩ s') E s):wpAny X.M A (evalArgs f true args []) Q E s:=by
 cases args with
 |nil=>unfold evalArgs;refine aU (pM h (λvs s' h'=>?_) λ_ _ x=>x);refine kh<|aU (cF (aU (cF (cF h'))))
 |cons p r=>obtain⟨b,t⟩:=p;rw[rG,Bool.or_eq_false_iff] at hp;have:b=false:=hp.1;subst this;exact evalArgs_plain h
end
section
variable{E:Q3}
theorem fE{e:Expr}{n:Nat}(h:isStar e=true):cE G Nm n cx e= .bad:=by
 refine sv (e:=e) (z:=false) (P:=(·=true)) (λq=>nomatch q) h λx p _=>?_
 cases n<;>rfl
theorem xj{e:Expr}{rest:zb0}(h:isStar e=false):starEach (e::rest) env=(false,eval e env)::starEach rest env:=by
 cases e<;>first|rfl|cases h
theorem qw{pos:Pos}{es:zb0}(h:es.any isStar=false):(backTo pos (starEach es env)).any (·.1)=false:=by
 induction es with
 |nil=>rfl
 |cons e r ih=>have h:=or_false h;rw[xj h.1];exact ih h.2
theorem uN(ih:uo X G Nm X.T Φ d n){pos:Pos}(ok:Ok X hd d A l env cx){es:zb0}:∀{s:Shared} {ρ:Su} {σ:St} {Q:List Value->Shared->Prop},At X hd A l env cx s.heap ρ σ B->
  aB X l (cA X) (lH X.T Φ hd (es.map (cE G Nm n cx)) B σ) s ρ Q E->wpAny X.M A (spliced (backTo pos (starEach es env))) Q E s:=by
 induction es with
 |nil=>intro s ρ σ Q a H;exact wpAny_items_nil (aB.q9 a.inv H Z)
 |cons e r rf=>
  intro s ρ σ Q a H;rw[cH,xU] at H
  cases hs:isStar e with
  |true=>rw[fE hs] at H;exact H.elim
  |false=>refine wpAny_items_cons (ih hd A l env cx e B s ρ σ _ E ok a (H.step λv aC aJ cj aM x _ bI V bC=>?_)) (xj hs);exact rf (a.step bI) (bC.step λvs bL eZ o4 jd xs _ eN W jc=>jc.q9 eN.inv (.cons (eN.vr bI.inv V) W))
theorem Yh(op:BoolOp)(bb:Bool)(t:Sem Value):(match op,bb with| .And,false| .Or,true=>(pure (.bool bb):Sem Value)|_,_=>t)=if bb=(op==BoolOp.And) then t else pure (.bool bb):=by
 cases op<;>cases bb<;>rfl
theorem Tq(op:BoolOp)(b:Bool)(t:Sem Bool):(match op,b with| .And,false=>(pure false:Sem Bool)| .Or,true=>pure true|_,_=>t)=if b=(op==BoolOp.And) then t else pure b:=by
 cases op<;>cases b<;>rfl
theorem V7{b c:Bool}(h:b=c):(false||b !=c)=false:=by subst h;cases b<;>rfl
theorem iP{b c:Bool}(h:¬b=c):(false||b !=c)=true:=by cases b<;>cases c<;>first|rfl|exact absurd Z h
theorem U9(ih:uo X G Nm X.T Φ d n){pos:Pos}{op:BoolOp}(ok:Ok X hd d A l env cx){es:zb0}:∀{s:Shared} {ρ:Su} {σ:St} {Q:Q3},At X hd A l env cx s.heap ρ σ B->
  aB X l (VR X) (Mw X.T Φ hd (op== .And) (es.map (cE G Nm n cx)) B σ) s ρ Q E->wpAny X.M A (boolOp pos op (evalEach es env)) Q E s:=by
 induction es with
 |nil=>intro s ρ σ Q a H;exact H.elim
 |cons e r rf=>
  intro s ρ σ Q a H;rw[cH,Jv] at H
  cases r with
  |nil=>exact ih hd A l env cx e B s ρ σ _ E ok a (H.step λv aC aJ cj aM x _ bI V bC=>aB.bool V bC λb H=>aB.q9 bI.inv H Z)
  |cons e2 r=>
   show wpAny X.M A (do
    let v <-eval e env
    standAt pos
    let t <-holding [v] (truthy v)
    match op,t with
    | .And,false| .Or,true=>pure v
    |_,_=>boolOp pos op (evalEach (e2::r) env)) Q E s
   refine aU (ih hd A l env cx e B s ρ σ _ E ok a (H.step λv aC aJ cj aM x _ bI V bC=>aU (oY (aU (kh ?_)))));refine aB.bool V bC λbb bC=>?_;refine wpAny_truthy_bool ?_;rw[Yh];have bC:aB X l (VR X) (cond (false||bb !=(op== .And)) _ _) _ aM Q E:=bC
   by_cases q:bb=(op==BoolOp.And)
   .rw[bz q];rw[V7 q] at bC;exact rf (a.step bI) bC
   .rw[bh q];rw[iP q] at bC;exact cF (aB.q9 bI.inv bC Z)
theorem Ok.room(ok:Ok X hd d A l env cx):A.units+64<cLine:=by have:=ok.units;unfold cLine;exact dq this
def Od(r:Res U):Res Bool:=r.bind λv σ=>lB .bad v λb=>.ok b σ
def DE(_:Heap)(_:Su)(a b:Bool):Prop:=a=b
theorem aB.wants{r:Res U}{Q:Bool->Shared->Prop}{Q':Q3}(H:aB X l DE (Od r) s ρ Q E)(k:∀b {s':Shared},Q b s'->Q' (.bool b) s'):aB X l (VR X) r s ρ Q' E:=by
 cases r with
 |ok v σ'=>
  intro h' tk cY x S V
  cases v<;>first|exact H.elim|skip
  rw[show x= .bool _ from V];exact k _ (H h' tk cY _ S Z)
 |exc i σ'=>exact H
 |bad=>exact H
theorem post_eq{α β:Type}{rel:Heap->List (Addr×Addr)->α->β->Prop}{r r':Res α}{Q:β->Shared->Prop}(e:r=r')(H:aB X l rel r s ρ Q E):aB X l rel r' s ρ Q E:=e▸H
set_option tactic.hygienic true in
theorem J2{β:Type}(r:Res U)(f:Bool->St->Res β):(r.bind λx σ=>lB .bad x λb=>f b σ)=(Od r).bind f:=by
 cases r<;>first|rfl|(rename_i v σ;cases v<;>rfl)
theorem Kw(r:Res U)(f:Bool->St->Res U):Od (r.bind λx σ=>lB .bad x λb=>f b σ)=(Od r).bind λb σ=>Od (f b σ):=by
 rw[J2]
 cases Od r<;>rfl
def gS(X:Ctx)(G:za4)(Nm:za3)(T:Tab)(Φ:iC)(d n:Nat):Prop:=
 ∀(hd:Bool) (A:Around) (l:za7) (env:Env) (cx:Cx) (e:Expr) (B:Loc) (s:Shared) (ρ:Su) (σ:St) (Q:Bool->Shared->Prop) (E:Q3),Ok X hd d A l env cx->At X hd A l env cx s.heap ρ σ B->aB X l DE (Od (aV T Φ hd (cE G Nm n cx e) B σ)) s ρ Q E->wpAny X.M A (isTrue e env (eval e env)) Q E s
inductive TV(env:Env):Expr->Prop
 |not (x:Expr) (p:Pos):TV env (.UnaryOp .Not x p)
 |both (o:BoolOp) (v:zb0) (p:Pos):TV env (.BoolOp o v p)
 |ite (t a b:Expr) (p:Pos):TV env (.IfExp t a b p)
 |cmp (l:Expr) (o:List CmpOp) (c:zb0) (p:Pos):TV env (.Compare l o c p)
 |plain (e:Expr) (h:∀whole,isTrue e env whole=(do let v <-whole;standAt e.pos;holding [v] (truthy v))):TV env e
set_option tactic.hygienic true in
theorem tv(e:Expr):TV env e:=by
 cases e<;>first|exact .both .. |exact .ite .. |exact .cmp .. |exact .plain _ λ_=>rfl|skip
 case UnaryOp op x p=>cases op<;>first|exact .not .. |exact .plain _ λ_=>rfl
theorem Zv{m:Nat}(Sq:gS X G Nm X.T Φ d m)(ok:Ok X hd d A l env cx){op:BoolOp}{es:zb0}:∀{s:Shared} {ρ:Su} {σ:St} {Q:Bool->Shared->Prop},At X hd A l env cx s.heap ρ σ B->
  aB X l DE (Od (Mw X.T Φ hd (op== .And) (es.map (cE G Nm m cx)) B σ)) s ρ Q E->wpAny X.M A (allTrue op es env) Q E s:=by
 induction es with
 |nil=>intro s ρ σ Q a H;exact H.elim
 |cons e r rf=>
  intro s ρ σ Q a H;rw[cH,Jv] at H;have H:=post_eq (Kw _ _) H
  show wpAny X.M A (do
   match op,<-isTrue e env (eval e env) with
   | .And,false=>pure false
   | .Or,true=>pure true
   |_,_=>allTrue op r env) Q E s
  refine aU (Sq hd A l env cx e B s ρ σ _ E ok a (H.step λv aC aJ cj aM b _ bI V bC=>?_));obtain rfl:v=b:=V;rw[Tq]
  cases r with
  |nil=>
   have jc:=aB.q9 bI.inv bC Z
   split
   .rename_i q
    show wpAny X.M A (pure (op==BoolOp.And)) Q E _;rw[<- q];exact cF jc
   .exact cF jc
  |cons e2 r2=>
   have bC:aB X l DE (Od (cond (false||v !=(op== .And)) _ _)) _ aM Q E:=bC
   by_cases q:v=(op==BoolOp.And)
   .rw[bz q];rw[V7 q] at bC;exact rf (a.step bI) bC
   .rw[bh q];rw[iP q] at bC;exact cF (aB.q9 bI.inv bC Z)
theorem ij(ih:∀m,m<=n->uo X G Nm X.T Φ d m):gS X G Nm X.T Φ d n:=by
 induction n with
 |zero=>intro hd A l env cx e B s ρ σ Q E ok a H;exact H.elim
 |succ n Sq=>
  intro hd A l env cx e B s ρ σ Q E ok a H;have Sq:=Sq λm hm=>ih m (oU hm);have hv:=tv (env:=env) e
  induction hv with
  |not x p=>have H:=post_eq (Kw _ _) H;refine wpAny_isTrue_Not (Sq hd A l env cx x B s ρ σ _ E ok a (H.step λv aC aJ cj aM b _ bI V bC=>?_));obtain rfl:v=b:=V;exact aB.q9 bI.inv bC Z
  |both op vs p=>exact wpAny_isTrue_BoolOp (Zv Sq ok a H)
  |ite t e1 e2 p=>
   have H:=post_eq (Kw _ _) H;refine isTrue_IfExp (Sq hd A l env cx t B s ρ σ _ E ok a (H.step λv aC aJ cj aM b _ bI V bC=>?_));obtain rfl:v=b:=V
   cases v with
   |true=>exact Sq hd A l env cx e1 B _ _ _ Q E ok (a.step bI) bC
   |false=>exact Sq hd A l env cx e2 B _ _ _ Q E ok (a.step bI) bC
  |cmp le os cs p=>have wn:∀{e:Mine.Internal.E},aB X l DE (Od (aV X.T Φ hd e B σ)) s ρ Q E->aB X l (VR X) (aV X.T Φ hd e B σ) s ρ (λv s'=>wpAny X.M A (truthy v) Q E s') E:=λH=>aB.wants H λb s'=>wpAny_truthy_bool;have H:=wn H;refine pG (P:=λe=>aB X l (VR X) (aV X.T Φ hd e B σ) s ρ (λv s'=>wpAny X.M A (truthy v) Q E s') E) id H λop eo H=>?_;refine pG (P:=λe=>aB X l (VR X) (aV X.T Φ hd e B σ) s ρ (λv s'=>wpAny X.M A (truthy v) Q E s') E) id H λr er H=>?_;refine lF (P:=λe=>aB X l (VR X) (aV X.T Φ hd e B σ) s ρ (λv s'=>wpAny X.M A (truthy v) Q E s') E) id H λhm H0=>?_;subst eo er;refine wpAny_isTrue_Compare1 (ih n (pI _) hd A l env cx le B s ρ σ _ E ok a (aB.step H0 λv aC aJ cj aM x _ bI V bC=>?_)) (vM _▸hm);refine ih n (pI _) hd A l env cx r B _ _ _ _ E ok (a.step bI) (bC.step λw bL eZ o4 jd y _ eN W jc=>?_);exact Dq eN.inv ok.room (eN.vr bI.inv V) W jc
  |plain e h=>rw[h];exact aU (ih (n+1) (bR _) hd A l env cx e B s ρ σ _ E ok a (aB.wants H λb _ q=>aU (oY (kh (wpAny_truthy_bool q)))))
end
section
variable{E:Q3}
theorem Xl(FO:Eu X Φ)(f:Nat):∃o fd,(∃ hd as σ,Φ hd f as σ≠.bad)->X.h₀.get? (X.fa f)=some o/\o.data= .func fd:=by
 by_cases q:∃hd as σ,Φ hd f as σ≠.bad
 .refine MJ q λhd as σ q=>?_;refine mK (FO hd f as σ q) λo fd h=>?_;exact(eO o fd (λ_=>h))
 .exact(eO default default (λz=>absurd z q))
theorem fy(N:Kf X Φ d)(c:Nat):∃o cd,(∃ hd as σ,lA X.T Φ hd c as σ≠.bad)->X.h₀.get? (X.ca c)=some o/\o.data= .cls cd/\specialIn X.K (.ref (X.ca c)) "__call__"=some (some (.builtin "type.__call__")):=by
 by_cases q:∃hd as σ,lA X.T Φ hd c as σ≠.bad
 .refine MJ q λhd as σ q=>?_;refine mK (N.cls hd c as σ q) λo fd h=>?_;exact(eO o fd (λ_=>h))
 .exact(eO default default (λz=>absurd z q))
theorem fI{b:Nat}(h:b<=12):(∃ id,qd b= .builtin id)\/∃t,qd b= .type t:=by
 have k:∀b,b<13->(match qd b with| .builtin _=>true| .type _=>true|_=>false)=true:=Y
 have k:=k b (rI h);generalize qd b=v at k
 cases v<;>first|exact .inl ⟨_,Z⟩|exact .inr ⟨_,Z⟩|cases k
theorem U8(S:vB X G Nm)(mi:Ke X Φ d)(FO:Eu X Φ)(N:Kf X Φ d)(ih:uo X G Nm X.T Φ d n){pos:Pos}(ok:Ok X hd d A l env cx){es:zb0}(Jh:es.any isStar=false){f:U}{fv:Value}
  (a:At X hd A l env cx s.heap ρ σ B) (V:VR X s.heap ρ f fv) (hc:isCallable f=true)
  (H:aB X l (VR X) ((lH X.T Φ hd (es.map (cE G Nm n cx)) B σ).bind λvs σ=>kL X.T Φ hd f vs σ) s ρ Q E):wpAny X.M A (callWith pos fv [] (backTo pos (starEach es env)) []) Q E s:=by
 have hp:=qw (env:=env) (pos:=pos) Jh
 cases f with
 |fn f=>rw[show fv= .ref (X.fa f) from V];refine mK (Xl FO f) λo fd fo=>?_;refine callWith_function (o:=o) (fd:=fd) (gG hp (uN ih ok a (H.step λvs aC aJ cj aM xs _ bI W bC=>?_)));have fo:=fo (Bd _ _ _ (FN bC));exact⟨⟨bI.inv.low _ _ fo.1,fo.2⟩,mi hd f vs aC A l _ aM xs Q E ok.frames (a.step bI).qj ok.depth ok.units bI.inv W bC⟩
 |cls c=>rw[show fv= .ref (X.ca c) from V];refine mK (fy N c) λo cd fo=>?_;refine callWith_cls (o:=o) (cd:=cd) hp (gG hp (uN ih ok a (H.step λvs aC aJ cj aM xs _ bI W bC=>?_)));have fo:=fo (Bd _ _ _ (FN bC));exact(jW (jW (bI.inv.low _ _ fo.1) fo.2.1 (looks_specialIn (S.Jo.keeps bI.inv.low) fo.2.2)) Z (N.make hd c vs aC A l _ aM xs Q E ok.frames (a.step bI).qj ok.depth ok.units bI.inv W bC))
 |bi bb=>
  rw[V.2]
  have fin:wpAny X.M A (spliced (backTo pos (starEach es env))) (λxs s=>wpAny X.M A (call (qd bb) xs) Q E s) E s:=uN ih ok a (H.step λvs aC aJ cj aM xs _ bI W bC=>aB.gd bC λq bC=>by
   refine nB S.pX bI.inv (λz=>a.qj.1 ?_) W bC
   cases hd with
   |false=>rfl
   |true=>rcases z with rfl|rfl<;>cases q)
  rcases fI V.1 with⟨id,e⟩|⟨t,e⟩<;>rw[e] at fin ⊢
  .exact callWith_builtin hp (gG hp fin)
  .exact PySem.callWith_type hp (gG hp fin)
 |_=>cases hc
theorem Rq(S:vB X G Nm)(AD:Bn X)(mi:Ke X Φ d)(FO:Eu X Φ)(ih:uo X G Nm X.T Φ d n){o:Expr}{nm:Str}{k:Nat}{apos pos:Pos}(ok:Ok X hd d A l env cx){es:zb0}(Jh:es.any isStar=false)(hle:es.length<=28)(rx:apos.endLine=pos.line)
  (ho:wV o=false) (hk:place Nm nm 0=some k)
  (a:At X hd A l env cx s.heap ρ σ B) (H:aB X l (VR X) (aV X.T Φ hd (.aG (cE G Nm n cx o) k (es.map (cE G Nm n cx))) B σ) s ρ Q E):
  wpAny X.M A (eval (.Call (.Attribute o nm apos) es [] pos) env) Q E s:=by
 have hp:=qw (env:=env) (pos:=pos) Jh;obtain⟨BI,rE⟩:=S.nm nm k hk;rw[arm_eval_Call,vy ho];refine aU (ih hd A l env cx o B s ρ σ _ E ok a (H.step λv aC aJ cj aM x _ bI V bC=>aU (oY ?_)));refine aB.ig bC λmk ZO bC=>?_
 have WY:methodCallForm (es.length+List.length ([]:List Keyword)) (backTo pos (starEach es env)) (backToKw pos (keywordEach [] env))=true:=by
  unfold methodCallForm
  have h1:(backTo pos (starEach es env)).all (λp=>!p.1)=true:=by
   rw[zB];intro p hp';have:=List.any_eq_false.mp hp p hp'
   simpa using this
  rw[h1];rw[dF (dD hle (dm Z))];rfl
 unfold methodCall;rw[WY];unfold calleeOf;rw[bz Z];refine aU (kh ?_);rw[<- BI];refine H6 AD S.Jo bI.inv rE V ZO ?_
 dsimp only
 refine aU ?_;unfold methodCallPos;rw[bz (by simp[rx])];refine cF ?_;have fX:=a.step bI
 by_cases hf:∃f,mk= .fn f
 .obtain⟨f,rfl⟩:=hf;refine mK (Xl FO f) λo fd fo=>?_;refine callWith_function (o:=o) (fd:=fd) (gG hp (uN ih ok fX (bC.step λvs bL eZ o4 jd xs _ eN W jc=>?_)));have fo:=fo (Bd _ _ _ (FN jc));exact⟨⟨eN.inv.low _ _ fo.1,fo.2⟩,mi hd f (v::vs) bL A l _ jd (x::xs) Q E ok.frames (fX.step eN).qj ok.depth ok.units eN.inv (.cons (eN.vr bI.inv V) W) jc⟩
 .have hb:(∃ id,yp X mk k= .builtin id)/\∀vs σ,dj Φ hd mk v k vs σ=Yd mk v k vs σ:=by
   cases mk<;>first|exact⟨⟨_,Z⟩,λ_ _=>rfl⟩|exact absurd ⟨_,Z⟩ hf
  obtain⟨⟨id,e⟩,hc⟩:=hb;rw[e];refine callWith_builtin hp (gG hp (uN ih ok fX (bC.step λvs bL eZ o4 jd xs _ eN W jc=>?_)));rw[hc] at jc;rw[<- e];exact Rt eN.inv (λf z=>hf ⟨f,z⟩) ok.room (eN.vr bI.inv V) W jc
end
section
variable{E:Q3}
theorem VH{M:Model}{a:Addr}{m:Str->Option Value}{name:Str}{v:Value}{Q:za2}{E:Q3}{s:Shared}(hn:s.heap.Ns a m)
  (hQ:∀h',h'.Ns a (λx=>if x=name then some v else m x)->Heap.SameBut a s.heap h'->(∀ o,s.heap.get? a=some o->∃o',h'.get? a=some o'/\o'.cls=o.cls)->Q () {s with heap:=h',toks:=s.toks+1}):
  wpAny M A (nsSet a name v) Q E s:=by
 have hn':=hn;obtain⟨o,es,ep,ho,hd,hk,_⟩:=hn';refine DQ (R:=λh'=>h'.Ns a (λx=>if x=name then some v else m x)/\Heap.SameBut a s.heap h') ho hd hk (λΓ p=>Sem.wp_nsSet M Γ _ p s hn name v _ λh' a b=>⟨a,b⟩) λh' q c=>?_;refine hQ h' q.1 q.2 λo0 BH=>?_;rw[ho] at BH;cases BH;exact c
noncomputable def fL(env:Env):List (Str×NameKind)->List (Str×Addr)->List (Str×Addr)
 |[],cs=>cs
 |(x,k)::r,cs=>fL env r (if k= .free then(x,(env.cells.lookup x).getD 0)::cs else cs)
theorem BJ{sc:Scope}(h:∀p∈sc.names,p.2= .free->∃c,env.cells.lookup p.1=some c):closureFor sc env=pure (fL env sc.names []):=by
 unfold closureFor
 have key:∀(ns:List (Str×NameKind)) (cs:List (Str×Addr)),(∀ p∈ns,p.2= .free->∃c,env.cells.lookup p.1=some c)->
   (forIn ns cs (λ(x:Str×NameKind) r=>(do if x.2== .free then do let c <-cellOf env x.1;pure (ForInStep.yield ((x.1,c)::r)) else pure (ForInStep.yield r):Sem (ForInStep (List (Str×Addr))))))=pure (fL env ns cs):=by
  intro ns
  induction ns with
  |nil=>intro cs _;rfl
  |cons p r ih=>
   intro cs hh;obtain⟨x,k⟩:=p;rw[List.forIn_cons]
   by_cases q:k= .free
   .subst q;obtain⟨c,hc⟩:=hh (x,.free) (.head _) Z;have e:cellOf env x=pure c:=by unfold cellOf;rw[hc]
    simp only[e,beq_self_eq_true,if_true,pure_bind];rw[ih _ λp hp=>hh p (.tail _ hp)];rw[show fL env ((x,NameKind.free)::r) cs=fL env r (if NameKind.free=NameKind.free then(x,(env.cells.lookup x).getD 0)::cs else cs) from Z,bz Z];have:(env.cells.lookup x).getD 0=c:=by rw[show env.cells.lookup x=some c from hc];rfl
    rw[this]
   .have:(k==NameKind.free)=false:=by simpa using q
    simp only[this,yl,if_false,pure_bind];rw[ih _ λp hp=>hh p (.tail _ hp)];rw[show fL env ((x,k)::r) cs=fL env r (if k=NameKind.free then(x,(env.cells.lookup x).getD 0)::cs else cs) from Z,bh q]
 have:=key sc.names [] h;simp only[bind_pure];exact this
theorem wN:∀{l:za3},tZ l=true->l.Nodup
 |[],_=>qY
 |x::r,h=>by have h:=and_true h;refine List.nodup_cons.mpr ⟨λm=>?_,wN h.2⟩;have:=h.1;rw[vM,List.any_eq_false] at this;exact this x m (o6.mpr Z)
theorem mU{ns:List (Str×NameKind)}(nd:(ns.map (·.1)).Nodup):∀(cs:List (Str×Addr)) (y:Str),(∀ p∈cs,p.1∉ns.map (·.1))->
  (fL env ns cs).lookup y=if(y,NameKind.free)∈ns then some ((env.cells.lookup y).getD 0) else cs.lookup y:=by
 induction ns with
 |nil=>intro cs y _;simp[fL]
 |cons p r ih=>
  intro cs y xc;obtain⟨x,k⟩:=p;rw[cH,List.nodup_cons] at nd;rw[show fL env ((x,k)::r) cs=fL env r (if k=NameKind.free then(x,(env.cells.lookup x).getD 0)::cs else cs) from Z]
  rw[ih nd.2 _ y (by
   intro p hp
   split at hp
   .rcases zb5 hp with rfl|hp
    .exact nd.1
    .exact λm=>xc p hp (by rw[cH];exact .tail _ m)
   .exact λm=>xc p hp (by rw[cH];exact .tail _ m))]
  by_cases q:(y,NameKind.free)∈r
  .rw[bz q,bz (.tail _ q)]
  .rw[bh q]
   by_cases e:(y,NameKind.free)=(x,k)
   .obtain⟨rfl,rfl⟩:=Prod.mk.inj e;rw[bz Z,bz (.head _)];simp
   .have:(y,NameKind.free)∉(x,k)::r:=λm=>by
     rcases zb5 m with m|m
     .exact e m
     .exact q m
    rw[bh this]
    split
    .rename_i kf
     subst kf;have:y≠x:=λz=>e (by rw[z]);rw[pK,zb4 this]
    .rfl
theorem mem_lookup{α:Type}{ns:List (Str×α)}(nd:(ns.map (·.1)).Nodup){x:Str}{k:α}(h:(x,k)∈ns):ns.lookup x=some k:=by
 induction ns with
 |nil=>cases h
 |cons p r ih=>
  obtain⟨y,j⟩:=p;rw[cH,List.nodup_cons] at nd;rw[pK]
  rcases zb5 h with h|h
  .cases h;simp
  .have:x≠y:=λz=>nd.1 (z▸List.mem_map_of_mem (f:=(·.1)) h);rw[zb4 this];exact ih nd.2 h
theorem kJ{sc:Scope}{x:Str}:(relabel sc env).names.lookup x=(sc.names.lookup x).map λk=>if(k==NameKind.free&&env.scope.kind== .function&&env.kindOf x==some .cell)=true then NameKind.cell else k:=by
 unfold relabel;simp only
 induction sc.names with
 |nil=>rfl
 |cons p r ih=>
  obtain⟨y,k⟩:=p;rw[cH]
  by_cases h:x=y
  .subst h;simp only[pK]
   split<;>simp_all
  .have hb:=zb4 h;rw[pK (k:=y),hb]
   dsimp only
   split
   .rw[pK,hb];exact ih
   .rw[pK,hb];exact ih
structure o9(cx:Cx)(sc:Scope)(x:Str)(it:Expr):Prop where
 kind:sc.kind= .function
 B:sc.names.lookup x=some .local
 nd:(sc.names.map (·.1)).Nodup
 cell:∀p∈sc.names,p.2≠.cell
 free:∀p∈sc.names,p.2= .free->look cx.kinds p.1=some .cell/\∃i,look cx.slots p.1=some i
 it:isSet it=false
theorem Qz{sc:Scope}{x:Str}{it:Expr}(h:M8 cx sc x it=true):o9 cx sc x it:=by
 unfold M8 at h;simp only[jH,beq_iff_eq,zB,bne_iff_ne,ne_eq,ur,vM,Option.isSome_iff_exists] at h;obtain⟨⟨⟨⟨⟨h1,h2⟩,h3⟩,h4⟩,h5⟩,h6⟩:=h;refine⟨h1,by rw[<- I8];exact h2,wN h3,h4,λp hp hf=>?_,h6⟩
 rcases h5 p hp with q|q
 .exact absurd hf q
 .exact q
theorem qP{it:Expr}{x:Value}(h:isSet it=false):foldedSetIterable it env x=pure x:=by
 cases it<;>first|rfl|cases h
theorem qQ{sc:Scope}{x:Str}{it:Expr}(F:o9 cx sc x it)(ok:Ok X hd d A l env cx)(a:At X hd A l env cx h ρ σ B):∀p∈sc.names,p.2= .free->env.kindOf p.1=some .cell/\∃c,env.cells.lookup p.1=some c:=by
 intro p hp hf;obtain⟨h1,i,h2⟩:=F.free p hp hf;have hk:=ok.kinds _ _ h1 (.inr Z);refine bY a.B λm hn hl=>?_;refine bY (hl p.1 i (jL h2)) λw N _=>?_
 rcases N with⟨q,_⟩|⟨_,c,hc,_⟩
 .rw[hk] at q;cases q
 .exact⟨hk,c,hc⟩
abbrev xX(sc:Scope)(BC:Addr)(env:Env):Env:=compEnvC sc (fL env sc.names []) BC env
theorem fk{sc:Scope}{x:Str}{it:Expr}{i:Nat}{BC:Addr}(F:o9 cx sc x it)(ok:Ok X hd d A l env cx)(a:At X hd A l env cx h ρ σ B)(hi:cx.base<=i):Ok X hd d A l (xX sc BC env) (inner cx x i sc.names):=by
 have cl:=qQ F ok a
 have lk:∀y c,(fL env sc.names []).lookup y=some c->env.cells.lookup y=some c:=λy c e=>by
  rw[mU F.nd [] y (λ_ h=>by cases h)] at e
  split at e
  .rename_i m
   obtain⟨_,c',hc'⟩:=cl _ m Z;have hc':=hc';rw[hc'] at e ⊢;exact e
  .cases e
 refine⟨ok.frames,ok.Gg,F.kind,λy k hk hk2=>?_,λy j hy=>?_,ok.Qg,ok.QF,ok.depth,ok.units,λy z j h1 h2=>?_,λy z c h1 h2=>ok.cells y z c (lk y c h1) (lk z c h2)⟩
 .have m:=jL hk;unfold inner Ef at m;simp only[List.mem_filter,beq_iff_eq] at m;obtain⟨m1,m2⟩:=m;subst m2;have:=mem_lookup F.nd m1;unfold Env.kindOf;rw[kJ,this];rfl
 .unfold inner at hy ⊢;simp only[pJ,List.mem_filter] at hy ⊢
  rcases hy with hy|⟨hy,_⟩
  .cases hy;exact j9 _
  .have:=ok.base y j hy;exact oV (bj this hi)
 .unfold inner at h1 h2;simp only[pJ,List.mem_filter] at h1 h2
  rcases h1 with h1|⟨h1,_⟩<;>rcases h2 with h2|⟨h2,_⟩
  .cases h1;cases h2;rfl
  .cases h1;have:=ok.base _ _ h2;exact J4 this hi
  .cases h2;have:=ok.base _ _ h1;exact J4 this hi
  .exact ok.once y z j h1 h2
end
section
variable{E:Q3}
theorem fq{sc:Scope}{x:Str}{it:Expr}{i:Nat}{BC:Addr}{m:Str->Option Value}{v:U}{r:Value}(F:o9 cx sc x it)(ok:Ok X hd d A l env cx)(a:At X hd A l env cx h ρ σ B)(hi:cx.base<=i)
  (hC:h.Ns BC m) (hm:m x=some r) (V:VR X h ρ v r) (hf:¬foot ρ BC) (h0:X.h₀.get? BC=none):At X hd A l (xX sc BC env) (inner cx x i sc.names) h ρ σ (B.set i v):=by
 have cl:=qQ F ok a
 have lk:∀y c,(fL env sc.names []).lookup y=some c->env.cells.lookup y=some c:=λy c e=>by
  rw[mU F.nd [] y (λ_ h=>by cases h)] at e
  split at e
  .rename_i m
   obtain⟨_,c',hc'⟩:=cl _ m Z;have hc':=hc';rw[hc'] at e ⊢;exact e
  .cases e
 refine bY a.B λm0 hn hl=>?_;refine⟨a.inv,(aZ m hC (λy j hy=>?_)),hf,h0,a.qj,λy c hc=>a.JS y c (lk y c hc),λy c hc=>a.wU y c (lk y c hc)⟩;unfold inner at hy;simp only[pJ,List.mem_filter,jH,vM,beq_iff_eq] at hy
 rcases hy with hy|⟨hy,qJ,Jj⟩
 .cases(hy)
  refine(aZ (some r) (.inl ⟨?_,hm⟩) (λu hu=>.inr (aZ r Z ?_)))
  .unfold Env.kindOf;rw[kJ,F.B];rfl
  .by_cases q:i<B.length
   .rw[iy q] at hu;cases hu;exact V
   .rw[lL (by rw[fB];exact iW q)] at hu;cases hu
 .have rL:=jL Jj;obtain⟨hk,c,hc⟩:=cl _ rL Z;refine bY (hl y j hy) λw N hv=>?_;have hj:=ok.base y j hy;refine(aZ w (.inr ⟨.inl ?_,c,?_,?_⟩) (λu hu=>hv u (by rw[jX (dX (bj hj hi))] at hu;exact hu)))
  .unfold Env.kindOf;rw[kJ,mem_lookup F.nd rL];have hk':=hk;simp[ok.kind,hk']
  .show(fL env sc.names []).lookup y=_;rw[mU F.nd [] y (λ_ h=>by cases h),bz rL];have hc':=hc;rw[hc'];rfl
  .rcases N with⟨q,_⟩|⟨_,c',hc',jM⟩
   .have hk':=hk;rw[hk'] at q;cases q
   .have SM:=hc;rw[SM] at hc';cases hc';exact jM
theorem Step.adopt(S:Step X l ir h ρ aJ aM aC){p:Addr×Addr}{o:AO}{o1 o2:Obj}(n1:h.get? p.1=none)(n2:h.get? p.2=none)(x1:X.h₀.get? p.1=none/\(p.1==sysModules)=false)(x2:X.h₀.get? p.2=none/\(p.2==sysModules)=false)
  (e1:aJ.get? p.1=some o1) (t1:tracked o1=true) (e2:aJ.get? p.2=some o2) (t2:tracked o2=true) (f1:¬foot aM p.1) (f2:¬foot aM p.2) (q:OR X aJ (aM++[p]) p o):
  Step X l ir h ρ aJ (aM++[p]) (aC++[o]):=by
 refine⟨S.inv.adopt e1 t1 e2 t2 f1 f2 x1 x2 q,S.keep,(jW (S.ext.1.trans (jF.app _ _)) (λb f=>nW.mpr (.inl (S.ext.2.1 b f))) (λb f=>?_)),S.there,S.exc⟩
 rcases nW.mp f with f|f
 .exact S.ext.2.2 b f
 refine bY f λr hr hb=>?_;rw[Df] at hr;subst hr
 rcases hb with hb|hb
 .rw[hb];exact .inr n1
 .rw[hb];exact .inr n2
theorem IW{M:Model}{scope:Scope}{globals:Addr}{closure:List (Str×Addr)}{qual:Str}{outer:Env}{E:Q3}{s:Shared}{Q:Env->Shared->Prop}(hc:∀x∈scope.names,x.2≠.cell)
  (hQ:Q {scope,locals:=s.heap.objs.size,globals,cells:=closure,qual,func:=none,code:=outer.code,frame:=outer.frame,builtins:=outer.builtins} {s with heap:=s.heap.push {cls:=.type "dict",data:=.dict #[]}}):
  wpAny M A (newFunctionEnv scope globals closure [] qual none .none (some outer)) Q E s:=by
 simp only[newFunctionEnv,Option.isSome_some,if_true];refine aU (wpAny_alloc ?_)
 rw[forIn_yield_id closure (λx hx c=>by
  obtain⟨name,kind⟩:=x;have:(kind==NameKind.cell)=false:=by simpa using hc _ hx
  simp only[this,yl,if_false])]
 refine aU (cF (aU ?_));rw[List.forIn_nil];exact cF (cF hQ)
theorem Ck{I:Addr}{k:Nat}(V:Et X s.heap ρ I k a)(h:Q (.ref I) s):wpAny X.M A (pyIter (.ref I)) Q E s:=by
 cases a<;>first|exact V.elim|skip
 .obtain⟨t,it⟩:=V
  split at it
  .exact wpAny_pyIter_striter_ascii it h
  .exact wpAny_pyIter_striter_wide it h
 .refine rC V λ_ _ _ _ _ _ it=>?_;exact wpAny_pyIter_tupleiter it h
 .refine XQ V λ_ _ _ it=>?_;exact wpAny_pyIter_rangeiter it h
 .refine bY V λ_ _ it=>?_;exact wpAny_pyIter_listiter it h
theorem YC{la:Addr}{items:Tu}{n:Nat}{v:Value}(hl:IsL s.heap la items.toArray n)(hz:items.length<=LL)
  (hQ:∀h',(∃ n',IsL h' la (items++[v]).toArray n')->Heap.SameBut la s.heap h'->Q .none {s with heap:=h'}):wpAny X.M A (call (.builtin "list.append") [.ref la,v]) Q E s:=by
 refine call_meets F.slot_list_append (aZ _ hl Z) F.entry_list_append (F.args_list_append_2 _ _) (list_append la items.toArray n v (by rw[jJ,sizeLine_eq];unfold LL at hz;exact bO hz (dl Z))) ⟨hl,?_⟩;have g:=IsL.update hl (λxs=>xs.push v);rw[show items.toArray.push v=(items++[v]).toArray by simp] at g;exact hQ _ ⟨_,g⟩ (Heap.SameBut.update ..)
theorem Bh{b:Addr}{o:Obj}(e:h.get? b=some o)(c:o.cls= .type "dict"):Hid h b:=λo' e'=>by rw[e] at e';cases e';exact⟨pP (by rw[c];decide),by rw[c];decide⟩
theorem WX{b:Addr}{o:Obj}(e:h.get? b=some o)(c:o.cls= .type "list"):Hid h b:=λo' e'=>by rw[e] at e';cases e';exact⟨pP (by rw[c];decide),by rw[c];decide⟩
end
section
variable{E:Q3}
theorem FP{β:Type}{z:β}{P:β->Prop}{w:Option (Option U)}{f:U->β}{e:β}{G:Prop}(nz:P z->False)(H:P (FQ z w f e))(k1:∀x,w=some (some x)->P (f x)->G)(k2:w=some none->P e->G):G:=by
 cases w with
 |none=>exact(nz H).elim
 |some w=>cases w<;>first|exact k2 Z H|exact k1 _ Z H
theorem qh{α:Type}{a:α}{σ:St}(h:Res.bad= .ok a σ):False:=nomatch h
theorem Vz{α β:Type}{z:β}{P:β->Prop}{r:Res α}{f:α->St->β}{G:Prop}(nz:P z->False)(H:P (iF z r f))(k:∀v σ,r= .ok v σ->P (f v σ)->G):G:=by cases r<;>first|exact k _ _ Z H|exact(nz H).elim
theorem Step.hold(S:Step X l uA h ρ aJ aM aC){a:Addr}{o:Obj}(g:h.get? a=some o)(f:¬foot ρ a)(c:o.cls≠.type "frame"):aJ.get? a=some o/\¬foot aM a:=
 ⟨(S.keep a o g f id).elim id λq=>absurd q.1 c,S.ext.lX f g⟩
theorem pY{I:Addr}(uf:Hid h I)(eb:∀b o,b≠I->h.get? b=some o->aJ.get? b=some o):Still h aJ:=λb o e t=>eb b o (λz=>by subst z;rw[(uf o e).1] at t;cases t) e
theorem Still.trans(p:Still h aJ)(q:Still aJ eZ):Still h eZ:=λx o e t=>q x o (p x o e t) t
inductive CI(X:Ctx)(l:za7)(s:Shared)(ρ:Su)(I AM BC:Addr)(v:U)(P:Nat->Nat->List U->St->Prop)(k:Nat)(s':Shared):Prop
 |mk (h':Heap) (tk:Nat) (cY:Su) (σ':St) (m:Str->Option Value) (acc:Th) (vs:Tu) (nn:Nat) (o:Obj) (j:Nat) (e:s'={s with heap:=h',toks:=tk}) (hj:j+k=NN) (q:P k j acc σ') (S:Step X l uA s.heap ρ h' cY σ')
  (it:Et X h' cY I j v) (fD:¬foot cY AM) (fC:¬foot cY BC) (gD:IsL h' AM vs.toArray nn) (W:cA X h' cY acc vs) (hl:acc.length=j) (ns:h'.Ns BC m) (gC:h'.get? BC=some o) (cC:o.cls= .type "dict")
theorem Ti{R:Result->Shared->Prop}(ih:uo X G Nm X.T Φ d n){elt iter:Expr}{x:Str}{px:Pos}{sc:Scope}{pos:Pos}{i:Nat}(F:o9 cx sc x iter)(ok:Ok X hd d A l env cx)
  (hi:cx.base<=i) {v:U} {I AM BC:Addr} (wk:nM hd v=true)
  (a:At X hd A l env cx s.heap ρ σ B) {h₀:Heap} {hK:Nat} (LJ:Step X l uA s.heap ρ h₀ ρ σ) (A1:Et X h₀ ρ I 0 v) (gD:IsL h₀ AM [].toArray 0) (gC:h₀.get? BC=some {cls:=.type "dict",data:=.dict #[]})
  (nI:s.heap.get? I=none) (nD:s.heap.get? AM=none) (nC:s.heap.get? BC=none) (C6:I≠BC) (tf:AM≠BC) (KL:I≠AM)
  (fD:¬foot ρ AM) (fC:¬foot ρ BC)
  {rv:Th} {ze:St} (rr:jO (λB σ=>aV X.T Φ hd (cE G Nm n (inner cx x i sc.names) elt) B σ) i v B NN 0 [] σ= .ok rv ze)
  (hR:∀h' tk m cY vs nn,Step X l uA s.heap ρ h' cY ze->¬foot cY AM->¬foot cY BC->IsL h' AM vs.toArray nn->cA X h' cY rv vs->rv.length<=NN->
   h'.Ns BC m->(∃ o,h'.get? BC=some o/\o.cls= .type "dict")->R (.ok .next) {s with heap:=h',toks:=tk}):
  codeAny X.M A (.compLoop (.ListComp elt [⟨.Name x px,iter,[],0⟩] sc pos) 0 (.ref I) (.ref AM) (xX sc BC env)) R {s with heap:=h₀,toks:=hK}:=by
 have xI:=kZ a.inv nI;have xD:=kZ a.inv nD;have xC:=kZ a.inv nC
 refine codeAny_compLoop_tests
  (CI X l s ρ I AM BC v λk j acc σ'=>jO (λB σ=>aV X.T Φ hd (cE G Nm n (inner cx x i sc.names) elt) B σ) i v B k j acc σ'= .ok rv ze) (λk s' K=>?_) NN
  ⟨h₀,hK,ρ,σ,λ_=>none,[],[],0,_,0,Z,mz _,rr,LJ,A1,fD,fC,gD,cA.nil,Z,(oG _ (#[]) _ gC Z (λe he=>absurd he (by simp)) (λ_=>rfl)),gC,Z⟩
 generalize YT:(λB σ=>aV X.T Φ hd (cE G Nm n (inner cx x i sc.names) elt) B σ)=el at K rr
 induction K with
 |mk h' tk cY σ' m acc vs nn oC j e hj q S it fD fC gD W hl iL gC cC=>
 subst e
 cases k with
 |zero=>cases q
 |succ k=>
  have q:=q;refine FP (P:=(·=Res.ok rv ze)) qh q (λav r4 q=>?_) λr4 q=>?_
  .refine Vz (P:=(·=Res.ok rv ze)) qh q λyv LW hy q=>?_;refine HX S.inv it r4 λr h1 tk1 R1 eb HA=>?_;have S1:=S.Ny nI xI (it.lX S.inv) it.uf eb;refine aU (oY (wpAny_bindName ?_))
   have BQ:(xX sc BC env).kindOf x=some .local:=by unfold Env.kindOf;rw[kJ,F.B];rfl
   rw[storeName_local BQ (by show(sc.kind== .class||(sc.kind== .module&&_))=false;rw[F.kind];rfl)];have N4:=eb BC oC (Ne.symm C6) gC;refine VH (iL.at' λo e=>eb BC o (Ne.symm C6) e) λh2 AH wb Sr=>?_;refine bY (Sr oC N4) λoC2 N3 OQ=>?_;have hC:=Bh N4 cC;have S2:=S1.Ny nC xC fC hC wb.extBut;have gD2:=wb.extBut AM _ tf (eb AM _ (Ne.symm KL) gD);have FV:=pY hC wb.extBut;have st:=Still.trans (pY it.uf eb) FV;have A2:=HA.mono FV (jF.refl _) (λo e=>wb.extBut I o C6 e);rw[List.forIn_nil];refine cF ?_;rw[bz Z];have a2:=fq F ok (a.step S2) hi AH (bz Z) (VR.mono st (jF.refl _) _ _ R1) fC xC;subst YT;refine ih hd A l (xX sc BC env) (inner cx x i sc.names) elt (B.set i av) _ cY σ' _ _ (fk F ok (a.step S2) hi) a2 ?_;rw[show aV X.T Φ hd (cE G Nm n (inner cx x i sc.names) elt) (B.set i av) σ'= .ok yv LW from hy];intro h3 FI PY yr S3 V3;obtain⟨N1,OE⟩:=S3.hold gD2 fD (show Value.type "list"≠Value.type "frame" by decide);obtain⟨N2,fC3⟩:=S3.hold N3 fC (by rw[OQ,cC];decide);refine Bu A2.obj λoI gI tI sI cI=>?_;have gI3:=(S3.hold gI (A2.lX S2.inv) cI).1;have D':=S3.iD S2.inv (λ_ _ y _=>y.elim);have W3:=cA.mono D' S3.ext.1 _ _ (cA.mono st (jF.refl _) _ _ W);refine YC N1 (by rw[cA.length W3,hl,<-hj];unfold NN LL at *;exact dq (dh hj)) λh4 ⟨n4,gD4⟩ wa=>?_;have BU:=WX N1 Z;have FU:=pY BU wa.extBut;exact⟨k,j9 _,h4,FI,PY,LW,_,acc++[yv],vs++[yr],n4,_,j+1,Z,by rw[<- hj,Nat.add_assoc,rF 1],q,(S2.trans S3).Ny nD xD OE BU wa.extBut,(A2.mono D' S3.ext.1 (λo e=>by rw[gI] at e;cases e;exact gI3)).mono FU (jF.refl _) (λo e=>wa.extBut I o KL e),OE,fC3,gD4,cA.append (cA.mono FU (jF.refl _) _ _ W3) (.cons (VR.mono FU (jF.refl _) _ _ V3) .nil),by rw[bW,hl];rfl,AH.at' λo e=>wa.extBut BC o (Ne.symm tf) (by rw[N3] at e;cases e;exact N2),wa.extBut BC _ (Ne.symm tf) N2,by rw[OQ];exact cC⟩
  .injection q with e1 e2;subst e1 e2;refine HN S.inv (a.step S).qj wk it r4 λh1 eb=>?_;exact hR h1 tk m cY vs nn (S.Ny nI xI (it.lX S.inv) it.uf eb) fD fC (eb AM _ (Ne.symm KL) gD) (cA.mono (pY it.uf eb) (jF.refl _) _ _ W) (by rw[hl,<-hj];exact d9 _ _) (iL.at' λo e=>eb BC o (Ne.symm C6) e) (aZ oC (eb BC oC (Ne.symm C6) gC) cC)
end
section
variable{E:Q3}
theorem place_ge{l:za3}{x:Str}:∀{k i:Nat},place l x k=some i->k<=i:=by
 induction l with
 |nil=>intro k i e;cases e
 |cons y r ih=>
  intro k i e;have e:cond (seq y x) (some k) (place r x (k+1))=some i:=e
  cases q:seq y x with
  |true=>rw[q] at e;exact dh (Option.some.inj e)
  |false=>rw[q] at e;exact iw (ih e)
abbrev qR(X:Ctx)(G:za4)(Nm:za3)(Φ:iC)(hd:Bool)(n:Nat)(cx:Cx)(x:Str)(i:Nat)(sc:Scope)(elt:Expr)(v:U)(B:Loc)(σ:St):Res (List U):=
 jO (λB σ=>aV X.T Φ hd (cE G Nm n (inner cx x i sc.names) elt) B σ) i v B NN 0 [] σ
theorem Bx{RR:Value->Addr->Result->Shared->Prop}(SS:X.h₀.NoLimit)(ih:uo X G Nm X.T Φ d n){elt iter:Expr}{x:Str}{px:Pos}{sc:Scope}{pos:Pos}{i:Nat}(F:o9 cx sc x iter)(ok:Ok X hd d A l env cx)
  (hi:cx.base<=i) {v:U} {xv:Value} (wk:nM hd v=true) (a:At X hd A l env cx s.heap ρ σ B) (V:VR X s.heap ρ v xv) {acc:Th} {σ':St} (hr:qR X G Nm Φ hd n cx x i sc elt v B σ= .ok acc σ')
  (hR:∀AM BC h' tk m cY,(∃ o,h'.get? BC=some o/\o.cls= .type "dict")->AM≠BC->h'.Ns BC m->¬foot cY BC->X.h₀.get? BC=none->s.heap.get? BC=none->
   Step X l uA s.heap ρ h' (cY++[(AM,AM)]) (σ'++[.list acc])->VR X h' (cY++[(AM,AM)]) (.ref σ'.length) (.ref AM)->RR (.ref AM) BC (.ok .next) {s with heap:=h',toks:=tk}):
  wpAny X.M A (pyIter xv) (λit Ci=>wpAny X.M A (newList []) (λac KH=>wpAny X.M A (newFunctionEnv sc env.globals (fL env sc.names []) [] env.qual none .none (some env)) (λDx FL=>
   codeAny X.M A (.compStart (.ListComp elt [⟨.Name x px,iter,[],0⟩] sc pos) 0 it ac {Dx with scope:=relabel sc env}) (RR ac Dx.locals) FL) E KH) E Ci) E s:=by
 have hit:∃r,dJ v 0 σ=some r:=jZ (P:=(·=Res.ok acc σ')) qh hr λr e _=>⟨r,e⟩;obtain⟨r0,hit⟩:=hit;refine HY a.inv V hit λo it=>?_;refine wpAny_newList ?_;refine IW F.cell ?_
 dsimp only
 have K1:∀b o',s.heap.get? b=some o'->(s.heap.push o).get? b=some o':=λb o' e=>mY _ e;generalize hH1:s.heap.push o=H1 at it K1;have K2:∀b o',H1.get? b=some o'->(H1.push {cls:=.type "list",data:=.seq ([]:Tu).toArray}).get? b=some o':=λb o' e=>mY _ e;have gD:IsL (H1.push {cls:=.type "list",data:=.seq ([]:Tu).toArray}) H1.objs.size [].toArray 0:=oE _ Z;have sD:s.heap.objs.size<H1.objs.size:=by rw[<- hH1,vO];exact j9 _
 generalize hH2:H1.push {cls:=.type "list",data:=.seq ([]:Tu).toArray}=H2 at K2 gD ⊢;have K3:∀b o',H2.get? b=some o'->(H2.push {cls:=.type "dict",data:=.dict #[]}).get? b=some o':=λb o' e=>mY _ e;have gC:(H2.push {cls:=.type "dict",data:=.dict #[]}).get? H2.objs.size=some {cls:=.type "dict",data:=.dict #[]}:=oE _ Z;have sC:H1.objs.size<H2.objs.size:=by rw[<- hH2,vO];exact j9 _
 generalize hH3:H2.push {cls:=.type "dict",data:=.dict #[]}=H3 at K3 gC ⊢;have K:∀b o',s.heap.get? b=some o'->H3.get? b=some o':=λb o' e=>K3 b o' (K2 b o' (K1 b o' e));have S0:Step X l uA s.heap ρ H3 ρ σ:=Step.keeps a.inv K;have EM:=it.mono (eF λb o' e=>K3 b o' (K2 b o' e)) (jF.refl _) (λo' e=>K3 _ o' (K2 _ o' e));have yZ:∀b,s.heap.objs.size<=b->s.heap.get? b=none:=λb hb=>uv hb
 have nf:∀b,s.heap.objs.size<=b->¬foot ρ b:=λb hb f=>by obtain⟨o,e⟩:=a.inv.qO f;rw[yZ b hb] at e;cases e
 have nD:=yZ H1.objs.size (lJ sD);have nC:=yZ H2.objs.size (lJ (Nat.lt_trans sD sC))
 have MC:(H1.objs.size==sysModules)=false:=by refine bY (SS.keeps a.inv.low) λmc hn _=>?_;have:(2:Nat)<s.heap.objs.size:=hn.lt;refine zb4 λz=>?_;have z':H1.objs.size=1:=z;exact Nat.not_succ_le_zero 0 (nU (dh z') this sD)
 have core:∀tk,codeAny X.M A (.compLoop (.ListComp elt [⟨.Name x px,iter,[],0⟩] sc pos) 0 (.ref s.heap.objs.size) (.ref H1.objs.size) (xX sc H2.objs.size env)) (RR (.ref H1.objs.size) H2.objs.size) {s with heap:=H3,toks:=tk}:=λtk=>by
  refine Ti ih F ok hi wk a S0 EM (K3 _ _ gD) gC (yZ _ (bR _)) nD nC (iV (Nat.lt_trans sD sC)) (iV sC) (iV sD) (nf _ (lJ sD)) (nf _ (lJ (Nat.lt_trans sD sC)))
   hr λh' tk' m cY vs nn S fD fC g W hl iL hC=>?_
  have lv:=cA.length W
  have ad:Step X l uA s.heap ρ h' (cY++[(H1.objs.size,H1.objs.size)]) (σ'++[.list acc]):=
   S.adopt nD nD ⟨kZ a.inv nD,MC⟩ ⟨kZ a.inv nD,MC⟩ g Z g Z fD fD ⟨Z,by unfold NN at hl;unfold LL;exact bO hl (dl Z),vs,nn,g,cA.mono (eF λ_ _ e=>e) (jF.app _ _) _ _ W⟩
  refine hR H1.objs.size H2.objs.size h' tk' m cY hC (iV sC) iL fC (kZ a.inv nC) nC ad (aZ (H1.objs.size,H1.objs.size) ?_ Z);rw[<- S.inv.len,iz (bR _),jy];rfl
 exact codeAny_compStart_list (core _) (Ck EM (core _))
theorem Eo{BC:Addr}{h' h'':Heap}{cY:Su}{σ':St}(S:Step X l ir h ρ h' cY σ')(n0:h.get? BC=none)(x0:X.h₀.get? BC=none)(f:¬foot cY BC)(g:∃o,h'.get? BC=some o/\o.cls= .type "dict")(sb:Heap.SameBut BC h' h''):
  Step X l ir h ρ h'' cY σ':=by
 refine bY g λo g1 g2=>?_;exact S.Ny n0 x0 f (Bh g1 g2) sb.extBut
theorem JP{f:Loc->St->Res U}{i:Nat}{v:U}{j:Nat}{τ:St}{fu:Nat}:∀{k:Nat} {acc:Th} {σ:St},jO f i v B fu k acc σ≠.exc j τ:=by
 induction fu with
 |zero=>intro k acc σ z;cases z
 |succ fu ih=>intro k acc σ z;have nz:(Res.bad:Res (List U))= .exc j τ->False:=λq=>nomatch q;have z:=z;exact FP (P:=(·=Res.exc j τ)) nz z (λx _ z=>Vz (P:=(·=Res.exc j τ)) nz z λy σ' _ z=>ih z) λ_ z=>nomatch z
theorem U7(SS:X.h₀.NoLimit)(ih:uo X G Nm X.T Φ d n){elt iter:Expr}{x:Str}{px:Pos}{sc:Scope}{pos:Pos}{i:Nat}(F:o9 cx sc x iter)(ok:Ok X hd d A l env cx)(hi:place cx.cv x cx.base=some i)
  (a:At X hd A l env cx s.heap ρ σ B) (H:aB X l (VR X) (aV X.T Φ hd (.comp (cE G Nm n (inner cx x i sc.names) elt) i (cE G Nm n cx iter)) B σ) s ρ Q E):
  wpAny X.M A (eval (.ListComp elt [⟨.Name x px,iter,[],0⟩] sc pos) env) Q E s:=by
 rw[eval_ListComp];have cl:=qQ F ok a;refine wpAny_comprehension_free Z (λx=>qP F.it) (BJ λp hp hf=>(cl p hp hf).2) F.kind (λy hy hl=>by obtain⟨y1,y2⟩:=y;cases hl;exact mem_lookup F.nd hy)<|ih hd A l env cx iter B s ρ σ _ E ok a (H.step λv aC aJ cj aM xv _ bI V bC=>?_);refine aB.gd bC λwk bC=>?_
 cases hr:qR X G Nm Φ hd n cx x i sc elt v B aC with
 |exc i' σ'=>exact absurd hr JP
 |bad=>unfold qR at hr;rw[hr] at bC;exact bC.elim
 |ok acc σ'=>
  unfold qR at hr;rw[hr] at bC;refine Bx SS ih F ok (place_ge hi) wk (a.step bI) V hr λAM BC h' tk m cY hC tf iL fC x0 n0 S R=>?_;refine(aZ m iL (λh'' sb=>?_))
  have E3:¬foot (cY++[(AM,AM)]) BC:=λf=>by
   rcases nW.mp f with f|⟨r,hr,hb⟩
   .exact fC f
   .rw[Df] at hr;subst hr
    rcases hb with hb|hb<;>exact tf hb.symm
  exact bC h'' tk _ _ (Eo S n0 x0 E3 hC sb) R
end
def YJ(X:Ctx)(G:za4)(Nm:za3)(Φ:iC)(d:Nat):Prop:=
 ∀(n:Nat) (_:uo X G Nm X.T Φ d n) (hd:Bool) (A:Around) (l:za7) (env:Env) (cx:Cx) (f:Expr) (as:zb0) (pos:Pos) (o e:Expr) (B:Loc) (s:Shared) (ρ:Su) (σ:St) (Q:Q3) (E:Q3),tW cx pos f as=some (o,e)->Ok X hd d A l env cx->At X hd A l env cx s.heap ρ σ B->aB X l (VR X) (aV X.T Φ hd (.joinRev (cE G Nm n cx o) (cE G Nm n cx e)) B σ) s ρ Q E->wpAny X.M A (eval (.Call f as [] pos) env) Q E s
section
variable{E:Q3}
theorem QG{α β:Type}{r:Res α}{f:α->St->Res β}{v:β}{τ:St}(h:r.bind f= .ok v τ):∃a σ,r= .ok a σ/\f a σ= .ok v τ:=by cases r<;>first|exact(dK _ _ Z h)|cases h
theorem Ju{es:List Mine.Internal.E}:∀{σ σ':St} {vs:Th},lH T Φ hd es B σ= .ok vs σ'->vs.length=es.length:=by
 induction es with
 |nil=>intro σ σ' vs e;injection e with e;rw[<- e];rfl
 |cons e r ih=>intro σ σ' vs h;rw[xU] at h;refine gH (QG h) λv aC _ h=>?_;refine gH (QG h) λw bL q h=>?_;injection h with h;rw[<- h,dC,dC,ih q]
theorem V5(SS:X.h₀.NoLimit)(I:Inv X l s.heap ρ σ):
  Step X l uA s.heap ρ (s.heap.push {cls:=.type "dict",data:=.dict #[]}) (ρ++[(s.heap.objs.size,s.heap.objs.size)]) (σ++[.dict []])/\
  VR X (s.heap.push {cls:=.type "dict",data:=.dict #[]}) (ρ++[(s.heap.objs.size,s.heap.objs.size)]) (.ref σ.length) (.ref s.heap.objs.size):=by
 have k:∀b o,s.heap.get? b=some o->(s.heap.push {cls:=.type "dict",data:=.dict #[]}).get? b=some o:=λb o e=>mY _ e;have g:(s.heap.push {cls:=.type "dict",data:=.dict #[]}).get? s.heap.objs.size=some {cls:=.type "dict",data:=.dict #[]}:=oE _ Z;have z:s.heap.get? s.heap.objs.size=none:=uv (bR _);have sm:=rO SS I;refine⟨Step.alloc I k g Z g Z z z sm sm (jW Z (gf _) (.kI [] ?_ Z Z)),(aZ (s.heap.objs.size,s.heap.objs.size) ?_ Z)⟩
 .exact Heap.DictOf.new s.heap
 .rw[<- I.len,iz (bR _),jy];rfl
theorem HS(ih:uo X G Nm X.T Φ d n)(ok:Ok X hd d A l env cx)(a:At X hd A l env cx s.heap ρ σ B)(o:Option Expr)
  (H:aB X l (VR X) (aV X.T Φ hd (ig (.lit .none) o (cE G Nm n cx)) B σ) s ρ Q E):wpAny X.M A (evalPart o env) Q E s:=by
 cases o with
 |none=>rw[evalPart_none];exact cF (aB.q9 a.inv H Z)
 |some e=>rw[evalPart_some];exact ih hd A l env cx e B s ρ σ Q E ok a H
section
variable{P:Prop}{Q:Q3}
theorem aB.E4{α:Type}{o:Option α}{f:α->Mine.Internal.E}(H:aB X l (VR X) (aV T Φ hd (Mine.Internal.ig .bad o f) B σ) s ρ Q E)(k:∀a,o=some a->aB X l (VR X) (aV T Φ hd (f a) B σ) s ρ Q E->P):P:=by cases o<;>first|exact k _ Z H|exact H.elim
theorem aB.kD{c:Bool}{r:Mine.Internal.E}(H:aB X l (VR X) (aV T Φ hd (Mine.Internal.gd .bad c r) B σ) s ρ Q E)(k:c=true->aB X l (VR X) (aV T Φ hd r B σ) s ρ Q E->P):P:=by cases c<;>first|exact k Z H|exact H.elim
theorem aB.JU{α:Type}{o:List α}{f:α->Mine.Internal.E}(H:aB X l (VR X) (aV T Φ hd (Mine.Internal.iM .bad o f) B σ) s ρ Q E)(k:∀a,o=[a]->aB X l (VR X) (aV T Φ hd (f a) B σ) s ρ Q E->P):P:=pG (P:=λe=>aB X l (VR X) (aV T Φ hd e B σ) s ρ Q E) id H k
theorem aB.JY{α:Type}{o:List α}{f:Mine.Internal.E}(H:aB X l (VR X) (aV T Φ hd (Mine.Internal.tK .bad o f) B σ) s ρ Q E)(k:o=[]->aB X l (VR X) (aV T Φ hd f B σ) s ρ Q E->P):P:=Nx (P:=λe=>aB X l (VR X) (aV T Φ hd e B σ) s ρ Q E) id H k
end
theorem Qm{β:Type}{z:β}{P:β->Prop}{m:Expr->Prop}{f:Option Expr->Option Expr->Option Expr->Pos->β}(k1:∀lo hi st p,P (f lo hi st p)->m (.Slice lo hi st p))(k2:∀e,P z->m e)(e:Expr)(h:P (ug z e (sl:=f))):m e:=mj h k2 (λ_ _=>k2 _) (λ_ _ _=>k2 _) (λ_ _ _ _=>k2 _) (λ_ _ _=>k2 _) (λ_ _ _=>k2 _) (λ_ _ _=>k2 _) (λ_ _ _=>k2 _) k1 (λ_ _=>k2 _) (λ_ _ _ _=>k2 _) (λ_ _ _=>k2 _)
theorem sx{β:Type}{z:β}{P:β->Prop}{e:Expr}{G:Prop}{f:Option Expr->Option Expr->Option Expr->Pos->β}(h:P (ug z e (sl:=f)))(k1:∀lo hi st p,e= .Slice lo hi st p->P (f lo hi st p)->G)(k2:P z->G):G:=
 Qm (m:=λe'=>e=e'->G) (λlo hi st p h e'=>k1 lo hi st p e' h) (λ_ h _=>k2 h) e h Z
theorem eR{β:Type}{z:β}{P:β->Prop}{m:Expr->Prop}{f:Str->Pos->β}{g:Expr->Str->Pos->β}(nz:P z->False)(k1:∀x p,P (f x p)->m (.Name x p))(k2:∀o a p,P (g o a p)->m (.Attribute o a p))(e:Expr)(h:P (ug z e (nm:=f) (at_:=g))):m e:=mj h (Q2 nz) k1 k2 (Of nz) (OK nz) (OK nz) (OK nz) (OK nz) (Of nz) (PM nz) (Of nz) (OK nz)
theorem sA{β:Type}{z:β}{P:β->Prop}{e:Expr}{G:Prop}{f:Str->Pos->β}{g:Expr->Str->Pos->β}(nz:P z->False)(h:P (ug z e (nm:=f) (at_:=g)))(k1:∀x p,e= .Name x p->P (f x p)->G)(k2:∀o a p,e= .Attribute o a p->P (g o a p)->G):G:=
 eR (m:=λe'=>e=e'->G) nz (λx p h e'=>k1 x p e' h) (λo a p h e'=>k2 o a p e' h) e h Z
theorem sJ{b:Bool}(h:(!b)=true):b=false:=by cases b<;>first|rfl|cases h
theorem O1{gs:List Comprehension}{f:Str->Pos->Expr->Mine.Internal.E}{P:Mine.Internal.E->Prop}{m:List Comprehension->Prop}(nz:P .bad->False)(h:P (Vy .bad gs f))(k:∀x p it,P (f x p it)->m [⟨.Name x p,it,[],0⟩]):m gs:=
 pG nz h λg eg h=>by subst eg;obtain⟨t,it,ifs,a⟩:=g;refine GQ (m:=λt=>m [⟨t,it,ifs,a⟩]) nz h λx p h=>?_;refine lF nz h λc h=>?_;obtain rfl:=List.isEmpty_iff.mp (and_true c).1;obtain rfl:=dB (and_true c).2;exact k x p it h
theorem Zm{v sl:Expr}{pos:Pos}(S:vB X G Nm)(ih:uo X G Nm X.T Φ d n)(ok:Ok X hd d A l env cx)(a:At X hd A l env cx s.heap ρ σ B)(H:aB X l (VR X) (aV X.T Φ hd (cE G Nm (n+1) cx (.Subscript v sl pos)) B σ) s ρ Q E):wpAny X.M A (eval (.Subscript v sl pos) env) Q E s:=by
 refine sx (P:=λe=>aB X l (VR X) (aV X.T Φ hd e B σ) s ρ Q E) H (λlo hi st p e H=>?_) λH=>?_
 .subst e;refine Subscript_ ?_
  cases st with
  |none=>have H:=H;refine ih hd A l env cx v B s ρ σ _ E ok a (H.step λv aC aJ cj aM x _ bI V bC=>?_);refine wpAny_Slice (HS ih ok (a.step bI) lo (bC.step λw bL eZ o4 jd y _ eN W jc=>?_));refine HS ih ok ((a.step bI).step eN) hi (jc.step λu CX s6 x8 xl z _ wZ vc YK=>?_);rw[evalPart_none];exact cF (Rn S.pX wZ.inv (wZ.vr eN.inv (eN.vr bI.inv V)) (wZ.vr eN.inv W) vc YK)
  |some st=>refine aB.kD H λhc H'=>?_;have hc:=and_true hc;obtain rfl:=Option.isNone_iff_eq_none.mp (and_true hc.1).1;obtain rfl:=Option.isNone_iff_eq_none.mp (and_true hc.1).2;refine ih hd A l env cx v B s ρ σ _ E ok a (aB.step H' λv aC aJ cj aM x _ bI V bC=>?_);refine wpAny_Slice ?_;rw[evalPart_none,evalPart_some];refine cF (cF ?_);obtain⟨_,_,_,rfl⟩:=Ly hc.2;refine wpAny_UnaryOp ?_;rw[eval_Constant];refine wpAny_mkInt (neg_int ?_);exact Zn S.pX bI.inv V (bC.at (Step.refl bI.inv))
 .refine Subscript_ (ih hd A l env cx v B s ρ σ _ E ok a (aB.step H λv aC aJ cj aM x _ bI V bC=>?_));refine ih hd A l env cx sl B _ _ _ _ E ok (a.step bI) (bC.step λw bL eZ o4 jd y _ eN W jc=>?_);exact KZ eN.inv (eN.vr bI.inv V) W jc
theorem ip(S:vB X G Nm)(AD:Bn X)(mi:Ke X Φ d)(FO:Eu X Φ)(N:Kf X Φ d)(oD:YJ X G Nm Φ d):∀n,uo X G Nm X.T Φ d n:=by
 intro n
 induction n using Nat.strongRecOn with
 |_ n HE=>
 cases n with
 |zero=>intro hd A l env cx e B s ρ σ Q E ok a H;exact H.elim
 |succ n=>
 have ih:=HE n (j9 n);have Sq:=ij λm hm=>HE m (rI hm);intro hd A l env cx e B s ρ σ Q E ok a H;clear HE
 cases e with
 |Constant c k pos=>exact snd_const a H
 |Name x pos=>exact UW S ok a H
 |BoolOp op vs pos=>rw[arm_eval_BoolOp];exact U9 ih ok a H
 |BinOp lx op r pos=>refine aB.E4 H λo' ho H=>?_;refine wpAny_BinOp (ih hd A l env cx lx B s ρ σ _ E ok a (aB.step H λv aC aJ cj aM x _ bI V bC=>?_));refine ih hd A l env cx r B _ _ _ _ E ok (a.step bI) (bC.step λw bL eZ o4 jd y _ eN W jc=>?_);exact Ru S.pX ho eN.inv (eN.vr bI.inv V) W jc
 |UnaryOp op x pos=>
  cases op with
  |Not=>exact wpAny_UnaryOp (ih hd A l env cx x B s ρ σ _ E ok a (aB.step H λv aC aJ cj aM x _ bI V bC=>aB.bool V bC λb H=>not_value (wpAny_truthy_bool (aB.q9 bI.inv H Z))))
  |USub=>exact wpAny_UnaryOp (ih hd A l env cx x B s ρ σ _ E ok a (aB.step H λv aC aJ cj aM x _ bI V bC=>aB.int V bC λi t H=>neg_int (aB.val bI.inv H ⟨_,Z⟩)))
  |_=>exact H.elim
 |IfExp t e1 e2 pos=>
  have H:=post_eq (J2 _ _) H;refine wpAny_IfExp (Sq hd A l env cx t B s ρ σ _ E ok a (H.step λv aC aJ cj aM b _ bI V bC=>?_));obtain rfl:v=b:=V
  cases v with
  |true=>exact ih hd A l env cx e1 B _ _ _ Q E ok (a.step bI) bC
  |false=>exact ih hd A l env cx e2 B _ _ _ Q E ok (a.step bI) bC
 |Compare le os cs p=>refine aB.JU H λop eo H=>?_;refine aB.JU H λr er H=>?_;refine aB.kD H λhm H0=>?_;subst eo er;refine wpAny_Compare1 (ih hd A l env cx le B s ρ σ _ E ok a (aB.step H0 λv aC aJ cj aM x _ bI V bC=>?_)) (sJ hm);refine ih hd A l env cx r B _ _ _ _ E ok (a.step bI) (bC.step λw bL eZ o4 jd y _ eN W jc=>?_);exact Dq eN.inv ok.room (eN.vr bI.inv V) W jc
 |List es pos=>
  refine aB.kD H λhle H=>?_;refine wpAny_List_spliced (uN ih ok a (aB.step H λvs aC aJ cj aM xs hv bI W bC=>?_));have AP:vs.length<=LL:=by rw[Ju hv,dN];exact bO (eY hle) (dl Z)
  refine⟨by rw[cA.length W];exact jP AP,?_⟩;obtain⟨S2,V2⟩:=sU (s:={s with heap:=aJ,toks:=cj}) S.pX bI.inv W AP;exact bC _ cj _ _ S2 V2
 |Tuple es k pos=>
  refine aB.kD H λhle H=>?_;refine wpAny_Tuple_spliced (uN ih ok a (aB.step H λvs aC aJ cj aM xs hv bI W bC=>?_));have AP:vs.length<=LL:=by rw[Ju hv,dN];exact bO (eY hle) (dl Z)
  refine⟨by rw[cA.length W];exact jP AP,?_⟩;exact aB.DY bI.inv bC jl ⟨AP,_,xs,0,Z,oE _ Z,cA.mono (eF jl) (jF.refl _) _ _ W⟩
 |Dict ks vs pos=>refine aB.JY H λe1 H=>?_;refine aB.JY H λe2 H=>?_;subst e1 e2;obtain⟨S2,V2⟩:=V5 S.pX a.inv;exact wpAny_Dict_empty (H _ s.toks _ _ S2 V2)
 |Attribute v at_ pos=>refine aB.kD H λZN H=>?_;refine aB.E4 H λk hk H=>?_;obtain⟨BI,rE⟩:=S.nm at_ k hk;rw[arm_eval_Attribute,vy (sJ ZN)];refine aU (ih hd A l env cx v B s ρ σ _ E ok a (aB.step H λv aC aJ cj aM x _ bI V bC=>aU (oY ?_)));refine aU (kh ?_);rw[<- BI];refine pM (H7 S.Jo bI.inv rE V bC) (λr s2 q=>?_) λ_ _ x=>x;exact aU (wpAny_letTemporaryGo (cF q))
 |Subscript v sl pos=>exact Zm S ih ok a H
 |Call f as ks pos=>
  refine aB.kD H λJh H=>?_;refine aB.JY H λek H=>?_;have Jh:=sJ Jh;rw[ek]
  cases hr:tW cx pos f as with
  |some oe=>rw[hr] at H;exact oD n ih hd A l env cx f as pos oe.1 oe.2 B s ρ σ Q E hr ok a H
  |none=>
   rw[hr] at H;clear hr;refine sA (P:=λe=>aB X l (VR X) (aV X.T Φ hd e B σ) s ρ Q E) id H (λid p ef H=>?_) λo at_ p ef H=>?_
   .rw[ef] at H ⊢;rw[arm_eval_Call_Name'];refine aU (ih hd A l env cx (.Name id p) B s ρ σ _ E ok a (aB.step H λv aC aJ cj aM x _ bI V bC=>?_));exact aB.gd bC λrX bC=>U8 S mi FO N ih ok Jh (a.step bI) V rX bC
   .rw[ef];refine aB.kD H λhc H=>?_;refine aB.E4 H λk hk H=>?_;have hc:=and_true hc;have EV:=and_true hc.1;exact Rq S AD mi FO ih ok Jh (eY hc.2) (dB EV.2) (sJ EV.1) hk a H
 |ListComp elt gens sc pos=>refine O1 (P:=λe=>aB X l (VR X) (aV X.T Φ hd e B σ) s ρ Q E) (m:=λgs=>wpAny X.M A (eval (.ListComp elt gs sc pos) env) Q E s) id H λx px it H=>?_;refine aB.E4 H λi hi H=>?_;refine aB.kD H λhc H=>?_;exact U7 S.pX ih (Qz hc) ok hi a H
 |_=>exact H.elim
end
end
end Mine.Internal
namespace Mine.Internal
open PySem PySem.W PyProof.Rows PySem.Calls Builtin Builtin.ObjectAttr Builtin.Str Builtin.Int
noncomputable section
theorem VM:typeLookup (.type "list_reverseiterator") "__len__"=pure none:=by rw[typeLookup_type,builtinLookup_eq_fast];kernel_rfl
theorem cf:typeLookup (.type "list_reverseiterator") "__length_hint__"=pure (some (.builtin "list_reverseiterator.__length_hint__")):=by rw[typeLookup_type,builtinLookup_eq_fast];kernel_rfl
variable{prog:Program}{w:World}{A:Around}{s:Shared}{I:Addr}{fp wr:List Addr}{G:Array GenState->Array GenState->Prop}{n:Nat}{P:Nat->Value->Prop}
section
variable{E:Q3}{St:Nat->Shared->Prop}
theorem JQ{Q:List Value->Shared->Prop}
  (W:WalksS prog w A.in1 I fp wr G n P St) (hT:∀i s,St i s->s.TypeIs (.ref I) "list_reverseiterator") (Jh:St 0 s) (IL:∀b∈fp,b<s.heap.objs.size) (hI:I∈fp)
  (hQ:∀s' acc,Moved wr G s s'->ItemsOf P acc n->Q acc.toList s') (hn:n<=sizeLine):wpAny (model prog w) A (collect (.ref I)) Q E s:=by
 have NW:s.heap.objs.size∉fp:=λhm=>Nat.lt_irrefl _ (IL _ hm);have hSI:s.heap.objs.size≠I:=λe=>NW (e▸hI);unfold collect;refine aU (wpAny_runValue (codeAny_builtin F.entry_proto_collect ?_));rw[Around.under_plainId F.plain_proto_collect _];refine aU (wpAny_newObj_type ?_);refine cF ⟨plainId_quiet F.plain_list_iadd _,codeAny_builtin F.entry_list_iadd ?_⟩;rw[Around.under_plainId F.plain_list_iadd _];have xO:=W.frame 0 s (s.heap.push {cls:=.type "list",data:=.seq ([]:Tu).toArray}) s.toks Jh (bR _) λb _ o e=>mY _ e;have B5:(s.heap.push {cls:=.type "list",data:=.seq ([]:Tu).toArray}).get? s.heap.objs.size=some {cls:=.type "list",data:=.seq ([]:Tu).toArray}:=oE _ Z;have h1:Builtin.List.listSameRef (.ref s.heap.objs.size) (.ref I)=false:=by simp[Builtin.List.listSameRef,hSI]
 show wpAny _ A.in1 (Builtin.List.listExtendWith (.ref s.heap.objs.size) (.ref I) (.ref s.heap.objs.size)) _ _ _;unfold Builtin.List.listExtendWith;refine aU (wpAny_typeOf (hT 0 _ xO) ?_);rw[bh (by rw[h1];decide)];refine aU (W.self 0 _ _ _ xO ?_);refine aU (kh ?_);unfold Builtin.List.listLengthHint;refine aU (wpAny_specialOf (hT 0 _ xO) VM ?_);refine aU (wpAny_specialOf (hT 0 _ xO) cf ?_)
 (generalize uf:("list_reverseiterator.__length_hint__":String)=MZ;(fail_if_success (clear uf MZ));wp_delta;rw[show splitId MZ=some ("list_reverseiterator","__length_hint__") from by subst uf;decide +kernel];subst uf)
 refine aU (wpAny_isInstance (b:=true) (hT 0 _ xO) (by rw[isSubtype_type];kernel_rfl) ?_);refine cF ?_;rw[bh Y];refine cF ⟨plainId_quiet F.plain_extend_loop _,codeAny_extend_loopS W hn _ NW _ n 0 _ _ _ Z (gf _) xO B5 (ItemsOf.nil P) λs' acc' c' hm hS' c8=>?_⟩;refine aU (wpAny_load hS' ?_);exact cF (hQ s' acc' (Moved.drop_new hm (bR _)) c8)
theorem Wx{x:Str}{t:Tok}{Q:Q3}(W:WalksS prog w A.in1.in1 I fp wr G n P St)(hT:∀i s,St i s->s.TypeIs (.ref I) "list_reverseiterator")(Jh:St 0 s)(IL:∀b∈fp,b<s.heap.objs.size)(hI:I∈fp)
  (HV:∀i v,P i v->∃y u,v=Value.str y u)
  (hq:∀s' (l:List (Str×Tok)),Moved wr G s s'->ItemsOf P (strValues l).toArray n->JoinOk x (l.map (·.1))=true/\∀t' k,Q (.str (Txt.join x (l.map (·.1))) t') {s' with toks:=k})
  (wq:n<=sizeLine):
  wpAny (model prog w) A (call (.builtin "str.join") [.str x t,.ref I]) Q E s:=by
 refine wpAny_call (codeAny_call_builtin F.slot_str_join.plain F.entry_str_join (F.slot_str_join.check _ _ _ _ _ _ _ _ (typeIs_str _ _ _) (F.args_str_join_2 _ _) ?_));rw[join_tree_other];refine aU (wpAny_typeOf (hT 0 s Jh) ?_);refine aU (wpAny_tryCatch (W.of_in1.self 0 s _ _ Jh ?_));refine aU (JQ W hT Jh IL hI (λs' acc hm c8=>?_) wq)
 obtain⟨l,hl⟩:=exists_strValues acc.toList λv hv=>by obtain⟨j,hj,rfl⟩:=Array.mem_iff_getElem.mp (Array.mem_toList_iff.mp hv);exact HV j _ (c8.2 j _ (Array.getElem?_eq_getElem hj))
 rw[<- hl];have hacc':ItemsOf P (strValues l).toArray n:=by rw[hl];simpa using c8
 obtain⟨EO,BF⟩:=hq s' l hm hacc';unfold JoinOk at EO;rw[vM] at EO
 have g:Gives (joinTail x (strValues l)) (joinMade x l):=by
  have g0:=gives_joinTail x l EO
  cases l with
  |nil=>exact g0
  |cons p r=>cases r with
   |nil=>exact g0
   |cons q r'=>exact g0
 exact g prog w A (wants Q E) s' (post_join l ⟨joinFit_length EO,BF⟩)
end
def Hj(X:Ctx):Prop:=∃mg mb,X.h₀.Ns mainGlobals mg/\X.h₀.Ns builtinsNs mb/\mg "reversed"=none/\mb "reversed"=some (.type "reversed")
variable{X:Ctx}{G:za4}{Nm:za3}{T:Tab}{Φ:iC}{d:Nat}{hd:Bool}{l:za7}{env:Env}{cx:Cx}{B:Loc}{ρ aM jd:Su}{σ aC bL:St}{h aJ eZ:Heap}{ir:Addr->Prop}{Q:Q3}{a b c:U}{x y z:Value}
section
variable{E:Q3}
theorem Cj{l:List (Str×Tok)}:∀{r:List (Str×Tok)},strValues l=strValues r->l=r:=by
 induction l with
 |nil=>intro r e;cases r<;>first|rfl|cases e
 |cons p l ih=>
  intro r e
  cases r with
  |nil=>cases e
  |cons q r=>have e:=List.cons.inj e;injection e.1 with e3 e4;rw[Prod.ext e3 e4,ih e.2]
theorem Fo{t:Tok}{p:Addr}{items:za8}{ss:za0}{vs:Tu}(hh:A.handled=none)(I:Inv X l s.heap ρ σ)(hl:s.heap.IsList p vs.toArray)(hs:StrsAre vs (ss.map λs=>(⟨s.toArray⟩:Str)))(hle:ss.reverse.flatten.length<=LL)(hn:vs.length<=LL)
  (H:aB X l (VR X) (.ok (.str ss.reverse.flatten) σ) s ρ Q E):
  wpAny X.M A (call (.builtin "str.join") [.str ⟨#[]⟩ t,.ref s.heap.objs.size]) Q E {s with heap:=s.heap.push (revObj p ((vs.toArray.size:Int) - 1))}:=by
 have K:∀b o,s.heap.get? b=some o->(s.heap.push (revObj p ((vs.toArray.size:Int) - 1))).get? b=some o:=λb o e=>mY _ e;have lp:p<s.heap.objs.size:=by obtain⟨o,ho,_⟩:=hl;exact vN ho
 have sz:vs.toArray.size<=sizeLine:=by rw[jJ];have:=sizeLine_eq;unfold LL at hn;exact bO hn (dl Z)
 have g:(s.heap.push (revObj p ((vs.toArray.size:Int) - 1))).get? s.heap.objs.size=some (revObj p ((vs.toArray.size:Int) - 1)):=oE _ Z;have W:=(Walks.listRev (prog:=X.prog) (w:=X.w) (A:=A.in1.in1) hh s.heap.objs.size p (iV lp) vs.toArray).toS;refine Wx W (λi s' st=>st.2.1.typeIs) (jW (gf _) (oH _ g Z ?_) (hl.at λo e=>K _ o e)) (λb hb=>?_) (eQ ..) (λi v hv=>?_) (λs' ls M it=>?_) sz
 .simp[revObj]
 .show b<(s.heap.push _).objs.size;rw[vO]
  rcases zb5 hb with rfl|hb
  .exact j9 _
  .rw[List.mem_singleton.mp hb];exact oV lp
 .refine bY (strsAre_values hs) λl' e1 _=>?_;have:=Array.mem_of_getElem? hv;rw[List.mem_toArray,e1] at this;unfold strValues at this;obtain⟨q,_,rfl⟩:=List.mem_map.mp this;exact(eO _ _ Z)
 .refine bY (strsAre_values hs) λl' e1 e2=>?_;have AR:(strValues ls).length=vs.length:=by have:=it.1;simpa using this
  have ee:strValues ls=vs.reverse:=by
   apply List.ext_getElem?;intro j
   by_cases hj:j<vs.length
   .have BS:j<(strValues ls).length:=by exact fH hj (dh AR.symm)
    have h1:=it.2 j _ (by rw[Dh];exact gM BS)
    replace h1:vs.toArray[vs.toArray.size - 1 - j]?=some ((strValues ls)[j]'BS):=h1
    rw[Dh,jJ] at h1;rw[List.getElem?_reverse hj,h1];exact gM BS
   .rw[lL (bO (dh AR) (iW hj)),lL (by rw[List.length_reverse];exact iW hj)]
  have le:ls=l'.reverse:=Cj (by rw[ee,e1];unfold strValues;rw[List.map_reverse]);have tx:ls.map (·.1)=ss.reverse.map λs=>(⟨s.toArray⟩:Str):=by rw[le,List.map_reverse,e2,List.map_reverse]
  have kk:∀b o,s.heap.get? b=some o->s'.heap.get? b=some o:=λb o e=>M.heap b o (by
   intro hb;rw[List.mem_singleton.mp hb,uv (bR _)] at e;cases e) (K b o e)
  rw[tx];refine⟨joinOk_of ?_,λt' k=>?_⟩
  .rw[Ol];unfold LL at hle;exact bO hle (dl Z)
  .have es:({s' with toks:=k}:Shared)={s with heap:=s'.heap,toks:=k}:=by obtain⟨a1,a2,a3,a4,a5⟩:=s';have m1:=M.gens;have m2:=M.drawn;have m3:=M.os;simp only at m1 m2 m3;rw[m1,m2,m3]
   rw[es];exact H s'.heap k ρ _ (Step.keeps I kk) ⟨hle,t',by rw[show(⟨#[]⟩:Str)=⟨([]:Sa).toArray⟩ from Z,join_nil]⟩
set_option tactic.hygienic true in
theorem Mz{c:Const}(h:XH c=true):c= .str ⟨#[]⟩:=by
 cases c<;>first|(cases h;done)|skip
 rename_i s
 obtain⟨v⟩:=s;exact congrArg (λv=>Const.str ⟨v⟩) (Array.eq_empty_of_size_eq_zero (dB h))
theorem Vn{pos:Pos}{f o e:Expr}{as:zb0}(h:tW cx pos f as=some (o,e)):∃kk cp p gp p2,f= .Attribute (.Constant (.str ⟨#[]⟩) kk cp) (Mo "join") p/\as=[.Call (.Name (Mo "reversed") gp) [e] [] p2]/\o= .Constant (.str ⟨#[]⟩) kk cp/\
  look cx.kinds (Mo "reversed")=some .globalImplicit/\p.endLine=pos.line/\isStar e=false:=by
 refine sM (e:=f) (P:=(·=some (o,e))) ns h λo' n p h=>?_;refine pG (P:=(·=some (o,e))) ns h λx ex h=>?_;rw[ex];refine sL (e:=x) (P:=(·=some (o,e))) ns h λhh as2 ks p2 h=>?_;refine pG (P:=(·=some (o,e))) ns h λa ea h=>?_;refine Nx (P:=(·=some (o,e))) ns h λek h=>?_;rw[ea,ek];refine GQ (e:=hh) (P:=(·=some (o,e))) ns h λg gp h=>?_;refine lF (P:=(·=some (o,e))) ns h λc h=>?_;obtain⟨e1,e2⟩:=Prod.mk.inj (Option.some.inj h);have c7:=and_true c;have c6:=and_true c7.1;have c5:=and_true c6.1;have c3:=and_true (and_true c5.1).1;obtain⟨cc,kk,cp,eo,h6⟩:=wj c6.2;rw[Mz h6] at eo;have k:=dB c3.2;have e3:=o6.mp (and_true c3.1).1;have e4:=o6.mp (and_true c3.1).2;rw[e4] at k;exact(A5 kk cp p gp p2 (by rw[eo,e3]) (by rw[e2,e4]) (e1.symm.trans eo) k (dB c5.2) (e2▸sJ c7.2))
theorem Va(R:Hj X):YJ X G Nm Φ d:=by
 intro n ih hd A l env cx f as pos o e B s ρ σ Q E hr ok a H;obtain⟨kk,cp,p,gp,p2,rfl,rfl,rfl,h3,h5,h7⟩:=Vn hr;clear hr;rw[arm_eval_Call,vy Z];rw[Xw] at H;refine aB.gd H λII H'=>?_;have hh:=a.qj.1 (sJ II)
 cases n with
 |zero=>exact H'.elim
 |succ n=>
 have H1:aB X l (VR X) ((aV X.T Φ hd (cE G Nm (n+1) cx e) B σ).bind λy σ=>joinRev (.str []) y σ) s ρ Q E:=H';rw[eval_Constant];refine aU (wpAny_mkText (aU (oY ?_)));have WY:methodCallForm ([Expr.Call (.Name (Mo "reversed") gp) [e] [] p2].length+List.length ([]:List Keyword)) (backTo pos (starEach [Expr.Call (.Name (Mo "reversed") gp) [e] [] p2] env)) (backToKw pos (keywordEach [] env))=true:=rfl;unfold methodCall
 erw [WY]
 unfold calleeOf;rw[bz Z];refine aU (kh ?_);refine getMethod_builtin (typeIs_str _ _ _) F.plainAttrs_str F.slot_str_join F.type_str_join (λb e=>nomatch e)<|aU ?_;unfold methodCallPos;rw[bz (by simp[h5])];refine cF<|callWith_builtin (by rfl) (gG (by rfl) (wpAny_items_cons ?_ (by rfl)));rw[arm_eval_Call_Name'];refine aU<|oK R λmg mb hg hb hG hB=>?_;refine Name_function_global ok.kind (ok.kinds _ _ h3 (.inl Z)) ?_ (by decide +kernel);unfold loadGlobal;rw[ok.Qg,ok.QF];refine aU (wpAny_nsGet (hg.keeps a.inv.low) ?_);rw[show mg (Mo "reversed")=none from hG];refine aU (wpAny_nsGet (hb.keeps a.inv.low) ?_);rw[show mb (Mo "reversed")=some (.type "reversed") from hB];refine cF ?_;have Jh:[e].any isStar=false:=by rw[rG,h7];rfl
 refine PySem.callWith_type (qw Jh) (gG (qw Jh) (wpAny_items_cons ?_ (xj h7)));refine ih hd A l env cx e B {s with toks:=s.toks+1} _ _ _ E ok a ((H1.at (Step.refl a.inv)).step λv aC aJ cj aM x _ bI V bC=>?_);refine wpAny_items_nil<|aB.ref V bC λi p' hp bC=>?_;refine aB.list bI.inv hp bC λls ws nn _ ll il w lv bC=>?_;refine aB.ig bC λss Y3 bC=>?_;refine aB.gd bC λhle bC=>?_;refine call_reversed_list il.isList ?_;refine wpAny_items_nil<|Fo (items:=#[]) hh bI.inv il.isList (Om Y3 w) (eY hle) (by rw[lv];exact ll) bC
end
end
end Mine.Internal
namespace Mine.Internal
open PySem PySem.W PyProof.Rows PySem.Calls Builtin Builtin.ObjectAttr Builtin.Str
noncomputable section
inductive TF(b0 h:Heap)(e:Addr)(fl:Value):Prop
 |mk (oe:Obj) (vs:za8) (a0:Value) (T:Addr) (oT:Obj) (ts:za8) (he:h.get? e=some oe) (hd:oe.data= .fields vs) (h0:vs[0]?=some a0) (h1:vs[1]?=some (.ref T)) (hn:b0.get? T=none) (T6:T≠e) (hT:h.get? T=some oT) (hc:oT.cls= .type "traceback") (T5:oT.data= .fields ts) (h3:ts[3]?=some fl)
def Up(b0 h:Heap)(e CE:Addr):Prop:=(∃ oe vs a0,h.get? e=some oe/\oe.data= .fields vs/\vs[0]?=some a0/\vs[1]?=some .none)\/TF b0 h e .none\/TF b0 h e (rawInt CE)
def TB(b0:Heap)(b:Addr)(o:Obj):Prop:=b0.get? b=none/\o.cls= .type "traceback"/\∃ts,o.data= .fields ts
inductive Hl(X:Ctx)(b0 h h':Heap)(e:Addr):Prop
 |mk (k:∀b o,h.get? b=some o->b≠e->¬TB b0 b o->h'.get? b=some o\/(X.h₀.get? b=none/\o.cls= .type "frame"/\∃sl,h'.get? b=some {o with slots:=sl})) (t:∀b o,h.get? b=some o->∃o',h'.get? b=some o')
  (oe:Obj) (vs vs':za8) (c1:h.get? e=some oe) (c2:oe.data= .fields vs) (c3:h'.get? e=some {oe with data:=.fields vs'}) (c4:vs'[0]?=vs[0]?) (c5:vs'[2]?=vs[2]?)
variable{X:Ctx}{h:Heap}
theorem Hl.there{b0 h':Heap}{e:Addr}(BC:Hl X b0 h h' e):∀b o,h.get? b=some o->∃o',h'.get? b=some o':=by obtain⟨_,t,_⟩:=BC;exact t
variable{o:Obj}
theorem Gi{vs:za8}{f:Array Value->Array Value}(hd:o.data= .fields vs):o.mapFields f={o with data:=.fields (f vs)}:=by obtain⟨c,d,dt,sl⟩:=o;simp only at hd;subst hd;rfl
variable{X:Ctx}{G:za4}{Nm:za3}{T:Tab}{Φ:iC}{d n:Nat}{hd:Bool}{A:Around}{l:za7}{env:Env}{cx:Cx}{B:Loc}{s:Shared}{ρ aM jd:Su}{σ aC bL:St}{h aJ eZ b0:Heap}{ir:Addr->Prop}{Q:Q3}{a b c:U}{x y z:Value}{e CE:Addr}
section
variable{E:Q3}
theorem Up.from{b1:Heap}(vc:Up b1 h e CE)(k:∀b o,b0.get? b=some o->∃o',b1.get? b=some o'):Up b0 h e CE:=by
 have nn:∀T,b1.get? T=none->b0.get? T=none:=λT n=>by
  cases g:b0.get? T with
  |none=>rfl
  |some o=>obtain⟨o',e'⟩:=k T o g;rw[n] at e';cases e'
 have nt:∀{fl},TF b1 h e fl->TF b0 h e fl:=λvc=>by obtain⟨oe,vs,a0,T,oT,ts,u1,u2,u3,u4,u5,u6,u7,u8,u9,FE⟩:=vc;exact⟨oe,vs,a0,T,oT,ts,u1,u2,u3,u4,nn _ u5,u6,u7,u8,u9,FE⟩
 rcases vc with vc|vc|vc
 .exact .inl vc
 .exact .inr (.inl (nt vc))
 .exact .inr (.inr (nt vc))
theorem Hl.refl{oe:Obj}{vs:za8}(he:h.get? e=some oe)(hd:oe.data= .fields vs):Hl X b0 h h e:=
 ⟨λ_ _ o _ _=>.inl o,λ_ o q=>⟨o,q⟩,oe,vs,vs,he,hd,by rw[he];congr 1;cases oe;simp only at hd;subst hd;rfl,Z,Z⟩
theorem Hl.trans(x:Hl X b0 h aJ e)(y:Hl X b0 aJ eZ e):Hl X b0 h eZ e:=by
 obtain⟨x1,x2,oe,vs,vs',x3,x4,x5,x6,x7⟩:=x;obtain⟨y1,y2,oe',ws,ws',y3,y4,y5,y6,y7⟩:=y;rw[x5] at y3;cases y3
 cases y4
 refine⟨λb o hb Xa hn=>?_,λb o hb=>?_,oe,vs,ws',x3,x4,y5,y6.trans x6,y7.trans x7⟩
 .rcases x1 b o hb Xa hn with k|⟨k0,k1,sl,k2⟩
  .rcases y1 b o k Xa hn with q|q
   .exact .inl q
   .exact .inr q
  .rcases y1 b _ k2 Xa (λz=>by have:=z.2.1;rw[k1] at this;exact absurd this Y) with q|⟨q0,q1,sl',q2⟩
   .exact .inr ⟨k0,k1,sl,q⟩
   .exact .inr ⟨k0,k1,sl',q2⟩
 .obtain⟨o',e'⟩:=x2 b o hb;exact y2 b o' e'
theorem GJ(Jj:∀env∈l,Kh X h env):h.FunFrames X.h₀ l:=by
 induction l with
 |nil=>trivial
 |cons env rest ih=>obtain⟨k,CE,o,es,n,q1,q2,q3,q4,q5⟩:=Jj env (.head _);exact(jW k (rA CE o q1 q2 q3 (λvs z=>by rw[q5] at z;cases z)) (ih λe he=>Jj e (.tail _ he)))
theorem Bm(Jj:∀env∈l,Kh X h env){b:Addr}(hb:b∈l.filterMap (·.frame)):X.h₀.get? b=none/\∃o es n,h.get? b=some o/\o.cls= .type "frame"/\o.data= .dict es n:=by refine bY (List.mem_filterMap.mp hb) λenv he hf=>?_;obtain⟨k,CE,o,es,n,q1,q2,q3,q4,q5⟩:=Jj env he;rw[q1] at hf;cases hf;exact⟨q2,o,es,n,q3,q4,q5⟩
theorem Jw{M:Model}{outer:za7}{oe:Obj}{vs:za8}{head a0:Value}{cK:Bool}{Q:za2}(Jj:A.frames=some (env::outer))(hl:∀v∈env::outer,Kh X s.heap v)(hf:env.frame=some CE)
  (hk:∀b o,b0.get? b=some o->∃o',s.heap.get? b=some o') (he:s.heap.get? e=some oe) (hd:oe.data= .fields vs) (h1:1<vs.size) (h0:vs[0]?=some a0) (h:∀h',Hl X b0 s.heap h' e->TF b0 h' e (rawInt CE)->Q () {s with heap:=h'}):
  wpAny M A (do let a <-frameOf env;let pl <-entryPlaceOf CE cK;let b <-EntryCells.newEntry head a .none (rawInt CE) .none pl;setField (.ref e) 1 b) Q E s:=by
 have hFF:=GJ hl
 have IP:e∉(env::outer).filterMap (·.frame):=λhm=>by obtain⟨_,o,es,n,ho,_,ER⟩:=Bm hl hm;rw[he] at ho;cases ho;rw[hd] at ER;cases ER
 refine aU (wpAny_frameOf_fun Jj hFF hf λaJ Jg=>?_);refine aU (wpAny_entryPlaceOf λpl ZE=>?_);unfold EntryCells.newEntry newFields;refine aU (wpAny_newObj_type ?_ (ZE.sizeOk5 _ _ _ _ _));generalize WT:([head,Value.ref CE,Value.none,rawInt CE,Value.none]++(if pl.isEmpty then List.replicate 6 Value.none else pl))=ts;have QY:ts.toArray[3]?=some (rawInt CE):=by rw[<- WT];simp
 clear WT;have W5:=(Jg.2.1 e IP).trans he;have W4:=mY {cls:=.type "traceback",dict:=none,data:=.fields ts.toArray} W5;refine wpAny_setField W4 hd h1 (h _ ?_ ?_)
 .have T6:=dX (vN W5);have Qe:=Obj.data_mapFields hd (·.setIfInBounds 1 (Value.ref aJ.objs.size));have Jk:=ym (Obj.mapFields (·.setIfInBounds 1 (Value.ref aJ.objs.size))) W4 (Obj.isFreed_of_fields Qe)
  have keep:∀b o,b≠e->aJ.get? b=some o->((aJ.push {cls:=.type "traceback",dict:=none,data:=.fields ts.toArray}).update e (Obj.mapFields (·.setIfInBounds 1 (Value.ref aJ.objs.size)))).get? b=some o:=
   λb o Xa hb=>by rw[NZ _ _ (Ne.symm Xa)];exact mY _ hb
  refine⟨λb o hb Xa _=>?_,λb o hb=>?_,oe,vs,vs.setIfInBounds 1 (Value.ref aJ.objs.size),he,hd,?_,?_,?_⟩
  .by_cases hm:b∈(env::outer).filterMap (·.frame)
   .obtain⟨n0,o',es,n,ho',hc,NL⟩:=Bm hl hm;rw[hb] at ho';cases ho';obtain⟨sl,ko⟩:=Jg.2.2 b o hb;exact .inr ⟨n0,hc,sl,keep b _ Xa ko⟩
   .exact .inl (keep b o Xa ((Jg.2.1 b hm).trans hb))
  .by_cases Xa:b=e
   .subst Xa;exact⟨_,Jk⟩
   .obtain⟨sl,ko⟩:=Jg.2.2 b o hb;exact⟨_,keep b _ Xa ko⟩
  .rw[Gi hd] at Jk;exact Jk
  .rw[Array.getElem?_setIfInBounds_ne Y]
  .rw[Array.getElem?_setIfInBounds_ne Y]
 .have T6:=dX (vN W5);have Qe:=Obj.data_mapFields hd (·.setIfInBounds 1 (Value.ref aJ.objs.size));have Jk:=ym (Obj.mapFields (·.setIfInBounds 1 (Value.ref aJ.objs.size))) W4 (Obj.isFreed_of_fields Qe);refine⟨_,_,a0,aJ.objs.size,{cls:=.type "traceback",dict:=none,data:=.fields ts.toArray},ts.toArray,Jk,Qe,by rw[Array.getElem?_setIfInBounds_ne Y];exact h0,by simp[h1],?_,T6,?_,Z,Z,QY⟩
  .cases g:b0.get? aJ.objs.size with
   |none=>rfl
   |some o=>obtain⟨o',e'⟩:=hk _ o g;have:=vN e';rw[Jg.1] at this;exact absurd this (Nat.lt_irrefl _)
  .rw[NZ _ _ (Ne.symm T6)];exact oE aJ Z
theorem nE{M:Model}{fl:Value}(f:Option Addr){Q:za2}(vc:TF b0 s.heap e fl)(h:∀h',Hl X b0 s.heap h' e->TF b0 h' e (f.elim .none λf=>rawInt f)->Q () {s with heap:=h'}):wpAny M A (setFlight (.ref e) f) Q E s:=by
 obtain⟨oe,vs,a0,T,oT,ts,he,hd,h0,h1,hn,T6,hT,hc,T5,h3⟩:=vc;unfold setFlight;refine aU (nJ he hd h1 ?_);rw[bz (show(Value.ref T !=Value.none)=true from by simp)];have D8:=(Array.getElem?_eq_some_iff.mp h3).1;generalize hv:(f.elim Value.none λf=>rawInt f)=v at h ⊢;have other:∀b,b≠T->(s.heap.update T (Obj.mapFields (·.setIfInBounds 3 v))).get? b=s.heap.get? b:=λb hb=>NZ _ _ (Ne.symm hb);have self:=ym (Obj.mapFields (·.setIfInBounds 3 v)) hT (Obj.isFreed_of_fields (Obj.data_mapFields T5 _));refine wpAny_setField hT T5 D8 (h _ ⟨λb o hb _ w8=>.inl ?_,λb o hb=>?_,oe,vs,vs,he,hd,?_,Z,Z⟩ ?_)
 .rewrite[other b λz=>?_]
  .exact hb
  .subst z;rw[hT] at hb;cases hb;exact w8 ⟨hn,hc,ts,T5⟩
 .by_cases hb':b=T
  .subst hb';exact⟨_,self⟩
  .exact⟨o,(other b hb').trans hb⟩
 .rw[other e (Ne.symm T6),he];congr 1;cases oe;simp only at hd;subst hd;rfl
 .exact⟨oe,vs,a0,T,_,_,(other e (Ne.symm T6)).trans he,hd,h0,h1,hn,T6,self,by rw[Obj.cls_mapFields];exact hc,Obj.data_mapFields T5 _,by simp[D8]⟩
theorem Z3{M:Model}{outer:za7}{Q:za2}(Jj:A.frames=some (env::outer))(hl:∀v∈env::outer,Kh X s.heap v)(hf:env.frame=some CE)
  (hk:∀b o,b0.get? b=some o->∃o',s.heap.get? b=some o') (vc:Up b0 s.heap e CE) (h:∀h',Hl X b0 s.heap h' e->TF b0 h' e (rawInt CE)->Q () {s with heap:=h'}):
  wpAny M A (noteFrame (.ref e) env) Q E s:=by
 unfold noteFrame;simp only[hf]
 rcases vc with⟨oe,vs,a0,he,hd,h0,h1⟩|vc|vc
 .refine aU (nJ he hd h1 ?_);rw[bh Y];exact Jw Jj hl hf hk he hd (Array.getElem?_eq_some_iff.mp h1).1 h0 h
 .have U':=vc;obtain⟨oe,vs,a0,T,oT,ts,he,hd,h0,h1,hn,T6,hT,hc,T5,h3⟩:=vc;refine aU (nJ he hd h1 ?_);rw[bz (show(Value.ref T !=Value.none)=true from by simp)];refine aU (nJ hT T5 h3 ?_);rw[bh (show ¬((Value.none==rawInt CE)=true) from by simp[rawInt])];have D8:=(Array.getElem?_eq_some_iff.mp h3).1;refine aU (wpAny_setField hT T5 D8 ?_);have other:∀b,b≠T->(s.heap.update T (Obj.mapFields (·.setIfInBounds 3 Value.none))).get? b=s.heap.get? b:=λb hb=>NZ _ _ (Ne.symm hb);have self:=ym (Obj.mapFields (·.setIfInBounds 3 Value.none)) hT (Obj.isFreed_of_fields (Obj.data_mapFields T5 _))
  have C1:Hl X b0 s.heap (s.heap.update T (Obj.mapFields (·.setIfInBounds 3 Value.none))) e:=by
   refine⟨λb o hb _ w8=>.inl ?_,λb o hb=>?_,oe,vs,vs,he,hd,?_,Z,Z⟩
   .rewrite[other b λz=>?_]
    .exact hb
    .subst z;rw[hT] at hb;cases hb;exact w8 ⟨hn,hc,ts,T5⟩
   .by_cases hb':b=T
    .subst hb';exact⟨_,self⟩
    .exact⟨o,(other b hb').trans hb⟩
   .rw[other e (Ne.symm T6),he];congr 1;cases oe;simp only at hd;subst hd;rfl
  refine Jw Jj (λv hv=>(hl v hv).same λb o eb cb=>(other b λz=>?_).trans eb) hf (λb o eb=>?_) ((other e (Ne.symm T6)).trans he) hd (Array.getElem?_eq_some_iff.mp h1).1 h0 λh' C2 U2=>h h' (C1.trans C2) U2
  .subst z;rw[hT] at eb;cases eb;rw[hc] at cb;exact absurd cb Y
  .obtain⟨o',e'⟩:=hk b o eb;exact C1.there b o' e'
 .have U':=vc;obtain⟨oe,vs,a0,T,oT,ts,he,hd,h0,h1,hn,T6,hT,hc,T5,h3⟩:=vc;refine aU (nJ he hd h1 ?_);rw[bz (show(Value.ref T !=Value.none)=true from by simp)];refine aU (nJ hT T5 h3 ?_);rw[bz (show(rawInt CE==rawInt CE)=true from by simp)];exact cF (h s.heap (Hl.refl he hd) U')
theorem OR.chg{p:Addr×Addr}{o:AO}(nx:∀c fs,o≠.exc c fs)(BC:Hl X b0 h aJ p.1)(k2:p.2≠p.1->∀o,h.get? p.2=some o->aJ.get? p.2=some o)(st:Still h aJ)(q:OR X h ρ p o):OR X aJ ρ p o:=by
 obtain⟨_,_,oe,vs,vs',c1,c2,c3,c4,c5⟩:=BC
 cases o with
 |list l=>obtain⟨_,_,ws,n,c,_⟩:=q;unfold IsL at c;rw[c1] at c;cases c;cases c2
 |dict es=>
  refine MN q λ_ _ AM=>?_;exfalso
  cases AM with
  |kI _ a _ _=>obtain⟨o,_,_,h1,h2,h3,_⟩:=a;rw[c1] at h1;cases h1;rw[c2] at h3;cases h3
  |kS _ a _ _=>obtain⟨o,_,_,h1,h2,h3,_⟩:=a;rw[c1] at h1;cases h1;rw[c2] at h3;cases h3
  |kT _ a _ _=>obtain⟨o,_,_,h1,h2,h3,_⟩:=a;rw[c1] at h1;cases h1;rw[c2] at h3;cases h3
 |set l=>obtain⟨_,_,o,_,_,_,h1,h2,h3,_⟩:=q;rw[c1] at h1;cases h1;rw[c2] at h3;cases h3
 |inst c fs=>
  obtain⟨cs,hl,ox,a,b,g,d,f⟩:=q;rw[c1] at a;cases a
  have ne:p.2≠p.1:=λz=>by obtain⟨m,_,_,_,od,h3,h4⟩:=f;rw[z,c1] at h3;cases h3;rw[b] at h4;cases h4
  exact⟨cs,hl,_,c3,b,Z,d,f.mono (k2 ne) st (jF.refl _)⟩
 |exc c fs=>exact absurd Z (nx c fs)
 |up c fs=>
  obtain⟨cs,hl,ox,ws,a,b,g,g2,f⟩:=q;rw[c1] at a;cases a;rw[c2] at g;cases g;refine⟨cs,hl,_,vs',c3,b,Z,by rw[c5];exact g2,?_⟩
  rcases f with f|⟨f,ne,g⟩
  .exact .inl f
  .have ne':p.2≠p.1:=λz=>by obtain⟨m,_,_,_,od,h3,h4⟩:=g;rw[z,c1] at h3;cases h3;rw[b] at h4;cases h4
   exact .inr (jW f ne (g.mono (k2 ne') st (jF.refl _)))
theorem Hl.iD(BC:Hl X b0 h aJ e)(ht:∀o,h.get? e=some o->tracked o=true):Still h aJ:=by
 obtain⟨k,_,oe,vs,_,c1,c2,_⟩:=BC;intro b o hb t;refine MN (iR t) λt1 t2 t3=>?_;have z:b≠e:=λz=>by subst z;rw[ht o hb] at t1;cases t1
 have nt:¬TB b0 b o:=λq=>by rw[pP (by rw[q.2.1];decide)] at t;cases t
 rcases k b o hb z nt with q|⟨_,q,_⟩
 .exact q
 .exact absurd q t2
theorem j6.chg{b:Addr}(BC:Hl X b0 h aJ e)(nt:∀o,h.get? b=some o->¬TB b0 b o)(q:j6 h b):j6 aJ b:=by
 obtain⟨k,_,oe,vs,vs',c1,c2,c3,c4,c5⟩:=BC;refine gZ q λo ws e1 e2 e3=>?_
 by_cases z:b=e
 .subst z;rw[c1] at e1;cases e1;rw[c2] at e2;cases e2;exact(gn _ vs' c3 Z (by rw[c5];exact e3))
 .rcases k b o e1 z (nt o e1) with q|⟨_,_,sl,q⟩
  .exact(gn o ws q e2 e3)
  .exact(gn _ ws q e2 e3)
theorem Step.chg(S:Step X l ir b0 ρ h aM aC)(I0:Inv X l b0 ρ σ){i:Nat}{p:Addr×Addr}{cu:Nat}{fu:TZ}(hp:aM[i]?=some p)(hu:aC[i]?=some (.up cu fu))(BC:Hl X b0 h aJ p.1):Step X l ir b0 ρ aJ aM aC:=by
 have I:=S.inv;have C':=BC;obtain⟨k,th,oe,vs,vs',c1,c2,c3,c4,c5⟩:=BC
 have lP:∀o,h.get? p.1=some o->tracked o=true:=λo e=>by refine oK (I.there p (gq hp)) λo1 o2 a1 a2 a3 a4=>?_;rw[e] at a1;cases a1;exact a2
 have st:=C'.iD lP;have fp:=gB (gq hp)
 have Zc:∀(b:Addr) o,h.get? b=some o->tracked o=true->b≠p.1->aJ.get? b=some o:=λb o e t z=>by
  have nt:¬TB b0 b o:=λq=>by unfold tracked at t;rw[q.2.1] at t;exact absurd t Y
  rcases k b o e z nt with q|⟨_,q,_⟩
  .exact q
  .unfold tracked at t;rw[q] at t;exact absurd t Y
 have old:∀b o,b0.get? b=some o->∀o',h.get? b=some o'->¬TB b0 b o':=λb o e o' _ q=>by have:=q.1;rw[e] at this;cases this
 refine⟨⟨λb o e=>?_,I.len,λj q o hq ho=>?_,λq hq=>?_,I.apart,I.new,λenv he=>?_⟩,λb o e f y=>?_,S.ext,λb o e=>?_,λb e=>?_⟩
 .have e1:=I.low b o e
  have z:b≠p.1:=λz=>by have:=(I.new _ fp).1;rw[<- z,e] at this;cases this
  rcases k b o e1 z (old b o (I0.low b o e) o e1) with q|⟨n,_⟩
  .exact q
  .rw[e] at n;cases n
 .refine oK (I.there q (gq hq)) λo1 o2 a1 a2 a3 a4=>?_
  by_cases ND:j=i
  .subst ND;rw[hp] at hq;cases hq;exact(I.objs j p o hp ho).chg (λc fs z=>by subst z;rw[hu] at ho;cases ho) C' (λne o e=>by rw[a3] at e;cases e;exact Zc p.2 o2 a3 a4 ne) st
  .have ap:=I.apart j i q p ND hq hp;exact(I.objs j q o hq ho).mono (λo e=>by rw[a1] at e;cases e;exact Zc q.1 o1 a1 a2 ap.1) (λo e=>by rw[a3] at e;cases e;exact Zc q.2 o2 a3 a4 ap.2.2.1) st (jF.refl _)
 .refine oK (I.there q hq) λo1 o2 a1 a2 a3 a4=>?_
  have g:∀b o,h.get? b=some o->tracked o=true->∃o',aJ.get? b=some o'/\tracked o'=true:=λb o e t=>by
   by_cases z:b=p.1
   .subst z;rw[c1] at e;cases e;exact(aZ _ c3 t)
   .exact(aZ o (Zc b o e t z) t)
  refine bY (g _ _ a1 a2) λo1' b1 b2=>?_;refine bY (g _ _ a3 a4) λo2' b3 b4=>?_;exact(rA o1' o2' b1 b2 b3 b4)
 .obtain⟨q0,CE,o,es,n,q1,q2,q3,q4,q5⟩:=I.SQ env he;have z:CE≠p.1:=λz=>by subst z;have:=lP o q3;unfold tracked at this;rw[q4] at this;exact absurd this Y
  have nt:¬TB b0 CE o:=λq=>by have:=q.2.1;rw[q4] at this;exact absurd this Y
  rcases k CE o q3 z nt with q|⟨_,_,sl,q⟩
  .exact⟨q0,CE,o,es,n,q1,q2,q,q4,q5⟩
  .exact⟨q0,CE,_,es,n,q1,q2,q,q4,q5⟩
 .have nz:∀(o':Obj),h.get? b=some o'->b≠p.1:=λo' e' z=>by
   subst z
   rcases S.ext.2.2 _ fp with w|w
   .exact f w
   .rw[e] at w;cases w
  rcases S.keep b o e f y with q|⟨c,sl,q⟩
  .rcases k b o q (nz o q) (old b o e o q) with r|⟨_,c,sl,r⟩
   .exact .inl r
   .exact .inr ⟨c,sl,r⟩
  .rcases k b _ q (nz _ q) (old b o e _ q) with r|⟨_,_,sl',r⟩
   .exact .inr ⟨c,sl,r⟩
   .exact .inr ⟨c,sl',r⟩
 .obtain⟨o',e'⟩:=S.there b o e;exact th b o' e'
 .refine gH (id e) λo ws e1 _=>?_;exact(S.exc b e).chg C' (old b o e1)
theorem At.chg(S:Step X l ir b0 ρ h aM aC)(I0:Inv X l b0 ρ σ)(a:At X hd A l env cx h aM aC B){i:Nat}{p:Addr×Addr}{cu:Nat}{fu:TZ}(hp:aM[i]?=some p)(hu:aC[i]?=some (.up cu fu))(hh:∀b,A.handled=some (.ref b)->∃o,b0.get? b=some o)(BC:Hl X b0 h aJ p.1):At X hd A l env cx aJ aM aC B:=by
 have S':=S.chg I0 hp hu BC;have C':=BC;obtain⟨k,th,oe,vs,vs',c1,c2,c3,c4,c5⟩:=BC
 have lP:∀o,h.get? p.1=some o->tracked o=true:=λo e=>by refine oK (S.inv.there p (gq hp)) λo1 o2 a1 a2 a3 a4=>?_;rw[e] at a1;cases a1;exact a2
 have st:=C'.iD lP
 have i9:∀b o,h.get? b=some o->(∀ vs,o.data≠.fields vs)->∃sl,aJ.get? b=some {o with slots:=sl}:=λb o e nd=>by
  have z:b≠p.1:=λz=>by subst z;rw[c1] at e;cases e;exact nd _ c2
  rcases k b o e z (λq=>let⟨ts,q⟩:=q.2.2;nd ts q) with q|⟨_,_,sl,q⟩
  .exact⟨o.slots,q⟩
  .exact⟨sl,q⟩
 have cellK:∀{c:Addr} {v:zb2},h.IsCell c v->aJ.IsCell c v:=λ{c v} q=>by refine bY q λo e dd=>?_;obtain⟨sl,e'⟩:=i9 c o e (λvs z=>by rw[dd] at z;cases z);exact(aZ _ e' dd)
 refine⟨S'.inv,a.B.to (λm hn=>?_) (λ_ _ _ _=>cellK) st (jF.refl _),a.uf,a.new,?_,a.JS,λx c hc=>⟨(a.wU x c hc).1,?_⟩⟩
 .obtain⟨o,es,ep,ho,xP,Z',hm⟩:=hn;obtain⟨sl,e'⟩:=i9 _ o ho (λvs z=>by rw[xP] at z;cases z);exact(oG _ es ep e' xP Z' hm)
 .refine⟨a.qj.1,λz=>?_⟩;obtain⟨b,e1,e2⟩:=a.qj.2 z;obtain⟨o,e3⟩:=hh b e1;exact(aZ b e1 (e2.chg C' λo' _ q=>by have:=q.1;rw[e3] at this;cases this))
 .obtain⟨_,w,e⟩:=a.wU x c hc;exact⟨w,cellK e⟩
end
def own(env:Env)(b:Addr):Prop:=b=env.locals\/∃x,env.cells.lookup x=some b
structure Fm(cx:Cx)(l:za7)(env:Env)(CE:Addr):Prop where
 frame:env.frame=some CE
 B:env.locals=CE
 Gg:∃outer,l=env::outer
 slots:∀x i,(x,i)∈cx.slots->env.kindOf x=some .local\/env.kindOf x=some .cell
 one:∀x i j,(x,i)∈cx.slots->(x,j)∈cx.slots->i=j
inductive Q7(X:Ctx)(h:Heap)(ρ:Su):AFlow->Flow->Prop
 |next:Q7 X h ρ .next .next
 |cont:Q7 X h ρ .cont .cont
 |ret {v r} (V:VR X h ρ v r):Q7 X h ρ (.ret v) (.ret r)
def EP(X:Ctx)(hd:Bool)(A:Around)(l:za7)(env:Env)(cx:Cx)(CE:Addr)(i:Nat)(B:Loc)(σ':St)(s:Shared)(ρ:Su)(E:Q3):Prop:=
 ∀h' tk cY p c fs,Step X l (own env) s.heap ρ h' cY σ'->At X hd A l env cx h' cY σ' B->cY[i]?=some p->σ'[i]?=some (.up c fs)->Up s.heap h' p.1 CE->E (.ref p.1) {s with heap:=h',toks:=tk}
def aY(X:Ctx)(hd:Bool)(A:Around)(l:za7)(env:Env)(cx:Cx)(CE:Addr)(r:SR)(s:Shared)(ρ:Su)(Q:Q4)(E:Q3):Prop:=match r with
 | .done f B σ'=>∀h' tk cY g,Step X l (own env) s.heap ρ h' cY σ'->At X hd A l env cx h' cY σ' B->Q7 X h' cY f g->Q g {s with heap:=h',toks:=tk}
 | .exc i B σ'=>EP X hd A l env cx CE i B σ' s ρ E
 | .bad=>False
variable{Wi:Loc}
section
variable{E:Q3}
theorem EP.at{i:Nat}{tk:Nat}(H:EP X hd A l env cx CE i B bL s ρ E)(S:Step X l (own env) s.heap ρ aJ aM aC):EP X hd A l env cx CE i B bL {s with heap:=aJ,toks:=tk} aM E:=
 λh' tk' cY p c fs S' a hp hu vc=>H h' tk' cY p c fs (S.trans S') a hp hu (vc.from λb o e=>S.there b o e)
theorem aY.at{r:SR}{tk:Nat}{Q:Q4}(H:aY X hd A l env cx CE r s ρ Q E)(S:Step X l (own env) s.heap ρ aJ aM aC):aY X hd A l env cx CE r {s with heap:=aJ,toks:=tk} aM Q E:=by
 cases r with
 |done f B σ'=>intro h' tk' cY g S' a F;exact H h' tk' cY g (S.trans S') a F
 |exc i B σ'=>exact EP.at H S
 |bad=>exact H
theorem Uk{i:Nat}{p:Addr×Addr}{c:Nat}{fs:TZ}(I:Inv X l h ρ σ)(hp:ρ[i]?=some p)(hu:σ[i]?=some (.up c fs)):∃ox vs,h.get? p.1=some ox/\ox.cls= .ref (X.ca c)/\ox.data= .fields vs/\vs[2]?=some .none:=by obtain⟨_,_,ox,vs,a1,a2,a3,a4,_⟩:=I.objs i p _ hp hu;exact(rA ox vs a1 a2 a3 a4)
theorem BW.up{i:Nat}{p:Addr×Addr}{c:Nat}{fs:TZ}(I:Inv X l h ρ σ)(hp:ρ[i]?=some p)(hu:σ[i]?=some (.up c fs))(F:BW b0 h p.1):TF b0 h p.1 .none:=by obtain⟨oe,vs,a0,T,oT,ts,n,u1,u2,u3,u4,u5,u6,u7,u8⟩:=F;refine gZ (Uk I hp hu) λox ws x1 x2 _=>?_;refine⟨oe,vs,a0,T,oT,ts,u1,u2,u3,u4,n,λz=>?_,u5,u8,u6,u7⟩;subst z;rw[x1] at u5;cases u5;rw[x2] at u8;cases u8
theorem Yu{β:Type}{z:β}{P:β->Prop}{o:zb1}{f:Nat->β}{G:Prop}(nz:P z->False)(H:P (Yv z o f))(k:∀c fs,o=some (.up c fs)->P (f c)->G):G:=by
 cases o with
 |none=>exact(nz H).elim
 |some o=>cases o<;>first|exact k _ _ Z H|exact(nz H).elim
theorem aY.ev{α β:Type}{rel:Heap->List (Addr×Addr)->α->β->Prop}{r:Res α}{f:α->St->SR}{Q:Q4}{Q1:β->Shared->Prop}(H:aY X hd A l env cx CE (fZ r B f) s ρ Q E)(a:At X hd A l env cx s.heap ρ σ B)
  (k:∀v aC aJ cj aM x,r= .ok v aC->Step X l uA s.heap ρ aJ aM aC->rel aJ aM v x->aY X hd A l env cx CE (f v aC) {s with heap:=aJ,toks:=cj} aM Q E->Q1 x {s with heap:=aJ,toks:=cj}):
  aB X l rel r s ρ Q1 E:=by
 cases r with
 |ok v σ'=>intro h' tk cY x S' V;exact k v σ' h' tk cY x Z S' V (aY.at H (S'.mono λ_ f=>f.elim))
 |exc i σ'=>intro h' tk cY p S' hp F;exact Yu (P:=λr=>aY X hd A l env cx CE r s ρ Q E) id H λc fs hu H=>H h' tk cY p c fs (S'.mono λ_ f=>f.elim) (a.step S') hp hu (.inr (.inl (F.up S'.inv hp hu)))
 |bad=>exact H
section
variable{α:Type}{G:Prop}{as:U}{vs:Tu}{r:SR}{Q:Q4}{motive:Value->Prop}{h:Heap}{cY:Su}
theorem aY.ig{o:Option α}{f:α->SR}(H:aY X hd A l env cx CE (ig .bad o f) s ρ Q E)(k:∀a,o=some a->aY X hd A l env cx CE (f a) s ρ Q E->G):G:=jZ (P:=λr=>aY X hd A l env cx CE r s ρ Q E) id H k
theorem aY.gd{c:Bool}(H:aY X hd A l env cx CE (gd .bad c r) s ρ Q E)(k:c=true->aY X hd A l env cx CE r s ρ Q E->G):G:=lF (P:=λr=>aY X hd A l env cx CE r s ρ Q E) id H k
@[elab_as_elim] theorem aY.bool{f:Bool->SR}(V:VR X h cY a x)(H:aY X hd A l env cx CE (lB .bad a f) s ρ Q E)(k:∀b,aY X hd A l env cx CE (f b) s ρ Q E->motive (.bool b)):motive x:=
 wX (P:=λr=>aY X hd A l env cx CE r s ρ Q E) id H λn e H=>by subst e;exact VR.bool V (k n H)
theorem aY.turn{aJ:Heap}{aM:Su}{aC:St}{cj:Nat}{f:Loc->St->SR}{Q':Q4}(S:Step X l (own env) s.heap ρ aJ aM aC)(H:aY X hd A l env cx CE (turned r f) s ρ Q E)
  (k:∀g bx σ' h' tk cY,g= .next\/g= .cont->Step X l (own env) aJ aM h' cY σ'->At X hd A l env cx h' cY σ' bx->aY X hd A l env cx CE (f bx σ') s ρ Q E->Q' g {s with heap:=h',toks:=tk})
  (kr:∀v s',Q (.ret v) s'->Q' (.ret v) s'):aY X hd A l env cx CE r {s with heap:=aJ,toks:=cj} aM Q' E:=by
 cases r with
 |bad=>exact H
 |exc i B σ'=>exact EP.at H S
 |done g B σ'=>
  intro h' tk cY g S' a F
  cases F with
  |next=>exact k _ B σ' h' tk cY (.inl Z) S' a H
  |cont=>exact k _ B σ' h' tk cY (.inr Z) S' a H
  |ret V=>exact kr _ _ (H h' tk cY _ (S.trans S') a (.ret V))
end
theorem Step.Gg(I:Inv X l h ρ σ){b:Addr}(hb:ir b)(bf:¬foot ρ b)(x0:X.h₀.get? b=none)(nd:∀o,h.get? b=some o->(∀ vs,o.data≠.fields vs)/\Mine.Internal.iD o=false)(sb:Heap.SameBut b h aJ)
  (fr:∀o es n,h.get? b=some o->o.cls= .type "frame"->o.data= .dict es n->∃o' es n,aJ.get? b=some o'/\o'.cls= .type "frame"/\o'.data= .dict es n) (th:∀o,h.get? b=some o->∃o',aJ.get? b=some o'):Step X l ir h ρ aJ ρ σ:=by
 have ne:∀c,foot ρ c->c≠b:=λc f z=>bf (z▸f);have ot:∀c o,c≠b->h.get? c=some o->aJ.get? c=some o:=λc o z e=>(sb.2 c z).trans e;have st:Still h aJ:=λc o e t=>ot c o (λz=>by subst z;rw[(nd o e).2] at t;cases t) e;refine⟨⟨λc o e=>ot c o (λz=>by subst z;rw[x0] at e;cases e) (I.low c o e),I.len,λj p o hp ho=>?_,λp hp=>?_,I.apart,I.new,λenv he=>?_⟩,λc o e f y=>.inl (ot c o (λz=>y (z▸hb)) e),Ext.refl _ _,λc o e=>?_,λc e=>?_⟩
 .exact(I.objs j p o hp ho).mono (λo e=>ot _ o (ne _ (gB (gq hp))) e) (λo e=>ot _ o (ne _ (nq (gq hp))) e) st (jF.refl _)
 .refine oK (I.there p hp) λo o' a b c d=>?_;exact(rA o o' (ot _ o (ne _ (gB hp)) a) b (ot _ o' (ne _ (nq hp)) c) d)
 .obtain⟨k,CE,o,es,n,q1,q2,q3,q4,q5⟩:=I.SQ env he
  by_cases z:CE=b
  .subst z;refine uh (fr o es n q3 q4 q5) λo' es' n' r1 r2 r3=>?_;exact⟨k,CE,o',es',n',q1,q2,r1,r2,r3⟩
  .exact⟨k,CE,o,es,n,q1,q2,ot CE o z q3,q4,q5⟩
 .by_cases z:c=b
  .subst z;exact th o e
  .exact⟨o,ot c o z e⟩
 .refine gZ e λo vs e1 e2 e3=>?_;exact(gn o vs (ot c o (λz=>by subst z;exact(nd o e1).1 vs e2) e1) e2 e3)
theorem Zx(ok:Ok X hd d A l env cx){x:Str}{i j:Nat}(hx:(x,i)∈cx.slots){y:Str}(hy:(y,j)∈cx.slots)(e:i=j):x=y:=ok.once x y i hx (e▸hy)
theorem At.put{m m':Str->Option Value}{x:Str}{i:Nat}{v:U}{u:zb2}(ok:Ok X hd d A l env cx)(F:Fm cx l env CE)(a:At X hd A l env cx h ρ σ B)(hx:(x,i)∈cx.slots)
  (hl:∀y j,(y,j)∈cx.slots->∃w,vC env h m y w/\∀v,B[j]?=some v->v= .L\/∃r,w=some r/\VR X h ρ v r) (V:v= .L\/∃r,u=some r/\VR X h ρ v r) (S:Step X l (own env) h ρ aJ ρ σ) (st:Still h aJ) (hn:aJ.Ns env.locals m')
  (n1:vC env aJ m' x u) (n2:∀y w,y≠x->vC env h m y w->vC env aJ m' y w) (ce:∀y c w,env.cells.lookup y=some c->h.IsCell c w->∃w',aJ.IsCell c w'):At X hd A l env cx aJ ρ σ (B.set i v):=by
 have up:∀{w:zb2} {v:U},(v= .L\/∃r,w=some r/\VR X h ρ v r)->(v= .L\/∃r,w=some r/\VR X aJ ρ v r):=λq=>by
  rcases q with q|⟨r,q1,q2⟩
  .exact .inl q
  .exact .inr (aZ r q1 (VR.mono st (jF.refl _) _ _ q2))
 refine⟨S.inv,(aZ m' hn (λy j hy=>?_)),a.uf,a.new,a.qj.step S,a.JS,λy c hc=>⟨(a.wU y c hc).1,?_⟩⟩
 .by_cases e:y=x
  .subst e;refine(aZ u n1 (λv' q=>?_));have ji:=F.one y j i hy hx;subst ji
   by_cases lt:j<B.length
   .rewrite[iy lt] at q;cases q;exact up V
   .rewrite[lL (by rw[fB];exact iW lt)] at q;cases q
  .obtain⟨w,N,hv⟩:=hl y j hy;refine(aZ w (n2 y w e N) (λv' q=>?_));rewrite[jX (λz=>e (Zx ok hy hx z.symm))] at q;exact up (hv v' q)
 .obtain⟨w,e⟩:=(a.wU y c hc).2;exact ce y c w hc e
theorem At.Vv{m m':Str->Option Value}(F:Fm cx l env CE)(a:At X hd A l env cx h ρ σ B)(Eb:h.Ns env.locals m)(hns':aJ.Ns env.locals m')(sb:Heap.SameBut env.locals h aJ)(cl:∀o,h.get? env.locals=some o->∃o',aJ.get? env.locals=some o'/\o'.cls=o.cls):
  Step X l (own env) h ρ aJ ρ σ/\Still h aJ/\∀c w,h.IsCell c w->aJ.IsCell c w:=by
 obtain⟨oL,esL,nL,w0,B3,_⟩:=Eb;obtain⟨o',es',n',ho',hd',_⟩:=hns'
 have nd:∀o,h.get? env.locals=some o->(∀ vs,o.data≠.fields vs)/\Mine.Internal.iD o=false:=λo e=>by rw[w0] at e;cases e;refine⟨λvs z=>(by rw[B3] at z;cases z),?_⟩;obtain⟨q0,L',o2,es2,n2,q1,q2,q3,q4,q5⟩:=a.inv.SQ env (by obtain⟨outer,q⟩:=F.Gg;rw[q];exact .head _);rw[F.frame,<-F.B] at q1;cases q1;rw[w0] at q3;cases q3;exact pP (by rw[q4];decide)
 refine(jW (Step.Gg a.inv (.inl Z) a.uf a.new nd sb (λo _ _ e c _=>?_) (λo e=>⟨o',ho'⟩)) (λb o e t=>(sb.2 b λz=>by subst z;rw[(nd o e).2] at t;cases t).trans e) (λc w ⟨o,e,dd⟩=>(aZ o ((sb.2 c λz=>by subst z;rw[w0] at e;cases e;rw[B3] at dd;cases dd).trans e) dd)));obtain⟨o2,g1,g2⟩:=cl o e;rw[ho'] at g1;cases g1;exact(pq o' es' n' ho' (g2.trans c) hd')
theorem At.Vw{w u:zb2}{x:Str}{c:Addr}(a:At X hd A l env cx h ρ σ B)(hc:env.cells.lookup x=some c)(q:h.IsCell c w)(q':aJ.IsCell c u)(sb:Heap.SameBut c h aJ):Step X l (own env) h ρ aJ ρ σ/\Still h aJ/\∀m,h.Ns env.locals m->aJ.Ns env.locals m:=by
 obtain⟨oc,Iy,YW⟩:=q;obtain⟨oc',It,aac⟩:=q'
 have nd:∀o,h.get? c=some o->(∀ vs,o.data≠.fields vs)/\Mine.Internal.iD o=false:=λo e=>by rw[Iy] at e;cases e;refine⟨λvs z=>(by rw[YW] at z;cases z),?_⟩;unfold Mine.Internal.iD;rw[YW,Bool.and_false]
 refine(jW (Step.Gg a.inv (.inr ⟨x,hc⟩) (a.wU x c hc).1 (a.JS x c hc) nd sb (λo es n e _ dd=>by rw[Iy] at e;cases e;rw[YW] at dd;cases dd) (λo e=>⟨oc',It⟩)) (λb o e t=>(sb.2 b λz=>by subst z;rw[(nd o e).2] at t;cases t).trans e) (λm Eb=>Eb.sameBut sb λz=>?_));obtain⟨oL,esL,nL,w0,B3,_⟩:=Eb;rw[z,Iy] at w0;cases w0;rw[YW] at B3;cases B3
structure LO(X:Ctx)(hd:Bool)(A:Around)(l:za7)(env:Env)(cx:Cx)(ρ:Su)(σ:St)(B:Loc)(h aJ:Heap):Prop where
 S:Step X l (own env) h ρ aJ ρ σ
 a:At X hd A l env cx aJ ρ σ B
 st:Still h aJ
theorem At.Ij{m:Str->Option Value}{x:Str}{i:Nat}{v:U}{u:zb2}(ok:Ok X hd d A l env cx)(F:Fm cx l env CE)(a:At X hd A l env cx h ρ σ B)(hx:(x,i)∈cx.slots)(Eb:h.Ns env.locals m)
  (hl:∀y j,(y,j)∈cx.slots->∃w,vC env h m y w/\∀v,B[j]?=some v->v= .L\/∃r,w=some r/\VR X h ρ v r) (V:v= .L\/∃r,u=some r/\VR X h ρ v r) (k:env.kindOf x=some .local)
  (hns':aJ.Ns env.locals (λy=>if y=x then u else m y)) (sb:Heap.SameBut env.locals h aJ) (cl:∀o,h.get? env.locals=some o->∃o',aJ.get? env.locals=some o'/\o'.cls=o.cls):LO X hd A l env cx ρ σ (B.set i v) h aJ:=by
 obtain⟨S,st,ce⟩:=At.Vv F a Eb hns' sb cl;refine⟨S,At.put ok F a hx hl V S st hns' (.inl ⟨k,bz Z⟩) (λy w e N=>?_) λy c w _ q=>⟨w,ce c w q⟩,st⟩
 rcases N with⟨q1,q2⟩|⟨k,c,hc,q⟩
 .exact .inl ⟨q1,(bh e).trans q2⟩
 .exact .inr ⟨k,c,hc,ce c w q⟩
theorem At.Ik{m:Str->Option Value}{x:Str}{i:Nat}{v:U}{u w:zb2}{c:Addr}(ok:Ok X hd d A l env cx)(F:Fm cx l env CE)(a:At X hd A l env cx h ρ σ B)(hx:(x,i)∈cx.slots)(Eb:h.Ns env.locals m)
  (hl:∀y j,(y,j)∈cx.slots->∃w,vC env h m y w/\∀v,B[j]?=some v->v= .L\/∃r,w=some r/\VR X h ρ v r) (V:v= .L\/∃r,u=some r/\VR X h ρ v r) (k:env.kindOf x=some .cell)
  (hc:env.cells.lookup x=some c) (q:h.IsCell c w) (q':aJ.IsCell c u) (sb:Heap.SameBut c h aJ):LO X hd A l env cx ρ σ (B.set i v) h aJ:=by
 obtain⟨S,st,kn⟩:=At.Vw a hc q q' sb
 have ce:∀y b w,y≠x->env.cells.lookup y=some b->h.IsCell b w->aJ.IsCell b w:=λy b w e hb q=>by obtain⟨o,e1,e2⟩:=q;exact(aZ o ((sb.2 b λz=>by subst z;exact e (ok.cells _ _ _ hb hc)).trans e1) e2)
 refine⟨S,At.put ok F a hx hl V S st (kn m Eb) (.inr ⟨.inl k,c,hc,q'⟩) (λy w e N=>?_) λy b w hb q=>?_,st⟩
 .rcases N with N|⟨k,b,hb,q⟩
  .exact .inl N
  .exact .inr ⟨k,b,hb,ce y b w e hb q⟩
 .by_cases e:y=x
  .subst e;rw[hc] at hb;cases hb;exact⟨_,q'⟩
  .exact⟨w,ce y b w e hb q⟩
theorem iT{A':Around}{E':Q3}{x:Str}{i:Nat}{v:U}{r:Value}(ok:Ok X hd d A l env cx)(F:Fm cx l env CE)(a:At X hd A l env cx s.heap ρ σ B)(hx:(x,i)∈cx.slots){Q:za2}
  (V:v= .L\/VR X s.heap ρ v r) (hQ:∀h' tk,Step X l (own env) s.heap ρ h' ρ σ->At X hd A l env cx h' ρ σ (B.set i v)->Still s.heap h'->Q () {s with heap:=h',toks:=tk}):wpAny X.M A' (storeName env x r) Q E' s:=by
 obtain⟨m,Eb,hl⟩:=a.B;have V':v= .L\/∃q,some r=some q/\VR X s.heap ρ v q:=V.imp_right λV=>(aZ r Z V)
 rcases F.slots x i hx with k|k
 .rw[storeName_local k (by rw[ok.kind];rfl)];exact VH Eb λh' hns' sb cl=>let P:=At.Ij ok F a hx Eb hl V' k hns' sb cl;hQ h' _ P.S P.a P.st
 .obtain⟨w,N,hv⟩:=hl x i hx
  rcases N with⟨k',_⟩|⟨_,c,hc,jM⟩
  .rw[k] at k';cases k'
  exact wpAny_storeName_cell ok.kind k hc jM λh' Mj sb=>let P:=At.Ik ok F a hx Eb hl V' k hc jM Mj sb;hQ h' s.toks P.S P.a P.st
end
structure qU(X:Ctx)(c:Nat):Prop where
 exc:mroIn X.K (X.ca c) (.type "BaseException")=some true
 mt:∃o cd,X.h₀.get? (X.ca c)=some o/\o.cls= .type "type"/\o.data= .cls cd
 self:mroIn X.K (X.ca c) (.ref (X.ca c))=some true
section
variable{E:Q3}
theorem At.hh(a0:At X hd A l env cx h ρ σ B):∀b,A.handled=some (.ref b)->∃o,h.get? b=some o:=λb e=>by
 cases hd with
 |false=>rw[a0.qj.1 Z] at e;cases e
 |true=>obtain⟨e',q1,o,_,q2,_⟩:=a0.qj.2 Z;rw[q1] at e;cases e;exact⟨o,q2⟩
theorem Gb{i:Nat}{cu:Nat}{fu:TZ}{p:Addr×Addr}{tk:Nat}{Av:Loc}{M:Model}{Q:za2}(ok:Ok X hd d A l env cx)(F:Fm cx l env CE)(a0:At X hd A l env cx s.heap ρ σ Av)(S:Step X l (own env) s.heap ρ aJ aM aC)
  (a:At X hd A l env cx aJ aM aC B) (hp:aM[i]?=some p) (hu:aC[i]?=some (.up cu fu)) (vc:Up s.heap aJ p.1 CE)
  (hQ:∀eZ,Step X l (own env) s.heap ρ eZ aM aC->At X hd A l env cx eZ aM aC B->TF s.heap eZ p.1 (rawInt CE)->Q () {s with heap:=eZ,toks:=tk}):wpAny M A (noteFrame (.ref p.1) env) Q E {s with heap:=aJ,toks:=tk}:=by
 obtain⟨outer,hl⟩:=F.Gg;refine Z3 (by rw[ok.frames,hl]) (λv hv=>S.inv.SQ v (by rw[hl];exact hv)) F.frame (λb o e=>S.there b o e) vc λeZ BC U2=>?_;exact hQ eZ (S.chg a0.inv hp hu BC) (At.chg S a0.inv a hp hu a0.hh BC) U2
theorem tX{i:Nat}{cu:Nat}{fu:TZ}{p:Addr×Addr}{tk:Nat}{Av:Loc}{M:Model}{A':Around}{E':Q3}{fl:Value}(f:Option Addr){Q:za2}(a0:At X hd A l env cx s.heap ρ σ Av)(S:Step X l (own env) s.heap ρ aJ aM aC)
  (a:At X hd A l env cx aJ aM aC B) (hp:aM[i]?=some p) (hu:aC[i]?=some (.up cu fu)) (vc:TF s.heap aJ p.1 fl)
  (hQ:∀eZ,Step X l (own env) s.heap ρ eZ aM aC->At X hd A l env cx eZ aM aC B->TF s.heap eZ p.1 (f.elim .none λf=>rawInt f)->Q () {s with heap:=eZ,toks:=tk}):wpAny M A' (setFlight (.ref p.1) f) Q E' {s with heap:=aJ,toks:=tk}:=
 nE f vc λeZ BC U2=>hQ eZ (S.chg a0.inv hp hu BC) (At.chg S a0.inv a hp hu a0.hh BC) U2
theorem EP.back{i:Nat}{Av:Loc}(H:EP X hd A l env cx CE i B aC s ρ E)(ok:Ok X hd d A l env cx)(F:Fm cx l env CE)(a0:At X hd A l env cx s.heap ρ σ Av):
  EP X hd A l env cx CE i B aC s ρ (notedBy X.M A env (cameBackBy X.M A env E)):=by
 intro h' tk cY p c fs S a hp hu vc;unfold notedBy;refine Gb ok F a0 S a hp hu vc λeZ eN vA gE=>?_;unfold cameBackBy;have DO:=gE;obtain⟨oe,vs,a1,T,oT,ts,he,NL,h0,h1,_⟩:=DO;refine aU (nJ he NL h1 ?_)
 dsimp only
 rw[bh (by simp),F.frame];refine tX (some CE) a0 eN vA hp hu gE λs6 wZ J5 vv=>?_;exact H s6 tk cY p c fs wZ J5 hp hu (.inr (.inr vv))
theorem Rp(XS:∀c,X.T.isExc c=true->qU X c)(SF:X.K.In X.h₀){i cc:Nat}{fs:TZ}{Q:Q4}{m:Sem Value}(hh:hd=false)(a:At X hd A l env cx s.heap ρ σ B)(he:σ[i]?=some (.exc cc fs))(hx:X.T.isExc cc=true)(V:VR X s.heap ρ (.ref i) x)
  (H:EP X hd A l env cx CE i B (σ.set i (.up cc fs)) s ρ E) (hm:∀{Q':Q3},Q' x s->wpAny X.M A m Q' E s):wpAny X.M A (raiseStmt env (some m) none) Q E s:=by
 obtain⟨p,hp,rfl⟩:=V;have gz:=XS cc hx;have KF:=SF.keeps a.inv.low;obtain⟨cs,hl,ox,vs,h1,h2,h3,⟨h4,h5⟩,h6⟩:=a.inv.objs i p _ hp he;have ld:Looks X.M s.heap (typeOf (.ref p.1)) (.ref (X.ca cc)):=h2▸(Looks.ld h1).andThen .now;have lt:Looks X.M s.heap (isType (.ref p.1)) false:=(Looks.ld h1).andThen (by rw[h3];exact .now);unfold raiseStmt;refine aU (hm ?_);refine aU (cF ?_);refine aU (kh ?_);unfold excFromValue;refine aU ?_;unfold isExcClass;refine aU (lt.here ?_);rw[bh Y];refine cF ?_;rw[bh Y];refine aU ((ld.andThen (looks_mroIn KF gz.exc):Looks X.M s.heap (isInstance (.ref p.1) (.type "BaseException")) true).here ?_);rw[bz Z];refine cF ?_
 dsimp only
 refine aU (lt.here ?_);rw[bh Y];refine aU ?_;unfold raisedInstance;refine aU (ld.here ?_);refine gZ gz.mt λoC cd g1 g2 g3=>?_;refine aU ((g2▸(Looks.ld (a.inv.low _ _ g1)).andThen .now:Looks X.M s.heap (typeOf (.ref (X.ca cc))) (.type "type")).here ?_);rw[bz Y];refine cF<|aU ?_;unfold setFlight;refine aU (nJ h1 h3 h5 ?_);rw[bh Y];refine cF ?_;unfold raiseNew;refine aU (wpAny_handled ?_);rw[a.qj.1 hh];refine aU (cF (wpAny_throw ?_))
 have S:Step X l (own env) s.heap ρ s.heap ρ (σ.set i (.up cc fs)):=by refine oK (a.inv.there p (gq hp)) λo1 o2 x1 x2 x3 x4=>?_;exact Step.update a.inv hp (.inl Z) (.refl ..) id x1 x2 x3 x4 ⟨cs,hl,ox,vs,h1,h2,h3,h4,h6⟩
 have S0:Step X l uA s.heap ρ s.heap ρ (σ.set i (.up cc fs)):=by refine oK (a.inv.there p (gq hp)) λo1 o2 x1 x2 x3 x4=>?_;exact Step.update a.inv hp (.inl Z) (.refl ..) id x1 x2 x3 x4 ⟨cs,hl,ox,vs,h1,h2,h3,h4,h6⟩
 have sz:=(Array.getElem?_eq_some_iff.mp h5).1;refine H s.heap s.toks ρ p cc fs S (a.step S0) hp (iy (zb6 he).1) (.inl (oG ox vs (vs[0]) h1 h3 ?_ h5));rw[Array.getElem?_eq_getElem (PF sz)]
end
section
variable{E:Q3}
theorem qf{M:Model}{a:Addr}{m:Str->Option Value}{name:Str}{v:Value}{Q:Bool->Shared->Prop}(hn:s.heap.Ns a m)(hv:m name=some v)
  (hQ:∀h' u,h'.Ns a (λx=>if x=name then u else m x)->Heap.SameBut a s.heap h'->(∀ o,s.heap.get? a=some o->∃o',h'.get? a=some o'/\o'.cls=o.cls)->Q true {s with heap:=h'}):
  wpAny M A (nsDel a name) Q E s:=λΓ p Y1=>by
 have base:=(wpAny_nsDel_keeps (M:=M) (E:=λ_ _=>False) (Q:=λ_ s'=>∃u,s'.heap.Ns a (λx=>if x=name then u else m x)/\Heap.SameBut a s.heap s'.heap) hn λh' u q r=>(aZ u q r)) Γ p Y1;obtain⟨o,es,ep,ho,hd,hk,hm⟩:=hn
 have r5:es.any (·.key.isStr name)=true:=by have h1:=(hm name).trans hv;unfold nsFind findBy at h1;obtain⟨e,he,_⟩:=zb3 h1;rw[<- Array.find?_toList] at he;rw[<- Array.any_toList,List.any_eq_true];exact(aZ e (List.mem_of_find?_eq_some he) (List.find?_some (p:=λe:DictEntry=>e.key.isStr name) he))
 have IJ:nsHas name o=pure true:=by
  rw[nsHas_eq];unfold nsHasByArray;rw[hd]
  dsimp only
  rw[bz r5]
 simp only[nsDel,Sem.wp_bind',Sem.wp_pure'] at base ⊢;rw[Sem.wp_loadPart_of M Γ (λe _ s=>False) _ s _ ho] at base;rw[Sem.wp_loadPart_of M Γ (λe _ s=>E e s) _ s _ ho];simp only[IJ,Sem.wp_bind',Sem.wp_pure',if_true,Sem.wp_cmd_updatePart] at base ⊢;obtain⟨b1,u,b2,b3⟩:=base;refine⟨b1,hQ _ u b2 b3 λo0 BH=>?_⟩;rw[ho] at BH;cases BH;obtain⟨oc,od,dt,sl⟩:=o;subst hd;refine(aZ _ (ym _ ho ?_) ?_)
 .simp only[Obj.dropName_eq,Obj.dropNameByArray];split<;>rfl
 .simp only[Obj.dropName_eq,Obj.dropNameByArray];split<;>rfl
theorem Ok.mark(ok:Ok X hd d A l env cx)(v:zb2):Ok X true d (A.mark v) l env cx:=⟨ok.frames,ok.Gg,ok.kind,ok.kinds,ok.base,ok.Qg,ok.QF,ok.depth,ok.units,ok.once,ok.cells⟩
theorem At.mark(a:At X hd A l env cx h ρ σ B){e:Addr}(x:j6 h e):At X true (A.mark (some (.ref e))) l env cx h ρ σ B:=⟨a.inv,a.B,a.uf,a.new,⟨λz=>(by cases z),λ_=>(aZ e Z x)⟩,a.JS,a.wU⟩
theorem At.unmark(Lu:At X hd A l env cx aJ aM aC Wi){hd':Bool}{A':Around}(S:Step X l ir aJ aM h ρ σ)(a:At X hd' A' l env cx h ρ σ B):At X hd A l env cx h ρ σ B:=⟨a.inv,a.B,a.uf,a.new,Lu.qj.step S,a.JS,a.wU⟩
theorem KR{nm:Str}{i:Nat}{pos:Pos}(ok:Ok X hd d A l env cx)(F:Fm cx l env CE)(a:At X hd A l env cx s.heap ρ σ B)(hx:(nm,i)∈cx.slots)(rE:i<B.length){Q:za2}
  (hQ:∀h' tk,Step X l (own env) s.heap ρ h' ρ σ->At X hd A l env cx h' ρ σ (B.set i .L)->Still s.heap h'->Q () {s with heap:=h',toks:=tk}):wpAny X.M A (do bindName env nm .none;unbindBehindTheSuite env nm pos) Q E s:=by
 have hp:(env.scope.kind== .class||(env.scope.kind== .module&&env.locals !=env.globals))=false:=by rw[ok.kind];rfl
 refine aU (wpAny_bindName ?_);refine iT (v:=.none) ok F a hx (.inr Z) λaJ tk bI fX yy=>?_
 have fin:∀h' tk,LO X hd A l env cx ρ σ ((B.set i .none).set i .L) aJ h'->Q () {s with heap:=h',toks:=tk}:=λh' tk P=>by have a2:=P.a;rewrite[List.set_set] at a2;exact hQ h' tk (bI.trans P.S) a2 λb o e t=>P.st b o (yy b o e t) t
 unfold unbindBehindTheSuite;refine wpAny_onRaise ?_;unfold unbindName;refine aU (wpAny_point (aU ?_));obtain⟨m,Eb,hl⟩:=fX.B;obtain⟨w,N,hw⟩:=hl nm i hx
 obtain⟨r,rfl⟩:∃r,w=some r:=by
  rcases hw .none (iy rE) with q|⟨r,q,_⟩
  .cases q
  .exact⟨r,q⟩
 unfold deleteName
 rcases F.slots nm i hx with k|k
 .have hm:m nm=some r:=by
   rcases N with⟨_,q⟩|⟨q|q,_⟩
   .exact q
   .rw[k] at q;cases q
   .rw[k] at q;cases q
  simp only[k,hp];rw[bh Y];refine aU (qf Eb hm λh' u hns' sb cl=>?_);rw[bh Y];exact cF (wpAny_point (fin h' tk (At.Ij ok F fX hx Eb hl (.inl Z) k hns' sb cl)))
 .rcases N with⟨k',_⟩|⟨_,c,hc,jM⟩
  .rw[k] at k';cases k'
  simp only[k];refine aU (wpAny_cellOf hc (aU (wpAny_cellGet jM ?_)));rw[bz (show(some r).isSome=true from Z)];exact wpAny_cellSet jM λh' Mj sb=>wpAny_point (fin h' tk (At.Ik ok F fX hx Eb hl (.inl Z) k hc jM Mj sb))
end
theorem zM:isSubtype (.type "type") (.type "tuple")=pure false:=by rw[isSubtype_type];kernel_rfl
section
variable{E:Q3}
theorem Jr{cc:Nat}{e:Addr}{Q:Bool->Shared->Prop}(gz:qU X cc)(SF:X.K.In X.h₀)(low:∀b o,X.h₀.get? b=some o->s.heap.get? b=some o)(he:∃o,s.heap.get? e=some o/\o.cls= .ref (X.ca cc))(h:Q true s):wpAny X.M A (excMatches (.ref e) (.ref (X.ca cc))) Q E s:=by
 have KF:=SF.keeps low;obtain⟨oC,cd,g1,g2,g3⟩:=gz.mt;obtain⟨oe,k1,k2⟩:=he;have tc:Looks X.M s.heap (typeOf (.ref (X.ca cc))) (.type "type"):=g2▸(Looks.ld (low _ _ g1)).andThen .now;have te:Looks X.M s.heap (typeOf (.ref e)) (.ref (X.ca cc)):=k2▸(Looks.ld k1).andThen .now;have ti:Looks X.M s.heap (isInstance (.ref (X.ca cc)) (.type "tuple")) false:=tc.andThen (Looks.of_pure zM);have ty:Looks X.M s.heap (isType (.ref (X.ca cc))) true:=(Looks.ld (low _ _ g1)).andThen (by rw[g3];exact .now);unfold excMatches;refine aU (ti.here ?_);rw[bh Y];refine aU (cF ?_)
 dsimp only
 rw[List.forIn_cons];refine aU (aU (aU ?_));unfold isExcClass;refine aU (ty.here ?_);rw[bz Z];refine(looks_mroIn KF gz.exc).here ?_;simp only[Bool.not_true,yl,if_false];refine cF ?_
 dsimp only
 rw[List.forIn_nil];refine cF<|aU (te.here ?_);rw[List.forIn_cons];refine aU (aU (aU ((looks_mroIn KF gz.self).here ?_)));simp only[if_true];refine cF (cF ?_);exact cF h
theorem Bk{R:Result->Shared->Prop}{e:Value}{name:Option Str}{body:List Stmt}{pos:Pos}
  (h:wpAny X.M A (setFlight e none) (λ_ mD=>match name with
   |none=>wpAny X.M A (execs body env) (λf Ci=>R (.ok f) Ci) (notedBy X.M A env λx Ci=>R (.error x) Ci) mD
   |some nm=>wpAny X.M A (storeName env nm e) (λ_ Ci=>wpAny X.M A (execs body env) (λf KH=>R (.ok f) KH) (λ_ _=>False) Ci) (notedBy X.M A env λx mD=>R (.error x) mD) mD) (notedBy X.M A env λx mD=>R (.error x) mD) s):
  codeAny X.M A (.handlers e [.ExceptHandler none name body pos] env) R s:=by
 refine codeAny_of_tree ?_;refine aU (wpAny_noted ?_);unfold handleWith;refine aU (oY (aU (pM h (λ_ mD aJ=>?_) λ_ _ x=>x)))
 cases name with
 |none=>exact pM aJ (λf Ci eZ=>cF eZ) λ_ _ x=>x
 |some nm=>refine aU (wpAny_bindName (pM aJ (λ_ Ci eZ=>?_) λ_ _ x=>x));refine aU (wpAny_attempt (pM eZ (λf KH s6=>?_) λ_ _ x=>x.elim));exact cF (cF s6)
def gT(X:Ctx)(G:za4)(Nm:za3)(Φ:iC)(d n:Nat):Prop:=
 ∀(hd:Bool) (A:Around) (l:za7) (env:Env) (cx:Cx) (CE:Addr) (st:Stmt) (B:Loc) (s:Shared) (ρ:Su) (σ:St) (Q:Q4) (E:Q3),Ok X hd d A l env cx->Fm cx l env CE->At X hd A l env cx s.heap ρ σ B->aY X hd A l env cx CE (zm X.T Φ (cS G Nm n cx st) hd B σ) s ρ Q E->wpAny X.M A (exec st env) Q E s
def QX(X:Ctx)(G:za4)(Nm:za3)(Φ:iC)(d n:Nat):Prop:=
 ∀(hd:Bool) (A:Around) (l:za7) (env:Env) (cx:Cx) (CE:Addr) (v3:List Stmt) (B:Loc) (s:Shared) (ρ:Su) (σ:St) (Q:Q4) (E:Q3),Ok X hd d A l env cx->Fm cx l env CE->At X hd A l env cx s.heap ρ σ B->aY X hd A l env cx CE (aN X.T Φ (v3.map (cS G Nm n cx)) hd B σ) s ρ Q E->wpAny X.M A (execs v3 env) Q E s
theorem K4(ih:gT X G Nm Φ d n):QX X G Nm Φ d n:=by
 intro hd A l env cx CE v3
 induction v3 with
 |nil=>intro B s ρ σ Q E ok F a H;rw[vJ] at H;refine wpAny_execs_nil<|H s.heap s.toks ρ .next (Step.refl a.inv) a .next
 |cons st rest rf=>
  intro B s ρ σ Q E ok F a H;rw[cH,ju] at H;refine wpAny_execs_cons (ih hd A l env cx CE st B s ρ σ _ E ok F a ?_);generalize zm X.T Φ (cS G Nm n cx st) hd B σ=r at H
  cases r with
  |bad=>exact H
  |exc i bx σ'=>exact H
  |done f bx σ'=>
   intro h' tk cY g S a' fl
   cases fl with
   |next=>exact rf bx _ cY σ' Q E ok F a' (aY.at H S)
   |cont=>exact H h' tk cY _ S a' .cont
   |ret V=>exact H h' tk cY _ S a' (.ret V)
theorem aY.back{r:SR}{Q:Q4}(H:aY X hd A l env cx CE r s ρ Q E)(ok:Ok X hd d A l env cx)(F:Fm cx l env CE)(a0:At X hd A l env cx s.heap ρ σ B):
  aY X hd A l env cx CE r s ρ Q (notedBy X.M A env (cameBackBy X.M A env E)):=by
 cases r with
 |done f B σ'=>exact H
 |exc i B σ'=>exact EP.back H ok F a0
 |bad=>exact H
inductive kN(X:Ctx)(hd:Bool)(A:Around)(l:za7)(env:Env)(cx:Cx)(CE:Addr)(s:Shared)(ρ:Su)(P:Nat->Loc->St->SR)(Q:Q4)(E:Q3)(k:Nat):Shared->Prop
 |mk (h':Heap) (tk:Nat) (cY:Su) (σ':St) (bx:Loc) (S:Step X l (own env) s.heap ρ h' cY σ') (a:At X hd A l env cx h' cY σ' bx) (H:aY X hd A l env cx CE (P k bx σ') s ρ Q E):kN X hd A l env cx CE s ρ P Q E k {s with heap:=h',toks:=tk}
theorem Rm(Sq:gS X G Nm X.T Φ d 40)(PT:QX X G Nm Φ d n){test:Expr}{body:List Stmt}{pos:Pos}{Q:Q4}(ok:Ok X hd d A l env cx)(F:Fm cx l env CE)(a:At X hd A l env cx s.heap ρ σ B)
  (H:aY X hd A l env cx CE (f9 (aV X.T Φ hd (cE G Nm 40 cx test)) (λB σ=>aN X.T Φ (body.map (cS G Nm n cx)) hd B σ) NN B σ) s ρ Q E):wpAny X.M A (exec (.While test body [] pos) env) Q E s:=by
 refine wpAny_While (codeAny_whileLoop (kN X hd A l env cx CE s ρ (f9 (aV X.T Φ hd (cE G Nm 40 cx test)) λB σ=>aN X.T Φ (body.map (cS G Nm n cx)) hd B σ) Q E) ?_ NN ⟨s.heap,s.toks,ρ,σ,B,Step.refl a.inv,a,H⟩);intro k s' I;obtain⟨h',tk,cY,σ',bx,S,a',H⟩:=I
 cases k with
 |zero=>exact H.elim
 |succ k=>
 refine Sq hd A l env cx test bx _ cY σ' _ _ ok a'<|Vz (P:=λr=>aY X hd A l env cx CE r s ρ Q E) id H λv aC e H=>wX (P:=λr=>aY X hd A l env cx CE r s ρ Q E) id H λb e2 H=>?_;subst e2;rewrite[Od,e];intro aJ cj aM b' bI V
 cases(V:b=b')
 have YH:=S.trans (bI.mono λ_ f=>f.elim);have fX:=a'.step bI
 cases b with
 |false=>rw[bh Y];exact wpAny_execs_nil (H aJ cj aM .next YH fX .next)
 |true=>
  rw[bz Z];refine PT hd A l env cx CE body bx _ aM aC _ _ ok F fX (aY.back ?_ ok F fX);refine aY.turn (s:=s) YH H (λg nT bL eZ o4 jd hg eN vA jc=>?_) λv s' q=>q
  rcases hg with rfl|rfl<;>exact⟨k,j9 _,eZ,o4,jd,bL,nT,YH.trans eN,vA,jc⟩
end
section
variable{E:Q3}
theorem At.but{Y':Addr->Prop}{I:Addr}{h0:Heap}{LZ:Su}{PR:St}{GY:Loc}(a0:At X hd A l env cx h0 LZ PR GY)(S:Step X l Y' h0 LZ aJ ρ σ)(a:At X hd A l env cx h ρ σ B)(k:Heap.ExtBut I h aJ)(uf:Hid h I)
  (nl:I≠env.locals) (nc:∀x c,env.cells.lookup x=some c->c≠I):At X hd A l env cx aJ ρ σ B:=by
 have st:Still h aJ:=λb o e t=>k b o (λz=>by subst z;have:=(uf o e).1;rw[t] at this;cases this) e
 have kc:∀x c w,env.cells.lookup x=some c->h.IsCell c w->aJ.IsCell c w:=λx c w hc q=>by obtain⟨o,e1,e2⟩:=q;exact(aZ o (k c o (nc x c hc) e1) e2)
 refine⟨S.inv,a.B.to (λm hn=>hn.at' λo e=>k _ o (Ne.symm nl) e) kc st (jF.refl _),a.uf,a.new,a0.qj.step S,a.JS,λx c hc=>⟨(a.wU x c hc).1,?_⟩⟩;obtain⟨_,w,q⟩:=a.wU x c hc;exact⟨w,kc x c w hc q⟩
theorem At.DK(a:At X hd A l env cx h ρ σ B){b:Addr}(n:h.get? b=none):b≠env.locals/\∀x c,env.cells.lookup x=some c->c≠b:=by obtain⟨m,⟨o,_,_,ho,_⟩,_⟩:=a.B;refine⟨λz=>(by rw[z,ho] at n;cases n),λx c hc z=>?_⟩;obtain⟨_,w,o,e,_⟩:=a.wU x c hc;rw[z,n] at e;cases e
theorem O8{I:Addr}(n1:I≠env.locals)(n2:∀x c,env.cells.lookup x=some c->c≠I):¬own env I:=λq=>by
 rcases q with q|⟨x,q⟩
 .exact n1 q
 .exact n2 x I q Z
theorem RL(F:Fm cx l env CE)(a:At X hd A l env cx h ρ σ B):∀b o,own env b->h.get? b=some o->Mine.Internal.iD o=false:=λb o q e=>by
 rcases q with q|⟨y,q⟩
 .subst q;obtain⟨q0,L',o2,es2,n2,q1,q2,q3,q4,q5⟩:=a.inv.SQ env (by obtain⟨outer,q⟩:=F.Gg;rw[q];exact .head _);rw[F.frame,<-F.B] at q1;cases q1;rw[e] at q3;cases q3;exact pP (by rw[q4];decide)
 .obtain⟨_,w,o',e1,e2⟩:=a.wU y b q;rw[e] at e1;cases e1;unfold Mine.Internal.iD;rw[e2,Bool.and_false]
theorem Et.yA{I:Addr}{k:Nat}{v:U}(it:Et X h ρ I k v)(Iv:Inv X l h ρ σ)(S:Step X l ir h ρ aJ aM aC)(st:Still h aJ)(ny:¬ir I):Et X aJ aM I k v:=by
 obtain⟨oI,gI,tI,sI,cI⟩:=it.obj;refine it.mono st S.ext.1 λo e=>?_;rw[gI] at e;cases e
 rcases S.keep I _ gI (it.lX Iv) ny with q|⟨q,_⟩
 .exact q
 .exact absurd q cI
inductive D0(X:Ctx)(hd:Bool)(A:Around)(l:za7)(env:Env)(cx:Cx)(CE:Addr)(s:Shared)(ρ:Su)(I:Addr)(v:U)(P:Nat->Nat->Loc->St->SR)(Q:Q4)(E:Q3)(k:Nat):Shared->Prop
 |mk (h':Heap) (tk:Nat) (cY:Su) (σ':St) (bx:Loc) (j:Nat) (S:Step X l (own env) s.heap ρ h' cY σ') (a:At X hd A l env cx h' cY σ' bx) (it:Et X h' cY I j v) (H:aY X hd A l env cx CE (P k j bx σ') s ρ Q E):
   D0 X hd A l env cx CE s ρ I v P Q E k {s with heap:=h',toks:=tk}
theorem Zt(YI:uo X G Nm X.T Φ d 40)(PT:QX X G Nm Φ d n){x:Str}{i:Nat}{px pos:Pos}{iter:Expr}{body:List Stmt}{Q:Q4}(Mg:isSet iter=false)(ok:Ok X hd d A l env cx)(F:Fm cx l env CE)(a:At X hd A l env cx s.heap ρ σ B)(hx:(x,i)∈cx.slots)
  (H:aY X hd A l env cx CE (fZ (aV X.T Φ hd (cE G Nm 40 cx iter) B σ) B λv σ=>gd .bad (nM hd v) (forL (λB σ=>aN X.T Φ (body.map (cS G Nm n cx)) hd B σ) i v NN 0 B σ)) s ρ Q E):wpAny X.M A (exec (.For (.Name x px) iter body [] pos) env) Q E s:=by
 refine wpAny_For ?_ (λ_=>qP Mg);refine YI hd A l env cx iter B s ρ σ _ E ok a (H.ev a λv aC aJ cj aM xv _ bI V bC=>bC.gd λwk bC=>?_);have fX:=a.step bI;clear H;generalize Nl:({s with heap:=aJ,toks:=cj}:Shared)=s1 at bC;have hh1:aJ=s1.heap:=by rw[<- Nl]
 rw[hh1] at fX V bI;clear Nl;obtain⟨r0,hit⟩:∃r,dJ v 0 aC=some r:=FP (P:=λr=>aY X hd A l env cx CE r s1 aM Q E) id bC (λ_ e _=>⟨_,e⟩) λe _=>⟨_,e⟩;refine HY bI.inv V hit λo it=>?_;have K1:∀b o',s1.heap.get? b=some o'->(s1.heap.push o).get? b=some o':=λb o' e=>mY _ e;have nI:s1.heap.get? s1.heap.objs.size=none:=uv (bR _);have xI:=kZ bI.inv nI;have Mh:=fX.DK nI;have VJ:=O8 Mh.1 Mh.2;generalize s1.heap.objs.size=I at it nI xI Mh VJ ⊢;generalize s1.heap.push o=H1 at it K1 ⊢;refine codeAny_forLoop (D0 X hd A l env cx CE s1 aM I v (λk j=>forL (λB σ=>aN X.T Φ (body.map (cS G Nm n cx)) hd B σ) i v k j) Q E) ?_ NN ⟨H1,s1.toks,aM,aC,B,0,Step.keeps bI.inv K1,fX.step (Step.keeps bI.inv K1),it,bC⟩;intro k s' Iv;obtain⟨h',tk,cY,σ',bx,j,S,a',it',H'⟩:=Iv
 cases k with
 |zero=>exact H'.elim
 |succ k=>
 refine FP (P:=λr=>aY X hd A l env cx CE r s1 aM Q E) id H' (λav r4 H'=>?_) λr4 H'=>?_
 .refine HX S.inv it' r4 λr h2 YM R eb A2=>?_;have S2:=S.Ny nI xI (it'.lX S.inv) it'.uf eb;have a2:=At.but fX S2 a' eb it'.uf Mh.1 Mh.2
  dsimp only
  refine wpAny_assign_Name (iT ok F a2 hx (.inr (VR.mono (pY it'.uf eb) (jF.refl _) _ _ R)) λh3 FI S3 a3 D'=>?_);have EM:=A2.yA S2.inv S3 D' VJ;have PH:=S2.trans S3;refine PT hd A l env cx CE body (bx.set i av) _ cY σ' _ _ ok F a3 (aY.back ?_ ok F a3);refine aY.turn (s:=s1) PH H' (λg nT bL h4 RH PW hg S4 a4 Hn=>?_) λv s' q=>q;have YE:=EM.yA a3.inv S4 (S4.iD a3.inv (RL F a3)) VJ
  rcases hg with rfl|rfl<;>exact⟨k,j9 _,h4,RH,PW,bL,nT,j+1,PH.trans S4,a4,YE,Hn⟩
 .refine HN S.inv a'.qj wk it' r4 λh2 eb=>?_;have S2:=S.Ny nI xI (it'.lX S.inv) it'.uf eb;exact wpAny_execs_nil (H' h2 tk cY .next S2 (At.but fX S2 a' eb it'.uf Mh.1 Mh.2) .next)
end
section
variable{E:Q3}
theorem Wa{x:Str}{pos:Pos}{v:U}(S:vB X G Nm)(ok:Ok X hd d A l env cx)(a:At X hd A l env cx s.heap ρ σ B)(hc:BK G cx x= .lit v)(H:∀r,VR X s.heap ρ v r->Q r s):wpAny X.M A (eval (.Name x pos) env) Q E s:=by
 have nw:∀e:Mine.Internal.E,aV X.T (λ_ _ _ _=>.bad) false e [] []= .bad->e= .lit v->False:=λe h q=>by subst q;exact nomatch (show Res.ok v ([]:St)= .bad from h)
 have nz:=nw .bad Z;refine lF (P:=(·=Mine.Internal.E.lit v)) nz hc λJi hc=>?_;have Ji:=vM _▸Ji
 cases hi:look cx.slots x with
 |some i=>rw[hi] at hc;exact(nw _ Z hc).elim
 |none=>rw[hi] at hc;refine jZ (P:=(·=Mine.Internal.E.lit v)) nz hc λk hk hc=>lF (P:=(·=Mine.Internal.E.lit v)) nz hc λhg hc=>jZ (P:=(·=Mine.Internal.E.lit v)) nz hc λv' hv hc=>?_;injection hc with hc;exact H5 S ok a (FZ (or_false Ji).1) (by rw[hk];exact congrArg some (dB hg)) hv λr V=>H r (hc▸V)
theorem Ou(S0:vB X G Nm)(XS:∀c,X.T.isExc c=true->qU X c)(PT:QX X G Nm Φ d n){body:List Stmt}{t:Expr}{x:Str}{px:Pos}{nm:Option Str}{hb:List Stmt}{rx pos:Pos}{Q:Q4}{c:Nat}(ok:Ok X hd d A l env cx)(F:Fm cx l env CE)(a:At X hd A l env cx s.heap ρ σ B)
  (II:hd=false) (ht:t= .Name x px) (hc:BK G cx x= .lit (.cls c)) {jn:za9} (hj:nm=none/\jn=none\/∃y j,nm=some y/\jn=some j/\(y,j)∈cx.slots)
  (H:aY X hd A l env cx CE (zm X.T Φ (.zO (body.map (cS G Nm n cx)) c jn (hb.map (cS G Nm n cx))) hd B σ) s ρ Q E):wpAny X.M A (exec (.Try body [.ExceptHandler (some t) nm hb rx] [] [] pos) env) Q E s:=by
 subst II ht;refine wpAny_Try_except (PT false A l env cx CE body B s ρ σ _ _ ok F a ?_);rw[wI] at H;generalize hr:aN X.T Φ (body.map (cS G Nm n cx)) false B σ=r at H
 cases r with
 |bad=>exact H
 |done f bx σ'=>
  intro h' tk cY g S a' fl;have q:=H h' tk cY g S a' fl
  cases fl with
  |next=>exact wpAny_execs_nil q
  |cont=>exact q
  |ret V=>exact q
 |exc i bx σ'=>
  intro h' tk cY p cu fu S a' hp hu vc;refine Yu (P:=λr=>aY X false A l env cx CE r s ρ Q E) id H λc' fs hu' H=>H.gd λIS H4=>?_;rw[hu] at hu';cases hu';obtain⟨IS,hx⟩:=and_true IS
  cases dB IS
  have gz:=XS _ hx;refine Gb ok F a S a' hp hu vc λeZ eN vA gE=>?_;refine tX none a eN vA hp hu gE λs6 wZ J5 vv=>?_;obtain⟨ox,vs,x1,x2,x3,x4⟩:=Uk wZ.inv hp hu;have am:=J5.mark (gn ox vs x1 x3 x4);have ED:Ok X true d (A.mark (some (.ref p.1))) l env cx:=ok.mark _;refine wpAny_handleBy_cons (codeAny_handlers_test ?_) (by intro q;cases q);refine Wa S0 ED am hc λcv V=>?_;have V:=V;subst V;refine Jr gz S0.Jo wZ.inv.low (aZ ox x1 x2) ?_;rw[bz Z]
  dsimp only
  refine Bk<|tX none a wZ J5 hp hu vv λYR vw uj aah=>?_;obtain⟨Sm,QP,y1,y2,y3,y4⟩:=Uk vw.inv hp hu;have PE:=uj.mark (gn Sm QP y1 y3 y4)
  rcases hj with⟨rfl,rfl⟩|⟨y,j,rfl,rfl,M0⟩
  .refine PT true _ l env cx CE hb bx _ cY σ' _ _ ED F PE ?_;have H:=H4;generalize aN X.T Φ (hb.map (cS G Nm n cx)) true bx σ'=r2 at H ⊢
   cases r2 with
   |bad=>exact H
   |exc=>exact H.elim
   |done f GW vx=>exact λh5 Me PV g S5 a5 fl=>H h5 Me PV g (vw.trans S5) (uj.unmark S5 a5) fl
  .refine iT (v:=.ref i) ED F PE M0 (.inr (aZ p hp Z)) λh5 Me S5 a5 _=>?_;refine PT true _ l env cx CE hb _ _ cY σ' _ _ ED F a5 ?_;have H:aY X false A l env cx CE (My (aN X.T Φ (hb.map (cS G Nm n cx)) true (bx.set j (.ref i)) σ') λf B σ=>gd .bad (decide (j<B.length)) (.done f (B.set j .L) σ)) s ρ Q E:=H4;generalize aN X.T Φ (hb.map (cS G Nm n cx)) true (bx.set j (.ref i)) σ'=r2 at H ⊢
   cases r2 with
   |bad=>exact H
   |exc=>exact H.elim
   |done f GW vx=>
    intro h6 tk6 PU g S6 a6 fl;refine aY.gd H λrE H=>?_;have a6':=uj.unmark (S5.trans S6) a6;refine KR ok F a6' M0 (eY rE) λh7 RF S7 a7 RU=>?_;refine H h7 RF PU g (((vw.trans S5).trans S6).trans S7) a7 ?_
    cases fl with
    |next=>exact .next
    |cont=>exact .cont
    |ret V=>exact .ret (VR.mono RU (jF.refl _) _ _ V)
end
section
variable{E:Q3}
theorem KC{α β:Type}(r:Res α)(B:Loc)(f:α->St->Res β)(g:β->St->SR):fZ (r.bind f) B g=fZ r B λv σ=>fZ (f v σ) B g:=by
 cases r<;>rfl
theorem Fp(SS:X.h₀.NoLimit)(ih:uo X G Nm X.T Φ d n){elt iter:Expr}{x y:Str}{px py:Pos}{sc:Scope}{pos KN:Pos}{i j:Nat}{Q:Q4}(ke:swapsWith (.ListComp elt [⟨.Name x px,iter,[],0⟩] sc pos) (some (.Name y py)) KN.line env=pure true)
  (F:o9 cx sc x iter) (ok:Ok X hd d A l env cx) (Fr:Fm cx l env CE) (hi:place cx.cv x cx.base=some i) (hj:(y,j)∈cx.slots)
  (a:At X hd A l env cx s.heap ρ σ B) (H:aY X hd A l env cx CE (fZ (aV X.T Φ hd (.comp (cE G Nm n (inner cx x i sc.names) elt) i (cE G Nm n cx iter)) B σ) B λv σ=>.done .next (B.set j v) σ) s ρ Q E):
  wpAny X.M A (exec (.Assign [.Name y py] (.ListComp elt [⟨.Name x px,iter,[],0⟩] sc pos) KN) env) Q E s:=by
 rw[exec_Assign_Name_used _ _ _ _ ke];refine aU (oY (aU ?_));have cl:=qQ F ok a
 refine aU (pM (wpAny_comprehension_free Z (λx=>qP F.it) (BJ λp hp hf=>(cl p hp hf).2) F.kind (λy hy hl=>by obtain⟨y1,y2⟩:=y;cases hl;exact mem_lookup F.nd hy) ?_)
  (λ_ s' hq=>cF (cF hq)) λ_ _ e=>e)
 rw[Xx,KC] at H;refine ih hd A l env cx iter B s ρ σ _ E ok a (H.ev a λv aC aJ cj aM xv _ bI V bC=>?_);have fX:=a.step bI;have nz:aY X hd A l env cx CE (fZ (.bad:Res U) B λv σ=>.done .next (B.set j v) σ) {s with heap:=aJ,toks:=cj} aM Q E->False:=λq=>q;refine lF (P:=λr=>aY X hd A l env cx CE (fZ r B λv σ=>.done .next (B.set j v) σ) {s with heap:=aJ,toks:=cj} aM Q E) nz bC λwk bC=>?_
 cases hr:qR X G Nm Φ hd n cx x i sc elt v B aC with
 |exc i' σ'=>exact absurd hr JP
 |bad=>unfold qR at hr;rw[hr] at bC;exact bC.elim
 |ok acc σ'=>
  unfold qR at hr;rw[hr] at bC;refine Bx SS ih F ok (place_ge hi) wk fX V hr λAM BC h' tk m cY hC tf iL fC x0 n0 S R=>?_
  have E3:¬foot (cY++[(AM,AM)]) BC:=λf=>by
   rcases nW.mp f with f|⟨r,hr,hb⟩
   .exact fC f
   .rw[Df] at hr;subst hr
    rcases hb with hb|hb<;>exact tf hb.symm
  have a':=fX.step (S:Step X l uA aJ aM h' _ _);have ow:=fX.DK n0;have VJ:=O8 ow.1 ow.2;refine wpAny_assign_Name (iT ok Fr a' hj (.inr R) λh2 YM S2 a2 FV=>?_);obtain⟨oC,g1,g2⟩:=hC
  have g3:h2.get? BC=some oC:=by
   rcases S2.keep BC oC g1 E3 VJ with q|⟨q,_⟩
   .exact q
   .rw[g2] at q;exact absurd q Y
  refine(aZ m (iL.at' λo e=>by rw[g1] at e;cases e;exact g3) (λh3 sb=>?_));have S':=(Step.mono (S:Step X l uA aJ aM h' _ _) λ_ f=>f.elim).trans S2;have S3:=Eo S' n0 x0 E3 (aZ oC g3 g2) sb;have a3:=At.but fX S3 a2 sb.extBut (Bh g3 g2) ow.1 ow.2;exact bC h3 YM _ .next S3 a3 .next
theorem rN{t:Expr}{i:Nat}(e:Fq cx t=some i):∃x p,t= .Name x p/\(x,i)∈cx.slots:=
 GQ (z:=none) (P:=(·=some i)) (m:=λt=>∃x p,t= .Name x p/\(x,i)∈cx.slots) (λq=>nomatch q) e λx p e=>(dK x p Z (jL e))
theorem vW{t:Expr}{es:zb0}{is:Sa}(h:slotsOf cx (t::es)=some is):∃x p i js,t= .Name x p/\(x,i)∈cx.slots/\slotsOf cx es=some js/\is=i::js/\assignEach (t::es) env=(false,assign t env)::assignEach es env:=by refine jZ (z:=none) (P:=(·=some is)) (λq=>nomatch q) h λi e1 h1=>?_;obtain⟨js,e2,h2⟩:=zb3 h1;obtain⟨x,p,rfl,hx⟩:=rN e1;exact(bS x p i js Z hx e2 h2.symm Z)
theorem MF{es:zb0}:∀{is:Sa},slotsOf cx es=some is->(assignEach es env).length=is.length/\(assignEach es env).findIdx? (·.1)=none:=by
 induction es with
 |nil=>intro is h;cases h;exact⟨Z,Z⟩
 |cons t es ih=>intro is h;obtain⟨x,p,i,js,_,_,e2,rfl,e⟩:=vW h;obtain⟨i1,i2⟩:=ih e2;rw[e,List.findIdx?_cons,i2];exact⟨congrArg (·+1) i1,Z⟩
theorem Ys{is:Sa}:∀{vs:Th} {B bx:Loc},Yt is vs B=some bx->is.length=vs.length:=by
 induction is with
 |nil=>intro vs B bx h;cases vs<;>first|rfl|cases h
 |cons i is ih=>intro vs B bx h;cases vs<;>first|cases h;done|exact congrArg (·+1) (ih h)
theorem U3(ok:Ok X hd d A l env cx)(F:Fm cx l env CE){σ:St}{Q:za2}{bx:Loc}{ρ:Su}{es:zb0}:∀{is:Sa} {vs:Th} {xs:Tu} {B:Loc} {s:Shared},slotsOf cx es=some is->Yt is vs B=some bx->cA X s.heap ρ vs xs->
  At X hd A l env cx s.heap ρ σ B->(∀ h' tk,Step X l (own env) s.heap ρ h' ρ σ->At X hd A l env cx h' ρ σ bx->Q () {s with heap:=h',toks:=tk})->wpAny X.M A (assignInOrder ((assignEach es env).map (·.2)) xs) Q E s:=by
 induction es with
 |nil=>
  intro is vs xs B s h1 h2 W a hQ
  cases h1
  cases vs with
  |cons=>cases h2
  |nil=>
  cases h2
  exact cF (hQ s.heap s.toks (Step.refl a.inv) a)
 |cons t es ih=>
  intro is vs xs B s h1 h2 W a hQ;obtain⟨x,p,i,js,rfl,hx,e2,rfl,e⟩:=vW h1
  cases vs with
  |nil=>cases h2
  |cons v vs=>
  obtain⟨r,xs',rfl,V,W'⟩:=W;rw[e];refine aU (kh (wpAny_assign_Name (iT ok F a hx (.inr V) λh' tk S a' st=>?_)));exact ih e2 h2 (cA.mono st (jF.refl _) _ _ W') a' λh'' tk'' LN LG=>hQ h'' tk'' (S.trans LN) LG
theorem mH{v:Expr}{m:Nat}{t:Option Expr}{ln:Nat}(h:uV v=false)(hb:cE G Nm (m+1) cx v≠.bad):swapsWith v t ln env=pure false:=by
 cases v<;>first|rfl|cases h;done|exact absurd Z hb
theorem RG{v:Expr}{m:Nat}(hb:cE G Nm (m+1) cx v≠.bad):isSet v=false:=by
 cases v<;>first|rfl|exact absurd Z hb
theorem Cp{ts:zb0}{k:Nat}{p:Pos}{v:Expr}(h:PQ v=false):swappedStores [.Tuple ts k p] v env=pure none:=by
 cases v<;>first|rfl|cases h
end
section
variable{E:Q3}
theorem aY.ok{bx:Loc}{Q:Q4}{h':Heap}{tk:Nat}{cY:Su}{σ':St}(H:aY X hd A l env cx CE (.done .next bx σ') s ρ Q E)(S:Step X l (own env) s.heap ρ h' cY σ')(a:At X hd A l env cx h' cY σ' bx):Q .next {s with heap:=h',toks:=tk}:=
 H h' tk cY .next S a .next
theorem aY.store{r:Option St}{Q:Q4}(H:aY X hd A l env cx CE (Ac r B) s ρ Q E)(a:At X hd A l env cx s.heap ρ σ B):jA X l r s ρ (λs'=>Q .next s'):=by
 cases r with
 |none=>exact H
 |some σ'=>exact λh' tk cY S=>H h' tk cY .next (S.mono λ_ f=>f.elim) (a.step S) .next
theorem Ei{e:Mine.Internal.E}{f:U->St->SR}{Q:Q4}(H:aY X hd A l env cx CE (fZ (aV T Φ hd e B σ) B f) s ρ Q E):e≠.bad:=λz=>by subst z;exact H
section
variable{P:Prop}{Q:Q4}
theorem aY.sS{α:Type}{o:Option α}{f:α->Mine.Internal.S}(H:aY X hd A l env cx CE (zm T Φ (Mine.Internal.ig jx o f) hd B σ) s ρ Q E)(k:∀a,o=some a->aY X hd A l env cx CE (zm T Φ (f a) hd B σ) s ρ Q E->P):P:=by cases o<;>first|exact k _ Z H|exact H.elim
theorem aY.sG{c:Bool}{r:Mine.Internal.S}(H:aY X hd A l env cx CE (zm T Φ (Mine.Internal.gd jx c r) hd B σ) s ρ Q E)(k:c=true->aY X hd A l env cx CE (zm T Φ r hd B σ) s ρ Q E->P):P:=by cases c<;>first|exact k Z H|exact H.elim
@[elab_as_elim] theorem aY.s1{α:Type}{as:List α}{m:List α->Prop}{f:α->Mine.Internal.S}(H:aY X hd A l env cx CE (zm T Φ (Mine.Internal.iM jx as f) hd B σ) s ρ Q E)(k:∀a,aY X hd A l env cx CE (zm T Φ (f a) hd B σ) s ρ Q E->m [a]):m as:=
 pG (P:=λe=>aY X hd A l env cx CE (zm T Φ e hd B σ) s ρ Q E) id H λa e H=>by subst e;exact k a H
@[elab_as_elim] theorem aY.s0{α:Type}{as:List α}{m:List α->Prop}{f:Mine.Internal.S}(H:aY X hd A l env cx CE (zm T Φ (Mine.Internal.tK jx as f) hd B σ) s ρ Q E)(k:aY X hd A l env cx CE (zm T Φ f hd B σ) s ρ Q E->m []):m as:=by cases as<;>first|exact k H|exact H.elim
set_option tactic.hygienic true in
theorem aY.Od{r:Res U}{f:Bool->St->SR}(H:aY X hd A l env cx CE (fZ r B λv σ=>lB .bad v λc=>f c σ) s ρ Q E):aY X hd A l env cx CE (fZ (Od r) B f) s ρ Q E:=by
 cases r<;>first|exact H|(rename_i v σ;cases v<;>exact H)
end
section
variable{β:Type}{z:β}{P:β->Prop}(nz:P z->False)
include nz
@[elab_as_elim] theorem sq{e:Expr}{m:Expr->Prop}{f:Expr->Expr->Pos->β}(h:P (ug z e (su:=f)))(k:∀x i p,P (f x i p)->m (.Subscript x i p)):m e:=mj h (Q2 nz) (PM nz) (OK nz) (Of nz) (OK nz) (OK nz) (OK nz) k (Of nz) (PM nz) (Of nz) (OK nz)
theorem gv{o:zb1}{f:Nat->List (Nat×U)->β}{G:Prop}(H:P (Yz z o f))(k:∀c fs,o=some (.exc c fs)->P (f c fs)->G):G:=by
 cases o with
 |none=>exact(nz H).elim
 |some o=>cases o<;>first|exact k _ _ Z H|exact(nz H).elim
@[elab_as_elim] theorem RM{hs:List ExceptHandler}{m:List ExceptHandler->Prop}{f:Expr->Option Str->List Stmt->β}(H:P (O2 z hs f))(k:∀t nm h p,P (f t nm h)->m [.ExceptHandler (some t) nm h p]):m hs:=by
 cases hs with
 |nil=>exact(nz H).elim
 |cons a r=>
  obtain⟨t,nm,h,p⟩:=a
  cases t<;>cases r<;>first|exact k _ _ _ _ H|exact(nz H).elim
end
theorem Jc{v:Expr}(h:uV v=true):∃e g s p,v= .ListComp e g s p:=by
 cases v<;>first|cases h;done|exact(HK _ _ _ _ Z)
theorem vj{o:Operator}{o':YZ}(ho:DA o=some o')(h:(o'== .add)=true):o= .Add:=by
 cases o<;>first|rfl|(cases ho;done)|(cases ho;cases h)
set_option tactic.hygienic true in
theorem I9{e:Mine.Internal.E}{c:Nat}(h:Wj e=some c):e= .lit (.cls c):=by
 cases e<;>first|cases h;done|skip
 rename_i v
 cases v<;>first|cases h;done|skip
 cases h;rfl
theorem Nb{t:Expr}{c:Nat}(h:kH G cx t=some c):∃x p,t= .Name x p/\BK G cx x= .lit (.cls c):=
 GQ (z:=none) (P:=(·=some c)) (m:=λt=>∃x p,t= .Name x p/\BK G cx x= .lit (.cls c)) (λq=>nomatch q) h λx p e=>(dK x p Z (I9 e))
theorem Zu{v:U}{x y:Value}(V:VR X s.heap ρ a x)(W:VR X s.heap ρ b y)(e:gc a b=some v){Q:Q3}(hQ:∀r tk,VR X s.heap ρ v r->Q r {s with toks:=tk}):wpAny X.M A (inplaceOp .Add x y) Q E s:=by
 have nn:(none:Option U)=some v->False:=λq=>nomatch q
 cases a<;>first|cases e;done|skip
 .refine ni (P:=(·=some v)) nn e λk e1 e2=>?_;subst e1;cases(e2);obtain⟨t,rfl⟩:=V;obtain⟨u,rfl⟩:=W;exact iadd_int (hQ _ _ ⟨_,Z⟩)
 .refine ud (P:=(·=some v)) nn e λk e1 e2=>lF (P:=(·=some v)) nn e2 λhl e2=>?_;subst e1;cases(e2);obtain⟨v1,t,rfl⟩:=V;obtain⟨w1,u,rfl⟩:=W;refine SB.iadd (λt' k=>hQ _ k ⟨eY hl,t',by rw[vR]⟩) ?_;have:=sizeLine_eq;unfold LL at v1 w1;simp only[Str.length];simp only[jJ];exact bO (rH v1 w1) (dl Z)
theorem Mp{x:Str}{i:Nat}(ok:Ok X hd d A l env cx)(F:Fm cx l env CE)(a:At X hd A l env cx s.heap ρ σ B)(hx:(x,i)∈cx.slots)(H:aB X l (VR X) (aV T Φ hd (.B i) B σ) s ρ Q E):wpAny X.M A (loadName env x) Q E s:=by
 obtain⟨m,Eb,hl⟩:=a.B;obtain⟨w,N,hv⟩:=hl x i hx;rw[GX] at H;refine H.ig λv hg H=>?_
 rcases hv v hg with rfl|⟨r,rfl,V⟩
 .exact H.elim
 .have q:=H.Tf.q9 a.inv V
  rcases N with⟨k,hm⟩|⟨k|k,c,hc,jM⟩
  .exact wpAny_loadName_local ok.kind k Eb hm q
  .exact wpAny_loadName_cell ok.kind k hc jM q
  .rcases F.slots x i hx with z|z<;>rw[k] at z<;>cases z
theorem Ii{m:Sem Value}{Q:Q4}(h:wpAny X.M A m (λv mD=>wpAny X.M A (raiseStmt env (some (pure v)) none) Q E mD) E s):wpAny X.M A (raiseStmt env (some m) none) Q E s:=by
 unfold raiseStmt;refine aU (pM h (λv mD q=>?_) λ_ _ x=>x);unfold raiseStmt at q
 dsimp only at q
 rw[pure_bind] at q;exact q
set_option maxHeartbeats 4000000 in
set_option tactic.hygienic true in
theorem yT(S:vB X G Nm)(AD:Bn X)(mi:Ke X Φ d)(FO:Eu X Φ)(N:Kf X Φ d)(oD:YJ X G Nm Φ d)(XS:∀c,X.T.isExc c=true->qU X c):∀n,gT X G Nm Φ d n:=by
 have sE:=ip S AD mi FO N oD;have sT:gS X G Nm X.T Φ d 40:=ij λm _=>sE m;intro n
 induction n with
 |zero=>intro hd A l env cx CE st B s ρ σ Q E ok F a H;exact H.elim
 |succ n ih=>
 have PT:=K4 ih;intro hd A l env cx CE st B s ρ σ Q E ok F a H
 cases st<;>try exact H.elim
 case Expr v pos=>
  refine H.sG λhc H=>?_;have hint:interactive env=false:=by unfold interactive;rw[ok.kind];rfl
  refine wpAny_Expr_any (sE 40 hd A l env cx v B s ρ σ _ E ok a (H.ev a λv aC aJ cj aM x _ bI V bC=>?_)) hint (mH (sJ hc) (Ei H));exact bC aJ cj aM .next (Step.refl bI.inv) (a.step bI) .next
 case Return v pos=>
  cases v with
  |none=>exact wpAny_Return_none (H s.heap s.toks ρ (.ret .none) (Step.refl a.inv) a (.ret Z))
  |some v=>refine wpAny_Return_some (sE 40 hd A l env cx v B s ρ σ _ E ok a (H.ev a λv aC aJ cj aM x _ bI V bC=>?_));exact bC aJ cj aM (.ret x) (Step.refl bI.inv) (a.step bI) (.ret V)
 case Delete ts pos=>
  refine aY.s1 H λt H=>?_;refine sq (e:=t) (P:=λe=>aY X hd A l env cx CE (zm X.T Φ e hd B σ) s ρ Q E) id H λo sl p2 H=>?_;refine Qm (z:=jx) (P:=λe=>aY X hd A l env cx CE (zm X.T Φ e hd B σ) s ρ Q E) (m:=λsl=>wpAny X.M A (exec (.Delete [.Subscript o sl p2] pos) env) Q E s) (λlo hi st p1 H=>?_) (λ_ q=>q.elim) sl H
  cases lo with
  |none=>exact H.elim
  |some lo=>
  refine aY.sG H λhc H=>?_
  cases hi with
  |some _=>cases hc
  |none=>
  cases st with
  |some _=>cases hc
  |none=>
  refine wpAny_Delete (wpAny_deleteEach_cons ?_);refine aU (sE 40 hd A l env cx o B s ρ σ _ E ok a (H.ev a λv aC aJ cj aM x _ bI V bC=>?_));have fX:=a.step bI;refine aU (kh (wpAny_Slice ?_));rw[evalPart_some,evalPart_none];refine sE 40 hd A l env cx lo B _ aM aC _ E ok fX (bC.ev fX λw bL eZ o4 jd y _ eN W jc=>?_);refine cF (cF (aU (oY (aU (kh ?_)))));refine pM (U6 eN.inv (eN.vr bI.inv V) W (jc.store (fX.step eN))) (λ_ s' q=>?_) λ_ _ x=>x;exact wpAny_release (wpAny_deleteEach_nil q)
 case Assign ts v pos=>
  refine aY.s1 H λt H=>?_;refine CM (P:=λe=>aY X hd A l env cx CE (zm X.T Φ e hd B σ) s ρ Q E) (m:=λt=>wpAny X.M A (exec (.Assign [t] v pos) env) Q E s) id H (λx p H=>?a) (λo at_ p H=>?c) (λes k p H=>?b) (λo i p H=>?d)
  case a=>
   refine aY.sS H λi hi H=>?_;have hx:=jL hi;have w9:=Ei H
   cases hc:uV v with
   |false=>refine wpAny_Assign_Name (sE 40 hd A l env cx v B s ρ σ _ E ok a (H.ev a λv aC aJ cj aM r _ bI V bC=>?_)) (mH hc w9);have fX:=a.step bI;exact iT ok F fX hx (.inr V) λh' tk S' a' _=>bC.ok S' a'
   |true=>
    obtain⟨elt,gens,sc,cp,rfl⟩:=Jc hc;have ke:∃b,swapsWith (.ListComp elt gens sc cp) (some (.Name x p)) pos.line env=pure b:=⟨_,Z⟩;obtain⟨b,ke⟩:=ke
    cases b with
    |false=>refine wpAny_Assign_Name (sE 40 hd A l env cx _ B s ρ σ _ E ok a (H.ev a λv aC aJ cj aM r _ bI V bC=>?_)) ke;have fX:=a.step bI;exact iT ok F fX hx (.inr V) λh' tk S' a' _=>bC.ok S' a'
    |true=>refine O1 (P:=λe=>aY X hd A l env cx CE (fZ (aV X.T Φ hd e B σ) B λv σ=>.done .next (B.set i v) σ) s ρ Q E) (m:=λgens=>swapsWith (.ListComp elt gens sc cp) (some (.Name x p)) pos.line env=pure true->wpAny X.M A (exec (.Assign [.Name x p] (.ListComp elt gens sc cp) pos) env) Q E s) id H (λy py it H ke=>?_) ke;refine jZ (P:=λe=>aY X hd A l env cx CE (fZ (aV X.T Φ hd e B σ) B λv σ=>.done .next (B.set i v) σ) s ρ Q E) id H λj hj H=>lF (P:=λe=>aY X hd A l env cx CE (fZ (aV X.T Φ hd e B σ) B λv σ=>.done .next (B.set i v) σ) s ρ Q E) id H λhf H=>?_;exact Fp S.pX (sE 39) ke (Qz hf) ok F hj hx a H
  case b=>
   refine aY.sS H λis NF H=>H.sG λhc H=>?_;obtain⟨c1,c2⟩:=and_true hc
   cases hd with
   |true=>exact H.elim
   |false=>
   refine Assign_Tuple (sE 40 false A l env cx v B s ρ σ _ E ok a (aY.ev H a λv aC aJ cj aM r _ bI V bC=>?_)) (show swapsWith v (some (.Tuple es k p)) pos.line env=pure false from mH (sJ c2) (Ei H)) (Cp (sJ c1))
   .have fX:=a.step bI;refine QQ (P:=λr=>aY X false A l env cx CE r {s with heap:=aJ,toks:=cj} aM Q E) id bC λvs e bC=>bC.ig λbx hl jc=>?_;subst e;obtain⟨_,ad,xs,nn,rfl,ht,W⟩:=V;obtain⟨f1,f2⟩:=MF NF;have lv:=cA.length W;have la:=Ys hl;refine PySem.wpAny_assign_Tuple (a.qj.1 Z) ⟨_,ht,Z,nn,Z⟩ (by rw[f1,jJ,lv,la]) f2 λh' eb=>?_;have K:∀b o,aJ.get? b=some o->h'.get? b=some o:=λb o e=>eb b o (iV (vN e)) e;have S2:Step X l uA aJ aM h' aM aC:=Step.keeps bI.inv K;refine U3 ok F NF hl (S2.FD bI.inv W) (fX.step S2) λh'' tk S' a'=>?_;exact jc.ok ((Step.mono S2 λ_ f=>f.elim).trans S') a'
  case c=>refine aY.sS H λk hk H=>H.sG λhc H=>?_;obtain⟨BI,rE⟩:=S.nm at_ k hk;refine wpAny_Assign_stores (sE 40 hd A l env cx v B s ρ σ _ E ok a (H.ev a λv aC aJ cj aM r _ bI V bC=>?_)) (show swapsWith v (some (.Attribute o at_ p)) pos.line env=pure false from mH (sJ hc) (Ei H)) Z;have fX:=a.step bI;refine aU (kh (sE 40 hd A l env cx o B _ aM aC _ E ok fX (bC.ev fX λw bL eZ o4 jd y _ eN W jc=>?_)));have vA:=fX.step eN;refine aU (oY (aU (kh ?_)));rw[<- BI];refine pM (HR S.pX S.Jo S.inj eN.inv rE W (eN.vr bI.inv V) (jc.store vA)) (λ_ s' q=>?_) λ_ _ x=>x;exact wpAny_release q
  case d=>refine aY.sG H λhc H=>?_;refine wpAny_Assign_Subscript (sE 40 hd A l env cx v B s ρ σ _ E ok a (H.ev a λv aC aJ cj aM r _ bI V bC=>?_)) (mH (sJ (and_true hc).2) (Ei H));have fX:=a.step bI;refine sE 40 hd A l env cx o B _ aM aC _ E ok fX (bC.ev fX λw bL eZ o4 jd y _ eN W jc=>?_);have vA:=fX.step eN;refine sE 40 hd A l env cx i B _ jd bL _ E ok vA (jc.ev vA λu CX s6 x8 xl z _ wZ vc YK=>?_);have J5:=vA.step wZ;exact KY wZ.inv ok.room (wZ.vr eN.inv W) vc (wZ.vr eN.inv (eN.vr bI.inv V)) (YK.store J5)
 case AugAssign t op v pos=>
  refine aY.sS H λi hi H1=>aY.sS H1 λo ho H2=>?_;obtain⟨x,p,rfl,hx⟩:=rN hi;refine wpAny_AugAssign_Name (Mp ok F a hx (aY.ev H2 a λv1 aC aJ cj aM x1 _ bI V bC=>?_));have fX:=a.step bI;refine sE 40 hd A l env cx v B _ aM aC _ E ok fX (bC.ev fX λw bL eZ o4 jd y _ eN W jc=>?_);have vA:=fX.step eN;refine jc.gd λIY jc=>jc.ig λv2 Y2 YK=>?_
  cases vj ho IY
  refine Zu (eN.vr bI.inv V) W Y2 λr FI R=>?_;exact iT ok F vA hx (.inr R) λh' tk S' a' _=>YK.ok S' a'
 case For t it b o pos=>refine aY.sS H λi hi H=>?_;refine aY.s0 H λH1=>?_;obtain⟨x,p,rfl,hx⟩:=rN hi;exact Zt (sE 40) PT (RG (Ei H1)) ok F a hx H1
 case While t b o pos=>exact aY.s0 (as:=o) H λH=>Rm sT PT ok F a H
 case If t b o pos=>
  have H:=aY.Od H;refine wpAny_If (sT hd A l env cx t B s ρ σ _ E ok a (H.ev a λv aC aJ cj aM c _ bI V bC=>?_))
  cases(V:v=c)
  cases v with
  |true=>exact PT hd A l env cx CE b B _ aM aC Q E ok F (a.step bI) bC
  |false=>exact PT hd A l env cx CE o B _ aM aC Q E ok F (a.step bI) bC
 case Raise e c pos=>
  cases e with
  |none=>exact H.elim
  |some e=>
  cases c with
  |some _=>exact H.elim
  |none=>
  cases hd with
  |true=>exact H.elim
  |false=>
  rw[arm_exec_Raise];refine aU (oY ?_);refine Ii (aU (sE 40 false A l env cx e B s ρ σ _ E ok a (H.ev a λv aC aJ cj aM x _ bI V bC=>aU (oY (cF ?_)))));have fX:=a.step bI;refine ue (P:=λr=>aY X false A l env cx CE r {s with heap:=aJ,toks:=cj} aM Q E) id bC λi e bC=>gv (P:=λr=>aY X false A l env cx CE r {s with heap:=aJ,toks:=cj} aM Q E) id bC λcc fs he bC=>bC.gd λhx jc=>?_;subst e;exact Rp (s:={s with heap:=aJ,toks:=cj}) XS S.Jo Z fX he hx V jc λq=>cF q
 case Try b hs o f pos=>
  refine RM (z:=jx) (hs:=hs) (P:=λe=>aY X hd A l env cx CE (zm X.T Φ e hd B σ) s ρ Q E) id H λt nm h hp H=>?_;refine aY.s0 (as:=o) H λH=>aY.s0 (as:=f) H λH=>aY.sS H λc rX H4=>?_;obtain⟨x,px,rfl,hc'⟩:=Nb rX
  cases hd with
  |true=>cases nm with
   |none=>exact H4.elim
   |some y=>exact aY.sS (o:=look cx.slots y) H4 λj hj H=>H.elim
  |false=>cases nm with
   |none=>exact Ou S XS PT ok F a Z Z hc' (.inl ⟨Z,Z⟩) H4
   |some y=>exact aY.sS (o:=look cx.slots y) H4 λj hj H=>Ou S XS PT ok F a Z Z hc' (.inr (gn y j Z Z (jL hj))) H
 case Continue pos=>show wpAny X.M A (do standAt pos;pure .cont) Q E s;exact aU (oY (cF (H s.heap s.toks ρ .cont (Step.refl a.inv) a .cont)))
end
def DfltsAre(h:Heap)(v:Value)(items:Tu):Prop:=(v= .none/\items=[])\/∃T o n,v= .ref T/\h.get? T=some o/\o.data= .seq items.toArray n
variable{i:Nat}
theorem qm{names:za3}{vals:Tu}(nd:names.Nodup){n:Str}(hn:names[i]?=some n):(names.zip vals).lookup n=vals[i]?:=by
 induction names generalizing vals i with
 |nil=>cases hn
 |cons m r ih=>
  cases vals with
  |nil=>simp
  |cons v vs=>
   rw[List.zip_cons_cons,pK]
   cases i with
   |zero=>rw[List.getElem?_cons_zero] at hn;cases hn;simp
   |succ i=>
    rw[rJ] at hn;have:n≠m:=λz=>by subst z;exact(List.nodup_cons.mp nd).1 (gq hn)
    rw[zb4 this];rw[rJ];exact ih (List.nodup_cons.mp nd).2 hn
variable{α:Type}
theorem Ar{l r:List (Str×α)}{n:Str}:(l++r).lookup n=(l.lookup n).or (r.lookup n):=by rw[List.lookup_append]
variable{M:Model}
section
variable{E:Q3}
theorem xY(f:Str×Value->List (Str×Value)->Sem (ForInStep (List (Str×Value))))(hf:∀n d sl,f (n,d) sl=if(sl.lookup n).isNone then pure (.yield (sl++[(n,d)])) else pure (.yield sl)):
  ∀(l:List (Str×Value)) (sl:List (Str×Value)),(l.map (·.1)).Nodup->forIn l sl f=pure (sl++l.filter λp=>(sl.lookup p.1).isNone)
 |[],sl,_=>by simp
 |(n,d)::l,sl,nd=>by
  rw[cH,List.nodup_cons] at nd;rw[List.forIn_cons,hf]
  cases h:(sl.lookup n).isNone with
  |true=>
   simp only[if_true,pure_bind];rw[xY f hf l _ nd.2,List.filter_cons_of_pos (by simpa using h),bw]
   congr 2
   rw[List.singleton_append]
   congr 1
   apply List.filter_congr;intro p hp;rw[Ar];have:p.1≠n:=λz=>nd.1 (by rw[<- z];exact List.mem_map_of_mem (f:=(·.1)) hp);rw[pK,zb4 this];simp
  |false=>simp only[yl,if_false,pure_bind];rw[xY f hf l _ nd.2,List.filter_cons_of_neg (by simp[h])]
theorem uE:∀{names:za3} {w:Tu} {g:Str->Option Value},(∀ (i:Nat) (n:Str),names[i]?=some n->g n=w[i]?)->w.length=names.length->(names.filterMap λn=>(g n).map (n,·))=names.zip w
 |[],w,g,_,_=>by simp
 |n::r,w,g,h,hl=>by
  cases w with
  |nil=>cases hl
  |cons v w=>have h0:g n=some v:=h 0 n Z;rw[List.filterMap_cons,h0,List.zip_cons_cons];simp only[Option.map_some];rw[uE (λi m hm=>by have:=h (i+1) m (by rw[rJ];exact hm);rw[rJ] at this;exact this) (by simpa using hl)]
theorem ph{p:Str->Bool}{n:Str}:∀{l:List (Str×Value)},p n=true->(l.filter λq=>p q.1).lookup n=l.lookup n
 |[],_=>rfl
 |(m,v)::l,h=>by
  rw[List.filter_cons,pK]
  by_cases z:n=m
  .subst z;rw[bz h,pK];simp
  .rw[zb4 z]
   split
   .rw[pK,zb4 z];exact ph h
   .exact ph h
theorem fF{fd:FuncData}{a:Args}{binds:List (Str×Value)}{items:Tu}{k:Option (Array Value)->Sem (List (Str×Value))}(hd:DfltsAre s.heap fd.defaults items)(aJ:bindArgs fd a=seqItems? fd.defaults>>=k)(eZ:∀x,(x.getD #[]).toList=items->k x=pure binds):BindsTo s fd a binds:=by
 rcases hd with⟨e1,e2⟩|⟨T,o,n,e1,e2,e3⟩
 .refine BindsTo.of_eq (aJ.trans ?_);rw[e1];exact eZ none e2.symm
 .exact BindsTo.of_defaults e1 e2 e3 aJ (eZ _ (by simp))
theorem bind_eq{α β:Type}{m:Sem α}{v:α}{g:α->Sem β}{r:Sem β}(h:m=pure v)(k:g v=r):m>>=g=r:=by rw[h,pure_bind];exact k
theorem J1{fd:FuncData}{args:List Arg}{kd:List (Option Expr)}{ds:zb0}(hp:fd.params=⟨[],args,none,[],kd,none,ds⟩){items vals:Tu}(hd:DfltsAre s.heap fd.defaults items)(nd:(args.map (·.arg)).Nodup)
  (h1:vals.length<=args.length) (h2:args.length<=vals.length+items.length) (h3:items.length<=args.length):
  BindsTo s fd ⟨vals,[]⟩ ((args.map (·.arg)).zip (vals++items.drop (items.length - (args.length - vals.length)))):=by
 have hN:(args.map (·.arg)).length=args.length:=dN ..;rw[<- hN] at h1 h2 h3
 have e1:∀{x:Option (Array Value)},(x.getD #[]).toList=items->(x.getD #[]).toList.drop ((x.getD #[]).toList.length - (args.map (·.arg)).length)=items:=λhx=>by rw[hx,show items.length - (args.map (·.arg)).length=0 from Rw h3];rfl
 have e2:((args.map (·.arg)).take ((args.map (·.arg)).length - items.length)).filter (λn=>(((args.map (·.arg)).zip vals).lookup n).isNone)=[]:=by
  rw[List.filter_eq_nil_iff];intro n hn;obtain⟨i,hi⟩:=List.getElem?_of_mem hn
  have ET:i<(args.map (·.arg)).length - items.length:=by have:=(zb6 hi).1;rw[yh] at this;exact bj this (Nat.min_le_left _ _)
  rw[List.getElem?_take_of_lt ET] at hi;rw[qm nd hi,gM (bp4 h2 ET)];exact λq=>nomatch q
 have Sz:((((args.map (·.arg)).drop ((args.map (·.arg)).length - items.length)).zip items).map (·.1)).Nodup:=by refine List.Sublist.nodup ?_ nd;rw[List.map_fst_zip (by rw[lK];exact ss)];exact List.drop_sublist _ _
 cases fd with|mk name qual params body scope glob aag dflt kwd doc pym ann code ct bi=>
 have hp:=hp;subst hp;refine fF hd (k:=?k) ?h1 ?h2
 case h1=>exact Z
 case h2=>
 intro x hx;refine Eq.trans (bh ?c1) ?_
 case c1=>show ¬(decide (vals.length>((args.map (·.arg)).length))&&true)=true;rw[dY (Nat.not_lt.mpr h1)];decide
 refine Eq.trans (bh ?c2) ?_
 case c2=>rw[e1 hx,e2];decide
 refine bind_eq (xY _ (λn d sl=>rfl) _ _ ?c3) ?_
 case c3=>rw[e1 hx];exact Sz
 show(pure (List.filterMap (λn=>(List.lookup n ((args.map (·.arg)).zip vals++(((args.map (·.arg)).drop ((args.map (·.arg)).length - ((x.getD #[]).toList.drop ((x.getD #[]).toList.length - (args.map (·.arg)).length)).length)).zip ((x.getD #[]).toList.drop ((x.getD #[]).toList.length - (args.map (·.arg)).length))).filter λp=>(((args.map (·.arg)).zip vals).lookup p.1).isNone)).map (n,·)) (args.map (·.arg)++[])):Sem (List (Str×Value)))=_;rw[e1 hx,dH,<-hN];generalize args.map (·.arg)=names at nd h1 h2 h3;refine congrArg (λl=>(pure l:Sem (List (Str×Value)))) (uE (λi n hn=>?_) (by rw[bW,lK];exact ON h1 h2));rw[Ar,qm nd hn];have hi:=(zb6 hn).1
 by_cases lt:i<vals.length
 .rw[gM lt,oX lt,gM lt];rfl
 .rw[lL (iW lt),Option.none_or,iz (iW lt)];rw[ph (p:=λn=>((names.zip vals).lookup n).isNone) (by rw[qm nd hn,lL (iW lt)];rfl)];rw[qm (List.Sublist.nodup (List.drop_sublist _ _) nd) (by rw[iY,<-hn,bp7 h2 (iW lt)])];rw[iY,bp8 h3 h2 h1 (iW lt)]
end
structure FnAt(X:Ctx)(G:za4)(Nm:za3)(f:Nat)(fn:Fn)(o:Obj)(fd:FuncData)(args:List Arg)(kd:List (Option Expr))(ds:zb0)(body:List Stmt)(cv:za3)(items:Tu):Prop where
 obj:X.h₀.get? (X.fa f)=some o
 dat:o.data= .func fd
 par:fd.params=⟨[],args,none,[],kd,none,ds⟩
 bod:fd.body= .stmts body
 clo:fd.closure=[]
 glo:fd.globals=mainGlobals
 blt:fd.builtins=builtinsNs
 kind:fd.scope.kind= .function
 gen:fd.scope.isGenerator=false
 cor:fd.scope.isCoroutine=false
 code:X.h₀.CodeRec fd.code fd.qualname
 dfl:DfltsAre X.h₀ fd.defaults items
 vals:cA X X.h₀ [] fn.q7 items
 OB:items.length<=args.length
 fn:fn=Jq G Nm args body fd.scope cv fn.q7
 dup:tZ (fd.scope.names.map (·.1))=true
 pre:(args.map (·.arg)).isPrefixOf ((number fd.scope.names 0).map (·.1))=true
inductive NK(X:Ctx)(G:za4)(Nm:za3)(f:Nat)(fn:Fn):Prop
 |mk (o:Obj) (fd:FuncData) (args:List Arg) (kd:List (Option Expr)) (ds:zb0) (body:List Stmt) (cv:za3) (items:Tu) (g:FnAt X G Nm f fn o fd args kd ds body cv items):NK X G Nm f fn
def RA(Q:Q3)(E:Q3):Result->Shared->Prop:=λr s'=>match r with| .ok (.ret v)=>Q v s'| .ok _=>False| .error e=>E e s'
variable{A':Around}{E':Q3}
section
variable{E:Q3}
theorem Af{p:Str×NameKind}{r:List (Str×NameKind)}{i:Nat}(q:(p.2== .local||p.2== .cell)=true):number (p::r) i=(p.1,i)::number r (i+1):=by show cond _ _ _=_;rw[q];rfl
theorem Ah{p:Str×NameKind}{r:List (Str×NameKind)}{i:Nat}(q:(p.2== .local||p.2== .cell)=false):number (p::r) i=number r i:=by show cond _ _ _=_;rw[q];rfl
theorem jU{ns:List (Str×NameKind)}:∀{i:Nat} {x:Str} {j:Nat},(x,j)∈number ns i->i<=j/\(number ns i)[j - i]?=some (x,j)/\∃k,(x,k)∈ns/\(k= .local\/k= .cell):=by
 induction ns with
 |nil=>intro _ _ _ h;cases h
 |cons p r ih=>
  intro i x j h
  cases q:(p.2== .local||p.2== .cell) with
  |true=>
   rw[Af q] at h ⊢
   cases h with
   |head=>exact⟨bR _,by rw[jy];rfl,p.2,.head _,by simpa using q⟩
   |tail _ h=>obtain⟨a,b,k',c,d⟩:=ih h;exact⟨iw a,by rw[EB a,rJ];exact b,k',.tail _ c,d⟩
  |false=>rw[Ah q] at h ⊢;obtain⟨a,b,k',c,d⟩:=ih h;exact⟨a,b,k',.tail _ c,d⟩
theorem RW{ns:List (Str×NameKind)}:∀{i j:Nat} {p:Str×Nat},(number ns i)[j]?=some p->p.2=i+j:=by
 induction ns with
 |nil=>intro _ _ _ h;cases h
 |cons p r ih=>
  intro i j y h
  cases q:(p.2== .local||p.2== .cell) with
  |true=>
   rw[Af q] at h
   cases j with
   |zero=>cases h;rfl
   |succ j=>rw[rJ] at h;exact(ih h).trans (Nat.succ_add_eq_add_succ _ _)
  |false=>rw[Ah q] at h;exact ih h
theorem RV{ns:List (Str×NameKind)}{x:Str}{j:Nat}(h:(x,j)∈number ns 0):j<(number ns 0).length:=by have:=(jU h).2.1;exact(zb6 this).1
theorem Ip{ns:List (Str×NameKind)}{x y:Str}{j:Nat}(h1:(x,j)∈number ns 0)(h2:(y,j)∈number ns 0):x=y:=by
 have a:=(jU h1).2.1;have b:=(jU h2).2.1;rw[a] at b;cases b<;>rfl
theorem Ag{ns:List (Str×NameKind)}:∀{i:Nat},((number ns i).map (·.1)).Sublist (ns.map (·.1)):=by
 induction ns with
 |nil=>intro _;exact .slnil
 |cons p r ih=>
  intro i
  cases q:(p.2== .local||p.2== .cell) with
  |true=>rw[Af q];exact ih.cons_cons _
  |false=>rw[Ah q];exact ih.cons _
theorem Lq{ns:List (Str×NameKind)}(nd:(ns.map (·.1)).Nodup){x:Str}{i j:Nat}(h1:(x,i)∈number ns 0)(h2:(x,j)∈number ns 0):i=j:=by have a:=(jU h1).2.1;have b:=(jU h2).2.1;have SD:((number ns 0).map (·.1)).Nodup:=(Ag).nodup nd;have la:=(zb6 a).1;have lb:=(zb6 b).1;have:=(List.getElem?_inj (j:=j - 0) (by rw[dN];exact la) SD).mp (by rw[fG,fG,a,b];rfl);exact this
theorem pF:∀{ns:List (Str×NameKind)} {n:Nat} {acc:List (Str×Addr)} {x:Str},(x∈acc.map (·.1)\/(x,NameKind.cell)∈ns)->x∈(cellsFrom n ns acc).map (·.1)
 |[],_,_,_,h=>by
  rcases h with h|h
  .exact h
  .cases h
 |(y,k)::r,n,acc,x,h=>by
  unfold cellsFrom
  split
  .rename_i hk
   refine pF ?_
   rcases h with h|h
   .exact .inl (by rw[cH];exact .tail _ h)
   .rcases zb5 h with e|h
    .cases e;exact .inl (by rw[cH];exact .head _)
    .exact .inr h
  .rename_i hk
   refine pF ?_
   rcases h with h|h
   .exact .inl h
   .rcases zb5 h with e|h
    .cases e;exact absurd Z hk
    .exact .inr h
theorem Cq{l:List (Str×Addr)}{x:Str}(h:x∈l.map (·.1)):∃c,l.lookup x=some c:=by
 induction l with
 |nil=>cases h
 |cons p r ih=>
  obtain⟨y,c⟩:=p;rw[pK]
  by_cases e:x=y
  .subst e;exact⟨c,by simp⟩
  .rw[zb4 e];rw[cH] at h
   rcases zb5 h with h|h
   .exact absurd h e
   .exact ih h
noncomputable def xq:Nat->List U->Loc->Loc
 |_,[],B=>B
 |k,a::as,B=>xq (k+1) as (B.set k a)
theorem zV:∀{as:Th} {k:Nat} {B:Loc},k+as.length<=B.length->xq k as B=B.take k++as++B.drop (k+as.length)
 |[],k,B,h=>by simp[xq]
 |a::as,k,B,h=>by
  rw[dC] at h;show xq (k+1) as (B.set k a)=_;rw[zV (by rw[fB];exact dq h)]
  have e1:(B.set k a).take (k+1)=B.take k++[a]:=by rw[List.take_add_one,List.take_set_of_le (bR _),iy (ye (dw h))];rfl
  have e2:(B.set k a).drop (k+1+as.length)=B.drop (k+(as.length+1)):=by rw[List.drop_set_of_lt (dw (d9 _ _)),show k+1+as.length=k+(as.length+1) by exact mC _ _ _]
  rw[e1,e2,dC];simp
theorem yC{f:Str×Value->PUnit->Sem (ForInStep PUnit)}(hf:∀n v u,f (n,v) u=(do storeName env n v;pure (.yield ⟨⟩)))(ok:Ok X hd d A l env cx)(F:Fm cx l env CE):
  ∀(ns:za3) (as:Th) (vs:Tu) (k:Nat) (B:Loc) (s:Shared) (Q:PUnit->Shared->Prop),(∀ j n,ns[j]?=some n->(n,k+j)∈cx.slots)->cA X s.heap ρ as vs->At X hd A l env cx s.heap ρ σ B->ns.length=as.length->
   (∀ h' tk,Step X l (own env) s.heap ρ h' ρ σ->At X hd A l env cx h' ρ σ (xq k as B)->Q ⟨⟩ {s with heap:=h',toks:=tk})->wpAny X.M A' (forIn (ns.zip vs) ⟨⟩ f) Q E' s
 |[],as,vs,k,B,s,Q,hs,W,a,hl,hQ=>by
  cases as with
  |cons=>cases hl
  |nil=>rw[List.zip_nil_left,List.forIn_nil];exact cF (hQ s.heap s.toks (Step.refl a.inv) a)
 |n::ns,as,vs,k,B,s,Q,hs,W,a,hl,hQ=>by
  cases as with
  |nil=>cases hl
  |cons v as=>obtain⟨r,vs',rfl,V,W'⟩:=W;rw[List.zip_cons_cons,List.forIn_cons,hf];have hx:=hs 0 n Z;refine aU (aU (iT ok F a hx (.inr V) λh' tk S a' st=>cF ?_));refine yC hf ok F ns as vs' (k+1) (B.set k v) {s with heap:=h',toks:=tk} Q (λj m hm=>?_) (cA.mono st (jF.refl _) _ _ W') a' (by simpa using hl) λh'' tk'' LN LG=>hQ h'' tk'' (S.trans LN) LG;have:=hs (j+1) m (by rw[rJ];exact hm);rw[show k+1+j=k+(j+1) by exact mC _ _ _];exact this
theorem Step.leave{h0:Heap}(k0:∀b o,h0.get? b=some o->h.get? b=some o)(nw:∀b,own env b->h0.get? b=none)(S:Step X (env::l) (own env) h ρ aJ aM aC):Step X l uA h0 ρ aJ aM aC:=by
 refine⟨⟨S.inv.low,S.inv.len,S.inv.objs,S.inv.there,S.inv.apart,S.inv.new,λe he=>S.inv.SQ e (.tail _ he)⟩,λb o e f _=>S.keep b o (k0 b o e) f (λz=>by rw[nw b z] at e;cases e),(jW S.ext.1 S.ext.2.1 (λb f=>?_)),λb o e=>S.there b o (k0 b o e),λb e=>?_⟩
 .rcases S.ext.2.2 b f with q|q
  .exact .inl q
  .refine .inr ?_
   cases g:h0.get? b with
   |none=>rfl
   |some o=>rw[k0 b o g] at q;cases q
 .refine gH e λo vs e1 e2=>?_;exact S.exc b (dK o vs (k0 b o e1) e2)
theorem Xo{h0:Heap}(k0:∀b o,h0.get? b=some o->∃o',h.get? b=some o')(vc:TF h aJ e .none):BW h0 aJ e:=by
 obtain⟨oe,vs,a0,T,oT,ts,u1,u2,u3,u4,u5,u6,u7,u8,u9,FE⟩:=vc;refine⟨oe,vs,a0,T,oT,ts,?_,u1,u2,u3,u4,u7,u9,FE,u8⟩
 cases g:h0.get? T with
 |none=>rfl
 |some o=>obtain⟨o',e'⟩:=k0 T o g;rw[u5] at e';cases e'
set_option maxHeartbeats 1000000 in
theorem Jx{f:Nat}{fn:Fn}{o:Obj}{fd:FuncData}{args:List Arg}{kd:List (Option Expr)}{ds:zb0}{body:List Stmt}{cv:za3}{items:Tu}(S:vB X G Nm)(FS:FnAt X G Nm f fn o fd args kd ds body cv items){as:Th}{vs:Tu}(Jj:A.frames=some l)(ho:HO A hd s.heap)
  (Sy:A.depth+1+2*d<=500) (BB:A.units+3+30*d<=9000) (I:Inv X l s.heap ρ σ) (W:cA X s.heap ρ as vs) (Cv:ou fn as=some B) {r:SR}
  (sB:∀env CE h2 YM Q' E',Ok X hd d (A.deeper env) (env::l) env (G5 fd.scope cv)->Fm (G5 fd.scope cv) (env::l) env CE->At X hd (A.deeper env) (env::l) env (G5 fd.scope cv) h2 ρ σ B->
   aY X hd (A.deeper env) (env::l) env (G5 fd.scope cv) CE r {s with heap:=h2,toks:=YM} ρ Q' E'->wpAny X.M (A.deeper env) (execs body env) Q' E' {s with heap:=h2,toks:=YM})
  (H:aB X l (VR X) (iZ r) s ρ Q E):codeAny X.M A (.call (.ref (X.fa f)) ⟨vs,[]⟩) (RA Q E) s:=by
 obtain⟨g1,g2,g3,g4,g5,g6,g7,g8,g9,E2,E1,E0,Jn,OA,Cc,Oy,N9⟩:=FS;have nd:=wN Oy;generalize EU:G5 fd.scope cv=cx at*;have wx:fn.params=args.length:=by rw[Cc];rfl
 have rt:fn.slots=cx.base+cv.length:=by rw[Cc,<-EU];rfl
 have xW:cx.slots=number fd.scope.names 0:=by rw[<- EU];rfl
 have tw:cx.kinds=fd.scope.names:=by rw[<- EU];rfl
 have kK:cx.base=(number fd.scope.names 0).length:=by rw[<- EU];rfl
 have pre:=List.isPrefixOf_iff_prefix.mp N9;have Sl:args.length<=cx.base:=by have:=pre.length_le;rw[dN,dN] at this;rw[kK];exact this
 have zI:∀(j:Nat) (n:Str),(args.map (·.arg))[j]?=some n->(n,j)∈cx.slots:=λj n hn=>by
  have h1:((number fd.scope.names 0).map (·.1))[j]?=some n:=by have lt:=(zb6 hn).1;rw[<- hn];obtain⟨t,ht⟩:=pre;rw[<- ht,oX lt]
  rw[fG] at h1;refine bY (zb3 h1) λq hq e=>?_;have:=RW hq;rw[mz] at this;have hm:=gq hq;obtain⟨q1,q2⟩:=q;simp only at e this;subst e;subst this;rw[xW];exact hm
 have lv:=cA.length W;have li:=cA.length Jn;refine lF (z:=none) (P:=(·=some B)) (λq=>nomatch q) Cv λhb Cv=>?_;obtain⟨EX,EW⟩:=and_true hb;have EX:=eY EX;have EW:=eY EW;have Cv:=Option.some.inj Cv;have BD:A.depth<recursionLimit:=by unfold recursionLimit;exact dw (LF (bO Sy (dl Z)))
 refine(codeAny_call_function BD (I.low _ _ g1) g2 E2 g9 g4 (E1.keeps I.low) ?_)
 have dd:DfltsAre s.heap fd.defaults items:=by
  rcases E0 with q|⟨T,o,n,q1,q2,q3⟩
  .exact .inl q
  .exact .inr (pq T o n q1 (I.low _ _ q2) q3)
 have Sj:=(pre.sublist.trans Ag).nodup nd;refine J1 g3 dd Sj (nU EX (dh lv) (dh wx)) (Wl EW (dh li.symm) (dh lv.symm) (dh wx.symm)) OA _ _ _ _ ?_;rw[g5];simp only[newFunctionEnv,Option.isSome_none,yl,if_false];refine aU (wpAny_alloc ?_);refine aU (wpAny_layCells _ (λname kind cells=>by cases hkc:kind==NameKind.cell<;>simp[hkc]) _ _ _ _ ?_);have wd:=cellsFrom_ok fd.scope.names (s.heap.push {cls:=.type "frame",data:=.dict #[]}) (s.heap.objs.size+1) [] ⟨λ_ _ hm=>(nomatch hm),List.Pairwise.nil⟩ (by rw[vO];exact bR _);rw[vO] at wd;rw[show({s with heap:=s.heap.push {cls:=.type "frame",data:=.dict #[]}}:Shared).heap.objs.size=s.heap.objs.size+1 from vO ..]
 dsimp only
 have kk:∀b o,s.heap.get? b=some o->(pushCells (s.heap.push {cls:=.type "frame",data:=.dict #[]}) fd.scope.names).get? b=some o:=λb o e=>pushCells_keeps _ _ b o (mY _ e);have gL:(pushCells (s.heap.push {cls:=.type "frame",data:=.dict #[]}) fd.scope.names).get? s.heap.objs.size=some {cls:=.type "frame",data:=.dict #[]}:=pushCells_keeps _ _ _ _ (oE _ Z);generalize pushCells (s.heap.push {cls:=.type "frame",data:=.dict #[]}) fd.scope.names=h1 at wd kk gL ⊢;have nL:∀b,s.heap.objs.size<=b->s.heap.get? b=none:=λb hb=>uv hb
 have nf:∀b,s.heap.get? b=none->¬foot ρ b:=λb hb f=>by obtain⟨o,e⟩:=I.qO f;rw[hb] at e;cases e
 have EF:=nL _ (bR _);have C8:∀c,s.heap.objs.size+1<=c->s.heap.get? c=none:=λc hc=>nL c (dq hc);generalize xc:cellsFrom (s.heap.objs.size+1) fd.scope.names []=cs at wd ⊢;have jM:∀x,(x,NameKind.cell)∈fd.scope.names->∃c,cs.lookup x=some c:=λx hx=>Cq (by rw[<- xc];exact pF (.inr hx));have C9:∀x c,cs.lookup x=some c->h1.IsCell c none/\s.heap.get? c=none:=λx c hc=>⟨(wd.empty x c (mem_of_lookup hc)).1,C8 c (wd.empty x c (mem_of_lookup hc)).2⟩;have tF:∀x y c,cs.lookup x=some c->cs.lookup y=some c->x=y:=λx y c h1 h2=>name_of_addr wd.apart (mem_of_lookup h1) (mem_of_lookup h2);generalize s.heap.objs.size=CE at gL EF ⊢;generalize Sx:({scope:=fd.scope,locals:=CE,globals:=fd.globals,cells:=cs,qual:=fd.qualname++Mo ".<locals>.",func:=some (X.fa f),code:=fd.code,frame:=some CE,builtins:=fd.builtins}:Env)=env;have Mx:env.scope=fd.scope:=by rw[<- Sx]
 have wK:env.locals=CE:=by rw[<- Sx]
 have Bs:env.cells=cs:=by rw[<- Sx]
 have XM:env.frame=some CE:=by rw[<- Sx]
 have CO:env.globals=mainGlobals:=by rw[<- Sx];exact g6
 have ebl:env.builtins=builtinsNs:=by rw[<- Sx];exact g7
 have XJ:∀x k,(x,k)∈fd.scope.names->env.kindOf x=some k:=λx k hk=>by unfold Env.kindOf;rw[Mx];exact mem_lookup nd hk
 have ok:Ok X hd d (A.deeper env) (env::l) env cx:=by
  refine⟨?_,(dK env l Z Z),by rw[Mx];exact g8,λx k hk _=>?_,λx i hx=>?_,CO,ebl,?_,?_,λx y i hx hy=>?_,λx y c hx hy=>?_⟩
  .show A.frames.map (env::·)=_;rw[Jj];rfl
  .rw[tw] at hk;exact XJ x k (jL hk)
  .rw[xW] at hx;rw[kK];exact RV hx
  .show A.depth+1+2*d<=500;exact dq Sy
  .show A.units+3+30*d<=9000;exact dq BB
  .rw[xW] at hx hy;exact Ip hx hy
  .rw[Bs] at hx hy;exact tF x y c hx hy
 have F:Fm cx (env::l) env CE:=by
  refine⟨XM,wK,⟨l,Z⟩,λx i hx=>?_,λx i j hx hy=>?_⟩
  .rw[xW] at hx;obtain⟨_,_,k,hk,q⟩:=jU hx;rw[XJ x k hk]
   rcases q with rfl|rfl
   .exact .inl Z
   .exact .inr Z
  .rw[xW] at hx hy;exact Lq nd hx hy
 have x0:=kZ I EF
 have I1:Inv X (env::l) h1 ρ σ:=by
  have oD:=I.keeps kk;refine⟨oD.low,oD.len,oD.objs,oD.there,oD.apart,oD.new,λe he=>?_⟩
  rcases zb5 he with rfl|he
  .exact⟨by rw[Mx,g8];decide,CE,_,_,_,XM,x0,gL,Z,Z⟩
  .exact oD.SQ e he
 have a1:At X hd (A.deeper env) (env::l) env cx h1 ρ σ (List.replicate fn.slots .L):=by
  refine⟨I1,(aZ (λ_=>none) (oG _ (#[]) _ (by rw[wK];exact gL) Z (λe he=>absurd he (by simp)) (λ_=>rfl)) (λx i hx=>(aZ none ?_ (λv hv=>.inl ?_)))),by rw[wK];exact nf CE EF,by rw[wK];exact x0,?_,λx c hc=>?_,λx c hc=>?_⟩
  .rcases F.slots x i hx with k|k
   .exact .inl ⟨k,Z⟩
   .rw[xW] at hx;obtain⟨_,_,k',hk,q⟩:=jU hx;have:=XJ x k' hk;rw[k] at this;have:k'= .cell:=by injection this with e;exact e.symm
    subst this;obtain⟨c,hc⟩:=jM x hk;exact .inr ⟨.inl k,c,by rw[Bs];exact hc,(C9 x c hc).1⟩
  .obtain⟨q1,q2⟩:=zb6 hv;rw[List.getElem_replicate] at q2;exact q2.symm
  .exact⟨ho.1,λz=>let⟨e,p,o,vs,q1,q2⟩:=ho.2 z;⟨e,p,o,vs,kk _ _ q1,q2⟩⟩
  .rw[Bs] at hc;exact kZ I (C9 x c hc).2
  .rw[Bs] at hc;exact⟨nf c (C9 x c hc).2,none,(C9 x c hc).1⟩
 have RY:=eF kk;have W1:=cA.mono RY (jF.refl _) _ _ W;have D1:cA X h1 ρ fn.q7 items:=cA.mono (λb o e _=>kk _ _ (I.low b o e)) (.of λi p hp=>by cases hp) _ _ Jn;have W2:=W1.append (cA.drop (items.length - (args.length - vs.length)) D1);have eas:fn.q7.length - (fn.params - as.length)=items.length - (args.length - vs.length):=by rw[wx,lv,li]
 rw[eas] at Cv
 have G':(as++fn.q7.drop (items.length - (args.length - vs.length))).length=args.length:=by rw[bW,lK,<-lv,<-li];exact ON (by rw[lv,<-wx];exact EX) (by rw[lv,li,<-wx];exact EW)
 refine aU (yC (λ_ _ _=>rfl) ok F _ _ _ 0 _ {s with heap:=h1} _ (λj n hn=>by rw[mz];exact zI j n hn) W2 a1 (by rw[dN,G']) λh2 YM S2 a2=>?_)
 have Mg:xq 0 (as++fn.q7.drop (items.length - (args.length - vs.length))) (List.replicate fn.slots U.L)=B:=by rw[zV (by rw[List.length_replicate,G',rt];exact dq Sl),<-Cv,G',List.take_zero];rewrite[mW];rw[List.drop_replicate,wx,mz]
 rw[Mg] at a2;refine cF ⟨S.pX.keeps a2.inv.low,codeAny_func ?_⟩
 have nw:∀b,own env b->s.heap.get? b=none:=λb hb=>by
  rcases hb with hb|⟨x,hb⟩
  .rw[hb,wK];exact EF
  .rw[Bs] at hb;exact(C9 x b hb).2
 refine sB env CE h2 YM _ _ ok F a2 ?_
 cases r with
 |bad=>exact H
 |done fl bx σ'=>
  intro h' tk cY g S3 a3 fr;have S':=Step.leave kk nw (S2.trans S3)
  cases fr with
  |next=>exact H h' tk cY .none S' Z
  |cont=>exact H.elim
  |ret V=>exact H h' tk cY _ S' V
 |exc i bx σ'=>intro h' tk cY p c fs S3 a3 hp hu vc;unfold leaving;refine aU (Gb ok F a2 S3 a3 hp hu vc λh3 S4 a4 U4=>?_);refine tX none a2 S4 a4 hp hu U4 λh4 S5 a5 U5=>?_;have S':=Step.leave kk nw (S2.trans S5);exact H h4 tk cY p S' hp (Xo (λb o e=>S2.there b o (kk b o e)) U5)
theorem Tj{f:Nat}{fn:Fn}(S:vB X G Nm)(FS:NK X G Nm f fn)(sS:gT X G Nm Φ d 20){as:Th}{vs:Tu}(Jj:A.frames=some l)(ho:HO A hd s.heap)(Sy:A.depth+1+2*d<=500)(BB:A.units+3+30*d<=9000)
  (I:Inv X l s.heap ρ σ) (W:cA X s.heap ρ as vs) (H:aB X l (VR X) (Vh X.T Φ fn hd as σ) s ρ Q E):codeAny X.M A (.call (.ref (X.fa f)) ⟨vs,[]⟩) (RA Q E) s:=by
 obtain⟨o,fd,args,kd,ds,body,cv,items,g⟩:=FS;refine aB.ig H λB Cv H=>?_;rw[show fn.body=body.map (cS G Nm 20 (G5 fd.scope cv)) by rw[g.fn];rfl] at H;exact Jx S g Jj ho Sy BB I W Cv (λenv CE h2 YM Q' E' ok F a H'=>K4 sS hd (A.deeper env) (env::l) env _ CE body B _ ρ σ _ _ ok F a H') H
end
section
variable{prog:Program}{w:World}{A:Around}{R:Result->Shared->Prop}{h:Heap}{g:Array GenState}{d:Drawn}{t:Nat}{os:OsState}{E:Q3}
variable{nm q:Str}{BC N:Addr}{bs bm KU:Tu}{SJ:Bool}{sn:za3}{sub:Tu}{ab:Bool}{col:Option Bool}{dd:Option Addr}{k0 k1 k2 k3 k5:zb2}{AD newId Ma:String}
structure Below(bm:Tu)(AD:String):Prop where
 hasB:bm.contains (.type AD)=true
 noAttr:bm.contains (.type "AttributeError")=false
 noName:bm.contains (.type "NameError")=false
theorem eM(F:ExcBaseFacts AD newId Ma KU)(W:Below bm AD){rest:Tu}(hC:h.get? BC=some (excClassObj nm q BC N bs bm SJ sn sub ab col dd k0 k1 k2 k3 k5 newId))
  (hq:R (.ok (.ret (.ref (h.objs.size+1)))) ⟨(h.push {cls:=.type "tuple",data:=.seq rest.toArray}).push
   {cls:=.ref BC,data:=.fields #[.ref h.objs.size,.none,.none,.none,.bool false,.none]},g,d,t,os⟩) (kp:rest.length<=sizeLine):
  codeAny (model prog w) A (.builtin newId ⟨.ref BC::rest,[]⟩) R ⟨h,g,d,t,os⟩:=by
 have NJ:=F.ends;have hcB:(Value.ref BC::bm).contains (.type AD)=true:=by rw[Hr,W.hasB,Bool.or_true]
 have hcA:(Value.ref BC::bm).contains (.type "AttributeError")=false:=by rw[Hr,W.noAttr];rfl
 have hcN:(Value.ref BC::bm).contains (.type "NameError")=false:=by rw[Hr,W.noName];rfl
 refine PySem.codeAny_builtinAt F.entry ?_;unfold Builtin.«BaseException.__new__»;refine PySem.wpAt_bind ?_;refine PySem.wpAt_bind (PySem.wpAt_stack λp below=>PySem.wpAt_of_wpAny ?_)
 wp_walk
 refine PySem.wpAt_of_wpAny ?_;rw[F.owner]
 repeat (first|with_reducible refine wpAny_madeHere_exc F.canon hC ?_|with_reducible refine Hw hC ?_|(with_reducible refine wpAny_isSubtype_exc hC ?_;first|rewrite[hcB]|rewrite[hcA]|rewrite[hcN])|wp_step)
 rw[vO];exact hq
theorem Cz(F:ExcBaseFacts AD newId Ma KU)(W:Below bm AD){M:Model}{rest:Tu}{Q:za2}(hC:h.get? BC=some (excClassObj nm q BC N bs bm SJ sn sub ab col dd k0 k1 k2 k3 k5 newId))
  (hq:Q () ⟨h,g,d,t,os⟩):wpAny M A (checkBuiltinCall newId ⟨.ref BC::rest,[]⟩) Q E ⟨h,g,d,t,os⟩:=wpAny_check_new_subU F W.hasB .base hC hq
noncomputable abbrev Br(BC:Addr)(T:Addr):Obj:={cls:=.ref BC,data:=.fields #[.ref T,.none,.none,.none,.bool false,.none]}
theorem Xr(F:ExcBaseFacts AD newId Ma KU)(W:Below bm AD){rest:Tu}{init:Value}(hC:h.get? BC=some (excClassObj nm q BC N bs bm SJ sn sub ab col dd k0 k1 k2 k3 k5 newId))
  (hi:Looks (model prog w) h (typeLookup (.ref BC) "__init__") (some init)) (hb:∀self,Looks (model prog w) h (bindSpecial init self) (init,[self])) (kp:rest.length<=sizeLine)
  (hq:codeAny (model prog w) (A.under (.builtin "type.__call__" ⟨.ref BC::rest,[]⟩)) (.call init ⟨.ref (h.objs.size+1)::rest,[]⟩) (InitBack (h.objs.size+1) R)
   ⟨(h.push {cls:=.type "tuple",data:=.seq rest.toArray}).push (Br BC h.objs.size),g,d,t,os⟩):
  codeAny (model prog w) A (.call (.ref BC) ⟨rest,[]⟩) R ⟨h,g,d,t,os⟩:=by
 have f1:=tc_lookup;have f2:=tc_bind (.ref BC);have hT:=(aZ _ hC Z);refine codeAny_of_tree ?_
 repeat (any_goals (first|assumption|with_reducible refine Hw hC ?_|wp_step))
 refine⟨Z,?_⟩;refine codeAny_call_builtin_at (Code.quiet_builtin _ (by decide +kernel)) entry_typeCall (wpAny_check_type_call_sub hC ?_)
 repeat (first|with_reducible refine Hw hC ?_|with_reducible refine wpAny_madeBy_exc hC ?_|wp_step)
 refine codeAny_call_builtin_code (Code.quiet_builtin _ F.quiet) (Cz F W hC ?_);refine eM F W hC ?_ kp;have k:∀b o,h.get? b=some o->((h.push {cls:=.type "tuple",data:=.seq rest.toArray}).push (Br BC h.objs.size)).get? b=some o:=λb o e=>mY _ (mY _ e);have ky:=k _ _ hC;have BY:((h.push {cls:=.type "tuple",data:=.seq rest.toArray}).push {cls:=.ref BC,data:=.fields #[.ref h.objs.size,.none,.none,.none,.bool false,.none]}).get? (h.objs.size+1)=some {cls:=.ref BC,data:=.fields #[.ref h.objs.size,.none,.none,.none,.bool false,.none]}:=by heap_get
 have NO:(Value.ref BC::bm).contains (.ref BC)=true:=by simp
 unfold isInstance
 repeat (first|with_reducible refine Hw BY ?_|(with_reducible refine wpAny_isSubtype_exc ky ?_;rw[NO])|wp_step)
 refine wpAny_isSubtype_exc ky ?_;rw[NO];unfold callSpecial? specialOf
 repeat (first|with_reducible refine Hw BY ?_|wp_step)
 refine(hi.keeps k).at<|kh (aU (((hb (.ref (h.objs.size+1))).keeps k).at ?_));refine aU (wpAny_call (codeAny_mono hq λr s' z=>?_))
 rcases r with e|(v|_|_|_)<;>first|exact z|exact z.elim|skip
 obtain⟨rfl,z⟩:=z
 wp_walk
 exact z
end
structure zx(X:Ctx)(c f:Nat):Prop where
 cst:yH X c
 obj:∃o cd,X.h₀.get? (X.ca c)=some o/\o.data= .cls cd
 call:specialIn X.K (.ref (X.ca c)) "__call__"=some (some (.builtin "type.__call__"))
 init:findIn X.K (.ref (X.ca c)) "__init__"=some (some (.ref (X.fa f)))
 fn:typeIn X.K (.ref (X.fa f))=some (.type "function")
 kind:(X.T.isExc c=false/\makesIn X.K (X.ca c)=true)\/(X.T.isExc c=true/\∃nm q N bs bm SJ sn sub ab col dd k0 k1 k2 k3 k5,X.h₀.get? (X.ca c)=some (excClassObj nm q (X.ca c) N bs bm SJ sn sub ab col dd k0 k1 k2 k3 k5 "Exception.__new__")/\Below bm "Exception")
def TJ(X:Ctx)(Φ:iC)(d:Nat):Prop:=
 ∀(hd:Bool) (f:Nat) (as:Th) (σ:St) (A:Around) (l:za7) (s:Shared) (ρ:Su) (vs:Tu) (Q:Q3) (E:Q3),A.frames=some l->HO A hd s.heap->A.depth+2*d<=501->A.units+30*d<=9020->Inv X l s.heap ρ σ->cA X s.heap ρ as vs->
  aB X l (VR X) (Φ hd f as σ) s ρ Q E->codeAny X.M A (.call (.ref (X.fa f)) ⟨vs,[]⟩) (RA Q E) s
theorem TJ.ok(mi:TJ X Φ d):Ke X Φ d:=λhd f as σ A l s ρ vs Q E hf ho h1 h2 I W H=>wpAny_call (mi hd f as σ A l s ρ vs Q E hf ho (oU h1) (bO h2 (dl Z)) I W H)
def Q8(Φ:iC):Prop:=∀hd f as σ,Φ hd f as σ≠.bad->as.length<=1000
section
variable{E:Q3}
theorem Rh(BC:Addr)(r:Tu):(A.under (.builtin "type.__call__" ⟨.ref BC::r,[]⟩)).frames=A.frames:=by kernel_rfl
theorem Ut(BC:Addr)(r:Tu):(A.under (.builtin "type.__call__" ⟨.ref BC::r,[]⟩)).depth=A.depth+1:=by kernel_rfl
theorem Us(BC:Addr)(r:Tu):(A.under (.builtin "type.__call__" ⟨.ref BC::r,[]⟩)).units=A.units+1:=by kernel_rfl
theorem V4(S:vB X G Nm)(mi:TJ X Φ d)(FA:Q8 Φ)(NS:∀c f,X.T.uW c=some f->zx X c f):Kf X Φ d where
 cls hd c as σ qJ:=by refine jZ (P:=(·≠Res.bad)) (λq=>q Z) qJ λf hf _=>?_;obtain⟨o,cd,h1,h2⟩:=(NS c f hf).obj;exact(gn o cd h1 h2 ((NS c f hf).call))
 make hd c as σ A l s ρ vs Q E Jj ho Sy BB I W H:=by
  refine aB.ig H λf hf H=>?_;have N:=NS c f hf;have KI:=S.Jo.keeps I.low;obtain⟨hh,g,dr,t,os⟩:=s;have hi:=looks_findIn (M:=X.M) KI N.init;have hb:∀self,Looks X.M hh (bindSpecial (.ref (X.fa f)) self) (.ref (X.fa f),[self]):=λself=>bind_fn KI self N.fn;have nn:∀b,hh.objs.size<=b->hh.get? b=none:=λb hb=>uv hb
  have Zi:∀b,hh.objs.size<=b->(b==sysModules)=false:=λb hb=>by obtain⟨mc,hn,_⟩:=S.pX.keeps I.low;have:(2:Nat)<hh.objs.size:=hn.lt;refine zb4 λz=>?_;have z':b=1:=z;exact Nat.not_succ_le_zero 0 (nU (dh z') this hb)
  have fin:∀(o:AO) (p:Addr×Addr) (h1:Heap),(if X.T.isExc c then AO.exc c [] else AO.inst c [])=o->Step X l uA hh ρ h1 (ρ++[p]) (σ++[o])->
    codeAny X.M (A.under (.builtin "type.__call__" ⟨.ref (X.ca c)::vs,[]⟩)) (.call (.ref (X.fa f)) ⟨.ref p.1::vs,[]⟩)
     (InitBack p.1 (λr s'=>match r with| .ok (.ret v)=>Q v s'| .ok _=>False| .error e=>E e s')) ⟨h1,g,dr,t,os⟩:=λo p h1 ho' ST=>by
   rw[ho'] at H
   have V:cA X h1 (ρ++[p]) (.ref σ.length::as) (.ref p.1::vs):=by refine cA.cons (aZ p ?_ Z) (Step.FD I ST W);rw[<- I.len];exact List.getElem?_concat_length ..
   refine codeAny_mono (mi hd f (.ref σ.length::as) (σ++[o]) _ l _ (ρ++[p]) (.ref p.1::vs) (λv s'=>v= .none/\Q (.ref p.1) s') E ?_ ?_ ?_ ?_ ST.inv V ?_) λr s' z=>?_
   .rw[Rh];exact Jj
   .have:=HO.step ho ST;exact⟨this.1,this.2⟩
   .rw[Ut];exact dq Sy
   .rw[Us];exact dq BB
   .generalize Φ hd f (.ref σ.length::as) (σ++[o])=r at H ⊢
    cases r with
    |bad=>exact H
    |exc i σ'=>exact H.elim
    |ok v σ'=>refine J8 (P:=λr=>aB X l (VR X) r ⟨hh,g,dr,t,os⟩ ρ Q E) id H λe H=>?_;subst e;intro h' tk cY x S2 V2;have V2:=V2;refine⟨V2,H h' tk cY (.ref p.1) (ST.trans S2) ?_⟩;obtain⟨p',hp',e'⟩:=S2.ext.1 σ.length p (by rw[<- I.len];exact List.getElem?_concat_length ..);exact(aZ p' hp' (by rw[e']))
   .rcases r with e|(v|_|_|_)<;>first|exact z|exact z.elim
  refine wpAny_call ?_
  rcases N.kind with⟨k1,k2⟩|⟨k1,nm,q,N',bs,bm,SJ,sn,sub,ab,col,dd,j0,j1,j2,j3,j5,k2,k3⟩
  .refine make_core (makes_of KI k2) hi hb (.inl Z) ?_;have kk:∀b o,hh.get? b=some o->((hh.push emptyDict).push (instObj (X.ca c) hh.objs.size)).get? b=some o:=λb o e=>mY _ (mY _ e);have e1:((hh.push emptyDict).push (instObj (X.ca c) hh.objs.size)).get? (hh.objs.size+1)=some (instObj (X.ca c) hh.objs.size):=by heap_get
   have e2:((hh.push emptyDict).push (instObj (X.ca c) hh.objs.size)).get? hh.objs.size=some emptyDict:=by heap_get
   refine fin (.inst c []) (hh.objs.size+1,hh.objs.size) _ (by rw[k1];rfl)<|Step.alloc I kk e1 Z e2 Y (nn _ (pI _)) (nn _ (bR _)) (Zi _ (pI _)) (Zi _ (bR _)) ?_;refine⟨N.cst,by decide,_,e1,Z,Z,Z,λ_=>none,?_,?_,?_,_,e2,Z⟩
   .exact(A6 _ (#[]) _ e2 Z (λe he=>absurd he (by simp)) List.Pairwise.nil (λ_=>rfl))
   .intro n hn;rfl
   .exact λx v=>absurd Z v
  .have hC:=I.low _ _ k2;refine Xr PySem.F.excBase_Exception k3 hC hi hb ?_ ?_
   .have:Φ hd f (.ref σ.length::as) (σ++[if X.T.isExc c then .exc c [] else .inst c []])≠.bad:=λe=>by rw[e] at H;exact H
    have:=FA _ _ _ _ this;rw[cA.length W];rw[dC] at this;unfold sizeLine;exact iw (bO this (dl Z))
   have kk:∀b o,hh.get? b=some o->((hh.push {cls:=.type "tuple",data:=.seq vs.toArray}).push (Br (X.ca c) hh.objs.size)).get? b=some o:=λb o e=>mY _ (mY _ e);have e1:((hh.push {cls:=.type "tuple",data:=.seq vs.toArray}).push (Br (X.ca c) hh.objs.size)).get? (hh.objs.size+1)=some (Br (X.ca c) hh.objs.size):=by heap_get
   refine fin (.exc c []) (hh.objs.size+1,hh.objs.size+1) _ (by rw[k1];rfl)<|Step.alloc I kk e1 Z e1 Z (nn _ (pI _)) (nn _ (pI _)) (Zi _ (pI _)) (Zi _ (pI _)) ?_;exact⟨N.cst,by decide,_,_,e1,Z,Z,⟨Z,Z⟩,.inl (jW Z Z Z)⟩
end
structure oA(X:Ctx)(G:za4)(Nm:za3)(F:Nat->Option Fn):Prop where
 KJ:vB X G Nm
 bn:Bn X
 rev:Hj X
 fns:∀f fn,F f=some fn->NK X G Nm f fn
 OB:∀f fn,F f=some fn->fn.params<=1000
 news:∀c f,X.T.uW c=some f->zx X c f
 JO:∀c,X.T.isExc c=true->qU X c
variable{F:Nat->Option Fn}
theorem oA.kz(W:oA X G Nm F)(d:Nat):Eu X (BZ X.T F d):=λhd f as σ qJ=>by
 cases d with
 |zero=>exact absurd Z qJ
 |succ d=>refine jZ (P:=(·≠Res.bad)) (λq=>q Z) qJ λfn hf _=>?_;obtain⟨o,fd,args,kd,ds,body,cv,items,g⟩:=W.fns f fn hf;exact(dK o fd g.obj g.dat)
theorem oA.Qk(W:oA X G Nm F)(d:Nat):Q8 (BZ X.T F d):=λhd f as σ qJ=>by
 cases d with
 |zero=>exact absurd Z qJ
 |succ d=>refine jZ (P:=(·≠Res.bad)) (λq=>q Z) qJ λfn hf qJ=>jZ (P:=(·≠Res.bad)) (λq=>q Z) qJ λB hl _=>?_;refine lF (z:=none) (P:=(·=some B)) (λq=>nomatch q) hl λhb _=>?_;exact bO (eY (and_true hb).1) (W.OB f fn hf)
theorem oA.yY(W:oA X G Nm F)(mi:TJ X (BZ X.T F d) d)(n:Nat):gT X G Nm (BZ X.T F d) d n:=
 yT W.KJ W.bn mi.ok (W.kz d) (V4 W.KJ mi (W.Qk d) W.news) (Va W.rev) W.JO n
theorem oA.BZ(W:oA X G Nm F):∀d,TJ X (BZ X.T F d) d
 |0=>λhd f as σ A l s ρ vs Q E _ _ _ _ _ _ H=>H.elim
 |d+1=>λhd f as σ A l s ρ vs Q E hf ho h1 h2 I V H=>by refine aB.ig H λfn IM H=>?_;exact Tj W.KJ (W.fns f fn IM) (W.yY (oA.BZ W d) 20) hf ho (dq h1) (dq h2) I V H
end
end Mine.Internal
namespace Mine.Internal
open PySem
noncomputable section
def Nm:List Str:=[Mo "append",Mo "pop",Mo "get",Mo "add",Mo "join",Mo "zfill",Mo "ball",Mo "kind",Mo "at",Mo "row",Mo "column",Mo "texts",Mo "atom_numbers",Mo "functors",Mo "functor_numbers",Mo "atom",Mo "func",Mo "functor",Mo "codes",Mo "origin",Mo "place",Mo "skip_layout",Mo "code_at",Mo "fault",Mo "numeral",Mo "symbol",Mo "word",Mo "quoted",Mo "skip_row",Mo "skip_remark",Mo "ends_at",Mo "digits",Mo "character",Mo "next",Mo "symbols",Mo "max_heap",Mo "heap",Mo "stack",Mo "trail",Mo "hb",Mo "bb",Mo "push",Mo "deref",Mo "new_var",Mo "bind",Mo "arity",Mo "reserve",Mo "globalise",Mo "new_block",Mo "base",Mo "functor_of",Mo "width",Mo "store",Mo "take",Mo "text",Mo "build_list",Mo "list_cells",Mo "arg",Mo "unify",Mo "span",Mo "met",Mo "bind_pair",Mo "is_compound",Mo "code",Mo "occurs",Mo "max_bits",Mo "reset",Mo "x",Mo "p",Mo "cp",Mo "e",Mo "b",Mo "b0",Mo "mode",Mo "s",Mo "guard",Mo "roots",Mo "bags",Mo "collect_wanted",Mo "set_x",Mo "take_term",Mo "set_arguments",Mo "put_term"]
def G:List (Str×U):=[(Mo "A_NIL",U.int 0),(Mo "A_SYSTEM",U.int 25),(Mo "F_DOT",U.int 0),(Mo "F_ERROR",U.int 16),(Mo "MAX_CODE",U.int 1114111),(Mo "NO_CODE",U.int (-1)),(Mo "BAD_CODE",U.int (-2)),(Mo "NEW_LINE",U.int 10),(Mo "DOUBLE_QUOTE",U.int 34),(Mo "PERCENT",U.int 37),(Mo "QUOTE",U.int 39),(Mo "OPEN",U.int 40),(Mo "STAR",U.int 42),(Mo "DOT",U.int 46),(Mo "SLASH",U.int 47),(Mo "DIGIT_ZERO",U.int 48),(Mo "BACKSLASH",U.int 92),(Mo "UNDERSCORE",U.int 95),(Mo "BACK_QUOTE",U.int 96),(Mo "LETTER_B",U.int 98),(Mo "LETTER_O",U.int 111),(Mo "LETTER_X",U.int 120),(Mo "REF",U.int 0),(Mo "SRF",U.int 1),(Mo "STR",U.int 2),(Mo "LIS",U.int 3),(Mo "CON",U.int 4),(Mo "INT",U.int 5),(Mo "FUN",U.int 6),(Mo "VISIT",U.int 0),(Mo "BUILD",U.int 1),(Mo "READ",U.str [114,101,97,100]),(Mo "EXTRA",U.int 8),(Mo "VOID",U.tup [U.int 5,U.int 0]),(Mo "fixed_atoms",U.fn 2),(Mo "fixed_functors",U.fn 3),(Mo "system_error",U.fn 9),(Mo "formal_of",U.fn 10),(Mo "instantiation_error",U.fn 11),(Mo "type_error",U.fn 12),(Mo "representation_error",U.fn 13),(Mo "syntax_error",U.fn 14),(Mo "is_layout",U.fn 15),(Mo "is_digit",U.fn 16),(Mo "is_small",U.fn 17),(Mo "is_capital",U.fn 18),(Mo "is_alnum",U.fn 19),(Mo "is_symbol",U.fn 20),(Mo "digit_value",U.fn 21),(Mo "text_codes",U.fn 22),(Mo "codes_text",U.fn 23),(Mo "number_text",U.fn 24),(Mo "numeral_base",U.fn 25),(Mo "read_number",U.fn 37),(Mo "is_free",U.fn 54),(Mo "atom_cell",U.fn 55),(Mo "check_atom",U.fn 56),(Mo "text_of",U.fn 57),(Mo "spelled_cell",U.fn 58),(Mo "element_text",U.fn 59),(Mo "spelled_text",U.fn 60),(Mo "spell_number",U.fn 61),(Mo "pred_number_chars",U.fn 62),(Mo "pred_number_codes",U.fn 63),(Mo "pred_atom_number",U.fn 64),(Mo "push_arguments",U.fn 67),(Mo "push_pairs",U.fn 68),(Mo "same_shape",U.fn 69),(Mo "is_variable",U.fn 70),(Mo "unify",U.fn 71),(Mo "bind_checked",U.fn 72),(Mo "occurs_in",U.fn 73),(Mo "_law_pick",U.fn 81),(Mo "_law_end",U.fn 82),(Mo "_law_inside",U.fn 83),(Mo "_law_meet",U.fn 84),(Mo "_law_full",U.fn 85),(Mo "_law_match",U.fn 86),(Mo "_law_error",U.fn 87),(Mo "_law_agrees",U.fn 88),(Mo "_law_row",U.fn 89),(Mo "_law_numeral",U.fn 90),(Mo "_law_digits",U.fn 91),(Mo "_law_spelling",U.fn 92),(Mo "_law_due",U.fn 93),(Mo "_law_named",U.fn 94),(Mo "_law_spelled_number",U.fn 95),(Mo "law",U.fn 96),(Mo "unify_unify",U.fn 71),(Mo "PrologError",U.cls 0),(Mo "SyntaxFault",U.cls 1),(Mo "Symbols",U.cls 2),(Mo "Tokenizer",U.cls 3),(Mo "Store",U.cls 4),(Mo "PairSet",U.cls 5),(Mo "Areas",U.cls 6),(Mo "len",U.bi 0),(Mo "range",U.bi 1),(Mo "ord",U.bi 2),(Mo "chr",U.bi 3),(Mo "isinstance",U.bi 4),(Mo "str",U.bi 5),(Mo "bool",U.bi 6),(Mo "tuple",U.bi 7),(Mo "list",U.bi 8),(Mo "abs",U.bi 9),(Mo "divmod",U.bi 10),(Mo "sum",U.bi 11),(Mo "set",U.bi 12)]
def s8:List (Str×Str×List Str×List U):=[
 (Mo "PrologError",Mo "__init__",[],[]),(Mo "SyntaxFault",Mo "__init__",[],[]),(Mo "",Mo "fixed_atoms",[],[]),(Mo "",Mo "fixed_functors",[],[]),(Mo "Symbols",Mo "__init__",[],[]),(Mo "Symbols",Mo "atom",[],[]),(Mo "Symbols",Mo "text",[],[]),(Mo "Symbols",Mo "functor",[],[]),(Mo "Symbols",Mo "func",[],[]),(Mo "",Mo "system_error",[],[]),(Mo "",Mo "formal_of",[],[]),(Mo "",Mo "instantiation_error",[],[]),(Mo "",Mo "type_error",[],[]),(Mo "",Mo "representation_error",[],[]),(Mo "",Mo "syntax_error",[],[]),(Mo "",Mo "is_layout",[],[]),(Mo "",Mo "is_digit",[],[]),(Mo "",Mo "is_small",[],[]),(Mo "",Mo "is_capital",[],[]),(Mo "",Mo "is_alnum",[],[]),(Mo "",Mo "is_symbol",[],[]),(Mo "",Mo "digit_value",[],[]),(Mo "",Mo "text_codes",[Mo "char"],[]),(Mo "",Mo "codes_text",[Mo "code"],[]),(Mo "",Mo "number_text",[],[]),(Mo "",Mo "numeral_base",[],[]),(Mo "Tokenizer",Mo "__init__",[],[U.int 0]),(Mo "Tokenizer",Mo "code_at",[],[]),(Mo "Tokenizer",Mo "place",[],[]),(Mo "Tokenizer",Mo "fault",[],[]),(Mo "Tokenizer",Mo "next",[],[]),(Mo "Tokenizer",Mo "skip_layout",[],[]),(Mo "Tokenizer",Mo "word",[],[]),(Mo "Tokenizer",Mo "symbol",[],[]),(Mo "Tokenizer",Mo "ends_at",[],[]),(Mo "Tokenizer",Mo "numeral",[],[]),(Mo "Tokenizer",Mo "digits",[],[]),(Mo "",Mo "read_number",[],[]),(Mo "Cells",Mo "__init__",[],[U.int 100000]),(Mo "Cells",Mo "push",[],[]),(Mo "Cells",Mo "new_var",[],[]),(Mo "Cells",Mo "reserve",[],[]),(Mo "Cells",Mo "deref",[],[]),(Mo "Cells",Mo "bind",[],[]),(Mo "Cells",Mo "globalise",[],[]),(Mo "Cells",Mo "is_compound",[],[]),(Mo "Cells",Mo "functor_of",[],[]),(Mo "Cells",Mo "width",[],[]),(Mo "Cells",Mo "base",[],[]),(Mo "Cells",Mo "new_block",[],[]),(Mo "Store",Mo "build_list",[],[U.none]),(Mo "Store",Mo "list_cells",[],[]),(Mo "Store",Mo "put_term",[],[]),(Mo "Store",Mo "take_term",[],[]),(Mo "",Mo "is_free",[],[]),(Mo "",Mo "atom_cell",[],[]),(Mo "",Mo "check_atom",[],[]),(Mo "",Mo "text_of",[],[]),(Mo "",Mo "spelled_cell",[],[]),(Mo "",Mo "element_text",[],[]),(Mo "",Mo "spelled_text",[],[]),(Mo "",Mo "spell_number",[],[]),(Mo "",Mo "pred_number_chars",[],[]),(Mo "",Mo "pred_number_codes",[],[]),(Mo "",Mo "pred_atom_number",[],[]),(Mo "PairSet",Mo "__init__",[],[]),(Mo "PairSet",Mo "add",[],[]),(Mo "",Mo "push_arguments",[],[]),(Mo "",Mo "push_pairs",[],[]),(Mo "",Mo "same_shape",[],[]),(Mo "",Mo "is_variable",[],[]),(Mo "",Mo "unify",[],[]),(Mo "",Mo "bind_checked",[],[]),(Mo "",Mo "occurs_in",[],[]),(Mo "Areas",Mo "__init__",[],[U.int 100000,U.bool true,U.int 4096]),(Mo "Areas",Mo "reset",[],[]),(Mo "Areas",Mo "set_x",[],[]),(Mo "Areas",Mo "set_arguments",[],[]),(Mo "Areas",Mo "arg",[],[]),(Mo "Areas",Mo "unify",[],[]),(Mo "Areas",Mo "take",[],[]),(Mo "",Mo "_law_pick",[],[]),(Mo "",Mo "_law_end",[],[]),(Mo "",Mo "_law_inside",[Mo "part"],[]),(Mo "",Mo "_law_meet",[],[]),(Mo "",Mo "_law_full",[Mo "part"],[]),(Mo "",Mo "_law_match",[Mo "place"],[]),(Mo "",Mo "_law_error",[Mo "part"],[]),(Mo "",Mo "_law_agrees",[Mo "side"],[]),(Mo "",Mo "_law_row",[],[]),(Mo "",Mo "_law_numeral",[Mo "char"],[]),(Mo "",Mo "_law_digits",[],[]),(Mo "",Mo "_law_spelling",[Mo "char"],[]),(Mo "",Mo "_law_due",[Mo "part"],[]),(Mo "",Mo "_law_named",[],[]),(Mo "",Mo "_law_spelled_number",[],[]),(Mo "",Mo "law",[Mo "_"],[])]
noncomputable def Wf:List (Nat×Nat×Nat):=[(2,15,5),(2,16,8),(2,17,7),(2,54,6),(2,45,97),(3,27,98),(3,28,99),(3,29,100),(3,32,101),(4,57,102),(4,61,103),(3,20,28),(3,21,31),(3,22,27),(3,23,29),(3,24,35),(3,25,33),(3,26,32),(3,30,34),(3,31,36),(3,33,30),(4,41,39),(4,42,42),(4,43,40),(4,44,43),(4,46,41),(4,47,44),(4,48,49),(4,49,48),(4,50,46),(4,51,47),(4,55,50),(4,56,51),(4,62,45),(4,80,53),(4,82,52),(5,3,66),(6,53,80),(6,57,78),(6,58,79),(6,66,75),(6,79,76),(6,81,77)]
noncomputable def T:Tab where
 uW:=λc=>[0,1,4,26,38,65,74][c]?
 isExc:=λc=>decide (c<2)
 fU:=λc n=>(Wf.find? λr=>r.1==c&&r.2.1==n).map (·.2.2)
end
end Mine.Internal
namespace Mine.Internal
open PySem PySem.W PySem.Calls PyProof.Rows
noncomputable section
@[irreducible] noncomputable def TT(P:Params):BT:=(mJ P (eH.take 111)).T
theorem iS:∀P:Params,(mJ P (eH.take 111)).n=1069:=λP=>by kernel_rfl
noncomputable def atT(T:BT)(a:Addr):Option Obj:=match Nat.blt a 1069 with
 |false=>none
 |true=>match T.get a with
  |some ⟨_,_,.freed,_⟩=>none
  |o=>o
variable{a:Addr}{o:Obj}
theorem s7{P:Params}(h:atT (TT P) a=some o):(H1 P).get? a=some o:=by
 have e:=absHeap_at (mJ P (eH.take 111)).T (mJ P (eH.take 111)).n (boot_heap P).life a;rw[iS P] at e;unfold atT TT at h;unfold H1 W6 Heap.get?
 dsimp only
 rw[iS P]
 cases hl:Nat.blt a 1069 with
 |false=>rw[hl] at h;cases h
 |true=>
  rw[hl] at h;have:a<1069:=by simpa using hl
  rw[bz this] at e
  cases g:(mJ P (eH.take 111)).T.get a with
  |none=>rw[g] at h;cases h
  |some x=>rw[g] at h e;rw[e];exact h
noncomputable def qt{β:Type}(z:β)(v:Value)(no:β:=z)(bo:Bool->β:=λ_=>z)(it:Int->Tok->β:=λ_ _=>z)(st:Str->Tok->β:=λ_ _=>z)(ty:String->β:=λ_=>z)(bu:String->β:=λ_=>z)(re:Addr->β:=λ_=>z):β:=
 Value.casesOn (motive:=λ_=>β) v no z z bo it (λ_ _=>z) st (λ_ _=>z) ty bu re
noncomputable def vg{β:Type}(z:β)(d:Data)(se:Array Value->Nat->β:=λ_ _=>z)(di:Array DictEntry->Nat->β:=λ_ _=>z)(fu:FuncData->β:=λ_=>z)(cl:ClassData->β:=λ_=>z)(fi:Array Value->β:=λ_=>z):β:=
 Data.casesOn (motive:=λ_=>β) d z (λ_=>z) se di (λ_ _ _=>z) (λ_ _=>z) (λ_=>z) fu cl fi z
variable{v:Value}{m:Value->Prop}{d:Data}{n:Data->Prop}
@[elab_as_elim] theorem Y7{b:Bool}(h:qt false v (no:=b)=true)(k:b=true->m .none):m v:=by cases v<;>first|exact k h|cases h
@[elab_as_elim] theorem Y9{b:Bool->Bool}(h:qt false v (bo:=b)=true)(k:∀x,b x=true->m (.bool x)):m v:=by cases v<;>first|exact k _ h|cases h
@[elab_as_elim] theorem Y8{b:Int->Tok->Bool}(h:qt false v (it:=b)=true)(k:∀x t,b x t=true->m (.int x t)):m v:=by cases v<;>first|exact k _ _ h|cases h
@[elab_as_elim] theorem Ez{b:Str->Tok->Bool}(h:qt false v (st:=b)=true)(k:∀x t,b x t=true->m (.str x t)):m v:=by cases v<;>first|exact k _ _ h|cases h
@[elab_as_elim] theorem Oa{b:String->Bool}(h:qt false v (ty:=b)=true)(k:∀x,b x=true->m (.type x)):m v:=by cases v<;>first|exact k _ h|cases h
@[elab_as_elim] theorem yQ{b:Addr->Bool}(h:qt false v (re:=b)=true)(k:∀x,b x=true->m (.ref x)):m v:=by cases v<;>first|exact k _ h|cases h
@[elab_as_elim] theorem Qv{b:Array Value->Nat->Bool}(h:vg false d (se:=b)=true)(k:∀x t,b x t=true->n (.seq x t)):n d:=by cases d<;>first|exact k _ _ h|cases h
@[elab_as_elim] theorem fg{b:Array DictEntry->Nat->Bool}(h:vg false d (di:=b)=true)(k:∀x t,b x t=true->n (.dict x t)):n d:=by cases d<;>first|exact k _ _ h|cases h
@[elab_as_elim] theorem fb{b:FuncData->Bool}(h:vg false d (fu:=b)=true)(k:∀x,b x=true->n (.func x)):n d:=by cases d<;>first|exact k _ h|cases h
@[elab_as_elim] theorem Qw{b:ClassData->Bool}(h:vg false d (cl:=b)=true)(k:∀x,b x=true->n (.cls x)):n d:=by cases d<;>first|exact k _ h|cases h
@[elab_as_elim] theorem fe{b:Array Value->Bool}(h:vg false d (fi:=b)=true)(k:∀x,b x=true->n (.fields x)):n d:=by cases d<;>first|exact k _ h|cases h
noncomputable def OC:List Nat:=[48,67,79,86,100,107,114,121,128,184,191,198,205,212,226,233,240,247,254,261,268,282,287,292,299,313,328,335,342,349,356,370,391,398,405,412,419,461,477,484,491,498,512,526,540,568,575,582,589,603,632,639,646,653,665,672,679,686,693,700,707,714,721,728,735,749,756,770,777,784,791,798,805,812,827,834,841,848,855,862,869,981,988,993,1000,1005,1010,1015,1020,1027,1032,1039,1044,1049,1056,1063,1068,142,433,377,384,426,596,533]
noncomputable def caL:List Nat:=[51,70,173,450,656,759,970]
def X2:List Nat:=[51,50,70,69,173,172,450,449,656,655,759,758,970,969,606,605,31,30]++OC
def KK(P:Params):Frag:=X2.filterMap λa=>(atT (TT P) a).map (a,·)
theorem Bo{T:BT}:∀{as:Sa} {a:Addr} {o:Obj},(as.filterMap λa=>(atT T a).map (a,·)).lookup a=some o->atT T a=some o
 |[],a,o,h=>by cases h
 |b::r,a,o,h=>by
  rw[List.filterMap_cons] at h
  cases g:atT T b with
  |none=>rw[g] at h;exact Bo h
  |some x=>
   rw[g] at h;simp only[Option.map_some,pK] at h
   by_cases e:a=b
   .subst e;rw[beq_self_eq_true] at h
    cases h
    exact g
   .rw[zb4 e] at h;exact Bo h
theorem AW(P:Params):(KK P).In (H1 P):=λa o e=>s7 (Bo e)
def Ms(f:Nat):Addr:=OC.getD f 0
def CQ(c:Nat):Addr:=caL.getD c 0
def XX(w:World)(h:Heap)(u:Addr):Ctx:=
 {prog:=P0,w,h₀:=h,fa:=λf=>match Nat.beq f 1000 with|true=>u|false=>Ms f,ca:=CQ,nm:=λk=>Nm.getD k Str.empty,nn:=Nm.length,K:=KK w.params,T:=T}
def Ak(T:BT)(a:Addr)(x:Str):Option Value:=ig none (atT T a) λo=>vg none o.data (di:=λes _=>nsFind es x)
def nsOk(T:BT)(a:Addr):Bool:=ig false (atT T a) λo=>vg false o.data (di:=λes _=>es.toList.all λe=>qt false e.key (st:=λ_ _=>true))
theorem Nt{T:BT}{f:Obj->Bool}{G:Prop}(h:ig false (atT T a) f=true)(k:∀o,atT T a=some o->f o=true->G):G:=jZ (z:=false) (P:=(·=true)) (λq=>nomatch q) h k
theorem DP{P:Params}(h:nsOk (TT P) a=true):(H1 P).Ns a (Ak (TT P) a):=by
 refine Nt h λo g h=>?_;have q:∀x,Ak (TT P) a x=vg none o.data (di:=λes _=>nsFind es x):=λx=>by unfold Ak;rw[g];rfl
 have g:=s7 g;obtain⟨c,d,dt,sl⟩:=o
 revert q g
 refine fg (d:=dt) h λes ep h q g=>?_;refine(oG _ es ep g Z (λe he=>?_) (λname=>(q name).symm));have hx:=List.all_eq_true.mp h e (Array.mem_toList_iff.mpr he);exact Ez hx λn t _=>(eO n t Z)
def lI(a:U)(v:Value):Bool:=vH false a (n:=qt false v (no:=true)) (b:=λb=>qt false v (bo:=λc=>b==c)) (i:=λi=>qt false v (it:=λj _=>i==j))
 (s:=λl=>qt false v (st:=λx _=>l==x.cps.toList&&Nat.ble l.length 1000)) (f:=λf=>qt false v (re:=λa=>Nat.beq (Ms f) a&&Nat.blt f 1000)) (c:=λc=>qt false v (re:=λa=>Nat.beq (CQ c) a)) (k:=λb=>Nat.ble b 12&&v==qd b)
noncomputable def N8:List U->List Value->Bool
 |[],l=>l.isEmpty
 |a::l,r=>List.casesOn r false λv r=>lI a v&&N8 l r
def xA(l:Th)(o:Obj):Bool:=vg false o.data (se:=λitems _=>qt false o.cls (ty:=λc=>c=="tuple")&&o.dict.isNone&&o.slots.toList.isEmpty&&Nat.ble l.length 1000&&N8 l items.toList)
def xw(T:BT)(a:U)(v:Value):Bool:=vH (lI a v) a (t:=λl=>qt false v (re:=λt=>ig false (atT T t) (xA l)))
variable{w:World}{h:Heap}{u:Addr}{ρ:Su}
theorem Bq{f:Nat}(lt:f<1000):(XX w h u).fa f=Ms f:=by
 show(match Nat.beq f 1000 with|true=>u|false=>Ms f)=Ms f
 have:Nat.beq f 1000=false:=by
  cases g:Nat.beq f 1000 with
  |false=>rfl
  |true=>have:=zG g;exact J4 lt (dh (Eq.symm this))
 rw[this]
theorem Ob{a:U}(x:lI a v=true){h':Heap}:VR (XX w h u) h' ρ a v:=by
 cases a<;>first|(cases x;done)|skip
 .exact Y7 x λ_=>rfl
 .exact Y9 x λc e=>congrArg Value.bool (dB e).symm
 .exact Y8 x λj t e=>⟨t,by rw[dB e]⟩
 .refine Ez x λy t x=>?_;obtain⟨x1,x2⟩:=and_true x
  cases dB x1
  exact⟨bO (zH x2) Y,t,Z⟩
 .refine yQ x λa x=>?_;obtain⟨x1,x2⟩:=and_true x;exact congrArg Value.ref ((Bq (by simpa using x2)).trans (zG x1)).symm
 .exact yQ x λa x=>congrArg Value.ref (zG x).symm
 .obtain⟨x1,x2⟩:=and_true x;exact⟨zH x1,dB x2⟩
theorem Hx{l:Th}:∀{r:Tu},N8 l r=true->∀{h':Heap},cA (XX w h u) h' ρ l r:=by
 induction l with
 |nil=>intro r x h';cases r<;>first|rfl|cases x
 |cons a l ih=>
  intro r x h'
  cases r with
  |nil=>cases x
  |cons v r=>exact(gn v r Z (Ob (and_true x).1) (ih (and_true x).2))
set_option tactic.hygienic true in
theorem Kq(k:Known w h){a:U}{v:Value}(x:xw (TT w.params) a v=true):VR (XX w h u) h ρ a v:=by
 cases a<;>first|(refine Ob ?_;exact x)|skip
 rename_i l
 refine yQ x λt x=>Nt x λo g x=>?_;have g:=k _ _ (s7 g);obtain⟨c,d,dt,sl⟩:=o
 revert g
 refine Qv (d:=dt) x λitems n x g=>?_;obtain⟨x,x5⟩:=and_true x;obtain⟨x,x4⟩:=and_true x;obtain⟨x,x3⟩:=and_true x;obtain⟨x1,x2⟩:=and_true x
 revert g
 refine Oa (v:=c) x1 λc e g=>?_
 cases dB e
 cases Option.isNone_iff_eq_none.mp x2
 cases sl with|mk sl=>?_
 cases List.isEmpty_iff.mp x3
 exact⟨bO (zH x4) Y,t,items.toList,n,Z,g,Hx x5⟩
def N0(T:BT):Bool:=nsOk T mainGlobals&&nsOk T builtinsNs&&G.all λp=>ig (ig false (Ak T builtinsNs p.1) (xw T p.2)) (Ak T mainGlobals p.1) (xw T p.2)
theorem Xe:∀P:Params,N0 (TT P)=true:=λP=>by unfold TT;kernel_rfl
def zv(T:BT):Bool:=(Ak T mainGlobals "reversed").isNone&&Ak T builtinsNs "reversed"==some (.type "reversed")
theorem ZL:∀P:Params,zv (TT P)=true:=λP=>by unfold TT;kernel_rfl
def AQ(T:BT):Bool:=nsOk T cStatics&&(Ak T cStatics "sys.recursionlimit").isNone
theorem aw:∀P:Params,AQ (TT P)=true:=λP=>by unfold TT;kernel_rfl
variable{k:Nat}
theorem RK{l:za3}{a:Str}:∀{i:Nat},place l a i=some k->i<=k/\l[k - i]?=some a:=by
 induction l with
 |nil=>intro _ h;cases h
 |cons y r ih=>
  intro i h;have h:cond (seq y a) (some i) (place r a (i+1))=some k:=h
  cases q:seq y a with
  |true=>rw[q] at h;injection h with h;rw[<- h,o6.mp q];exact⟨bR _,by rw[jy];rfl⟩
  |false=>rw[q] at h;obtain⟨a1,a2⟩:=ih h;exact⟨iw a1,by rw[EB a1,rJ];exact a2⟩
theorem Z6:tZ Nm=true:=by decide +kernel
theorem yB(k:Known w h):vB (XX w h u) G Nm where
 glob:=by
  obtain⟨g,g3⟩:=and_true (Xe w.params);obtain⟨g1,g2⟩:=and_true g;refine(gn _ _ ((DP g1).keeps k) ((DP g2).keeps k) (λx v hx=>?_));have q:ig (ig false (Ak (TT w.params) builtinsNs x) (xw (TT w.params) v)) (Ak (TT w.params) mainGlobals x) (xw (TT w.params) v)=true:=List.all_eq_true.mp g3 _ (jL hx)
  cases e:Ak (TT w.params) mainGlobals x with
  |some r=>rw[e] at q;exact(aZ r (.inl Z) (Kq k q))
  |none=>rw[e] at q;refine jZ (z:=false) (P:=(·=true)) (λq=>nomatch q) q λr e' q=>?_;exact(aZ r (.inr ⟨Z,e'⟩) (Kq k q))
 pX:=by obtain⟨g1,g2⟩:=and_true (aw w.params);exact(aZ _ ((DP g1).keeps k) (Option.isNone_iff_eq_none.mp g2))
 nm a k' h':=by have:=(RK h').2;rw[Nat.sub_zero] at this;have lt:=(zb6 this).1;refine⟨?_,lt⟩;show Nm.getD k' _=a;rw[List.getD_eq_getElem?_getD,this];rfl
 inj i j hi hj e:=by have e:Nm.getD i Str.empty=Nm.getD j Str.empty:=e;have hi:i<Nm.length:=hi;have hj:j<Nm.length:=hj;rw[List.getD_eq_getElem?_getD,List.getD_eq_getElem?_getD,gM hi,gM hj] at e;exact(List.getElem?_inj hi (wN Z6)).mp (by rw[gM hi,gM hj];exact congrArg some e)
 Jo:=(AW w.params).keeps k
theorem bn0:Bn (XX w h u):=⟨Z,Z,Z,Z,Z,Z⟩
theorem GA(k:Known w h):Hj (XX w h u):=by obtain⟨g,_⟩:=and_true (Xe w.params);obtain⟨g1,g2⟩:=and_true g;obtain⟨r1,r2⟩:=and_true (ZL w.params);exact(rA _ _ ((DP g1).keeps k) ((DP g2).keeps k) (Option.isNone_iff_eq_none.mp r1) (dB r2))
noncomputable def GG{β:Type}(z:β)(b:FuncBody)(f:List Stmt->β):β:=FuncBody.casesOn (motive:=λ_=>β) b f λ_=>z
noncomputable def iE(p:Arguments):Bool:=p.posonlyargs.isEmpty&&p.vararg.isNone&&p.kwonlyargs.isEmpty&&p.kwarg.isNone
def Xm(T:BT)(f:Nat)(r:Str×Str×List Str×List U):Option Fn:=ig none (atT T (Ms f)) λo=>vg none o.data (fu:=λfd=>gd none (iE fd.params) (GG none fd.body λbody=>some (Jq G Nm fd.params.args body fd.scope r.2.2.1 r.2.2.2)))
def FH(P:Params)(f:Nat):Option Fn:=(s8[f]?).bind (Xm (TT P) f)
def codeOk(T:BT)(cd:Value)(q:Str):Bool:=qt false cd (re:=λc=>ig false (atT T c) λo=>vg false o.data (fi:=λvs=>ig false vs.toList[1]? λv=>qt false v (st:=λx _=>seq x q)))
def C5(T:BT)(v:Value)(l:Th):Bool:=qt false v (no:=l.isEmpty) (re:=λt=>ig false (atT T t) λo=>vg false o.data (se:=λitems _=>N8 l items.toList))
def Ct(T:BT)(f:Nat)(r:Str×Str×List Str×List U):Bool:=ig false (atT T (Ms f)) λo=>vg false o.data (fu:=λfd=>fd.closure.isEmpty&&(Nat.beq fd.globals mainGlobals&&(Nat.beq fd.builtins builtinsNs&&(fd.scope.kind== .function&&(!fd.scope.isGenerator&&(!fd.scope.isCoroutine&&
 (codeOk T fd.code fd.qualname&&(C5 T fd.defaults r.2.2.2&&(Nat.ble r.2.2.2.length fd.params.args.length&&(tZ (fd.scope.names.map (·.1))&&((fd.params.args.map (·.arg)).isPrefixOf ((number fd.scope.names 0).map (·.1))&&Nat.ble fd.params.args.length 1000)))))))))))
noncomputable def Xk(T:BT):Nat->List (Str×Str×List Str×List U)->Bool
 |_,[]=>true
 |f,r::l=>Ct T f r&&Xk T (f+1) l
theorem eI:∀P:Params,Xk (TT P) 0 s8=true:=λP=>by unfold TT;kernel_rfl
theorem Xj{T:BT}{r:Str×Str×List Str×List U}{l:List (Str×Str×List Str×List U)}:∀{k f:Nat},Xk T k l=true->l[f]?=some r->Ct T (k+f) r=true:=by
 induction l with
 |nil=>intro _ _ _ h;cases h
 |cons x l ih=>
  intro k f g h;obtain⟨g1,g2⟩:=and_true g
  cases f with
  |zero=>cases h;exact g1
  |succ f=>
   have:=ih g2 h
   rwa [show k+1+f=k+(f+1) by exact mC _ _ _] at this
theorem fw(k:Known w h){cd:Value}{q:Str}(x:codeOk (TT w.params) cd q=true):h.CodeRec cd q:=by
 refine yQ x λc x=>Nt x λo g x=>?_;have g:=k _ _ (s7 g);obtain⟨a,b,dt,sl⟩:=o
 revert g
 refine fe (d:=dt) x λvs x g=>jZ (z:=false) (P:=(·=true)) (λq=>nomatch q) x λv e x=>?_
 revert e
 refine Ez x λy t x e=>?_
 cases o6.mp x
 exact(WN c _ vs t Z g Z (by rw[<- Array.getElem?_toList];exact e))
set_option tactic.hygienic true in
theorem C4(k:Known w h){l:Th}(x:C5 (TT w.params) v l=true):∃items,DfltsAre h v items/\cA (XX w h u) h [] l items:=by
 cases v<;>first|(cases x;done)|skip
 .cases List.isEmpty_iff.mp x
  exact(aZ ([]) (.inl ⟨Z,Z⟩) Z)
 .rename_i t
  refine Nt x λo g x=>?_;have g:=k _ _ (s7 g);obtain⟨a,b,dt,sl⟩:=o
  revert g
  exact Qv (d:=dt) x λitems n x g=>(aZ items.toList (.inr (pq t _ n Z g Z)) (Hx x))
theorem Co{f:Nat}{r:Str×Str×List Str×List U}(h:s8[f]?=some r):f<1000:=by have:=(zb6 h).1;rewrite[show s8.length=97 by decide +kernel] at this;exact Nat.lt_trans this Y
theorem Al{b:Bool}(h:(!b)=true):b=false:=by cases b<;>first|rfl|cases h
theorem qa{p:Arguments}(h:iE p=true):p=⟨[],p.args,none,[],p.kw_defaults,none,p.defaults⟩:=by
 obtain⟨a,b,c,d,e,f,g⟩:=p;obtain⟨h,p4⟩:=and_true h;obtain⟨h,p3⟩:=and_true h;obtain⟨p1,p2⟩:=and_true h
 cases List.isEmpty_iff.mp p1
 cases List.isEmpty_iff.mp p3
 cases Option.isNone_iff_eq_none.mp p2
 cases Option.isNone_iff_eq_none.mp p4
 rfl
inductive kQ(X:Ctx)(f:Nat)(fn:Fn):Prop
 |mk (r:Str×Str×List Str×List U) (hr:s8[f]?=some r) (o:Obj) (fd:FuncData) (args:List Arg) (kd:List (Option Expr)) (ds:zb0) (body:List Stmt) (items:Tu) (g:FnAt X G Nm f fn o fd args kd ds body r.2.2.1 items) (lt:fn.params<=1000):kQ X f fn
theorem Xn(k:Known w h){f:Nat}{fn:Fn}(e:FH w.params f=some fn):kQ (XX w h u) f fn:=by
 have nn:none=some fn->False:=λq=>nomatch q;obtain⟨r,hr,e⟩:=Option.bind_eq_some_iff.mp e;have g:=Xj (eI w.params) hr;rw[mz] at g;refine Nt g λo ho g=>jZ (P:=(·=some fn)) nn e λo' ho' e=>?_
 cases ho.symm.trans ho'
 have ho:=k _ _ (s7 ho);obtain⟨c,d,dt,sl⟩:=o
 revert ho e
 refine fb (d:=dt) g λfd g e ho=>lF (P:=(·=some fn)) nn e λhp e=>?_;obtain⟨g1,g⟩:=and_true g;obtain⟨g2,g⟩:=and_true g;obtain⟨g3,g⟩:=and_true g;obtain⟨g4,g⟩:=and_true g;obtain⟨g5,g⟩:=and_true g;obtain⟨g6,g⟩:=and_true g;obtain⟨g7,g⟩:=and_true g;obtain⟨g8,g⟩:=and_true g;obtain⟨g9,g⟩:=and_true g;obtain⟨E2,g⟩:=and_true g;obtain⟨E1,E0⟩:=and_true g;obtain⟨items,i1,i2⟩:=C4 k g8
 cases hb:fd.body with
 |expr=>rw[hb] at e;cases e
 |stmts body=>
  rw[hb] at e
  cases(e)
  exact⟨r,hr,_,fd,fd.params.args,_,_,body,items,⟨by rw[Bq (Co hr)];exact ho,Z,qa hp,hb,List.isEmpty_iff.mp g1,zG g2,zG g3,dB g4,Al g5,Al g6,fw k g7,i1,i2,by rw[cA.length i2];exact zH g9,Z,E2,E1⟩,zH E0⟩
end
end Mine.Internal
namespace Mine.Internal
open PySem PySem.W PySem.Calls PyProof.Rows Builtin Builtin.ObjectAttr
noncomputable section
noncomputable def CL:List Value:=[.type "Exception",.type "BaseException",.type "object"]
def AE:List Value:=[.type "object"]
noncomputable def yW:List Value->List Value
 | .ref _::r=>yW r
 |l=>l
noncomputable def KP(cd:ClassData):Bool:=cd.hasDict&&(!cd.mro.isEmpty&&(cd.mro.contains (.type "object")&&(yW cd.mro==AE||yW cd.mro==CL)))
def Lz(K:Frag)(c n:Nat):Bool:=ig (findIn K (.ref (CQ c)) (Nm.getD n Str.empty)==some none) (T.fU c n) λf=>
 findIn K (.ref (CQ c)) (Nm.getD n Str.empty)==some (some (.ref (Ms f)))&&(typeIn K (.ref (Ms f))==some (.type "function")&&Nat.blt f 1000)
def kG(K:Frag)(c:Nat):Bool:=ig false (clsIn K (CQ c)) KP&&
 (cond (T.isExc c) (findIn K (.ref (CQ c)) "__getattribute__"==some (some (.builtin "BaseException.__getattribute__"))&&mroIn K (CQ c) (.type "BaseException")==some true) (findIn K (.ref (CQ c)) "__getattribute__"==some (some (.builtin "object.__getattribute__")))&&
 (findIn K (.ref (CQ c)) "__getattr__"==some none&&(findIn K (.ref (CQ c)) "__setattr__"==some (some (.builtin "object.__setattr__"))&&(List.range Nm.length).all (Lz K c))))
def vi(K:Frag):Bool:=(List.range 7).all (kG K)
theorem fz:∀P:Params,vi (KK P)=true:=λP=>by unfold KK TT;kernel_rfl
theorem rU(self:Value):∀l:List Value,refuseLoop self "__setattr__" l=refuseLoop self "__setattr__" (yW l)
 |[]=>rfl
 | .ref BC::r=>by rw[refuseLoop_ref];exact rU self r
 | .none::r=>rfl
 | .bool _::r=>rfl
 | .int _ _::r=>rfl
 | .str _ _::r=>rfl
 | .type _::r=>rfl
 | .builtin _::r=>rfl
 | .ellipsis::r=>rfl
 |v::r=>by cases v<;>first|rfl|(rw[refuseLoop_ref];exact rU self r)
theorem K8(self:Value):refuseLoop self "__setattr__" AE=pure ():=by kernel_rfl
theorem K9(self:Value):refuseLoop self "__setattr__" CL=pure ():=by kernel_rfl
variable{w:World}{h:Heap}{u:Addr}
variable{c:Nat}
theorem X6(x:kG (KK w.params) c=true):yH (XX w h u) c:=by
 obtain⟨x1,x⟩:=and_true x;obtain⟨x2,x⟩:=and_true x;obtain⟨x3,x⟩:=and_true x;obtain⟨x4,x5⟩:=and_true x;refine⟨?_,λe=>?_,λe=>?_,dB x3,dB x4,λn hn hm=>?_,λn f hn hm=>?_⟩
 .refine jZ (z:=false) (P:=(·=true)) (λq=>nomatch q) x1 λcd hc x1=>?_;obtain⟨y1,x1⟩:=and_true x1;obtain⟨y2,x1⟩:=and_true x1;obtain⟨y3,y4⟩:=and_true x1;refine(A9 cd hc y1 (Al y2) y3 (λself=>?_));rw[rU]
  rcases ur _ _▸y4 with y|y
  .rw[dB y];exact K8 self
  .rw[dB y];exact K9 self
 .rw[show T.isExc c=false from e] at x2;exact dB x2
 .rw[show T.isExc c=true from e] at x2;exact⟨dB (and_true x2).1,dB (and_true x2).2⟩
 .have q:=List.all_eq_true.mp x5 n (List.mem_range.mpr hn);unfold Lz at q;rw[show T.fU c n=none from hm] at q;exact dB q
 .have q:=List.all_eq_true.mp x5 n (List.mem_range.mpr hn);unfold Lz at q;rw[show T.fU c n=some f from hm] at q;obtain⟨q1,q⟩:=and_true q;obtain⟨q2,q3⟩:=and_true q;rw[show(XX w h u).fa f=Ms f from Bq (by simpa using q3)];exact⟨dB q1,dB q2⟩
theorem X7(hc:c<7):yH (XX w h u) c:=X6 (List.all_eq_true.mp (fz w.params) c (List.mem_range.mpr hc))
noncomputable def hd2{α β:Type}(z:β)(l:List α)(f:α->List α->β):β:=List.casesOn l z f
def six{α β:Type}(z:β)(l:List α)(f:α->α->α->α->α->α->β):β:=hd2 z l λa l=>hd2 z l λb l=>hd2 z l λc l=>hd2 z l λd l=>hd2 z l λe l=>hd2 z l λg l=>List.casesOn l (f a b c d e g) λ_ _=>z
variable{α:Type}
@[elab_as_elim] theorem Bj{l:List α}{m:List α->Prop}{f:α->List α->Bool}(h:hd2 false l f=true)(k:∀a l,f a l=true->m (a::l)):m l:=by cases l<;>first|exact k _ _ h|cases h
@[elab_as_elim] theorem y8{l:List α}{m:List α->Prop}{f:α->α->α->α->α->α->Bool}(h:six false l f=true)(k:∀a b c d e g,f a b c d e g=true->m [a,b,c,d,e,g]):m l:=by
 refine Bj h λa l h=>Bj h λb l h=>Bj h λc l h=>Bj h λd l h=>
  Bj h λe l h=>Bj h λg l h=>?_
 cases l<;>first|exact k _ _ _ _ _ _ h|cases h
def CH(c:Nat)(o:Obj):Bool:=vg false o.data (cl:=λcd=>qt false o.cls (ty:=λty=>ty=="type")&&(!cd.hasDel&&(hd2 false cd.mro (λm bm=>m== .ref (CQ c)&&(bm.contains (.type "Exception")&&(!bm.contains (.type "AttributeError")&&!bm.contains (.type "NameError"))))&&
 six false o.slots.toList λ_ _ _ _ b _=>b==some (.builtin "Exception.__new__"))))
def newOk(T':BT)(K:Frag)(c f:Nat):Bool:=ig false (atT T' (CQ c)) (λo=>vg false o.data (cl:=λ_=>true))&&(specialIn K (.ref (CQ c)) "__call__"==some (some (.builtin "type.__call__"))&&
 (findIn K (.ref (CQ c)) "__init__"==some (some (.ref (Ms f)))&&(typeIn K (.ref (Ms f))==some (.type "function")&&(Nat.blt f 1000&&(Nat.blt c 7&&
 cond (T.isExc c) (mroIn K (CQ c) (.type "BaseException")==some true&&(mroIn K (CQ c) (.ref (CQ c))==some true&&ig false (atT T' (CQ c)) (CH c))) (makesIn K (CQ c)))))))
def ve(T':BT)(K:Frag):Bool:=(List.range 7).all λc=>ig true (T.uW c) (newOk T' K c)
theorem Z7:∀P:Params,ve (TT P) (KK P)=true:=λP=>by unfold KK TT;kernel_rfl
theorem Lr(k:Known w h){f:Nat}(x:newOk (TT w.params) (KK w.params) c f=true):zx (XX w h u) c f/\(T.isExc c=true->qU (XX w h u) c):=by
 obtain⟨x1,x⟩:=and_true x;obtain⟨x2,x⟩:=and_true x;obtain⟨x3,x⟩:=and_true x;obtain⟨x4,x⟩:=and_true x;obtain⟨x5,x⟩:=and_true x;obtain⟨x6,x7⟩:=and_true x;have lc:c<7:=by simpa using x6
 have ef:(XX w h u).fa f=Ms f:=Bq (by simpa using x5)
 have BG:∃o cd,h.get? (CQ c)=some o/\o.data= .cls cd:=by refine Nt x1 λo g x1=>⟨o,?_⟩;exact Qw x1 λcd _=>(aZ cd (k _ _ (s7 g)) Z)
 have i3:findIn (KK w.params) (.ref (CQ c)) "__init__"=some (some (.ref ((XX w h u).fa f))):=by rw[ef];exact dB x3
 have i4:typeIn (KK w.params) (.ref ((XX w h u).fa f))=some (.type "function"):=by rw[ef];exact dB x4
 cases he:T.isExc c with
 |false=>rw[he] at x7;exact⟨⟨X7 lc,BG,dB x2,i3,i4,.inl ⟨he,x7⟩⟩,λz=>by cases z⟩
 |true=>
  rw[he] at x7;obtain⟨y1,x7⟩:=and_true x7;obtain⟨y2,y3⟩:=and_true x7;refine Nt y3 λo g y=>?_;have g:=k _ _ (s7 g);obtain⟨cl,dd,dt,sl⟩:=o
  revert g
  refine Qw (d:=dt) y λcd y g=>?_;obtain⟨z1,y⟩:=and_true y;obtain⟨z2,y⟩:=and_true y;obtain⟨z3,z4⟩:=and_true y;obtain⟨nm,bs,mro,ns,q,hd,sn,sub,ab,col,del⟩:=cd
  cases sl with|mk sl=>?_
  revert g
  refine Oa (v:=cl) z1 λty z1=>Bj (l:=mro) z3 λm bm z3=>y8 (l:=sl) z4 λk0 k1 k2 k3 b k5 z4 g=>?_;obtain⟨w1,z3⟩:=and_true z3;obtain⟨w2,z3⟩:=and_true z3;obtain⟨w3,w4⟩:=and_true z3
  cases dB z1
  cases dB w1
  cases dB z4
  cases(Al z2)
  exact⟨⟨X7 lc,BG,dB x2,i3,i4,.inr ⟨he,nm,q,ns,bs,bm,hd,sn,sub,ab,col,dd,k0,k1,k2,k3,k5,g,⟨w2,Al w3,Al w4⟩⟩⟩,λ_=>⟨dB y1,(gn _ _ g Z Z),dB y2⟩⟩
theorem Uh(k:Known w h):oA (XX w h u) G Nm (FH w.params):=by
 have g:∀c f,T.uW c=some f->zx (XX w h u) c f/\(T.isExc c=true->qU (XX w h u) c):=λc f e=>by have q:=List.all_eq_true.mp (Z7 w.params) c (List.mem_range.mpr (zb6 e).1);rw[e] at q;exact Lr k q
 refine⟨yB k,bn0,GA k,λf fn e=>?_,λf fn e=>?_,λc f e=>(g c f e).1,λc e=>?_⟩
 .obtain⟨r,_,o,fd,args,kd,ds,body,items,q,_⟩:=Xn k e;exact⟨o,fd,args,kd,ds,body,_,items,q⟩
 .obtain⟨_,_,_,_,_,_,_,_,_,_,q⟩:=Xn (u:=u) k e;exact q
 .exact(g c _ (gM (Nat.lt_trans (eY e) Y))).2 e
end
end Mine.Internal
namespace Mine.Internal
open PySem PySem.W PyProof.Rows PySem.Calls Builtin Builtin.ObjectAttr Builtin.Str
noncomputable section
variable{X:Ctx}{Φ:iC}{d n:Nat}{hd:Bool}{A A':Around}{l:za7}{env:Env}{cx:Cx}{B Wi:Loc}{s:Shared}{ρ aM jd:Su}{σ aC bL:St}{h aJ eZ b0:Heap}{Q E':Q3}{a b c:U}{x y z:Value}{e CE:Addr}
section
variable{G:za4}{Nm:za3}{T:Tab}{E:Q3}
theorem RB(SS:X.h₀.NoLimit){value sl:Expr}{u:Addr}{vs:za8}{ls:Th}(I:Inv X l s.heap ρ σ)(il:s.heap.IsList u vs)(V:cA X s.heap ρ ls vs.toList)(hl:ls.length<=LL){hi:Nat}{t:Tok}
  (H:∀h' tk p,Step X l uA s.heap ρ h' (ρ++[(p,p)]) (σ++[.list (ls.take hi)])->VR X h' (ρ++[(p,p)]) (.ref σ.length) (.ref p)->Q (.ref p) {s with heap:=h',toks:=tk}):
  wpAny X.M A (subscriptTail value sl (.ref u) (.ref s.heap.objs.size)) Q E {s with heap:=s.heap.push {cls:=.type "slice",data:=.fields #[.none,.int hi t,.none]}}:=by
 have K:∀b o,s.heap.get? b=some o->(s.heap.push {cls:=.type "slice",data:=.fields #[.none,.int hi t,.none]}).get? b=some o:=λb o e=>mY _ e;have S1:Step X l uA s.heap ρ (s.heap.push {cls:=.type "slice",data:=.fields #[.none,.int hi t,.none]}) ρ σ:=Step.keeps I K
 have MY:(s.heap.push {cls:=.type "slice",data:=.fields #[.none,.int hi t,.none]}).IsList u vs.toList.toArray:=by refine bY il λo e r=>?_;exact(aZ o (K _ _ e) (by rw[Array.toArray_toList];exact r))
 have lv:=cA.length V;refine mF MY.typeIs list_getitem_lookup (wpAny_getItem_list_slice MY (Heap.IsSliceOf.new ..) .none (.int (hi:Int) t) .none (by simp) ?_ (by rw[jJ,sizeLine_eq];unfold LL at hl;exact bO (dh lv) (bO hl (dl Z))));rw[show slicePick vs.toList.toArray none (some (hi:Int)) none=(Mine.Internal.cut vs.toList none (some hi)).toArray from Im vs.toList none (some hi)];obtain⟨S,R⟩:=sU (s:={s with heap:=_}) SS S1.inv (cA.cut none (some hi) (cA.mono (eF K) (jF.refl _) _ _ V)) (bO (G6 _ _ _) hl);exact H _ s.toks _ (S1.trans S) R
theorem Mr(S:vB X G Nm)(sE:uo X G Nm X.T Φ d 39)(ok:Ok X hd d A l env cx)(F:Fm cx l env CE)(a:At X hd A l env cx s.heap ρ σ B){v he:Expr}{y:Str}{i:Nat}{py p pos KN:Pos}{vs:za8}{ls:Th}{f hi:Nat}
  (hx:(y,i)∈cx.slots) (hv:aV X.T Φ hd (cE G Nm 39 cx v) B σ= .ok (.fn f) σ) (hh:aV X.T Φ hd (cE G Nm 39 cx he) B σ= .ok (.int hi) σ) (il:s.heap.IsList (X.fa f) vs) (V:cA X s.heap ρ ls vs.toList) (hl:ls.length<=LL)
  (ER:¬foot ρ (X.fa f)) {Q:Q4}
  (H:∀h' tk cY,Step X l (own env) s.heap ρ h' cY (σ++[.list (ls.take hi)])->At X hd A l env cx h' cY (σ++[.list (ls.take hi)]) (B.set i (.ref σ.length))->Q .next {s with heap:=h',toks:=tk}):
  wpAny X.M A (exec (.Assign [.Name y py] (.Subscript v (.Slice none (some he) none p) pos) KN) env) Q E s:=by
 have A0:∀{h1:Heap} {LY:Su} {LX:St},Step X l uA s.heap ρ h1 LY LX->h1.IsList (X.fa f) vs:=λ{h1 LY LX} S1=>by
  refine um il λo e c1 r=>?_
  rcases S1.keep _ o e ER (λz=>z) with k|⟨k,_⟩
  .exact(oH o k c1 r)
  .rw[c1] at k;exact absurd k Y
 refine wpAny_Assign_Name (Subscript_ (sE hd A l env cx v B s ρ σ _ E ok a ?_)) Z;rw[hv];intro aJ cj aM P5 bI vu;have vu:=vu;subst vu;refine wpAny_Slice ?_;rw[evalPart_none,evalPart_some];refine cF ?_;have fX:=a.step bI;refine sE hd A l env cx he B _ aM σ _ E ok fX ?_;rw[hh];intro eZ o4 jd P4 eN vt;obtain⟨t,vt⟩:=vt;subst vt;refine cF ?_;have LM:=bI.trans eN;refine RB S.pX eN.inv (A0 LM) (LM.FD a.inv V) hl λh' tk q S3 R=>?_;have vA:=fX.step eN;have J5:=vA.step S3;exact iT ok F J5 hx (.inr R) λh'' tk'' S' a' _=>H h'' tk'' _ (((LM.trans S3).mono λ_ z=>z.elim).trans S') a'
end
end
end Mine.Internal
namespace Mine.Internal
open PySem PySem.W PySem.Calls PyProof.Rows
noncomputable section
def PB:List Str:=[Mo "_"]
def uB:Cx:=G5 Aw.scope PB
def LK(f:Nat):Loc:=[U.fn f]++List.replicate (uB.base+PB.length - 1) .L
theorem aS:s8[96]?=some (Str.empty,Mo "law",PB,[]):=by kernel_rfl
theorem RZ:uB.slots.take 2=[(Mo "script",0),(Mo "cells",1)]:=by kernel_rfl
variable{R:WRecords}{cl:Str->Option Addr}{h:Heap}
theorem items_int:∀{xs:List WData},WShape.hasItems R xs .int=true->∃l:List Int,xs=l.map .int
 |[],_=>⟨[],Z⟩
 |x::xs,e=>by unfold WShape.hasItems at e;rw[jH] at e;obtain⟨i,rfl⟩:=hasW_int e.1;obtain⟨l,rfl⟩:=items_int e.2;exact⟨i::l,Z⟩
variable{X:Ctx}{ρ:Su}
theorem Dy{h':Heap}:∀{l:za6} {vs:Tu} {as:List Addr},ReadsAllW R cl h vs (l.map .int) as->cA X h' ρ (l.map .int) vs
 |[],vs,as,x=>by
  rw[vJ] at x
  cases x
  rfl
 |i::l,vs,as,x=>by
  rw[cH] at x
  cases x with
  |cons a b=>
   cases a
   exact(gn _ _ Z ⟨_,Z⟩ (Dy b))
theorem Rz{args:List WData}{vals:Tu}{as:List Addr}(hp:WShape.hasAll R args [.list .int]=true)(HZ:ReadsAllW R cl h vals args as):
  ∃(u:Addr) (vs:za8) (l:za6),vals=[.ref u]/\args=[.list (l.map .int)]/\h.IsList u vs/\∀{X:Ctx} {h':Heap} {ρ:Su},cA X h' ρ (l.map .int) vs.toList:=by
 obtain⟨d,r,rfl,h1,h2⟩:=hasAllW_cons hp;have:=hasAllW_nil h2;subst this;obtain⟨xs,rfl,h3⟩:=hasW_list h1;obtain⟨l,rfl⟩:=items_int h3
 cases HZ with
 |cons a b=>
  cases b
  cases a with
  |list g c e f=>exact(oG _ _ l Z Z ⟨_,g,c,_,e⟩ (Dy f))
theorem ZR{l:za6}(x:L0.row.toRowW.pre.holds L0.row.toRowW.records {args:=[.list (l.map .int)]}=true):l.length<=63:=by
 have e:L0.row.toRowW.pre= .and (.not (.lt (.lit (.int 63)) (.len (.arg 0)))) (.lit (.bool true)):=by kernel_rfl
 rw[e] at x
 by_cases hl:l.length<=63
 .exact hl
 .exfalso;have:((63:Int)<(l.map WData.int).length):=by rw[dN];exact Bc (yj hl)
  have x:(WTm.and (.not (.lit (.bool (decide ((63:Int)<((l.map WData.int).length:Int)))))) (.lit (.bool true))).holds L0.row.toRowW.records {args:=[.list (l.map .int)]}=true:=x;rw[dF this] at x;exact Bool.noConfusion (show false=true from x)
variable{w:World}{a:Addr}
theorem qB{mg:Str->Option Value}(k:Known w h)(hn:h.Ns mainGlobals mg)(hm:mg (Mo "law")=some (.ref a)):a=Ms 96:=by
 have g:=Xe w.params;unfold N0 at g;rw[jH,jH] at g;have n1:=(DP g.1.1).keeps k;rw[hn.eq_nsMap] at hm;have e:=n1.eq_nsMap;rw[<- e] at hm;have hg:=jL (show look G (Mo "law")=some (.fn 96) from by kernel_rfl);have:=List.all_eq_true.mp g.2 _ hg
 dsimp only at this
 rw[hm] at this;have v:=Kq (u:=0) (ρ:=[]) k this;have v:=v;injection v
theorem Wr:∃py v he p pos KN,Aw.body= .Assign [.Name (Mo "cells") py] (.Subscript v (.Slice none (some he) none p) pos) KN::Aw.body.drop 1/\cE G Nm 39 uB v= .B 0/\cE G Nm 39 uB he= .lit (.int 63):=
 (HI _ _ _ _ _ _ Z (by kernel_rfl) (by kernel_rfl))
theorem sh(P:Params):(FH P 96).isSome=true:=by unfold FH TT;kernel_rfl
theorem Ws:Aw.params.args.length=1:=by kernel_rfl
theorem Ng:(Mo "cells",1)∈uB.slots:=by
 have h:=RZ;have:(Mo "cells",1)∈uB.slots.take 2:=by rw[h];exact .tail _ (.head _)
 exact List.mem_of_mem_take this
variable{d:Nat}
theorem oA.FX{G:za4}{Nm:za3}{F:Nat->Option Fn}(W:oA X G Nm F)(mi:TJ X (Mine.Internal.BZ X.T F d) d)(n:Nat):uo X G Nm X.T (Mine.Internal.BZ X.T F d) d n:=
 ip W.KJ W.bn mi.ok (W.kz d) (V4 W.KJ mi (W.Qk d) W.news) (Va W.rev) n
theorem Vs{args:List WData}:L0.row.toRowW.claim.post args (.bool true) args=true:=by kernel_rfl
theorem La{args:List WData}(cls:ExcName):L0.row.toRowW.claim.raises args cls=false:=by rfl
def DT(X:Ctx)(d:Nat)(hd:Bool)(cx:Cx)(v3:List Stmt)(B:Loc)(σ:St)(r:SR):Prop:=
 ∀(A:Around) (l:za7) (env:Env) (CE:Addr) (s:Shared) (ρ:Su) (Q:Q4) (E:Q3),Ok X hd d A l env cx->Fm cx l env CE->At X hd A l env cx s.heap ρ σ B->aY X hd A l env cx CE r s ρ Q E->wpAny X.M A (execs v3 env) Q E s
def Q6:Prop:=∀(w:World) (h:Heap) (u:Addr) (l:za6),Known w h->l.length<=63->∃B σ,DT (XX w h u) 60 false uB (Aw.body.drop 1) ((LK 1000).set 1 (.ref 0)) [.list (l.map .int)] (.done (.ret (.bool true)) B σ)
variable{b:Nat}
theorem Yl{fn:Fn}{a:Nat}(hp:fn.params=1)(hs:fn.slots=b)(hf:a=1000):ou fn [.fn a]=some ([U.fn 1000]++List.replicate (b - 1) .L):=by
 unfold ou;rewrite[hp,hs,hf,show[U.fn 1000].length=1 from Z,dF (d9 1 fn.q7.length),jy,Nat.sub_zero,List.drop_length,dH]
 rfl
theorem Wn(LR:Q6):WalkO Q0 Aq (λ_ _=>True) Known L0.row.toRowW Aw [] (λf vs=>PySem.call f vs):=by
 intro w RS mD mg mb G0 ir a o pm cd doc dV kV ho xP NM hD ZT hg args vals as Iq ZY HZ hwl NA;obtain⟨p1,p2⟩:=pre_splitW Iq;obtain⟨u,vs,l,rfl,rfl,il,V⟩:=Rz p1 HZ;have hl:=ZR p2;have ha:=qB ir G0.T.g (by rw[<- ZT];rfl);subst ha;generalize hX:XX w mD.heap u=X;have W:=hX▸Uh ir;obtain⟨fn,IM⟩:=Option.isSome_iff_exists.mp (sh w.params);obtain⟨r,hr,o',fd,args',kd,ds,body,items,FS,_⟩:=Xn ir IM;rw[aS] at hr;have hr:=(Option.some.inj hr).symm;subst hr;rw[hX] at FS;have h0:X.h₀=mD.heap:=by rw[<- hX];rfl
 have NI:X.fa 96=Ms 96:=by rw[<- hX];exact Bq Y
 have NH:X.fa 1000=u:=by rw[<- hX];rfl
 have hM:X.M=model L0.row.toRowW.prog w:=by rw[<- hX];rfl
 have hT:X.T=T:=by rw[<- hX];rfl
 have FS':=FS;obtain⟨g1,g2,g3,g4,g5,g6,g7,g8,g9,E2,E1,E0,Jn,OA,Cc,Oy,N9⟩:=FS';rw[h0,NI,ho] at g1;have g1:=Option.some.inj g1;subst g1;rw[xP] at g2;have g2:=(Data.func.inj g2).symm
 have eb:body=Aw.body:=by rw[g2] at g4;exact(FuncBody.stmts.inj g4).symm
 have esc:fd.scope=Aw.scope:=by rw[g2];rfl
 have CR:args'.length=1:=by
  rw[g2] at g3
  have e:args'=Aw.params.args:=by have:=congrArg Arguments.args g3;exact this.symm
  rw[e];exact Ws
 have OO:G5 fd.scope PB=uB:=by rw[esc];rfl
 have AM:VR X mD.heap [] (.fn 1000) (.ref u):=by show Value.ref u= .ref (X.fa 1000);rw[NH]
 have I:Inv X [] mD.heap [] []:=⟨λb o e=>by rw[<- h0];exact e,Z,λi p o e=>(by cases e),λp m=>(by cases m),λi j p q _ e=>(by cases e),λb f=>(let⟨p,m,_⟩:=f;by cases m),λe m=>(by cases m)⟩;obtain⟨B,σ,run⟩:=LR w mD.heap u l ir hl;rw[hX] at run;obtain⟨py,v,he,p,pos,KN,b1,b2,b3⟩:=Wr;rw[<- hM,<-NI]
 have Cv:ou fn [.fn 1000]=some (LK 1000):=by have q:=congrArg Fn.params Cc;have q2:=congrArg Fn.slots Cc;refine(Yl (q.trans CR) ?_ Z);rw[q2,<-OO];rfl
 refine wpAny_call (Jx (d:=60) W.KJ FS (as:=[.fn 1000]) (hd:=false) Z ⟨λ_=>rfl,λz=>by cases z⟩ Y Y I (gn _ _ Z AM Z) Cv (r:=.done (.ret (.bool true)) B σ) ?_ ?_)
 .intro env CE h2 YM Q' E' ok F a H';rw[OO] at ok F a H';rw[eb,b1];have k2:∀b o,mD.heap.get? b=some o->h2.get? b=some o:=λb o e=>a.inv.low b o (by rw[h0];exact e);refine bY il λol e1 e2=>?_;refine wpAny_execs_cons (Mr (f:=1000) (hi:=63) W.KJ (W.FX (oA.BZ W 60) 39) ok F a Ng ?_ ?_ (aZ ol ?_ e2) V ?_ ?_ ?_)
  .rw[b2];rfl
  .rw[b3];rfl
  .rw[NH];exact k2 _ _ e1
  .rw[dN];unfold LL;exact bO hl (dl Z)
  .intro f;obtain⟨q,m,_⟩:=f
   cases m
  .intro h' tk cY S a';have e63:(l.map U.int).take 63=l.map .int:=Hv (by rw[dN];exact hl);rw[e63] at S a';exact run _ _ _ CE {mD with heap:=h',toks:=tk} cY _ _ ok F a' (aY.at (s:={mD with heap:=h2,toks:=YM}) H' S)
 .intro h' tk cY x S V';have V':=V';subst V';refine(Jf (.inl (A6 _ (.bool true) ([]) Z La (ReadsW.bool true) Vs (λ_=>⟨qY,λ_ hm=>by cases hm⟩))) (.of_keep λb o e=>S.inv.low b o (by rw[h0];exact e)) Z ?_);rw[hg];exact AllBare.empty
end
noncomputable section
def b0:List S:=[.fY (J 0) 6 (J 1)]
def n0:Fn:=⟨2,2,[],b0⟩
def b1:List S:=[.fY (J 0) 7 (J 1),.fY (J 0) 8 (J 2),.fY (J 0) 9 (J 3),.fY (J 0) 10 (J 4)]
def n1:Fn:=⟨5,5,[],b1⟩
def b2:List S:=[.ret (.tup [(Ls [91,93]),(Ls [46]),(Ls [123,125]),(Ls [45]),(Ls [43]),(Ls [42]),(Ls [47]),(Ls [44]),(Ls [124]),(Ls [59]),(Ls [45,62]),(Ls [92,43]),(Ls [58,45]),(Ls [63,45]),(Ls [45,45,62]),(Ls [33]),(Ls [116,114,117,101]),(Ls [102,97,105,108]),(Ls [102,97,108,115,101]),(Ls [99,97,108,108]),(Ls [61]),(Ls [94]),(Ls [101,114,114,111,114]),(Ls []),(Ls [101,110,100,95,111,102,95,102,105,108,101]),(Ls [115,121,115,116,101,109]),(Ls [36,86,65,82]),(Ls [99,97,116,99,104]),(Ls [116,104,114,111,119])])]
def n2:Fn:=⟨0,0,[],b2⟩
def b3:List S:=[.ret (.tup [(.tup [(Ls [46]),(D 2)]),(.tup [(Ls [44]),(D 2)]),(.tup [(Ls [59]),(D 2)]),(.tup [(Ls [45,62]),(D 2)]),(.tup [(Ls [92,43]),(D 1)]),(.tup [(Ls [58,45]),(D 2)]),(.tup [(Ls [58,45]),(D 1)]),(.tup [(Ls [63,45]),(D 1)]),(.tup [(Ls [45,45,62]),(D 2)]),(.tup [(Ls [123,125]),(D 1)]),(.tup [(Ls [61]),(D 2)]),(.tup [(Ls [94]),(D 2)]),(.tup [(Ls [45]),(D 1)]),(.tup [(Ls [45]),(D 2)]),(.tup [(Ls [43]),(D 2)]),(.tup [(Ls [47]),(D 2)]),(.tup [(Ls [101,114,114,111,114]),(D 2)]),(.tup [(Ls [36,86,65,82]),(D 1)]),(.tup [(Ls [99,97,116,99,104]),(D 3)]),(.tup [(Ls [116,104,114,111,119]),(D 1)]),(.tup [(Ls [33]),(D 0)]),(.tup [(Ls [116,114,117,101]),(D 0)]),(.tup [(Ls [102,97,105,108]),(D 0)]),(.tup [(Ls [102,97,108,115,101]),(D 0)]),(.tup [(Ls [99,97,108,108]),(D 1)]),(.tup [(Ls [99,97,108,108]),(D 2)]),(.tup [(Ls [99,97,108,108]),(D 3)]),(.tup [(Ls [99,97,108,108]),(D 4)]),(.tup [(Ls [99,97,108,108]),(D 5)]),(.tup [(Ls [99,97,108,108]),(D 6)]),(.tup [(Ls [99,97,108,108]),(D 7)]),(.tup [(Ls [99,97,108,108]),(D 8)])])]
def n3:Fn:=⟨0,0,[],b3⟩
def b4:List S:=[.fY (J 0) 11 (.list []),.fY (J 0) 12 .lN,.fY (J 0) 13 (.list []),.fY (J 0) 14 .lN,.lG 1 (Cf 2 []) [.expr (.aG (J 0) 15 [(J 1)])],.lG 2 (Cf 3 []) [.expr (.aG (J 0) 16 [(.idx (J 2) (D 0)),(.idx (J 2) (D 1))])]]
def n4:Fn:=⟨1,3,[],b4⟩
def b5:List S:=[.asg 2 (.aG (.attr (J 0) 12) 2 [(J 1),(.neg (D 1))]),.cW (.cmp .ge (J 2) (D 0)) [.ret (J 2)] [],.asg 3 (Cb 0 [(.attr (J 0) 11)]),.expr (.aG (.attr (J 0) 11) 0 [(J 1)]),.j7 (.attr (J 0) 12) (J 1) (J 3),.ret (J 3)]
def n5:Fn:=⟨2,4,[],b5⟩
def b6:List S:=[.ret (.idx (.attr (J 0) 11) (J 1))]
def n6:Fn:=⟨2,2,[],b6⟩
def b7:List S:=[.asg 3 (.tup [(J 1),(J 2)]),.asg 4 (.aG (.attr (J 0) 14) 2 [(J 3),(.neg (D 1))]),.cW (.cmp .ge (J 4) (D 0)) [.ret (J 4)] [],.asg 5 (Cb 0 [(.attr (J 0) 13)]),.expr (.aG (.attr (J 0) 13) 0 [(J 3)]),.j7 (.attr (J 0) 14) (J 3) (J 5),.ret (J 5)]
def n7:Fn:=⟨3,6,[],b7⟩
def b8:List S:=[.ret (.aG (J 0) 17 [(.aG (J 0) 15 [(J 1)]),(J 2)])]
def n8:Fn:=⟨3,3,[],b8⟩
def b9:List S:=[.ret (.call (.lit (.cls 0)) [(.tup [(Ls [115]),(D 16),(.tup [(J 0),(.tup [(Ls [97]),(D 25)])])])])]
def n9:Fn:=⟨1,1,[],b9⟩
def PC:List S:=[.asg 3 (.list []),.lG 4 (J 2) [.expr (.aG (J 3) 0 [(.ite (Cb 4 [(J 4),(.lit (.bi 5))]) (.tup [(Ls [97]),(.aG (J 0) 15 [(J 4)])]) (J 4))])],.ret (.tup [(Ls [115]),(.aG (J 0) 16 [(J 1),(Cb 0 [(J 3)])]),(Cb 7 [(J 3)])])]
def XI:Fn:=⟨3,5,[],PC⟩
def b11:List S:=[.ret (Cf 9 [(.tup [(Ls [97]),(.aG (J 0) 15 [(Ls [105,110,115,116,97,110,116,105,97,116,105,111,110,95,101,114,114,111,114])])])])]
def XG:Fn:=⟨1,1,[],b11⟩
def b12:List S:=[.ret (Cf 9 [(Cf 10 [(J 0),(Ls [116,121,112,101,95,101,114,114,111,114]),(.tup [(J 1),(J 2)])])])]
def XE:Fn:=⟨3,3,[],b12⟩
def b13:List S:=[.ret (Cf 9 [(Cf 10 [(J 0),(Ls [114,101,112,114,101,115,101,110,116,97,116,105,111,110,95,101,114,114,111,114]),(.tup [(J 1)])])])]
def XB:Fn:=⟨2,2,[],b13⟩
def b14:List S:=[.ret (Cf 9 [(Cf 10 [(J 0),(Ls [115,121,110,116,97,120,95,101,114,114,111,114]),(.tup [(J 1)])])])]
def XA:Fn:=⟨2,2,[],b14⟩
def b15:List S:=[.ret (.both false [(.cmp .eq (J 0) (D 32)),(.both true [(.cmp .le (D 9) (J 0)),(.cmp .le (J 0) (D 13))])])]
def Xs:Fn:=⟨1,1,[],b15⟩
def b16:List S:=[.ret (.both true [(.cmp .le (D 48) (J 0)),(.cmp .le (J 0) (D 57))])]
def WZ:Fn:=⟨1,1,[],b16⟩
def b17:List S:=[.ret (.both true [(.cmp .le (D 97) (J 0)),(.cmp .le (J 0) (D 122))])]
def WV:Fn:=⟨1,1,[],b17⟩
def b18:List S:=[.ret (.both true [(.cmp .le (D 65) (J 0)),(.cmp .le (J 0) (D 90))])]
def WU:Fn:=⟨1,1,[],b18⟩
def b19:List S:=[.ret (.both false [(Cf 17 [(J 0)]),(Cf 18 [(J 0)]),(Cf 16 [(J 0)]),(.cmp .eq (J 0) (D 95))])]
def WS:Fn:=⟨1,1,[],b19⟩
def b20:List S:=[.ret (.both true [(.cmp .le (D 0) (J 0)),(.cmp .lt (J 0) (D 128)),(.cmp .isIn (Cb 3 [(J 0)]) (Ls [43,45,42,47,92,94,60,62,61,126,58,46,63,64,35,38,36]))])]
def WO:Fn:=⟨1,1,[],b20⟩
def b21:List S:=[.cW (Cf 16 [(J 0)]) [.ret (.bin .sub (J 0) (D 48))] [],.cW (Cf 17 [(J 0)]) [.ret (.bin .sub (J 0) (D 87))] [],.cW (Cf 18 [(J 0)]) [.ret (.bin .sub (J 0) (D 55))] [],.ret (.neg (D 1))]
def WJ:Fn:=⟨1,1,[],b21⟩
def b22:List S:=[.ret (.comp (Cb 2 [(J 1)]) 1 (J 0))]
def WI:Fn:=⟨1,2,[],b22⟩
def b23:List S:=[.ret (.aG (Ls []) 4 [(.comp (Cb 3 [(J 1)]) 1 (J 0))])]
def WH:Fn:=⟨1,2,[],b23⟩
def ui:List S:=[.asg 1 (Cb 9 [(J 0)]),.asg 2 (.list []),.gA (.cmp .ge (J 1) (.bin .pow (D 10) (D 18))) [.Hc [1,3] (Cb 10 [(J 1),(.bin .pow (D 10) (D 18))]),.expr (.aG (J 2) 0 [(.aG (Cb 5 [(J 3)]) 5 [(D 18)])])],.expr (.aG (J 2) 0 [(Cb 5 [(J 1)])]),.cW (.cmp .lt (J 0) (D 0)) [.expr (.aG (J 2) 0 [(Ls [45])])] [],.ret (.joinRev (Ls []) (J 2))]
def WG:Fn:=⟨1,4,[],ui⟩
def b25:List S:=[.cW (.cmp .eq (J 0) (D 98)) [.ret (D 2)] [],.cW (.cmp .eq (J 0) (D 111)) [.ret (D 8)] [],.cW (.cmp .eq (J 0) (D 120)) [.ret (D 16)] [],.ret (D 0)]
def WE:Fn:=⟨1,1,[],b25⟩
def b26:List S:=[.fY (J 0) 18 (J 1),.fY (J 0) 8 (J 2),.fY (J 0) 19 (J 2)]
def WC:Fn:=⟨3,3,[(.int 0)],b26⟩
def b27:List S:=[.cW (.cmp .ge (J 1) (Cb 0 [(.attr (J 0) 18)])) [.ret (D (-1))] [],.asg 2 (.idx (.attr (J 0) 18) (J 1)),.cW (.both false [(.cmp .lt (J 2) (D 0)),(.cmp .gt (J 2) (D 1114111))]) [.ret (D (-2))] [],.ret (J 2)]
def WB:Fn:=⟨2,3,[],b27⟩
def PA:List S:=[.asg 2 (D 1),.asg 3 (D 1),.asg 4 (D 0),.gA (.both true [(.cmp .lt (J 4) (J 1)),(.cmp .lt (J 4) (Cb 0 [(.attr (J 0) 18)]))]) [.cW (.cmp .eq (.idx (.attr (J 0) 18) (J 4)) (D 10)) [.asg 2 (.bin .add (J 2) (D 1)),.asg 3 (D 1)] [.asg 3 (.bin .add (J 3) (D 1))],.asg 4 (.bin .add (J 4) (D 1))],.ret (.tup [(J 2),(J 3)])]
def WA:Fn:=⟨2,5,[],PA⟩
def b29:List S:=[.Hc [3,4] (.aG (J 0) 20 [(J 2)]),.ret (.call (.lit (.cls 1)) [(J 1),(J 2),(J 3),(J 4)])]
def VZ:Fn:=⟨3,5,[],b29⟩
def ua:List S:=[.asg 1 (.attr (J 0) 8),.expr (.aG (J 0) 21 []),.asg 2 (.attr (J 0) 8),.cW (.cmp .ge (J 2) (Cb 0 [(.attr (J 0) 18)])) [.ret (.tup [(Ls [101,111,102]),(Ls []),(J 2)])] [],.asg 3 (.aG (J 0) 22 [(J 2)]),.cW (.cmp .eq (J 3) (D 40)) [.fY (J 0) 8 (.bin .add (J 2) (D 1)),.cW (.both false [(.cmp .gt (J 2) (J 1)),(.cmp .eq (J 2) (.attr (J 0) 19))]) [.ret (.tup [(Ls [111,112,101,110]),(Ls [40]),(J 2)])] [],.ret (.tup [(Ls [111,112,101,110,95,99,116]),(Ls [40]),(J 2)])] [],.cW (Cf 17 [(J 3)]) [.ret (.tup [(Ls [110,97,109,101]),(.aG (J 0) 26 [(J 2)]),(J 2)])] [],.cW (.both false [(Cf 18 [(J 3)]),(.cmp .eq (J 3) (D 95))]) [.ret (.tup [(Ls [118,97,114]),(.aG (J 0) 26 [(J 2)]),(J 2)])] [],.cW (Cf 16 [(J 3)]) [.ret (.aG (J 0) 24 [(J 2)])] [],.cW (.cmp .eq (J 3) (D 39)) [.ret (.tup [(Ls [113,110,97,109,101]),(Cf 23 [(.aG (J 0) 27 [(J 2),(D 39)])]),(J 2)])] [],.cW (.cmp .eq (J 3) (D 34)) [.ret (.tup [(Ls [115,116,114,105,110,103]),(Cb 7 [(.aG (J 0) 27 [(J 2),(D 34)])]),(J 2)])] [],.cW (.cmp .eq (J 3) (D 96)) [.ret (.tup [(Ls [98,97,99,107]),(Cb 7 [(.aG (J 0) 27 [(J 2),(D 96)])]),(J 2)])] [],.cW (Cf 20 [(J 3)]) [.ret (.aG (J 0) 25 [(J 2)])] [],.fY (J 0) 8 (.bin .add (J 2) (D 1)),.asg 4 (Cb 3 [(.call .bad [(J 3),(D 0)])]),.cW (.cmp .isIn (J 4) (Ls [41,91,93,123,125,44,124])) [.ret (.tup [(Ls [112,117,110,99,116]),(J 4),(J 2)])] [],.cW (.cmp .isIn (J 4) (Ls [33,59])) [.ret (.tup [(Ls [110,97,109,101]),(J 4),(J 2)])] [],.raise (.aG (J 0) 23 [(Ls [117,110,100,101,102,105,110,101,100,95,99,104,97,114]),(J 2)])]
def VY:Fn:=⟨1,5,[],ua⟩
def Pw:List S:=[.gA (.lit (.bool true)) [.asg 1 (.aG (J 0) 22 [(.attr (J 0) 8)]),.cW (Cf 15 [(J 1)]) [.fY (J 0) 8 (.bin .add (.attr (J 0) 8) (D 1))] [.cW (.cmp .eq (J 1) (D 37)) [.expr (.aG (J 0) 28 [])] [.cW (.both true [(.cmp .eq (J 1) (D 47)),(.cmp .eq (.aG (J 0) 22 [(.bin .add (.attr (J 0) 8) (D 1))]) (D 42))]) [.expr (.aG (J 0) 29 [])] [.ret (.lit .none)]]]]]
def VX:Fn:=⟨1,2,[],Pw⟩
def b32:List S:=[.asg 2 (J 1),.gA (Cf 19 [(.aG (J 0) 22 [(J 2)])]) [.asg 2 (.bin .add (J 2) (D 1))],.fY (J 0) 8 (J 2),.ret (Cf 23 [(.Ox (.attr (J 0) 18) (J 1) (J 2))])]
def VW:Fn:=⟨2,3,[],b32⟩
def b33:List S:=[.cW (.both true [(.cmp .eq (.aG (J 0) 22 [(J 1)]) (D 46)),(.aG (J 0) 30 [(.bin .add (J 1) (D 1))])]) [.fY (J 0) 8 (.bin .add (J 1) (D 1)),.ret (.tup [(Ls [101,110,100]),(Ls [46]),(J 1)])] [],.asg 2 (J 1),.gA (Cf 20 [(.aG (J 0) 22 [(J 2)])]) [.asg 2 (.bin .add (J 2) (D 1))],.fY (J 0) 8 (J 2),.ret (.tup [(Ls [110,97,109,101]),(Cf 23 [(.Ox (.attr (J 0) 18) (J 1) (J 2))]),(J 1)])]
def VU:Fn:=⟨2,3,[],b33⟩
def b34:List S:=[.asg 2 (.aG (J 0) 22 [(J 1)]),.ret (.both false [(.cmp .eq (J 2) (D (-1))),(.cmp .eq (J 2) (D 37)),(Cf 15 [(J 2)])])]
def VT:Fn:=⟨2,3,[],b34⟩
def Lo:List S:=[.cW (.cmp .eq (.aG (J 0) 22 [(J 1)]) (D 48)) [.asg 2 (.aG (J 0) 22 [(.bin .add (J 1) (D 1))]),.cW (.cmp .eq (J 2) (D 39)) [.ret (.tup [(Ls [105,110,116]),(.aG (J 0) 32 [(J 1)]),(J 1)])] [],.asg 3 (Cf 25 [(J 2)]),.asg 4 (Cf 21 [(.aG (J 0) 22 [(.bin .add (J 1) (D 2))])]),.cW (.both true [(.cmp .le (D 0) (J 4)),(.cmp .lt (J 4) (J 3))]) [.ret (.tup [(Ls [105,110,116]),(.aG (J 0) 31 [(.bin .add (J 1) (D 2)),(J 3)]),(J 1)])] []] [],.asg 5 (.aG (J 0) 31 [(J 1),(D 10)]),.cW (.both true [(.cmp .eq (.aG (J 0) 22 [(.attr (J 0) 8)]) (D 46)),(Cf 16 [(.aG (J 0) 22 [(.bin .add (.attr (J 0) 8) (D 1))])])]) [.expr (.aG (J 0) 31 [(.bin .add (.attr (J 0) 8) (D 1)),(D 10)]),.raise (.aG (J 0) 23 [(Ls [98,97,100,95,110,117,109,98,101,114]),(J 1)])] [],.ret (.tup [(Ls [105,110,116]),(J 5),(J 1)])]
def VS:Fn:=⟨2,6,[],Lo⟩
def Pt:List S:=[.asg 3 (D 0),.gA (.lit (.bool true)) [.asg 4 (Cf 21 [(.aG (J 0) 22 [(J 1)])]),.cW (.both false [(.cmp .lt (J 4) (D 0)),(.cmp .ge (J 4) (J 2))]) [.fY (J 0) 8 (J 1),.ret (J 3)] [],.asg 3 (.bin .add (.bin .mul (J 3) (J 2)) (J 4)),.asg 1 (.bin .add (J 1) (D 1))]]
def VQ:Fn:=⟨3,5,[],Pt⟩
def E9:List S:=[.asg 1 (.call (.lit (.cls 3)) [(J 0)]),.asg 2 (D 1),.zO [.asg 3 (.aG (J 1) 33 []),.cW (.both true [(.cmp .eq (.idx (J 3) (D 0)) (Ls [110,97,109,101])),(.cmp .eq (.idx (J 3) (D 1)) (Ls [45]))]) [.asg 2 (.neg (D 1)),.asg 4 (.bin .add (.idx (J 3) (D 2)) (D 1)),.asg 3 (.aG (J 1) 33 []),.cW (.cmp .ne (.idx (J 3) (D 2)) (J 4)) [.ret (.lit .none)] []] []] 1 .none [.ret (.lit .none)],.cW (.both false [(.cmp .ne (.idx (J 3) (D 0)) (Ls [105,110,116])),(.cmp .ne (.attr (J 1) 8) (Cb 0 [(J 0)]))]) [.ret (.lit .none)] [],.ret (.bin .mul (J 2) (.idx (J 3) (D 1)))]
def GL:Fn:=⟨1,5,[],E9⟩
def b38:List S:=[.fY (J 0) 34 (J 1),.fY (J 0) 35 (J 2),.fY (J 0) 36 (.list []),.fY (J 0) 37 (.list []),.fY (J 0) 38 (.list []),.fY (J 0) 39 (D 0),.fY (J 0) 40 (D 0)]
def VO:Fn:=⟨3,3,[(.int 100000)],b38⟩
def b39:List S:=[.asg 2 (Cb 0 [(.attr (J 0) 36)]),.cW (.cmp .ge (J 2) (.attr (J 0) 35)) [.raise (.call .bad [(.attr (J 0) 34),(Ls [109,101,109,111,114,121])])] [],.expr (.aG (.attr (J 0) 36) 0 [(J 1)]),.ret (J 2)]
def VI:Fn:=⟨2,3,[],b39⟩
def b40:List S:=[.asg 1 (.tup [(D 0),(Cb 0 [(.attr (J 0) 36)])]),.expr (.aG (J 0) 41 [(J 1)]),.ret (J 1)]
def VE:Fn:=⟨1,2,[],b40⟩
def Pp:List S:=[.asg 2 (Cb 0 [(.attr (J 0) 36)]),.cW (.cmp .gt (.bin .add (J 2) (J 1)) (.attr (J 0) 35)) [.raise (.call .bad [(.attr (J 0) 34),(Ls [109,101,109,111,114,121])])] [],.lG 3 (Cb 1 [(J 1)]) [.expr (.aG (.attr (J 0) 36) 0 [(.tup [(D 0),(.bin .add (J 2) (J 3))])])],.ret (J 2)]
def VC:Fn:=⟨2,4,[],Pp⟩
def Po:List S:=[.gA (.lit (.bool true)) [.asg 2 (.idx (J 1) (D 0)),.cW (.cmp .eq (J 2) (D 0)) [.asg 3 (.idx (.attr (J 0) 36) (.idx (J 1) (D 1)))] [.cW (.cmp .eq (J 2) (D 1)) [.asg 3 (.idx (.attr (J 0) 37) (.idx (J 1) (D 1)))] [.ret (J 1)]],.cW (.cmp .eq (J 3) (J 1)) [.ret (J 1)] [],.asg 1 (J 3)]]
def VA:Fn:=⟨2,4,[],Po⟩
def b43:List S:=[.asg 3 (.idx (J 1) (D 1)),.cW (.cmp .eq (.idx (J 1) (D 0)) (D 0)) [.j7 (.attr (J 0) 36) (J 3) (J 2),.cW (.cmp .lt (J 3) (.attr (J 0) 39)) [.expr (.aG (.attr (J 0) 38) 0 [(J 3)])] []] [.j7 (.attr (J 0) 37) (J 3) (J 2),.cW (.cmp .lt (J 3) (.attr (J 0) 40)) [.expr (.aG (.attr (J 0) 38) 0 [(.bin .sub (.neg (D 1)) (J 3))])] []]]
def U1:Fn:=⟨3,4,[],b43⟩
def b44:List S:=[.asg 1 (.aG (J 0) 42 [(J 1)]),.cW (.cmp .eq (.idx (J 1) (D 0)) (D 1)) [.asg 2 (.aG (J 0) 43 []),.expr (.aG (J 0) 44 [(J 1),(J 2)]),.ret (J 2)] [],.ret (J 1)]
def UZ:Fn:=⟨2,3,[],b44⟩
def b45:List S:=[.ret (.both false [(.cmp .eq (.idx (J 1) (D 0)) (D 2)),(.cmp .eq (.idx (J 1) (D 0)) (D 3))])]
def UY:Fn:=⟨2,2,[],b45⟩
def b46:List S:=[.asg 2 (.idx (J 1) (D 0)),.cW (.cmp .eq (J 2) (D 2)) [.ret (.idx (.idx (.attr (J 0) 36) (.idx (J 1) (D 1))) (D 1))] [],.cW (.cmp .eq (J 2) (D 3)) [.ret (D 0)] [],.cW (.cmp .eq (J 2) (D 4)) [.ret (.aG (.attr (J 0) 34) 17 [(.idx (J 1) (D 1)),(D 0)])] [],.ret (.neg (D 1))]
def UX:Fn:=⟨2,3,[],b46⟩
def b47:List S:=[.asg 2 (.idx (J 1) (D 0)),.cW (.cmp .eq (J 2) (D 3)) [.ret (D 2)] [],.cW (.cmp .eq (J 2) (D 2)) [.ret (.aG (.attr (J 0) 34) 45 [(.idx (.idx (.attr (J 0) 36) (.idx (J 1) (D 1))) (D 1))])] [],.ret (D 0)]
def UU:Fn:=⟨2,3,[],b47⟩
def b48:List S:=[.cW (.cmp .eq (.idx (J 1) (D 0)) (D 3)) [.ret (.idx (J 1) (D 1))] [],.ret (.bin .add (.idx (J 1) (D 1)) (D 1))]
def US:Fn:=⟨2,2,[],b48⟩
def b49:List S:=[.cW (.cmp .eq (J 1) (D 0)) [.ret (.tup [(D 3),(.aG (J 0) 46 [(D 2)])])] [],.asg 2 (.aG (J 0) 46 [(.bin .add (D 1) (.aG (.attr (J 0) 34) 45 [(J 1)]))]),.j7 (.attr (J 0) 36) (J 2) (.tup [(D 6),(J 1)]),.ret (.tup [(D 2),(J 2)])]
def UR:Fn:=⟨2,3,[],b49⟩
def Lm:List S:=[.cW (.cmp .qS (J 2) (.lit .none)) [.asg 3 (.tup [(D 4),(D 0)])] [.asg 3 (.aG (J 0) 47 [(J 2)])],.asg 4 (.list []),.lG 5 (J 1) [.expr (.aG (J 4) 0 [(.aG (J 0) 47 [(J 5)])])],.cW (.cmp .eq (Cb 0 [(J 4)]) (D 0)) [.ret (J 3)] [],.asg 6 (.aG (J 0) 46 [(.bin .mul (D 2) (Cb 0 [(J 4)]))]),.asg 7 (J 6),.lG 8 (J 4) [.j7 (.attr (J 0) 36) (J 7) (J 8),.j7 (.attr (J 0) 36) (.bin .add (J 7) (D 1)) (.tup [(D 3),(.bin .add (J 7) (D 2))]),.aug 7 .add (D 2)],.j7 (.attr (J 0) 36) (.bin .sub (J 7) (D 1)) (J 3),.ret (.tup [(D 3),(J 6)])]
def UQ:Fn:=⟨3,9,[.none],Lm⟩
def Pm:List S:=[.asg 2 (.list []),.asg 3 (Cb 12 []),.asg 1 (.aG (J 0) 42 [(J 1)]),.gA (.both true [(.cmp .eq (.idx (J 1) (D 0)) (D 3)),(.cmp .kW (.idx (J 1) (D 1)) (J 3))]) [.expr (.aG (J 3) 3 [(.idx (J 1) (D 1))]),.expr (.aG (J 2) 0 [(.aG (J 0) 42 [(.idx (.attr (J 0) 36) (.idx (J 1) (D 1)))])]),.asg 1 (.aG (J 0) 42 [(.idx (.attr (J 0) 36) (.bin .add (.idx (J 1) (D 1)) (D 1)))])],.ret (.tup [(J 2),(J 1)])]
def UP:Fn:=⟨2,4,[],Pm⟩
def DH:List S:=[.lG 3 (Cb 8 [(J 2)]) [.cW (.cmp .eq (.idx (.idx (J 2) (J 3)) (D 0)) (D 1)) [.j7 (J 2) (J 3) (.aG (J 0) 47 [(.idx (J 2) (J 3))])] []],.asg 4 (.idx (J 1) (D 0)),.cW (.cmp .eq (J 4) (Ls [118])) [.cW (.cmp .kW (.idx (J 1) (D 1)) (J 2)) [.j7 (J 2) (.idx (J 1) (D 1)) (.aG (J 0) 43 [])] [],.ret (.idx (J 2) (.idx (J 1) (D 1)))] [],.cW (.cmp .eq (J 4) (Ls [97])) [.ret (.tup [(D 4),(.idx (J 1) (D 1))])] [],.cW (.cmp .eq (J 4) (Ls [105])) [.ret (.tup [(D 5),(.idx (J 1) (D 1))])] [],.asg 5 (.aG (J 0) 48 [(.idx (J 1) (D 1))]),.asg 6 (.list [(.tup [(.aG (J 0) 49 [(J 5)]),(.idx (J 1) (D 2))])]),.asg 7 (D 0),.gA (.cmp .lt (J 7) (Cb 0 [(J 6)])) [.Hc [8,9] (.idx (J 6) (J 7)),.aug 7 .add (D 1),.lG 10 (J 9) [.asg 4 (.idx (J 10) (D 0)),.cW (.cmp .eq (J 4) (Ls [118])) [.cW (.cmp .isIn (.idx (J 10) (D 1)) (J 2)) [.j7 (.attr (J 0) 36) (J 8) (.idx (J 2) (.idx (J 10) (D 1)))] [.j7 (J 2) (.idx (J 10) (D 1)) (.tup [(D 0),(J 8)])]] [.cW (.cmp .eq (J 4) (Ls [97])) [.j7 (.attr (J 0) 36) (J 8) (.tup [(D 4),(.idx (J 10) (D 1))])] [.cW (.cmp .eq (J 4) (Ls [105])) [.j7 (.attr (J 0) 36) (J 8) (.tup [(D 5),(.idx (J 10) (D 1))])] [.asg 11 (.aG (J 0) 48 [(.idx (J 10) (D 1))]),.j7 (.attr (J 0) 36) (J 8) (J 11),.expr (.aG (J 6) 0 [(.tup [(.aG (J 0) 49 [(J 11)]),(.idx (J 10) (D 2))])])]]],.aug 8 .add (D 1)]],.ret (J 5)]
def MS:Fn:=⟨3,12,[],DH⟩
def Pl:List S:=[.asg 3 .lN,.asg 4 (.list []),.asg 5 (.list [(.tup [(D 0),(.aG (J 0) 47 [(J 1)])])]),.gA (.cmp .gt (Cb 0 [(J 5)]) (D 0)) [.Hc [6,1] (.aG (J 5) 1 []),.cW (.cmp .eq (J 6) (D 1)) [.asg 7 (.aG (J 0) 50 [(J 1)]),.asg 8 (.bin .sub (Cb 0 [(J 4)]) (.aG (J 0) 51 [(J 1)])),.asg 9 (.tup [(Ls [115]),(J 7),(Cb 7 [(.Ox (J 4) (J 8) (.lit .none))])]),.M5 (J 4) (J 8),.j7 (J 3) (.idx (J 1) (D 1)) (J 9),.expr (.aG (J 4) 0 [(J 9)]),.cont] [],.asg 1 (.aG (J 0) 42 [(J 1)]),.asg 10 (.idx (J 1) (D 0)),.cW (.cmp .eq (J 10) (D 0)) [.cW (.cmp .kW (.idx (J 1) (D 1)) (J 2)) [.j7 (J 2) (.idx (J 1) (D 1)) (Cb 0 [(J 2)])] [],.expr (.aG (J 4) 0 [(.tup [(Ls [118]),(.idx (J 2) (.idx (J 1) (D 1)))])])] [.cW (.cmp .eq (J 10) (D 4)) [.expr (.aG (J 4) 0 [(.tup [(Ls [97]),(.idx (J 1) (D 1))])])] [.cW (.cmp .eq (J 10) (D 5)) [.expr (.aG (J 4) 0 [(.tup [(Ls [105]),(.idx (J 1) (D 1))])])] [.cW (.cmp .isIn (.idx (J 1) (D 1)) (J 3)) [.asg 9 (.idx (J 3) (.idx (J 1) (D 1))),.cW (.cmp .qS (J 9) (.lit .none)) [.raise (.call .bad [(.attr (J 0) 34),(Ls [109,101,109,111,114,121])])] [],.expr (.aG (J 4) 0 [(J 9)])] [.j7 (J 3) (.idx (J 1) (D 1)) (.lit .none),.expr (.aG (J 5) 0 [(.tup [(D 1),(J 1)])]),.asg 11 (.aG (J 0) 49 [(J 1)]),.lG 12 (Cb 1 [(.bin .sub (.aG (J 0) 51 [(J 1)]) (D 1)),(.neg (D 1)),(.neg (D 1))]) [.expr (.aG (J 5) 0 [(.tup [(D 0),(.idx (.attr (J 0) 36) (.bin .add (J 11) (J 12)))])])]]]]]],.ret (.idx (J 4) (D 0))]
def MR:Fn:=⟨3,13,[],Pl⟩
def b54:List S:=[.ret (.both false [(.cmp .eq (.idx (J 0) (D 0)) (D 0)),(.cmp .eq (.idx (J 0) (D 0)) (D 1))])]
def UO:Fn:=⟨1,1,[],b54⟩
def b55:List S:=[.cW (.cmp .gt (Cb 0 [(J 1)]) (.attr (.attr (J 0) 52) 35)) [.raise (.call .bad [(.attr (J 0) 34),(Ls [109,101,109,111,114,121])])] [],.ret (.tup [(D 4),(.aG (.attr (J 0) 34) 15 [(J 1)])])]
def UN:Fn:=⟨2,2,[],b55⟩
def b56:List S:=[.cW (.both true [(.not (Cf 54 [(J 1)])),(.cmp .ne (.idx (J 1) (D 0)) (D 4))]) [.raise (Cf 12 [(.attr (J 0) 34),(Ls [97,116,111,109]),(.aG (J 0) 53 [(J 1)])])] []]
def UM:Fn:=⟨2,2,[],b56⟩
def b57:List S:=[.ret (.aG (.attr (J 0) 34) 54 [(.idx (J 1) (D 1))])]
def UK:Fn:=⟨2,2,[],b57⟩
def Pf:List S:=[.asg 3 (.list []),.lG 4 (J 1) [.cW (J 2) [.expr (.aG (J 3) 0 [(.tup [(D 5),(Cb 2 [(J 4)])])])] [.expr (.aG (J 3) 0 [(.tup [(D 4),(.aG (.attr (J 0) 34) 15 [(J 4)])])])]],.ret (.aG (.attr (J 0) 52) 55 [(J 3)])]
def UI:Fn:=⟨3,5,[],Pf⟩
def b59:List S:=[.cW (J 2) [.cW (.cmp .ne (.idx (J 1) (D 0)) (D 5)) [.raise (Cf 12 [(.attr (J 0) 34),(Ls [105,110,116,101,103,101,114]),(.aG (J 0) 53 [(J 1)])])] [],.cW (.both false [(.cmp .lt (.idx (J 1) (D 1)) (D 0)),(.cmp .gt (.idx (J 1) (D 1)) (D 1114111))]) [.raise (Cf 13 [(.attr (J 0) 34),(Ls [99,104,97,114,97,99,116,101,114,95,99,111,100,101])])] [],.ret (Cb 3 [(.idx (J 1) (D 1))])] [],.cW (.both false [(.cmp .ne (.idx (J 1) (D 0)) (D 4)),(.cmp .ne (Cb 0 [(Cf 57 [(J 0),(J 1)])]) (D 1))]) [.raise (Cf 12 [(.attr (J 0) 34),(Ls [99,104,97,114,97,99,116,101,114]),(.aG (J 0) 53 [(J 1)])])] [],.ret (Cf 57 [(J 0),(J 1)])]
def MQ:Fn:=⟨3,3,[],b59⟩
def fR:List S:=[.Hc [4,5] (.aG (.attr (J 0) 52) 56 [(J 1)]),.cW (.both true [(.not (Cf 54 [(J 5)])),(.cmp .ne (J 5) (.tup [(D 4),(D 0)]))]) [.raise (Cf 12 [(.attr (J 0) 34),(Ls [108,105,115,116]),(.aG (J 0) 53 [(J 1)])])] [],.asg 6 (.not (Cf 54 [(J 5)])),.lG 7 (J 4) [.cW (Cf 54 [(J 7)]) [.asg 6 (.lit (.bool false))] []],.cW (.both true [(.not (J 6)),(.not (J 3))]) [.raise (Cf 11 [(.attr (J 0) 34)])] [],.asg 8 (.list []),.lG 7 (J 4) [.cW (.not (Cf 54 [(J 7)])) [.expr (.aG (J 8) 0 [(Cf 59 [(J 0),(J 7),(J 2)])])] []],.cW (J 6) [.ret (.aG (Ls []) 4 [(J 8)])] [],.ret (.lit .none)]
def MO:Fn:=⟨4,9,[],fR⟩
def Ll:List S:=[.asg 2 (.aG (J 0) 57 [(D 1)]),.asg 3 (.not (Cf 54 [(J 2)])),.cW (.both true [(J 3),(.cmp .ne (.idx (J 2) (D 0)) (D 5))]) [.raise (Cf 12 [(.attr (J 0) 34),(Ls [110,117,109,98,101,114]),(.aG (J 0) 53 [(J 2)])])] [],.asg 4 (Cf 60 [(J 0),(.aG (J 0) 57 [(D 2)]),(J 1),(J 3)]),.cW (.cmp .qS (J 4) (.lit .none)) [.ret (.aG (J 0) 58 [(.aG (J 0) 57 [(D 2)]),(Cf 58 [(J 0),(Cf 24 [(.idx (J 2) (D 1))]),(J 1)])])] [],.asg 5 (Cf 37 [(Cf 22 [(J 4)])]),.cW (.cmp .qS (J 5) (.lit .none)) [.raise (Cf 14 [(.attr (J 0) 34),(Ls [105,108,108,101,103,97,108,95,110,117,109,98,101,114])])] [],.ret (.aG (J 0) 58 [(J 2),(.tup [(D 5),(J 5)])])]
def UH:Fn:=⟨2,6,[],Ll⟩
def b62:List S:=[.ret (Cf 61 [(J 0),(.lit (.bool false))])]
def UE:Fn:=⟨1,1,[],b62⟩
def b63:List S:=[.ret (Cf 61 [(J 0),(.lit (.bool true))])]
def UD:Fn:=⟨1,1,[],b63⟩
def E8:List S:=[.asg 1 (.aG (J 0) 57 [(D 1)]),.asg 2 (.aG (J 0) 57 [(D 2)]),.expr (Cf 56 [(J 0),(J 1)]),.cW (.both true [(.not (Cf 54 [(J 2)])),(.cmp .ne (.idx (J 2) (D 0)) (D 5))]) [.raise (Cf 12 [(.attr (J 0) 34),(Ls [110,117,109,98,101,114]),(.aG (J 0) 53 [(J 2)])])] [],.cW (.not (Cf 54 [(J 1)])) [.asg 3 (Cf 37 [(Cf 22 [(Cf 57 [(J 0),(J 1)])])]),.ret (.both true [(.cmp .wC (J 3) (.lit .none)),(.aG (J 0) 58 [(J 2),(.tup [(D 5),(J 3)])])])] [],.cW (Cf 54 [(J 2)]) [.raise (Cf 11 [(.attr (J 0) 34)])] [],.ret (.aG (J 0) 58 [(J 1),(Cf 55 [(J 0),(Cf 24 [(.idx (J 2) (D 1))])])])]
def UC:Fn:=⟨1,4,[],E8⟩
def b65:List S:=[.fY (J 0) 59 (.bin .add (Cb 0 [(.attr (J 1) 36)]) (D 1)),.fY (J 0) 60 (Cb 12 [])]
def UB:Fn:=⟨2,2,[],b65⟩
def b66:List S:=[.asg 3 (.bin .add (.bin .mul (.idx (J 1) (D 1)) (.attr (J 0) 59)) (.idx (J 2) (D 1))),.cW (.cmp .isIn (J 3) (.attr (J 0) 60)) [.ret (.lit (.bool false))] [],.expr (.aG (.attr (J 0) 60) 3 [(J 3)]),.ret (.lit (.bool true))]
def UA:Fn:=⟨3,4,[],b66⟩
def K0:List S:=[.asg 3 (.aG (J 0) 49 [(J 1)]),.lG 4 (Cb 1 [(.bin .sub (.aG (J 0) 51 [(J 1)]) (D 1)),(.neg (D 1)),(.neg (D 1))]) [.expr (.aG (J 2) 0 [(.idx (.attr (J 0) 36) (.bin .add (J 3) (J 4)))])]]
def TU:Fn:=⟨3,5,[],K0⟩
def KX:List S:=[.asg 4 (.aG (J 0) 49 [(J 1)]),.asg 5 (.aG (J 0) 49 [(J 2)]),.lG 6 (Cb 1 [(.bin .sub (.aG (J 0) 51 [(J 1)]) (D 1)),(.neg (D 1)),(.neg (D 1))]) [.expr (.aG (J 3) 0 [(.tup [(.idx (.attr (J 0) 36) (.bin .add (J 4) (J 6))),(.idx (.attr (J 0) 36) (.bin .add (J 5) (J 6)))])])]]
def TS:Fn:=⟨4,7,[],KX⟩
def b69:List S:=[.cW (.cmp .ne (.idx (J 1) (D 0)) (.idx (J 2) (D 0))) [.ret (.lit (.bool false))] [],.cW (.cmp .eq (.idx (J 1) (D 0)) (D 3)) [.ret (.lit (.bool true))] [],.ret (.cmp .eq (.idx (.attr (J 0) 36) (.idx (J 1) (D 1))) (.idx (.attr (J 0) 36) (.idx (J 2) (D 1))))]
def TR:Fn:=⟨3,3,[],b69⟩
def b70:List S:=[.ret (.both false [(.cmp .eq (.idx (J 0) (D 0)) (D 0)),(.cmp .eq (.idx (J 0) (D 0)) (D 1))])]
def TO:Fn:=⟨1,1,[],b70⟩
def Pe:List S:=[.asg 4 (.call (.lit (.cls 5)) [(J 0)]),.asg 5 (.list [(.tup [(J 1),(J 2)])]),.gA (.cmp .gt (Cb 0 [(J 5)]) (D 0)) [.Hc [6,7] (.aG (J 5) 1 []),.asg 6 (.aG (J 0) 42 [(J 6)]),.asg 7 (.aG (J 0) 42 [(J 7)]),.cW (.cmp .eq (J 6) (J 7)) [.cont] [],.cW (Cf 70 [(J 6)]) [.cW (Cf 70 [(J 7)]) [.expr (.aG (J 0) 61 [(J 6),(J 7)])] [.cW (.not (Cf 72 [(J 0),(J 6),(J 7),(J 3)])) [.ret (.lit (.bool false))] []]] [.cW (Cf 70 [(J 7)]) [.cW (.not (Cf 72 [(J 0),(J 7),(J 6),(J 3)])) [.ret (.lit (.bool false))] []] [.cW (.both true [(.aG (J 0) 62 [(J 6)]),(Cf 69 [(J 0),(J 6),(J 7)])]) [.cW (.aG (J 4) 3 [(J 6),(J 7)]) [.expr (Cf 68 [(J 0),(J 6),(J 7),(J 5)])] []] [.ret (.lit (.bool false))]]]],.ret (.lit (.bool true))]
def TN:Fn:=⟨4,8,[],Pe⟩
def b72:List S:=[.cW (.both true [(J 3),(Cf 73 [(J 0),(J 1),(J 2)])]) [.ret (.lit (.bool false))] [],.expr (.aG (J 0) 44 [(J 1),(J 2)]),.ret (.lit (.bool true))]
def TM:Fn:=⟨4,4,[],b72⟩
def Pd:List S:=[.asg 2 (.aG (J 0) 42 [(J 2)]),.cW (.cmp .eq (J 2) (J 1)) [.ret (.lit (.bool true))] [],.cW (.both false [(.cmp .eq (.idx (J 1) (D 0)) (D 1)),(.not (.aG (J 0) 62 [(J 2)]))]) [.ret (.lit (.bool false))] [],.asg 3 (Cb 12 []),.asg 4 (.list [(J 2)]),.gA (.cmp .gt (Cb 0 [(J 4)]) (D 0)) [.asg 2 (.aG (J 0) 42 [(.aG (J 4) 1 [])]),.cW (.cmp .eq (J 2) (J 1)) [.ret (.lit (.bool true))] [],.cW (.both true [(.aG (J 0) 62 [(J 2)]),(.cmp .kW (.idx (J 2) (D 1)) (J 3))]) [.expr (.aG (J 3) 3 [(.idx (J 2) (D 1))]),.expr (Cf 67 [(J 0),(J 2),(J 4)])] []],.ret (.lit (.bool false))]
def TL:Fn:=⟨3,5,[],Pd⟩
def b74:List S:=[.fY (J 0) 34 (J 1),.fY (J 0) 63 (J 2),.fY (J 0) 35 (J 3),.fY (J 0) 64 (J 4),.fY (J 0) 65 (J 5),.expr (.aG (J 0) 66 [])]
def TK:Fn:=⟨6,6,[(.int 100000),(.bool true),(.int 4096)],b74⟩
def b75:List S:=[.fY (J 0) 52 (.call (.lit (.cls 4)) [(.attr (J 0) 34),(.attr (J 0) 35)]),.fY (J 0) 67 (.list [(.lit (.tup [(.int 5),(.int 0)]))]),.fY (J 0) 68 (D 0),.fY (J 0) 69 (D 0),.fY (J 0) 70 (.neg (D 1)),.fY (J 0) 71 (.neg (D 1)),.fY (J 0) 72 (.neg (D 1)),.fY (J 0) 73 (Ls [114,101,97,100]),.fY (J 0) 74 (D 0),.fY (J 0) 75 (.lit (.tup [(.int 5),(.int 0)])),.fY (J 0) 76 (.list []),.fY (J 0) 77 .lN,.fY (J 0) 78 (.lit (.bool false))]
def TH:Fn:=⟨1,1,[],b75⟩
def Pc:List S:=[.gA (.cmp .le (Cb 0 [(.attr (J 0) 67)]) (J 1)) [.expr (.aG (.attr (J 0) 67) 0 [(.lit (.tup [(.int 5),(.int 0)]))])],.j7 (.attr (J 0) 67) (J 1) (J 2)]
def TC:Fn:=⟨3,3,[],Pc⟩
def O':List S:=[.asg 2 (D 0),.lG 3 (J 1) [.aug 2 .add (D 1),.expr (.aG (J 0) 79 [(J 2),(J 3)])]]
def TA:Fn:=⟨2,4,[],O'⟩
def b78:List S:=[.ret (.aG (.attr (J 0) 52) 47 [(.idx (.attr (J 0) 67) (J 1))])]
def Tx:Fn:=⟨2,2,[],b78⟩
def b79:List S:=[.ret (Cf 71 [(.attr (J 0) 52),(J 1),(J 2),(.attr (J 0) 64)])]
def Ts:Fn:=⟨3,3,[],b79⟩
def b80:List S:=[.ret (.aG (.attr (J 0) 52) 80 [(J 1),.lN])]
def To:Fn:=⟨2,2,[],b80⟩
def O0:List S:=[.cW (.cmp .eq (.idx (J 0) (D 2)) (D 0)) [.cW (.cmp .eq (.idx (J 0) (D 1)) (Cb 0 [(.idx (J 0) (D 0))])) [.j7 (J 0) (D 3) (.bin .mod (.bin .mul (.idx (J 0) (D 3)) (D 48271)) (D 2147483647)),.ret (.bin .mod (.bin .fdiv (.idx (J 0) (D 3)) (D 7)) (J 1))] [],.asg 2 (.idx (.idx (J 0) (D 0)) (.idx (J 0) (D 1))),.j7 (J 0) (D 1) (.bin .add (.idx (J 0) (D 1)) (D 1)),.j7 (J 0) (D 2) (.ite (.cmp .ge (J 2) (D 0)) (J 2) (.neg (J 2)))] [],.asg 3 (.bin .mod (.idx (J 0) (D 2)) (J 1)),.j7 (J 0) (D 2) (.bin .fdiv (.idx (J 0) (D 2)) (J 1)),.ret (J 3)]
def Tb:Fn:=⟨2,4,[],O0⟩
def OZ:List S:=[.gA (.both true [(.cmp .eq (.idx (J 0) (D 0)) (Ls [118])),(.cmp .isIn (.idx (J 0) (D 1)) (J 1))]) [.asg 0 (.idx (J 1) (.idx (J 0) (D 1)))],.ret (J 0)]
def Ta:Fn:=⟨2,2,[],OZ⟩
def b83:List S:=[.asg 1 (Cf 82 [(J 1),(J 2)]),.cW (.cmp .eq (.idx (J 1) (D 0)) (Ls [115])) [.ret (.cmp .isIn (.lit (.bool true)) (.comp (Cf 83 [(J 0),(J 3),(J 2)]) 3 (.idx (J 1) (D 2))))] [],.ret (.cmp .eq (J 1) (.tup [(Ls [118]),(J 0)]))]
def SY:Fn:=⟨3,4,[],b83⟩
def KW:List S:=[.asg 0 (Cf 82 [(J 0),(J 2)]),.asg 1 (Cf 82 [(J 1),(J 2)]),.cW (.cmp .eq (J 0) (J 1)) [.ret (.lit (.bool true))] [],.cW (.cmp .eq (.idx (J 0) (D 0)) (Ls [118])) [.cW (Cf 83 [(.idx (J 0) (D 1)),(J 1),(J 2)]) [.ret (.lit (.bool false))] [],.j7 (J 2) (.idx (J 0) (D 1)) (J 1),.ret (.lit (.bool true))] [],.cW (.cmp .eq (.idx (J 1) (D 0)) (Ls [118])) [.ret (Cf 84 [(J 1),(J 0),(J 2)])] [],.cW (.both false [(.cmp .ne (.idx (J 0) (D 0)) (Ls [115])),(.cmp .ne (.idx (J 1) (D 0)) (Ls [115])),(.cmp .ne (.idx (J 0) (D 1)) (.idx (J 1) (D 1)))]) [.ret (.lit (.bool false))] [],.lG 3 (Cb 1 [(Cb 0 [(.idx (J 0) (D 2))])]) [.cW (.not (Cf 84 [(.idx (.idx (J 0) (D 2)) (J 3)),(.idx (.idx (J 1) (D 2)) (J 3)),(J 2)])) [.ret (.lit (.bool false))] []],.ret (.lit (.bool true))]
def SW:Fn:=⟨3,4,[],KW⟩
def E7:List S:=[.asg 0 (Cf 82 [(J 0),(J 1)]),.cW (.cmp .eq (.idx (J 0) (D 0)) (Ls [115])) [.ret (.tup [(Ls [115]),(.idx (J 0) (D 1)),(Cb 7 [(.comp (Cf 85 [(J 2),(J 1)]) 2 (.idx (J 0) (D 2)))])])] [],.ret (J 0)]
def SV:Fn:=⟨2,3,[],E7⟩
def b86:List S:=[.cW (.cmp .ne (.idx (J 0) (D 0)) (.idx (J 1) (D 0))) [.ret (.lit (.bool false))] [],.cW (.cmp .eq (.idx (J 0) (D 0)) (Ls [118])) [.cW (.both true [(.cmp .kW (.idx (J 0) (D 1)) (J 2)),(.cmp .kW (.idx (J 1) (D 1)) (J 3))]) [.j7 (J 2) (.idx (J 0) (D 1)) (.idx (J 1) (D 1)),.j7 (J 3) (.idx (J 1) (D 1)) (.idx (J 0) (D 1))] [],.ret (.both true [(.cmp .eq (.aG (J 2) 2 [(.idx (J 0) (D 1)),(.neg (D 1))]) (.idx (J 1) (D 1))),(.cmp .eq (.aG (J 3) 2 [(.idx (J 1) (D 1)),(.neg (D 1))]) (.idx (J 0) (D 1)))])] [],.cW (.cmp .eq (.idx (J 0) (D 0)) (Ls [115])) [.cW (.both false [(.cmp .ne (.idx (J 0) (D 1)) (.idx (J 1) (D 1))),(.cmp .ne (Cb 0 [(.idx (J 0) (D 2))]) (Cb 0 [(.idx (J 1) (D 2))]))]) [.ret (.lit (.bool false))] [],.ret (.cmp .kW (.lit (.bool false)) (.comp (Cf 86 [(.idx (.idx (J 0) (D 2)) (J 4)),(.idx (.idx (J 1) (D 2)) (J 4)),(J 2),(J 3)]) 4 (Cb 1 [(Cb 0 [(.idx (J 0) (D 2))])])))] [],.ret (.both true [(.cmp .eq (.idx (J 0) (D 1)) (.idx (J 1) (D 1))),(.not (Cb 4 [(.idx (J 1) (D 1)),(.lit (.bi 6))]))])]
def SU:Fn:=⟨4,5,[],b86⟩
def OY:List S:=[.asg 3 (.comp (.ite (Cb 4 [(J 5),(.lit (.bi 5))]) (.tup [(Ls [97]),(.aG (J 0) 15 [(J 5)])]) (J 5)) 5 (J 2)),.asg 4 (.tup [(Ls [115]),(.aG (J 0) 16 [(J 1),(Cb 0 [(J 3)])]),(Cb 7 [(J 3)])]),.cW (.cmp .eq (J 3) (.list [])) [.asg 4 (.tup [(Ls [97]),(.aG (J 0) 15 [(J 1)])])] [],.ret (.tup [(Ls [101,114,114,111,114]),(.tup [(Ls [115]),(D 16),(.tup [(J 4),(.tup [(Ls [97]),(D 25)])])])])]
def SP:Fn:=⟨3,6,[],OY⟩
def t9:List S:=[.asg 4 .lN,.asg 5 (.comp (.aG (.attr (J 0) 52) 82 [(J 14),(J 4)]) 14 (J 2)),.expr (.aG (J 0) 81 [(J 5)]),.zO [.asg 6 (.call (J 1) [(J 0)])] 0 (.some 7) [.ret (.both true [(.cmp .eq (.idx (J 3) (D 0)) (Ls [101,114,114,111,114])),(Cf 86 [(.idx (J 3) (D 1)),(.attr (J 7) 6),.lN,.lN])])],.cW (.cmp .eq (.idx (J 3) (D 0)) (Ls [101,114,114,111,114])) [.ret (.lit (.bool false))] [],.asg 8 .lN,.lG 9 (.idx (J 3) (D 1)) [.cW (.not (Cf 84 [(.idx (J 9) (D 0)),(.idx (J 9) (D 1)),(J 8)])) [.ret (.not (J 6))] []],.cW (.not (J 6)) [.ret (.lit (.bool false))] [],.asg 10 .lN,.asg 11 .lN,.asg 12 .lN,.lG 13 (Cb 1 [(Cb 0 [(J 2)])]) [.cW (.not (Cf 86 [(Cf 85 [(.idx (J 2) (J 13)),(J 8)]),(.aG (.attr (J 0) 52) 80 [(.idx (J 5) (J 13)),(J 10)]),(J 11),(J 12)])) [.ret (.lit (.bool false))] []],.ret (.lit (.bool true))]
def MM:Fn:=⟨4,15,[],t9⟩
def OX:List S:=[.lG 2 (.rev (J 0)) [.asg 1 (.tup [(Ls [115]),(D 0),(.tup [(J 2),(J 1)])])],.ret (J 1)]
def SO:Fn:=⟨2,3,[],OX⟩
def KV:List S:=[.asg 1 (J 0),.gA (.both true [(.cmp .ne (J 1) (Ls [])),(.cmp .isIn (.idx (J 1) (D 0)) (.list [(Ls [32]),(Ls [10])]))]) [.asg 1 (.Ox (J 1) (D 1) (.lit .none))],.asg 2 (.ite (.cmp .eq (.Ox (J 1) (.lit .none) (D 1)) (Ls [45])) (.Ox (J 1) (D 1) (.lit .none)) (J 1)),.cW (.both false [(.cmp .eq (J 2) (Ls [])),(.cmp .isIn (.lit (.bool false)) (.comp (.cmp .isIn (J 5) (Ls [48,49,50,51,52,53,54,55,56,57])) 5 (J 2)))]) [.ret (.lit .none)] [],.asg 4 (D 0),.lG 3 (J 2) [.asg 4 (.bin .sub (.bin .add (.bin .mul (D 10) (J 4)) (Cb 2 [(J 3)])) (D 48))],.ret (.ite (.cmp .eq (.idx (J 1) (D 0)) (Ls [45])) (.neg (J 4)) (J 4))]
def SK:Fn:=⟨1,6,[],KV⟩
def OW:List S:=[.asg 1 (Ls []),.asg 2 (.ite (.cmp .ge (J 0) (D 0)) (J 0) (.neg (J 0))),.gA (.cmp .gt (J 2) (D 0)) [.asg 1 (.bin .add (.idx (Ls [48,49,50,51,52,53,54,55,56,57]) (.bin .mod (J 2) (D 10))) (J 1)),.asg 2 (.bin .fdiv (J 2) (D 10))],.ret (.bin .add (.ite (.cmp .lt (J 0) (D 0)) (Ls [45]) (Ls [])) (.ite (.cmp .eq (J 1) (Ls [])) (Ls [48]) (J 1)))]
def SI:Fn:=⟨1,3,[],OW⟩
def b92:List S:=[.ret (.comp (.ite (J 2) (.tup [(Ls [105]),(Cb 2 [(J 3)])]) (.tup [(Ls [97]),(.aG (J 0) 15 [(J 3)])])) 3 (J 1))]
def SH:Fn:=⟨3,4,[],b92⟩
def Nq:List S:=[.asg 3 (.cmp .eq (.idx (.idx (J 1) (D 0)) (D 0)) (Ls [105])),.cW (.both true [(.not (J 3)),(.cmp .ne (.idx (.idx (J 1) (D 0)) (D 0)) (Ls [118]))]) [.ret (Cf 87 [(J 0),(Ls [116,121,112,101,95,101,114,114,111,114]),(.list [(Ls [110,117,109,98,101,114]),(.idx (J 1) (D 0))])])] [],.asg 4 (.list []),.asg 5 (.idx (J 1) (D 1)),.gA (.both true [(.cmp .eq (.idx (J 5) (D 0)) (Ls [115])),(.cmp .eq (.idx (J 5) (D 1)) (D 0))]) [.expr (.aG (J 4) 0 [(.idx (.idx (J 5) (D 2)) (D 0))]),.asg 5 (.idx (.idx (J 5) (D 2)) (D 1))],.cW (.both true [(.cmp .ne (.idx (J 5) (D 0)) (Ls [118])),(.cmp .ne (J 5) (.tup [(Ls [97]),(D 0)]))]) [.ret (Cf 87 [(J 0),(Ls [116,121,112,101,95,101,114,114,111,114]),(.list [(Ls [108,105,115,116]),(.idx (J 1) (D 1))])])] [],.asg 7 (.cmp .isIn (Ls [118]) (.comp (.idx (J 10) (D 0)) 10 (.bin .add (J 4) (.list [(J 5)])))),.cW (.both true [(J 7),(.not (J 3))]) [.ret (Cf 87 [(J 0),(Ls [105,110,115,116,97,110,116,105,97,116,105,111,110,95,101,114,114,111,114]),(.list [])])] [],.asg 8 (Ls []),.lG 6 (J 4) [.cW (.both true [(.cmp .ne (.idx (J 6) (D 0)) (Ls [118])),(J 2),(.cmp .ne (.idx (J 6) (D 0)) (Ls [105]))]) [.ret (Cf 87 [(J 0),(Ls [116,121,112,101,95,101,114,114,111,114]),(.list [(Ls [105,110,116,101,103,101,114]),(J 6)])])] [],.cW (.both true [(.cmp .ne (.idx (J 6) (D 0)) (Ls [118])),(J 2),(.both false [(.cmp .lt (.idx (J 6) (D 1)) (D 0)),(.cmp .gt (.idx (J 6) (D 1)) (D 1114111))])]) [.ret (Cf 87 [(J 0),(Ls [114,101,112,114,101,115,101,110,116,97,116,105,111,110,95,101,114,114,111,114]),(.list [(Ls [99,104,97,114,97,99,116,101,114,95,99,111,100,101])])])] [],.cW (.both true [(.cmp .ne (.idx (J 6) (D 0)) (Ls [118])),(.not (J 2)),(.both false [(.cmp .ne (.idx (J 6) (D 0)) (Ls [97])),(.cmp .ne (Cb 0 [(.aG (J 0) 54 [(.idx (J 6) (D 1))])]) (D 1))])]) [.ret (Cf 87 [(J 0),(Ls [116,121,112,101,95,101,114,114,111,114]),(.list [(Ls [99,104,97,114,97,99,116,101,114]),(J 6)])])] [],.cW (.cmp .ne (.idx (J 6) (D 0)) (Ls [118])) [.aug 8 .add (.ite (J 2) (Cb 3 [(.idx (J 6) (D 1))]) (.aG (J 0) 54 [(.idx (J 6) (D 1))]))] []],.cW (J 7) [.ret (.tup [(Ls [104,111,108,100,115]),(.list [(.tup [(.idx (J 1) (D 1)),(Cf 89 [(Cf 92 [(J 0),(Cf 91 [(.idx (.idx (J 1) (D 0)) (D 1))]),(J 2)]),(.tup [(Ls [97]),(D 0)])])])])])] [],.asg 9 (Cf 90 [(J 8)]),.cW (.cmp .qS (J 9) (.lit .none)) [.ret (Cf 87 [(J 0),(Ls [115,121,110,116,97,120,95,101,114,114,111,114]),(.list [(Ls [105,108,108,101,103,97,108,95,110,117,109,98,101,114])])])] [],.ret (.tup [(Ls [104,111,108,100,115]),(.list [(.tup [(.idx (J 1) (D 0)),(.tup [(Ls [105]),(J 9)])])])])]
def ML:Fn:=⟨3,11,[],Nq⟩
def DF:List S:=[.cW (.cmp .kW (.idx (.idx (J 1) (D 0)) (D 0)) (.list [(Ls [97]),(Ls [118])])) [.ret (Cf 87 [(J 0),(Ls [116,121,112,101,95,101,114,114,111,114]),(.list [(Ls [97,116,111,109]),(.idx (J 1) (D 0))])])] [],.cW (.cmp .kW (.idx (.idx (J 1) (D 1)) (D 0)) (.list [(Ls [105]),(Ls [118])])) [.ret (Cf 87 [(J 0),(Ls [116,121,112,101,95,101,114,114,111,114]),(.list [(Ls [110,117,109,98,101,114]),(.idx (J 1) (D 1))])])] [],.cW (.cmp .eq (.idx (.idx (J 1) (D 0)) (D 0)) (Ls [97])) [.asg 2 (Cf 90 [(.aG (J 0) 54 [(.idx (.idx (J 1) (D 0)) (D 1))])]),.ret (.tup [(Ls [104,111,108,100,115]),(.list [(.ite (.cmp .wC (J 2) (.lit .none)) (.tup [(.idx (J 1) (D 1)),(.tup [(Ls [105]),(J 2)])]) (.tup [(.tup [(Ls [105]),(D 0)]),(.tup [(Ls [105]),(D 1)])]))])])] [],.cW (.cmp .eq (.idx (.idx (J 1) (D 1)) (D 0)) (Ls [118])) [.ret (Cf 87 [(J 0),(Ls [105,110,115,116,97,110,116,105,97,116,105,111,110,95,101,114,114,111,114]),(.list [])])] [],.ret (.tup [(Ls [104,111,108,100,115]),(.list [(.tup [(.idx (J 1) (D 0)),(.tup [(Ls [97]),(.aG (J 0) 15 [(Cf 91 [(.idx (.idx (J 1) (D 1)) (D 1))])])])])])])]
def MI:Fn:=⟨2,3,[],DF⟩
def b95:List S:=[.ret (Cf 63 [(J 0)])]
def SG:Fn:=⟨1,1,[],b95⟩
def CT:List S:=[.asg 1 (.Ox (J 0) (.lit .none) (D 63)),.asg 2 (.list [(J 1),(D 0),(D 0),(.bin .mul (.bin .mod (Cb 11 [(J 1)]) (D 100003)) (D 7))]),.asg 3 (.call (.lit (.cls 2)) []),.asg 4 (.call (.lit (.cls 6)) [(J 3),(.list [])]),.asg 5 (Cf 81 [(J 2),(D 3)]),.asg 6 (Cf 81 [(J 2),(D 6)]),.asg 7 (.aG (Ls []) 4 [(.comp (.ite (.cmp .eq (Cf 81 [(J 2),(D 8)]) (D 6)) (.idx (Ls [32,45,10,48,43,97,46,57]) (Cf 81 [(J 2),(D 8)])) (.idx (Ls [48,49,50,51,52,53,54,55,56,57]) (Cf 81 [(J 2),(D 10)]))) 17 (Cb 1 [(Cf 81 [(J 2),(D 7)])]))]),.cW (.cmp .eq (Cf 81 [(J 2),(D 3)]) (D 1)) [.asg 7 (.bin .add (.idx (.list [(Ls [32]),(Ls [45]),(Ls [32,45]),(Ls [10,10]),(Ls [45,32]),(Ls [43])]) (Cf 81 [(J 2),(D 6)])) (J 7))] [],.asg 8 (Cf 90 [(J 7)]),.asg 9 (.tup [(Ls [118]),(D 0)]),.cW (.cmp .gt (J 6) (D 2)) [.asg 9 (.tup [(Ls [105]),(.ite (.both true [(.cmp .wC (J 8) (.lit .none)),(.cmp .eq (J 6) (D 3))]) (J 8) (.bin .sub (Cf 81 [(J 2),(.bin .pow (D 10) (D 25))]) (.bin .pow (D 10) (D 9))))])] [],.cW (.both true [(.cmp .eq (J 6) (D 5)),(.cmp .eq (Cf 81 [(J 2),(D 3)]) (D 0))]) [.asg 9 (.idx (.list [(.tup [(Ls [97]),(D 0)]),(.tup [(Ls [115]),(D 0),(.tup [(.tup [(Ls [118]),(D 1)]),(.tup [(Ls [105]),(D 2)])])])]) (Cf 81 [(J 2),(D 2)]))] [],.cW (.cmp .eq (J 5) (D 2)) [.asg 10 (.ite (.cmp .lt (Cf 81 [(J 2),(D 4)]) (D 3)) (.tup [(Ls [97]),(.aG (J 3) 15 [(J 7)])]) (.idx (.list [(.tup [(Ls [118]),(D 2)]),(.tup [(Ls [105]),(D 7)])]) (Cf 81 [(J 2),(D 2)]))),.ret (Cf 88 [(J 4),(.lit (.fn 64)),(.list [(J 10),(J 9)]),(Cf 94 [(J 3),(.list [(J 10),(J 9)])])])] [],.lG 11 (.ite (.cmp .eq (J 5) (D 1)) (.list [(.lit (.bool true)),(.lit (.bool false))]) (.list [(.lit (.bool false))])) [.asg 12 (Cf 92 [(J 3),(J 7),(J 11)]),.cW (.both true [(.cmp .eq (.idx (J 9) (D 0)) (Ls [105])),(.cmp .eq (Cf 81 [(J 2),(D 2)]) (D 0))]) [.asg 12 (.Ox (Cf 92 [(J 3),(Cf 91 [(.idx (J 9) (D 1))]),(J 11)]) (.lit .none) (D 12))] [],.cW (.both true [(.cmp .ne (J 12) (.list [])),(.cmp .eq (Cf 81 [(J 2),(D 4)]) (D 3))]) [.asg 13 (.list [(.tup [(Ls [118]),(D 3)]),(.tup [(Ls [118]),(D 4)]),(.tup [(Ls [105]),(D 49)]),(.tup [(Ls [105]),(.neg (D 1))]),(.tup [(Ls [105]),(D 1114112)]),(.tup [(Ls [97]),(.aG (J 3) 15 [(Ls [49])])]),(.tup [(Ls [97]),(.aG (J 3) 15 [(Ls [49,50])])])]),.j7 (J 12) (Cf 81 [(J 2),(Cb 0 [(J 12)])]) (.idx (J 13) (Cf 81 [(J 2),(D 7)]))] [],.asg 14 (.idx (.list [(.tup [(Ls [97]),(D 0)]),(.tup [(Ls [97]),(D 0)]),(.tup [(Ls [97]),(D 0)]),(.tup [(Ls [118]),(D 5)]),(.tup [(Ls [105]),(D 5)])]) (Cf 81 [(J 2),(D 5)])),.asg 15 (.list [(J 9),(Cf 89 [(J 12),(J 14)])]),.asg 16 (.ite (J 11) (.lit (.fn 95)) (.lit (.fn 62))),.cW (.not (Cf 88 [(J 4),(J 16),(J 15),(Cf 93 [(J 3),(J 15),(J 11)])])) [.ret (.lit (.bool false))] []],.ret (.lit (.bool true))]
def SE:Fn:=⟨1,18,[],CT⟩
def Mq:List (Option Fn):=[some n0,some n1,some n2,some n3,some n4,some n5,some n6,some n7,some n8,some n9,some XI,some XG,some XE,some XB,some XA,some Xs,some WZ,some WV,some WU,some WS,some WO,some WJ,some WI,some WH,some WG,some WE,some WC,some WB,some WA,some VZ,some VY,some VX,some VW,some VU,some VT,some VS,some VQ,some GL,some VO,some VI,some VE,some VC,some VA,some U1,some UZ,some UY,some UX,some UU,some US,some UR,some UQ,some UP,some MS,some MR,some UO,some UN,some UM,some UK,some UI,some MQ,some MO,some UH,some UE,some UD,some UC,some UB,some UA,some TU,some TS,some TR,some TO,some TN,some TM,some TL,some TK,some TH,some TC,some TA,some Tx,some Ts,some To,some Tb,some Ta,some SY,some SW,some SV,some SU,some SP,some MM,some SO,some SK,some SI,some SH,some ML,some MI,some SG,some SE]
noncomputable def eJ(T:BT):Nat->List (Str×Str×List Str×List U)->List (Option Fn)
 |_,[]=>[]
 |f,r::l=>Xm T f r::eJ T (f+1) l
theorem Qj{T:BT}:∀{l:List (Str×Str×List Str×List U)} {k f:Nat},(eJ T k l)[f]?=(l[f]?).map (Xm T (k+f))
 |[],_,_=>rfl
 |r::l,k,0=>rfl
 |r::l,k,f+1=>by show(eJ T (k+1) l)[f]?=_;rw[rJ,Qj,show k+1+f=k+(f+1) by exact mC _ _ _]
theorem Xi:∀P:Params,eJ (TT P) 0 s8=Mq:=λP=>by unfold TT;kernel_rfl
theorem CB(P:Params)(f:Nat):FH P f=Mq[f]?.join:=by
 rw[<- Xi P,Qj,mz];unfold FH
 cases s8[f]?<;>rfl
end
end Mine.Internal
namespace Mine.Internal
open PySem
noncomputable section
variable{α β:Type}{z:β}{o:zb1}{σ:St}
theorem rY{o:Option α}{a:α}{f:α->β}(h:o=some a):ig z o f=f a:=by rw[h];rfl
theorem d7{c:Bool}{x:β}(h:c=true):gd z c x=x:=by rw[h];rfl
theorem jE{l:Th}{f:List U->β}(h:o=some (.list l)):J9 z o f=f l:=by rw[h];rfl
theorem Nv{l:YR}{f:List (U×U)->β}(h:o=some (.dict l)):DL z o f=f l:=by rw[h];rfl
theorem Yw{l:za6}{f:List Int->β}(h:o=some (.set l)):Yx z o f=f l:=by rw[h];rfl
variable{c:Nat}{fs:TZ}
theorem Hf{f:Nat->β}(h:o=some (.up c fs)):Yv z o f=f c:=by rw[h];rfl
theorem Yy{f:Nat->List (Nat×U)->β}(h:o=some (.exc c fs)):Yz z o f=f c fs:=by rw[h];rfl
def aK(Φ:Nat->iC):Prop:=∀(d f:Nat) (fn:Fn),Mq[f]?=some (some fn)->∀(hd:Bool) (as:Th) (σ:St),Φ (d+1) hd f as σ=Vh T (Φ d) fn hd as σ
structure GS where
 cells:List Int
 pos:Int
 rest:Int
 oF:Int
 ts:List (List Nat)
 fs:List (Nat×Nat)
 hp:List U
 xs:List U
noncomputable def uQ{α:Type}(κ:α->U)(ts:List α):List (U×U):=ts.zipIdx.map λp=>(κ p.1,.int p.2)
noncomputable def T7(p:Nat×Nat):U:=.tup [.int p.1,.int p.2]
def mem(g:GS):St:=[.list (g.cells.map .int),.list [.ref 0,.int g.pos,.int g.rest,.int g.oF],.inst 2 [(11,.ref 3),(12,.ref 4),(13,.ref 5),(14,.ref 6)],.list (g.ts.map .str),.dict (uQ .str g.ts),.list (g.fs.map T7),.dict (uQ T7 g.fs),.list [],.inst 6 [(34,.ref 2),(63,.ref 7),(35,.int 100000),(64,.bool true),(65,.int 4096),(52,.ref 9),(67,.ref 13),(68,.int 0),(69,.int 0),(70,.int (-1)),(71,.int (-1)),(72,.int (-1)),(73,.str [114,101,97,100]),(74,.int 0),(75,.tup [.int 5,.int 0]),(76,.ref 14),(77,.ref 15),(78,.bool false)],.inst 4 [(34,.ref 2),(35,.int 100000),(36,.ref 10),(37,.ref 11),(38,.ref 12),(39,.int 0),(40,.int 0)],.list g.hp,.list [],.list [],.list g.xs,.list [],.dict []]
variable{Φ:iC}{hd:Bool}{s:S}{B bx:Loc}{aC bL CX σ':St}{e a b t:E}{l l':List E}{x y z v:U}{vs:Th}{r:Res U}{R:SR}{i n f c:Nat}{fs:TZ}{k A AD:List S}
theorem rD{r:Res α}{x:α}{f:α->St->Res β}(h:r= .ok x σ):r.bind f=f x σ:=by rw[h];rfl
theorem tok{r:Res α}{x:α}{f:α->St->SR}(h:r= .ok x σ):fZ r B f=f x σ:=by rw[h];rfl
variable{j:Nat}
theorem bG{c:U}(h:B[j]?=some c)(hc:c≠.L):aV T Φ hd (.B j) B σ= .ok c σ:=by
 rw[GX,h]
 cases c<;>first|rfl|exact absurd Z hc
theorem bZ{o:YZ}(h1:aV T Φ hd a B σ= .ok x aC)(h2:aV T Φ hd b B aC= .ok y bL)(h3:binop o x y bL=r):aV T Φ hd (.bin o a b) B σ=r:=(rD h1).trans ((rD h2).trans h3)
theorem aP{o:hJ}(h1:aV T Φ hd a B σ= .ok x aC)(h2:aV T Φ hd b B aC= .ok y bL)(h3:eX o x y bL=r):aV T Φ hd (.cmp o a b) B σ=r:=(rD h1).trans ((rD h2).trans h3)
theorem bB(h1:aV T Φ hd a B σ= .ok x aC)(h2:aV T Φ hd b B aC= .ok y bL)(h3:getIdx x y bL=r):aV T Φ hd (.idx a b) B σ=r:=(rD h1).trans ((rD h2).trans h3)
theorem Mu(h1:aV T Φ hd a B σ= .ok x aC)(h2:aV T Φ hd b B aC= .ok y bL)(h4:aV T Φ hd e B bL= .ok z CX)(h3:slice x y z CX=r):aV T Φ hd (.Ox a b e) B σ=r:=(rD h1).trans ((rD h2).trans ((rD h4).trans h3))
theorem cR{p:Bool}(h1:aV T Φ hd a B σ= .ok (.bool p) aC):aV T Φ hd (.not a) B σ= .ok (.bool (!p)) aC:=rD h1
theorem Xu{p:Int}(h1:aV T Φ hd a B σ= .ok (.int p) aC):aV T Φ hd (.neg a) B σ= .ok (.int (-p)) aC:=rD h1
theorem fJ(h1:aV T Φ hd t B σ= .ok (.bool true) aC)(h2:aV T Φ hd a B aC=r):aV T Φ hd (.ite t a b) B σ=r:=(rD h1).trans h2
theorem fK(h1:aV T Φ hd t B σ= .ok (.bool false) aC)(h2:aV T Φ hd b B aC=r):aV T Φ hd (.ite t a b) B σ=r:=(rD h1).trans h2
theorem aF{c:Bool}(h:Mw T Φ hd c l B σ=r):aV T Φ hd (.both c l) B σ=r:=h
theorem aQ{c p:Bool}(h1:aV T Φ hd a B σ= .ok (.bool p) aC):Mw T Φ hd c [a] B σ= .ok (.bool p) aC:=rD h1
theorem bF{c p:Bool}(h1:aV T Φ hd a B σ= .ok (.bool p) aC)(h2:p=!c):Mw T Φ hd c (a::l) B σ= .ok (.bool p) aC:=by
 subst h2;refine(rD h1).trans ?_
 cases c<;>cases l<;>rfl
theorem bA{c p:Bool}(h1:aV T Φ hd a B σ= .ok (.bool p) aC)(h2:p=c)(h3:Mw T Φ hd c (b::l) B aC=r):Mw T Φ hd c (a::b::l) B σ=r:=by
 subst h2;refine(rD h1).trans (Eq.trans ?_ h3)
 cases p<;>rfl
theorem u0{p q:Bool}(h1:aV T Φ hd a B σ= .ok (.bool p) aC)(h2:Mw T Φ hd true (b::l) B aC= .ok (.bool q) aC):Mw T Φ hd true (a::b::l) B σ= .ok (.bool (p&&q)) aC:=by
 cases p with
 |false=>exact bF h1 Z
 |true=>exact bA h1 Z h2
theorem wM{p q:Bool}(h1:aV T Φ hd a B σ= .ok (.bool p) aC)(h2:Mw T Φ hd false (b::l) B aC= .ok (.bool q) aC):Mw T Φ hd false (a::b::l) B σ= .ok (.bool (p||q)) aC:=by
 cases p with
 |true=>exact bF h1 Z
 |false=>exact bA h1 Z h2
theorem ak:lH T Φ hd [] B σ= .ok [] σ:=rfl
theorem C(h1:aV T Φ hd a B σ= .ok x aC)(h2:lH T Φ hd l B aC= .ok vs bL):lH T Φ hd (a::l) B σ= .ok (x::vs) bL:=(rD h1).trans (rD h2)
theorem bM(h1:lH T Φ hd l B σ= .ok vs aC):aV T Φ hd (.tup l) B σ= .ok (.tup vs) aC:=rD h1
theorem cG(h1:lH T Φ hd l B σ= .ok vs aC):aV T Φ hd (.list l) B σ= .ok (.ref aC.length) (aC++[.list vs]):=rD h1
theorem wJ(h1:aV T Φ hd a B σ= .ok (.ref i) aC)(h2:aC[i]?=some (.inst c fs))(h3:(T.fU c n).isNone=true)(h4:pB fs n=some v):aV T Φ hd (.attr a n) B σ= .ok v aC:=by refine(rD h1).trans ?_;show QR .bad aC[i]? (λc fs=>gd .bad (T.fU c n).isNone (RQ (pB fs n) aC))=_;rw[h2];show gd .bad (T.fU c n).isNone (RQ (pB fs n) aC)=_;rw[h3,h4];rfl
theorem Mv(h1:aV T Φ hd a B σ= .ok (.ref i) aC)(h2:aC[i]?=some (.up c fs))(h3:(T.fU c n).isNone=true)(h4:pB fs n=some v):aV T Φ hd (.attr a n) B σ= .ok v aC:=by refine(rD h1).trans ?_;show QR .bad aC[i]? (λc fs=>gd .bad (T.fU c n).isNone (RQ (pB fs n) aC))=_;rw[h2];show gd .bad (T.fU c n).isNone (RQ (pB fs n) aC)=_;rw[h3,h4];rfl
theorem aD(h1:lH T Φ hd l B σ= .ok vs aC)(h2:Φ hd f vs aC=r):aV T Φ hd (.call (.lit (.fn f)) l) B σ=r:=(rD h1).trans h2
theorem Jt(h0:aV T Φ hd a B σ= .ok (.fn f) σ)(h1:lH T Φ hd l B σ= .ok vs aC)(h2:Φ hd f vs aC=r):aV T Φ hd (.call a l) B σ=r:=by refine(rD h0).trans ?_;exact(rD h1).trans h2
theorem xT(h1:lH T Φ hd l B σ= .ok vs aC)(h2:lA T Φ hd c vs aC=r):aV T Φ hd (.call (.lit (.cls c)) l) B σ=r:=(rD h1).trans h2
theorem bK(h1:lH T Φ hd l B σ= .ok vs aC)(h3:(c==8||c==11)=false)(h2:fj c vs aC=r):aV T Φ hd (.call (.lit (.bi c)) l) B σ=r:=by refine(rD h1).trans ?_;show gd .bad (!(hd&&(c==8||c==11))) (fj c vs aC)=r;rw[h3,Bool.and_false];exact h2
theorem GR(h1:aV T Φ hd a B σ= .ok (.ref i) aC)(h2:aC[i]?=some (.inst c fs))(h3:T.isExc c=false)(h4:pB fs n=none)(h5:T.fU c n=some f)(h6:lH T Φ hd l B aC= .ok vs bL)(h7:Φ hd f (.ref i::vs) bL=r):
  aV T Φ hd (.aG a n l) B σ=r:=by
 refine(rD h1).trans ?_
 have e:qL T (.ref i) n aC=some (.fn f):=by show tV T aC[i]? n=_;rw[h2];show gd none (!T.isExc c&&(pB fs n).isNone) ((T.fU c n).map MK.fn)=_;rw[h3,h4,h5];rfl
 exact(rY e).trans ((rD h6).trans h7)
theorem cP{q:MK}(h1:aV T Φ hd a B σ= .ok x aC)(h2:qL T x n aC=some q)(h6:lH T Φ hd l B aC= .ok vs bL)(h7:dj Φ hd q x n vs bL=r):aV T Φ hd (.aG a n l) B σ=r:=(rD h1).trans ((rY h2).trans ((rD h6).trans h7))
theorem lu{s:Nat}(h1:aV T Φ hd a B σ= .ok v aC)(h2:nM hd v=true)(h3:jO (λB σ=>aV T Φ hd e B σ) s v B NN 0 [] aC= .ok vs bL):aV T Φ hd (.comp e s a) B σ= .ok (.ref bL.length) (bL++[.list vs]):=(rD h1).trans ((d7 h2).trans (rD h3))
theorem qF{x y:Int}(h:(smallInt x&&smallInt y)=true):binop .mul (.int x) (.int y) σ= .ok (.int (x*y)) σ:=d7 h
theorem uz(h:zm T Φ s hd B σ= .done .next bx σ'):aN T Φ (s::k) hd B σ=aN T Φ k hd bx σ':=by rw[ju,h];rfl
theorem Dv(h:zm T Φ s hd B σ= .done (.ret v) bx σ'):aN T Φ (s::k) hd B σ= .done (.ret v) bx σ':=by rw[ju,h];rfl
theorem oS(h:zm T Φ s hd B σ= .done .cont bx σ'):aN T Φ (s::k) hd B σ= .done .cont bx σ':=by rw[ju,h];rfl
theorem Ia(h:zm T Φ s hd B σ= .exc i bx σ'):aN T Φ (s::k) hd B σ= .exc i bx σ':=by rw[ju,h];rfl
theorem iq:∀{B:Loc} {σ:St},aN T Φ (A++k) hd B σ=Vg (aN T Φ A hd B σ) λB σ=>aN T Φ k hd B σ:=by
 induction A with
 |nil=>intro _ _;rfl
 |cons s A ih=>
  intro B σ;rw[List.cons_append,ju,ju]
  cases zm T Φ s hd B σ with
  |bad=>rfl
  |exc i l σ=>rfl
  |done f l σ'=>cases f<;>first|exact ih|rfl
def X(Q:za1)(s:SR):Prop:=Q s
theorem X.of{Q:za1}{s s':SR}(h:X Q s)(e:s'=s):X Q s':=e▸h
theorem gP{s:SR}(h:X (·=R) s):s=R:=h
variable{Q:za1}
theorem bU(h:X Q (.done .next B σ)):X Q (aN T Φ [] hd B σ):=h
theorem aH(h:aV T Φ hd e B σ= .ok v σ')(h2:X Q (aN T Φ k hd (B.set i v) σ')):X Q (aN T Φ (.asg i e::k) hd B σ):=h2.of (uz (tok h))
theorem cM(h:aV T Φ hd e B σ= .ok v σ')(h2:X Q (aN T Φ k hd B σ')):X Q (aN T Φ (.expr e::k) hd B σ):=h2.of (uz (tok h))
theorem aR(h:aV T Φ hd e B σ= .ok v σ')(h2:X Q (.done (.ret v) B σ')):X Q (aN T Φ (.ret e::k) hd B σ):=h2.of (Dv (tok h))
theorem Ue(h2:X Q (.done .cont B σ)):X Q (aN T Φ (.cont::k) hd B σ):=h2.of (oS Z)
theorem jg(h:aV T Φ hd e B σ= .ok v aC)(h1:aV T Φ hd a B aC= .ok x bL)(h3:setAttr T x n v bL=some σ')(h2:X Q (aN T Φ k hd B σ')):X Q (aN T Φ (.fY a n e::k) hd B σ):=
 h2.of (uz ((tok h).trans ((tok h1).trans (congrArg (Ac · B) h3))))
theorem fQ(h:aV T Φ hd e B σ= .ok v aC)(h1:aV T Φ hd a B aC= .ok x bL)(h4:aV T Φ hd b B bL= .ok y CX)(h3:rP x y v CX=some σ')(h2:X Q (aN T Φ k hd B σ')):X Q (aN T Φ (.j7 a b e::k) hd B σ):=
 h2.of (uz ((tok h).trans ((tok h1).trans ((tok h4).trans (congrArg (Ac · B) h3)))))
theorem qp{is:Sa}(h0:hd=false)(h:aV T Φ hd e B σ= .ok (.tup vs) σ')(h1:Yt is vs B=some bx)(h2:X Q (aN T Φ k hd bx σ')):X Q (aN T Φ (.Hc is e::k) hd B σ):=
 h2.of (uz (by subst h0;exact(tok h).trans (rY h1)))
theorem uw(h:aV T Φ hd (.B i) B σ= .ok x aC)(h1:aV T Φ hd e B aC= .ok y σ')(h3:gc x y=some v)(h2:X Q (aN T Φ k hd (B.set i v) σ')):X Q (aN T Φ (.aug i .add e::k) hd B σ):=
 h2.of (uz ((tok h).trans ((tok h1).trans ((d7 Z).trans (rY h3)))))
theorem aW(h:aV T Φ hd t B σ= .ok (.bool true) aC)(h2:X Q (aN T Φ (A++k) hd B aC)):X Q (aN T Φ (.cW t A AD::k) hd B σ):=h2.of (by
 rw[iq,ju];exact congrArg (λr=>Vg r λB σ=>aN T Φ k hd B σ) (tok h))
theorem aL(h:aV T Φ hd t B σ= .ok (.bool false) aC)(h2:X Q (aN T Φ (AD++k) hd B aC)):X Q (aN T Φ (.cW t A AD::k) hd B σ):=h2.of (by
 rw[iq,ju];exact congrArg (λr=>Vg r λB σ=>aN T Φ k hd B σ) (tok h))
theorem Y4{p:Bool}(h:aV T Φ hd t B σ= .ok (.bool p) aC)(h1:p=true->X Q (aN T Φ (A++k) hd B aC))(h2:p=false->X Q (aN T Φ (AD++k) hd B aC)):X Q (aN T Φ (.cW t A AD::k) hd B σ):=by
 cases p with
 |true=>exact aW h (h1 Z)
 |false=>exact aL h (h2 Z)
theorem fP(h:f9 (aV T Φ hd t) (λB σ=>aN T Φ AD hd B σ) NN B σ= .done .next bx σ')(h2:X Q (aN T Φ k hd bx σ')):X Q (aN T Φ (.gA t AD::k) hd B σ):=h2.of (uz h)
theorem jY(h:f9 (aV T Φ hd t) (λB σ=>aN T Φ AD hd B σ) NN B σ= .done (.ret v) bx σ')(h2:X Q (.done (.ret v) bx σ')):X Q (aN T Φ (.gA t AD::k) hd B σ):=h2.of (Dv h)
theorem jf(h:aV T Φ hd e B σ= .ok v aC)(h1:nM hd v=true)(h3:forL (λB σ=>aN T Φ AD hd B σ) i v NN 0 B aC= .done .next bx σ')(h2:X Q (aN T Φ k hd bx σ')):X Q (aN T Φ (.lG i e AD::k) hd B σ):=
 h2.of (uz ((tok h).trans ((d7 h1).trans h3)))
theorem w6{u:U}(h:aV T Φ hd e B σ= .ok v aC)(h1:nM hd v=true)(h3:forL (λB σ=>aN T Φ AD hd B σ) i v NN 0 B aC= .done (.ret u) bx σ')(h2:X Q (.done (.ret u) bx σ')):X Q (aN T Φ (.lG i e AD::k) hd B σ):=
 h2.of (Dv ((tok h).trans ((d7 h1).trans h3)))
theorem cz{p:Prop}[Decidable p](h:p):Res.ok (U.bool (decide p)) σ= .ok (.bool true) σ:=by rw[dF h]
theorem jK{p:Prop}[Decidable p](h:¬p):Res.ok (U.bool (!decide p)) σ= .ok (.bool true) σ:=by rw[dY h];rfl
theorem gR{p:Prop}[Decidable p](h:p):Res.ok (U.bool (!decide p)) σ= .ok (.bool false) σ:=by rw[dF h];rfl
theorem bN{p:Prop}[Decidable p](h:¬p):Res.ok (U.bool (decide p)) σ= .ok (.bool false) σ:=by rw[dY h]
variable{d:Nat}
theorem eK{Φ:Nat->iC}(S:aK Φ){fn:Fn}{as:Th}(h:Mq[f]?=some (some fn))(hb:ou fn as=some B)(hr:aN T (Φ d) fn.body hd B σ=R):Φ (d+1) hd f as σ=iZ R:=by rw[S d f fn h];exact(rY hb).trans (congrArg iZ hr)
theorem run{Φ:Nat->iC}(S:aK Φ){fn:Fn}{as:Th}(P:Res U->Prop)(h:Mq[f]?=some (some fn))(hb:ou fn as=some B)(hr:X (λs=>P (iZ s)) (aN T (Φ d) fn.body hd B σ)):P (Φ (d+1) hd f as σ):=by rw[eK S h hb Z];exact hr
theorem ru{Φ:Nat->iC}(S:aK Φ){fn:Fn}{as:Th}(h:Mq[f]?=some (some fn))(hb:ou fn as=some B)(hr:X (λs=>iZ s=r) (aN T (Φ d) fn.body hd B σ)):Φ (d+1) hd f as σ=r:=run S (·=r) h hb hr
end
end Mine.Internal
namespace Mine.Internal
open PySem PySem.W PySem.Calls PyProof.Rows
noncomputable section
def B'(i:Nat):Option (Nat×List (Nat×U)):=Tt none (mem ⟨[],0,0,0,[],[],[],[]⟩)[i]? (i:=λc fs=>some (c,fs))
def I'(i n:Nat):Option U:=ig none (B' i) λr=>gd none (T.fU r.1 n).isNone (pB r.2 n)
def B8(i n:Nat):Option Nat:=ig none (B' i) λr=>gd none (!T.isExc r.1&&(pB r.2 n).isNone) (T.fU r.1 n)
theorem r7:((List.range 16).all λi=>(B' i).isNone||(i==2||(i==8||i==9)))=true:=by kernel_rfl
variable{i:Nat}{g:GS}
theorem Xc{r:Nat×List (Nat×U)}{O:We}(h:B' i=some r):(mem g++O)[i]?=some (.inst r.1 r.2):=by
 have lt:i<16:=by
  rcases Nat.lt_or_ge i 16 with q|q
  .exact q
  .unfold B' at h;rw[lL (q)] at h
   cases h
 have q:=List.all_eq_true.mp r7 i (List.mem_range.mpr lt);rw[h] at q
 rcases ur _ _▸q with q|q
 .cases q
 rcases ur _ _▸q with q|q
 .cases dB q;cases h;rfl
 rcases ur _ _▸q with q|q
 .cases dB q;cases h;rfl
 .cases dB q;cases h;rfl
noncomputable def fT:List (Nat×Nat×U):=[(2,11,.ref 3),(2,12,.ref 4),(2,13,.ref 5),(2,14,.ref 6),(8,34,.ref 2),(8,64,.bool true),(8,52,.ref 9),(8,67,.ref 13),(9,34,.ref 2),(9,35,.int 100000),(9,36,.ref 10),(9,37,.ref 11),(9,38,.ref 12),(9,39,.int 0),(9,40,.int 0)]
noncomputable def mT:List (Nat×Nat×Nat):=[(2,15,5),(2,16,8),(2,17,7),(2,54,6),(9,41,39),(9,42,42),(9,43,40),(9,44,43),(9,46,41),(9,47,44),(9,48,49),(9,49,48),(9,50,46),(9,51,47),(9,55,50),(9,56,51),(9,62,45),(9,80,53),(9,82,52),(8,53,80),(8,57,78),(8,58,79),(8,79,76),(8,81,77)]
noncomputable def tk{α:Type}(l:List (Nat×Nat×α))(i n:Nat):Option α:=match l with
 |[]=>none
 |p::l=>cond (Nat.beq p.1 i&&Nat.beq p.2.1 n) (some p.2.2) (tk l i n)
variable{α:Type}{n:Nat}
theorem Kz{l:List (Nat×Nat×α)}{v:α}(h:tk l i n=some v):(i,n,v)∈l:=by
 induction l with
 |nil=>cases h
 |cons p l ih=>
  have h:cond (Nat.beq p.1 i&&Nat.beq p.2.1 n) (some p.2.2) (tk l i n)=some v:=h
  cases q:Nat.beq p.1 i&&Nat.beq p.2.1 n with
  |true=>rw[q] at h;injection h with h;rw[<- h,<-zG (and_true q).1,<-zG (and_true q).2];exact .head _
  |false=>rw[q] at h;exact .tail _ (ih h)
theorem CD:fT.map (λr=>I' r.1 r.2.1)=fT.map (λr=>some r.2.2):=by kernel_rfl
theorem AL:mT.map (λr=>B8 r.1 r.2.1)=mT.map (λr=>some r.2.2):=by kernel_rfl
theorem Gh{β:Type}{f h:α->β}{l:List α}(e:l.map f=l.map h){x:α}(m:x∈l):f x=h x:=by have:=List.map_inj_left.mp e;exact this x m
variable{Φ:iC}{hd:Bool}{B bx:Loc}{O FG Rl:We}{g aad g':GS}{σ aC bL σ':St}{e a b t:E}{l l':List E}{x y z v:U}{vs:Th}{r:Res U}{R:SR}{i n f c:Nat}{fs:TZ}{k A AD:List S}
theorem bV(h1:aV T Φ hd a B σ= .ok (.ref i) (mem g++O))(h:tk fT i n=some v):aV T Φ hd (.attr a n) B σ= .ok v (mem g++O):=by have e:=Gh CD (Kz h);have nn:none=some v->False:=λq=>nomatch q;exact jZ (P:=(·=some v)) nn e λr q e=>lF (P:=(·=some v)) nn e λhm e=>wJ h1 (Xc q) hm e
theorem bJ(h1:aV T Φ hd a B σ= .ok (.ref i) (mem g++O))(h:tk mT i n=some f)(h6:lH T Φ hd l B (mem g++O)= .ok vs bL)(h7:Φ hd f (.ref i::vs) bL=r):aV T Φ hd (.aG a n l) B σ=r:=by have e:=Gh AL (Kz h);have nn:none=some f->False:=λq=>nomatch q;refine jZ (P:=(·=some f)) nn e λr q e=>lF (P:=(·=some f)) nn e λhm e=>?_;exact GR h1 (Xc q) (Al (and_true hm).1) (Option.isNone_iff_eq_none.mp (and_true hm).2) e h6 h7
variable{d k:Nat}{γ:We}{l:Th}{o:AO}{es:YR}
theorem jq(h:σ[i]?=some (.list l))(hl:l.length<LL):dj Φ hd .list (.ref i) 0 [v] σ= .ok .none (σ.set i (.list (l++[v]))):=(jE h).trans (d7 (dF hl))
theorem Lh(h:σ[i]?=some (.list (l++[v]))):dj Φ hd .list (.ref i) 1 [] σ= .ok v (σ.set i (.list l)):=by refine(jE h).trans ?_;show ig .bad (l++[v]).getLast? (λw=>Res.ok w (σ.set i (.list (l++[v]).dropLast)))=_;rw[List.getLast?_concat,List.dropLast_concat];rfl
theorem cX(h:σ[i]?=some (.list l))(hk:k<2):qL T (.ref i) k σ=some .list:=by show tV T σ[i]? k=_;rw[h];exact d7 (dF hk)
theorem Qf(h:σ[i]?=some (.dict es)):qL T (.ref i) 2 σ=some .dict:=by show tV T σ[i]? 2=_;rw[h];rfl
theorem Ml{s:za6}(h:σ[i]?=some (.set s)):qL T (.ref i) 3 σ=some .set:=by show tV T σ[i]? 3=_;rw[h];rfl
theorem yU(h:σ[i]?=some (.list l))(hk:k<l.length):rP (.ref i) (.int k) v σ=some (σ.set i (.list (l.set k v))):=by show Fx σ[i]? i (.int k) v σ=_;rw[h];show gd Option.none (decide (0<=(k:Int))&&decide (k<l.length)) (some (σ.set i (.list (l.set k v))))=_;rw[dF (pL k),dF hk];rfl
theorem lW(h:σ[i]?=some (.dict es))(h1:keyOk es x=true)(h2:es.length<LL):rP (.ref i) x v σ=some (σ.set i (.dict (oM es x v))):=by show Fx σ[i]? i x v σ=_;rw[h];exact d7 (by rw[h1,dF h2];rfl)
theorem fV(h:σ[i]?=some (.list l))(hk:l[k]?=some v):getIdx (.ref i) (.int k) σ= .ok v σ:=by show Gv σ[i]? (.int k) σ=_;rw[h];show gd .bad (decide (0<=(k:Int))) (RQ l[k]? σ)=_;rw[dF (pL k),hk];rfl
theorem jt(hk:l[k]?=some v):getIdx (.tup l) (.int k) σ= .ok v σ:=by show gd .bad (decide (0<=(k:Int))) (RQ l[k]? σ)=_;rw[dF (pL k),hk];rfl
theorem Gu{s:Sa}(hk:s[k]?=some c):getIdx (.str s) (.int k) σ= .ok (.str [c]) σ:=by show gd .bad (decide (0<=(k:Int))) (RQ (s[k]?.map λc=>U.str [c]) σ)=_;rw[dF (pL k),hk];rfl
theorem zg(h:σ[i]?=some (.dict es))(h1:keyOk es x=true)(h2:IK x=true)(h3:jN es x=some v):getIdx (.ref i) x σ= .ok v σ:=by show Gv σ[i]? x σ=_;rw[h];show gd .bad (keyOk es x&&IK x) (RQ (jN es x) σ)=_;rw[h1,h2,h3];rfl
theorem dM(h:σ[i]?=some (.list l)):fj 0 [.ref i] σ= .ok (.int l.length) σ:=by show aE σ[i]? σ=_;rw[h];rfl
theorem dU(h:O[i]?=some o):(O++γ)[i]?=some o:=by rw[oX (zb6 h).1];exact h
theorem bk:(O++o::γ)[O.length]?=some o:=by rw[iz (bR _),jy];rfl
theorem jw(k₀ Ui k:U)(es:YR):jN ((k₀,Ui)::es) k=if Ax k₀ k=true then some Ui else jN es k:=by
 unfold jN;rw[vK]
 cases h:Ax k₀ k
 .rfl
 .rfl
theorem nA(k₀ Ui k v:U)(es:YR):oM ((k₀,Ui)::es) k v=if Ax k₀ k=true then(k₀,v)::es else(k₀,Ui)::oM es k v:=rfl
noncomputable def cO{α:Type}[DecidableEq α](ts:List α)(t:α):Nat:=if t∈ts then ts.idxOf t else ts.length
noncomputable def cQ{α:Type}[DecidableEq α](ts:List α)(t:α):List α:=if t∈ts then ts else ts++[t]
section
variable{α:Type}[DecidableEq α]{κ:α->U}
theorem Wv(hk:∀x y,Ax (κ x) (κ y)=decide (x=y))(t:α):∀(ts:List α) (i:Nat),jN ((ts.zipIdx i).map λp=>(κ p.1,U.int p.2)) (κ t)=if t∈ts then some (.int ((i+ts.idxOf t:Nat):Int)) else none
 |[],i=>rfl
 |a::l,i=>by
  rw[List.zipIdx_cons,cH,jw,hk,Wv hk t l (i+1)]
  by_cases h:a=t
  .subst h;rw[bz (dF Z),bz (.head _),List.idxOf_cons_self,iu]
  .rw[bh (by rw[dY h];decide)]
   by_cases m:t∈l
   .rw[bz m,bz (.tail _ m),List.idxOf_cons,beq_false_of_ne h,show i+1+List.idxOf t l=i+(List.idxOf t l+1) by exact mC _ _ _];rfl
   .rw[bh m,bh (λq=>by cases q with|head=>exact h Z|tail _ q=>exact m q)]
theorem Wt(hk:∀x y,Ax (κ x) (κ y)=decide (x=y))(t:α)(v:U):∀(ts:List α) (i:Nat),t∉ts->oM ((ts.zipIdx i).map λp=>(κ p.1,U.int p.2)) (κ t) v=((ts.zipIdx i).map λp=>(κ p.1,U.int p.2))++[(κ t,v)]
 |[],i,_=>rfl
 |a::l,i,h=>by have h1:¬a=t:=λe=>h (e▸ .head _);rw[List.zipIdx_cons,cH,nA,hk,bh (by rw[dY h1];decide),Wt hk t v l (i+1) (λq=>h (.tail _ q))];rfl
theorem len_num{ts:List α}:(uQ κ ts).length=ts.length:=by unfold uQ;rw[dN,List.length_zipIdx]
theorem Oz(hk:∀x y,Ax (κ x) (κ y)=decide (x=y)){ts:List α}{t:α}(h:t∉ts):oM (uQ κ ts) (κ t) (.int ts.length)=uQ κ (ts++[t]):=by unfold uQ;rw[Wt hk t _ ts 0 h,List.zipIdx_append,oO,mz];rfl
theorem Gm(h0:∀x,isKey (κ x)=true)(h1:∀x y,zX (κ x) (κ y)=true){ts:List α}{t:α}:keyOk (uQ κ ts) (κ t)=true:=by unfold keyOk uQ;rw[h0,yg,zB];intro e m;obtain⟨p,_,rfl⟩:=List.mem_map.mp m;exact h1 _ _
theorem Qh(hk:∀x y,Ax (κ x) (κ y)=decide (x=y))(h0:∀x,isKey (κ x)=true)(h1:∀x y,zX (κ x) (κ y)=true){ts:List α}{t:α}(h:σ[i]?=some (.dict (uQ κ ts))):
  dj Φ hd .dict (.ref i) 2 [κ t,.int (-1)] σ= .ok (.int (if t∈ts then(ts.idxOf t:Int) else -1)) σ:=by
 refine(Nv h).trans ((d7 (Gm h0 h1)).trans ?_);unfold uQ;rw[Wv hk t ts 0]
 by_cases m:t∈ts
 .rw[bz m,bz m,mz];rfl
 .rw[bh m,bh m];rfl
end
theorem ic(x y:Sa):Ax (.str x) (.str y)=decide (x=y):=rfl
theorem Cs(x y:Nat×Nat):Ax (T7 x) (T7 y)=decide (x=y):=by
 rw[qZ,jH,fO,fO,fO,Prod.ext_iff]
 lia
variable{Φ:Nat->iC}
theorem o8(S:aK Φ){t:Sa}(hl:g.ts.length<1000):Φ (d+1) hd 5 [.ref 2,.str t] (mem g++O)= .ok (.int (cO g.ts t)) (mem {g with ts:=cQ g.ts t}++O):=by
 have e0:=Qh (Φ:=Φ d) (hd:=hd) (σ:=mem g++O) (i:=4) (t:=t) ic (λ_=>rfl) (λ_ _=>rfl) Z;unfold cO cQ
 by_cases h:t∈g.ts
 .rw[bz h] at e0 ⊢;rw[bz h];refine ru S Z Z<|aH e0 ?_;refine aW (cz (rh))<|aR Z Z
 .rw[bh h] at e0 ⊢;rw[bh h];have e1:=jq (Φ:=Φ d) (hd:=hd) (σ:=mem g++O) (i:=3) (v:=.str t) Z (by rw[dN];unfold LL;exact bj hl (dl Z));have e1':fj 0 [.ref 3] (mem g++O)= .ok (.int (g.ts.map U.str).length) (mem g++O):=rfl;have e2:=lW (σ:=(mem g++O).set 3 (.list (g.ts.map .str++[.str t]))) (v:=.int g.ts.length) (i:=4) Z (Gm (t:=t) (λ_=>rfl) (λ_ _=>rfl)) (by rw[len_num];unfold LL;exact bj hl (dl Z));rw[Oz ic h] at e2;rw[dN] at e1';refine ru S Z Z<|aH e0 ?_;refine aL (bN Y)<|aH (bK (C Z ak) Z e1') ?_;refine cM e1<|fQ Z Z Z e2 ?_;refine aR Z ?_;rw[show mem {g with ts:=g.ts++[t]}=((mem g).set 3 (.list ((g.ts++[t]).map .str))).set 4 (.dict (uQ .str (g.ts++[t]))) from Z,oO]
  rfl
theorem Fg(S:aK Φ){t:Sa}(h:g.ts[n]?=some t):Φ (d+1) hd 6 [.ref 2,.int n] (mem g++O)= .ok (.str t) (mem g++O):=by refine ru S Z Z<|aR (bB Z Z (fV Z (by rw[fG,h];rfl))) Z
theorem Mm(S:aK Φ){a:Nat}(hl:g.fs.length<1000):Φ (d+1) hd 7 [.ref 2,.int a,.int n] (mem g++O)= .ok (.int (cO g.fs (a,n))) (mem {g with fs:=cQ g.fs (a,n)}++O):=by
 have e0:=Qh (Φ:=Φ d) (hd:=hd) (σ:=mem g++O) (i:=6) (t:=(a,n)) Cs (λ_=>rfl) (λ_ _=>rfl) Z;unfold cO cQ
 by_cases h:(a,n)∈g.fs
 .rw[bz h] at e0 ⊢;rw[bz h];refine ru S Z Z<|aH Z ?_;refine aH e0<|aW (cz (rh)) ?_;exact aR Z Z
 .rw[bh h] at e0 ⊢;rw[bh h];have e1:=jq (Φ:=Φ d) (hd:=hd) (σ:=mem g++O) (i:=5) (v:=T7 (a,n)) Z (by rw[dN];unfold LL;exact bj hl (dl Z));have e1':fj 0 [.ref 5] (mem g++O)= .ok (.int (g.fs.map T7).length) (mem g++O):=rfl;have e2:=lW (σ:=(mem g++O).set 5 (.list (g.fs.map T7++[T7 (a,n)]))) (v:=.int g.fs.length) (i:=6) Z (Gm (t:=(a,n)) (λ_=>rfl) (λ_ _=>rfl)) (by rw[len_num];unfold LL;exact bj hl (dl Z));rw[Oz Cs h] at e2;rw[dN] at e1';refine ru S Z Z<|aH Z ?_;refine aH e0<|aL (bN Y) ?_;refine aH (bK (C Z ak) Z e1')<|cM e1 ?_;refine fQ Z Z Z e2<|aR Z ?_;rw[show mem {g with fs:=g.fs++[(a,n)]}=((mem g).set 5 (.list ((g.fs++[(a,n)]).map T7))).set 6 (.dict (uQ T7 (g.fs++[(a,n)]))) from Z,oO]
  rfl
theorem Qi(S:aK Φ){t:Sa}(hl:g.ts.length<1000)(hf:g.fs.length<1000):Φ (d+2) hd 8 [.ref 2,.str t,.int n] (mem g++O)= .ok (.int (cO g.fs (cO g.ts t,n))) (mem {g with ts:=cQ g.ts t,fs:=cQ g.fs (cO g.ts t,n)}++O):=by refine ru S Z Z<|aR (bJ Z Z (C (bJ Z Z (C Z ak) (o8 S hl)) (C Z ak)) (Mm S hf)) Z
noncomputable def iI(c:Int):Bool:=decide (c=32)||(decide (9<=c)&&decide (c<=13))
noncomputable def cg(c:Int):Bool:=decide (48<=c)&&decide (c<=57)
noncomputable def R8(c:Int):Bool:=decide (97<=c)&&decide (c<=122)
noncomputable def Ea(c:Int):Bool:=decide (65<=c)&&decide (c<=90)
def yq(c:Int):Bool:=R8 c||(Ea c||(cg c||decide (c=95)))
noncomputable def FR:List Nat:=[43,45,42,47,92,94,60,62,61,126,58,46,63,64,35,38,36]
def j4(c:Int):Bool:=decide (0<=c)&&(decide (c<128)&&FR.contains c.toNat)
def lU(c:Int):Int:=if cg c=true then c - 48 else if R8 c=true then c - 87 else if Ea c=true then c - 55 else -1
variable{c:Int}
theorem Gl(S:aK Φ):Φ (d+1) hd 15 [.int c] σ= .ok (.bool (iI c)) σ:=by refine ru S Z Z<|aR (aF (wM Z (aQ (aF (u0 Z (aQ Z)))))) Z
theorem vf(S:aK Φ):Φ (d+1) hd 16 [.int c] σ= .ok (.bool (cg c)) σ:=by refine ru S Z Z<|aR (aF (u0 Z (aQ Z))) Z
theorem Ow(S:aK Φ):Φ (d+1) hd 17 [.int c] σ= .ok (.bool (R8 c)) σ:=by refine ru S Z Z<|aR (aF (u0 Z (aQ Z))) Z
theorem Ni(S:aK Φ):Φ (d+1) hd 18 [.int c] σ= .ok (.bool (Ea c)) σ:=by refine ru S Z Z<|aR (aF (u0 Z (aQ Z))) Z
theorem vb(S:aK Φ):Φ (d+2) hd 19 [.int c] σ= .ok (.bool (yq c)) σ:=by refine ru S Z Z<|aR (aF (wM (aD (C Z ak) (Ow S)) (wM (aD (C Z ak) (Ni S)) (wM (aD (C Z ak) (vf S)) (aQ Z))))) Z
theorem Uz(S:aK Φ):Φ (d+1) hd 20 [.int c] σ= .ok (.bool (j4 c)) σ:=by
 refine ru S Z Z ?_;unfold j4
 by_cases h0:0<=c
 .by_cases h1:c<128
  .have e:fj 3 [.int c] σ= .ok (.str [c.toNat]) σ:=d7 (by rw[dF h0,dF (qW (nH h1 Y))];rfl);exact aR (aF (u0 Z (u0 Z (aQ (aP (bK (C Z ak) Z e) Z Z))))) Z
  .rw[dY h1];exact aR (aF (u0 Z (bF (bN h1) Z))) Z
 .rw[dY h0];exact aR (aF (bF (bN h0) Z)) Z
theorem Ex(S:aK Φ):Φ (d+2) hd 21 [.int c] σ= .ok (.int (lU c)) σ:=by
 refine ru S Z Z ?_;unfold lU;refine Y4 (aD (C Z ak) (vf S)) (λh=>?_) λh=>?_
 .rw[bz h];exact aR Z Z
 rw[bh (by rw[h];decide)];refine Y4 (aD (C Z ak) (Ow S)) (λh=>?_) λh=>?_
 .rw[bz h];exact aR Z Z
 rw[bh (by rw[h];decide)];refine Y4 (aD (C Z ak) (Ni S)) (λh=>?_) λh=>?_
 .rw[bz h];exact aR Z Z
 rw[bh (by rw[h];decide)];exact aR Z Z
theorem fN(S:aK Φ)(h1:c≠98)(h2:c≠111)(h3:c≠120):Φ (d+1) hd 25 [.int c] σ= .ok (.int 0) σ:=by refine ru S Z Z<|aL (bN h1) ?_;refine aL (bN h2)<|aL (bN h3) ?_;exact aR Z Z
theorem RN{β:Type}{z:β}{w:Option (Option U)}{f:U->β}{e:β}(h:w=some (some x)):FQ z w f e=f x:=by rw[h];rfl
theorem RP{β:Type}{z:β}{w:Option (Option U)}{f:U->β}{e:β}(h:w=some none):FQ z w f e=e:=by rw[h];rfl
theorem FW{β:Type}{z:β}{r:Res α}{f:α->St->β}{x:α}(h:r= .ok x σ):iF z r f=f x σ:=by rw[h];rfl
theorem uS{items:Th}(h:k+0=items.length):items[k]?=none:=lL (dh h.symm)
variable{m:Nat}
theorem uu{items:Th}(h:k+(m+1)=items.length):∃x,items[k]?=some x:=⟨_,gM (ye (dw (dh h)))⟩
theorem tG{elt:Loc->St->Res U}{slot:Nat}{items:Th}{F:Nat->U}(I:Nat->St->Prop)(hit:∀k σ,I k σ->dJ v k σ=some items[k]?)
  (YT:∀k x σ,items[k]?=some x->I k σ->∃σ',elt (B.set slot x) σ= .ok (F k) σ'/\I (k+1) σ') (m:Nat):∀(n k:Nat) (acc:Th) (σ:St),k+m=items.length->m<n->I k σ->∃σ',jO elt slot v B n k acc σ= .ok (acc++(List.range' k m).map F) σ'/\I items.length σ':=by
 induction m with
 |zero=>
  intro n k acc σ h1 h2 hI
  cases n with
  |zero=>cases h2
  |succ n=>
  refine(aZ σ ((RP ((hit k σ hI).trans (congrArg some (uS h1)))).trans ?_) (by rw[<- h1];exact hI));rewrite[List.range'_zero,vJ,dH];rfl
 |succ m ih=>
  intro n k acc σ h1 h2 hI
  cases n with
  |zero=>cases h2
  |succ n=>
  obtain⟨x,hx⟩:=uu h1;obtain⟨aC,e,LS⟩:=YT k x σ hx hI;obtain⟨bL,JJ,LP⟩:=ih n (k+1) (acc++[F k]) aC (Eq.trans (mC _ _ _) h1) (gw h2) LS;refine(aZ bL ((RN ((hit k σ hI).trans (congrArg some hx))).trans ((FW e).trans (JJ.trans ?_))) LP);rewrite[List.range'_succ,cH,bw];rfl
theorem Ew{t:Loc->St->Res U}{b:Loc->St->SR}(h1:t B σ= .ok (.bool true) aC)(h2:turned (b B aC) (λbx kR=>f9 t b n bx kR)=R):f9 t b (n+1) B σ=R:=(FW h1).trans h2
theorem cJ{t:Loc->St->Res U}{b:Loc->St->SR}(h1:t B σ= .ok (.bool true) aC)(h2:b B aC= .done .next bx bL)(h3:f9 t b n bx bL=R):f9 t b (n+1) B σ=R:=Ew h1 (by rw[h2];exact h3)
theorem lV{t:Loc->St->Res U}{b:Loc->St->SR}(h1:t B σ= .ok (.bool true) aC)(h2:b B aC= .done .cont bx bL)(h3:f9 t b n bx bL=R):f9 t b (n+1) B σ=R:=Ew h1 (by rw[h2];exact h3)
theorem iQ{t:Loc->St->Res U}{b:Loc->St->SR}{u:U}(h1:t B σ= .ok (.bool true) aC)(h2:b B aC= .done (.ret u) bx bL):f9 t b (n+1) B σ= .done (.ret u) bx bL:=Ew h1 (by rw[h2];rfl)
theorem cU{t:Loc->St->Res U}{b:Loc->St->SR}(h1:t B σ= .ok (.bool false) aC):f9 t b (n+1) B σ= .done .next B aC:=FW h1
theorem xu(l:Sa)(f:Nat->U)(F:Nat->U)(h:∀k x,l[k]?=some x->F k=f x):(List.range' 0 l.length).map F=l.map f:=by
 apply List.ext_getElem?;intro k;rw[fG,fG]
 by_cases hk:k<l.length
 .rw[List.getElem?_range' hk,gM hk];show some (F (0+1*k))=some _;rw[Nat.one_mul,mz,h k _ (gM hk)]
 .rw[lL (iW hk),lL (by rw[List.length_range'];exact iW hk)];rfl
def cInt(c:Nat):U:=.int c
def cStr(c:Nat):U:=.str [c]
theorem JR(S:aK Φ){s:Sa}(hs:s.length<999):Φ (d+1) false 22 [.str s] σ= .ok (.ref σ.length) (σ++[.list (s.map cInt)]):=by
 refine ru S Z Z ?_
 obtain⟨σ',e,q⟩:=tG (B:=[.str s,.L]) (v:=.str s) (elt:=λB σ=>aV T (Φ d) false (Cb 2 [J 1]) B σ) (slot:=1) (F:=λk=>match s[k]? with|some c=>cInt c|none=>.none)
  (λ_ τ=>τ=σ) (λk τ q=>by rw[fG];rfl) (λk x τ hx q=>by
   rw[fG] at hx;obtain⟨c,hc,rfl⟩:=zb3 hx;exact(aZ τ (by rw[hc];rfl) q)) s.length NN 0 [] σ (by rw[dN,mz]) (by unfold NN;exact oV hs) Z
 subst q;rw[mW,xu s cInt _ (λk x h=>by rw[h])] at e;exact aR (lu Z Z e) Z
theorem strs_map:∀(s:Sa),strsOf (s.map cStr)=some (s.map λc=>[c])
 |[]=>rfl
 |c::l=>by show(strsOf (l.map cStr)).map ([c]::·)=_;rw[strs_map l];rfl
theorem p6(s:Sa):(s.map λc=>[c]).flatten=s:=by
 induction s with
 |nil=>rfl
 |cons c l ih=>rw[cH,List.flatten_cons,ih];rfl
theorem Gn{ss:za0}{Φ:iC}(h:σ[i]?=some (.list l))(hs:strsOf l=some ss)(hl:ss.flatten.length<=LL):dj Φ hd .str (.str []) 4 [.ref i] σ= .ok (.str ss.flatten) σ:=by refine(jE h).trans ((rY hs).trans (d7 ?_));rw[dF hl];rfl
theorem Ce(S:aK Φ){s:Sa}(h:σ[i]?=some (.list (s.map cInt)))(hs:s.length<999)(hc:∀c∈s,c<=1114111):Φ (d+1) false 23 [.ref i] σ= .ok (.str s) (σ++[.list (s.map cStr)]):=by
 refine ru S Z Z ?_;have lt:=(zb6 h).1
 obtain⟨σ',e,q⟩:=tG (B:=[.ref i,.L]) (v:=.ref i) (elt:=λB σ=>aV T (Φ d) false (Cb 3 [J 1]) B σ) (slot:=1) (items:=s.map cInt) (F:=λk=>match s[k]? with|some c=>cStr c|none=>.none)
  (λ_ τ=>τ=σ) (λk τ q=>by subst q;exact jE h) (λk x τ hx q=>by
   rw[fG] at hx;obtain⟨c,hc',rfl⟩:=zb3 hx;refine(aZ τ ?_ q);rw[hc'];exact d7 (by rw[dF (pL c),dF (xN (hc c (gq hc')))];rfl)) s.length NN 0 [] σ (by rw[dN,mz]) (by unfold NN;exact oV hs) Z
 subst q;rw[mW,xu s cStr _ (λk x h=>by rw[h])] at e;have j:=Gn (Φ:=Φ d) (hd:=false) (σ:=σ'++[.list (s.map cStr)]) (by rw[iz (bR _),jy];rfl) (strs_map s) (by rw[p6];unfold LL;exact lJ (bj hs (dl Z)));rw[p6] at j;exact aR (cP Z Z (C (lu Z Z e) ak) j) Z
noncomputable def eE:List S->List S
 | .gA _ b::_=>b
 | .lG _ _ b::_=>b
 |_::l=>eE l
 |[]=>[]
noncomputable def Rf(c:Nat)(a:Int):AO:=.inst 3 [(18,.ref (c+16)),(8,.int a),(19,.int 0)]
abbrev MT(g:GS)(O:We)(c:Nat)(a:Int)(γ:We):St:=mem g++(O++Rf c a::γ)
noncomputable def codeAt(cs:Sa)(k:Nat):Int:=match cs[k]? with
 |some c=>c
 |none=> -1
noncomputable def tT:List (Nat×Nat×Nat):=[(3,20,28),(3,21,31),(3,22,27),(3,23,29),(3,24,35),(3,25,33),(3,26,32),(3,30,34),(3,31,36),(3,33,30)]
theorem x9:tT.map (λr=>T.fU r.1 r.2.1)=tT.map (λr=>some r.2.2):=by kernel_rfl
theorem mA:tT.map (λr=>(r.2.1==18||r.2.1==8||r.2.1==19))=tT.map (λ_=>false):=by kernel_rfl
variable{l:List E}{c:Nat}{at_:Int}{cs:Sa}
variable{Φ:iC}
theorem d8(h1:aV T Φ hd a B σ= .ok (.ref i) aC)(h2:aC[i]?=some (Rf c at_))(h:tk tT 3 n=some f)(h6:lH T Φ hd l B aC= .ok vs bL)(h7:Φ hd f (.ref i::vs) bL=r):aV T Φ hd (.aG a n l) B σ=r:=by
 have m:=Kz h;have e1:=Gh x9 m;have e2:=Gh mA m;rw[Bool.or_eq_false_iff,Bool.or_eq_false_iff] at e2
 have e3:pB [(18,U.ref (c+16)),(8,.int at_),(19,.int 0)] n=none:=by
  unfold pB;rw[vK,vK,vK];have sw:∀a:Nat,(n==a)=false->(a==n)=false:=λa h=>zb4 (beq_eq_false_iff_ne.mp h).symm;rw[show((18,U.ref (c+16)).1==n)=false from sw _ e2.1.1,show((8,U.int at_).1==n)=false from sw _ e2.1.2,show((19,U.int 0).1==n)=false from sw _ e2.2]
  rfl
 exact GR h1 h2 Z e3 e1 h6 h7
theorem nY(h1:aV T Φ hd a B σ= .ok (.ref i) aC)(h2:aC[i]?=some (Rf c at_)):aV T Φ hd (.attr a 18) B σ= .ok (.ref (c+16)) aC:=wJ h1 h2 Z Z
theorem o7(h1:aV T Φ hd a B σ= .ok (.ref i) aC)(h2:aC[i]?=some (Rf c at_)):aV T Φ hd (.attr a 8) B σ= .ok (.int at_) aC:=wJ h1 h2 Z Z
theorem rB(h:O[i]?=some o):(mem g++(O++γ))[i+16]?=some o:=by show(O++γ)[i]?=some o;exact dU h
theorem gb:(mem g++(O++o::γ))[O.length+16]?=some o:=bk
theorem o5{o':AO}:∀{O:We},(O++o::γ).set O.length o'=O++o'::γ
 |[]=>rfl
 |x::O=>congrArg (x::·) (o5)
theorem tU(h:σ[i]?=some (.inst c fs))(h1:(T.fU c n).isNone=true)(h2:fs.length<1000):setAttr T (.ref i) n v σ=some (σ.set i (.inst c (oJ fs n v))):=by show yX T σ[i]? i n v σ=_;rw[h];exact d7 (by rw[h1,dF h2];rfl)
theorem qx{v:Int}:setAttr T (.ref (O.length+16)) 8 (.int v) (MT g O c at_ γ)=some (MT g O c v γ):=by have h:(MT g O c at_ γ)[O.length+16]?=some (Rf c at_):=gb;rw[tU h Z (by show 3<1000;decide)];show some (mem g++((O++Rf c at_::γ).set O.length (Rf c v)))=_;rw[o5]
variable{Φ:Nat->iC}
theorem gK(S:aK Φ)(h1:σ[i]?=some (Rf c at_))(h2:σ[c+16]?=some (.list (cs.map cInt)))(hc:∀x∈cs,x<=1114111):Φ (d+1) hd 27 [.ref i,.int k] σ= .ok (.int (codeAt cs k)) σ:=by
 refine ru S Z Z ?_;have hl:=dM h2;rw[dN] at hl;unfold codeAt
 by_cases hk:k<cs.length
 .have e:=gM hk;have b:=hc _ (Dd hk);rw[e];refine aL (aP Z (bK (C (nY Z h1) ak) Z hl) (bN (uY hk)))<|aH (bB (nY Z h1) Z (fV h2 (by rw[fG,e];rfl))) ?_;refine aL (aF (bA (bN (by show ¬((cs[k]:Int)<0);exact PX)) Z (aQ (bN (by show ¬((cs[k]:Int)>1114111);exact Bb b)))))<|aR Z Z
 .rw[lL (iW hk)];refine aW (aP Z (bK (C (nY Z h1) ak) Z hl) (cz (xN (iW hk))))<|aR Z Z
def jR(c:Nat):Prop:=c=32\/c=10\/c=45\/c=43\/c=46\/c=97\/(48<=c/\c<=57)
noncomputable def YF:List Nat:=[32,10,45,43,46,97,48,49,50,51,52,53,54,55,56,57]
theorem jR.mem(h:jR c):c∈YF:=by
 have k:∀c,c<98->jR c->c∈YF:=by unfold jR YF;decide
 refine k c ?_ h
 rcases h with h|h|h|h|h|h|h
 .rw[h];decide
 .rw[h];decide
 .rw[h];decide
 .rw[h];decide
 .rw[h];decide
 .rw[h];decide
 .exact dD h.2 Y
theorem jR.ind{P:Nat->Prop}(h:jR c)(q:∀x∈YF,P x):P c:=q c h.mem
theorem jR.sym{z:Nat}(az:jR z)(h:¬z=97)(q:¬(48<=(z:Int)/\(z:Int)<=57))(q2:z≠32/\z≠10):z=45\/z=43\/z=46:=az.ind (P:=λz=>¬z=97->¬(48<=(z:Int)/\(z:Int)<=57)->z≠32/\z≠10->z=45\/z=43\/z=46) Y h q q2
theorem jR.le(h:jR c):c<=1114111:=h.ind (P:=λc=>c<=1114111) Y
noncomputable def runN(p:Int->Bool):List Nat->Nat
 |c::r=>if p c=true then runN p r+1 else 0
 |[]=>0
theorem gh{p:Int->Bool}{r:Sa}(h:p c=true):runN p (c::r)=runN p r+1:=bz h
theorem iG{p:Int->Bool}{r:Sa}(h:p c=false):runN p (c::r)=0:=bh (by rw[h];decide)
abbrev QN:List S:=eE Pw
theorem mL{rest:Sa}{a z:Nat}(h:cs.drop a=z::rest):codeAt cs a=z:=by unfold codeAt;rw[show cs[a]?=(z::rest)[0]? by rw[<- h,iY,iu]];rfl
theorem vm{a:Nat}(h:cs.drop a=[]):codeAt cs a= -1:=by unfold codeAt;rw[show cs[a]?=([]:Sa)[0]? by rw[<- h,iY,iu]];rfl
theorem nQ{rest:Sa}{a:Nat}(h:cs.drop a=c::rest):c∈cs:=Ht (by rw[h];exact eQ)
theorem nu{rest:Sa}{a:Nat}(h:cs.drop a=c::rest):cs.drop (a+1)=rest:=by rw[<- qX,h];rfl
theorem Ds(S:aK Φ)(hc:O[c]?=some (.list (cs.map cInt)))(ha:∀x∈cs,jR x):∀(rest:Sa) (a n:Nat) (x:U),cs.drop a=rest->rest.length<n->
  ∃y,f9 (aV T (Φ (d+1)) false (.lit (.bool true))) (λB σ=>aN T (Φ (d+1)) QN false B σ) n [.ref (O.length+16),x] (MT g O c a γ)= .done (.ret .none) [.ref (O.length+16),y] (MT g O c ((a+runN iI rest:Nat):Int) γ)
 |[],a,n+1,x,h,hn=>by have e:=gK (d:=d) (hd:=false) (k:=a) S (σ:=MT g O c a γ) gb (rB hc) (λx m=>(ha x m).le);rw[vm h] at e;refine⟨.int (-1),iQ Z (gP ?_)⟩;refine aH (d8 Z gb Z (C (o7 Z gb) ak) e)<|aL (aD (C Z ak) (Gl S)) ?_;refine aL (bN Y)<|aL (aF (bF (bN Y) Z)) ?_;exact aR Z Z
 |z::rest,a,n+1,x,h,hn=>by
  have e:=gK (d:=d) (hd:=false) (k:=a) S (σ:=MT g O c a γ) gb (rB hc) (λx m=>(ha x m).le);rw[mL h] at e;have az:=ha z (nQ h)
  by_cases hz:iI z=true
  .obtain⟨y,r⟩:=Ds S hc ha rest (a+1) n (.int z) (nu h) (by simpa using hn);refine⟨y,cJ Z (gP ?_) (r.trans ?_)⟩
   .refine aH (d8 Z gb Z (C (o7 Z gb) ak) e)<|aW (aD (C Z ak) ((Gl S).trans (by rw[hz]))) ?_;refine jg (bZ (o7 Z gb) Z Z) Z qx<|bU Z
   .rw[gh hz,show a+1+runN iI rest=a+(runN iI rest+1) by exact mC _ _ _]
  .refine⟨.int z,iQ Z (gP ?_)⟩;refine aH (d8 Z gb Z (C (o7 Z gb) ak) e)<|aL (aD (C Z ak) ((Gl S).trans (by rw[Bool.eq_false_iff.mpr hz]))) ?_;refine aL (bN (az.ind (P:=λz=>¬(z:Int)=37) Y))<|aL (aF (bF (bN (az.ind (P:=λz=>¬(z:Int)=47) Y)) Z)) ?_;rw[iG (Bool.eq_false_iff.mpr hz)];exact aR Z Z
theorem Zy(S:aK Φ)(hc:O[c]?=some (.list (cs.map cInt)))(ha:∀x∈cs,jR x)(hl:cs.length<999){a:Nat}:Φ (d+2) false 31 [.ref (O.length+16)] (MT g O c a γ)= .ok .none (MT g O c ((a+runN iI (cs.drop a):Nat):Int) γ):=by refine ru S Z Z ?_;obtain⟨y,r⟩:=Ds S hc ha (cs.drop a) a NN .L Z (by rw[lK];unfold NN;exact oV (EA hl));exact jY r Z
theorem eG{v:Int}(h0: -(10^30)<=v)(h:v<=10^30):smallInt v=true:=by unfold smallInt zu;rw[jH,fO,fO];exact⟨nG Y h0,nG h Y⟩
theorem z8{a b:Nat}(h:a<=b):(10:Int)^a<=10^b:=by
 have:=Nat.pow_le_pow_right (n:=10) Y h
 exact_mod_cast this
noncomputable def m5(v:Int):List Nat->Int
 |c::r=>if cg c=true then m5 (v*10+(c - 48)) r else v
 |[]=>v
theorem iU{c:Int}:cg c=true↔48<=c/\c<=57:=by unfold cg;rw[jH,fO,fO]
theorem M3{c:Int}(h:cg c=true):lU c=c - 48:=bz h
theorem MP(a:jR c)(h:cg c=false):lU c<0\/lU c>=10:=by refine a.ind (P:=λc=>cg c=false->lU c<0\/lU c>=10) ?_ h;unfold cg lU;decide
theorem JG{v:Int}{r:Sa}(h:cg c=true):m5 v (c::r)=m5 (v*10+(c - 48)) r:=bz h
theorem X4{v:Int}{r:Sa}(h:cg c=false):m5 v (c::r)=v:=bh (by rw[h];decide)
abbrev QI:List S:=eE Pt
abbrev QO:List S:=eE PA
theorem yz(S:aK Φ)(hc:O[c]?=some (.list (cs.map cInt)))(ha:∀x∈cs,jR x){s:Int}:∀(rest:Sa) (a n:Nat) (v:Int) (x:U),cs.drop a=rest->rest.length<n->0<=v->(v+1)*10^rest.length<=10^30->
  ∃y,f9 (aV T (Φ (d+2)) false (.lit (.bool true))) (λB σ=>aN T (Φ (d+2)) QI false B σ) n [.ref (O.length+16),.int a,.int 10,.int v,x] (MT g O c s γ)= .done (.ret (.int (m5 v rest))) y (MT g O c ((a+runN cg rest:Nat):Int) γ)
 |[],a,n+1,v,x,h,hn,h0,h1=>by have e:=gK (d:=d+1) (hd:=false) (k:=a) S (σ:=MT g O c s γ) gb (rB hc) (λx m=>(ha x m).le);rw[vm h] at e;refine⟨_,iQ (bx:=[.ref (O.length+16),.int a,.int 10,.int v,.int (-1)]) Z (gP ?_)⟩;refine aH (aD (C (d8 Z gb Z (C Z ak) e) ak) (Ex S))<|aW (aF (bF (cz Y) Z)) ?_;refine jg Z Z qx<|aR Z Z
 |z::rest,a,n+1,v,x,h,hn,h0,h1=>by
  have e:=gK (d:=d+1) (hd:=false) (k:=a) S (σ:=MT g O c s γ) gb (rB hc) (λx m=>(ha x m).le);rw[mL h] at e;have az:=ha z (nQ h)
  by_cases hz:cg z=true
  .have dz:=M3 hz;have b:=iU.mp hz;obtain⟨v1,q⟩:=Qq h0 b;have lv:=qW (nH (xh h0) h1);obtain⟨y,r⟩:=yz S hc ha rest (a+1) n (v*10+((z:Int) - 48)) (.int (lU z)) (nu h) (gw hn) v1 (nG q h1);have sm:binop .mul (.int v) (.int 10) (MT g O c s γ)= .ok (.int (v*10)) (MT g O c s γ):=qF (by rw[eG (iO h0) lv];rfl);refine⟨y,cJ Z (gP ?_) (r.trans ?_)⟩
   .refine aH (aD (C (d8 Z gb Z (C Z ak) e) ak) (Ex S))<|aL (aF (bA (bN (by rw[dz];exact Int.not_lt.mpr (Int.sub_nonneg_of_le b.1))) Z (aQ (bN (by rw[dz];exact Int.not_le.mpr (Int.sub_lt_iff.mpr (Int.lt_of_le_of_lt b.2 Y))))))) ?_;refine aH (bZ (bZ Z Z sm) Z Z) ?_;rw[dz];exact aH Z (bU Z)
   .rw[gh hz,show a+1+runN cg rest=a+(runN cg rest+1) by exact mC _ _ _,JG hz]
  .have hz:=Bool.eq_false_iff.mpr hz;have dz:=MP az hz;refine⟨_,iQ (bx:=[.ref (O.length+16),.int a,.int 10,.int v,.int (lU z)]) Z (gP ?_)⟩;refine aH (aD (C (d8 Z gb Z (C Z ak) e) ak) (Ex S)) ?_;rw[iG hz,X4 hz]
   by_cases q:lU z<0
   .refine aW (aF (bF (cz q) Z))<|jg Z Z qx ?_;exact aR Z Z
   .refine aW (aF (bA (bN q) Z (aQ (cz (dz.resolve_left q)))))<|jg Z Z qx ?_;exact aR Z Z
theorem Td(S:aK Φ)(hc:O[c]?=some (.list (cs.map cInt)))(ha:∀x∈cs,jR x)(hl:cs.length<=30){s:Int}{a:Nat}:Φ (d+3) false 36 [.ref (O.length+16),.int a,.int 10] (MT g O c s γ)= .ok (.int (m5 0 (cs.drop a))) (MT g O c ((a+runN cg (cs.drop a):Nat):Int) γ):=by
 refine ru S Z Z ?_;have le:(cs.drop a).length<=30:=by rw[lK];exact y9 hl
 obtain⟨y,r⟩:=yz S hc ha (cs.drop a) a NN 0 .L Z (by unfold NN;exact dD le (dm Z)) Y (by
  rw[Int.zero_add,Int.one_mul];exact z8 le)
 refine aH Z<|jY r Z
structure Tok where
 k:List Nat
 m:U
 p:Nat
noncomputable def Tok.av(t:Tok):U:=.tup [.str t.k,t.m,.int t.p]
noncomputable def rz:List Nat:=[105,110,116]
def gU:List Nat:=[110,97,109,101]
def bq:List Nat:=[101,111,102]
noncomputable def Ww:List Nat:=[101,110,100]
def nP(cs:Sa)(p:Nat):Option (Tok×Nat):=
 if codeAt cs (p+runN cg (cs.drop p))=46/\cg (codeAt cs (p+runN cg (cs.drop p)+1))=true then none else some (⟨rz,.int (m5 0 (cs.drop p)),p⟩,p+runN cg (cs.drop p))
def endsAt(cs:Sa)(p:Nat):Bool:=decide (codeAt cs p= -1)||iI (codeAt cs p)
def jh(cs:Sa)(p z:Nat):Tok×Nat:=
 if z=46/\endsAt cs (p+1)=true then(⟨Ww,.str [46],p⟩,p+1) else(⟨gU,.str ((cs.drop p).take (runN j4 (cs.drop p))),p⟩,p+runN j4 (cs.drop p))
noncomputable def pg(cs:Sa)(p:Nat):Option (Tok×Nat):=match cs.drop p with
 |[]=>some (⟨bq,.str [],p⟩,p)
 |z::_=>if z=97 then some (⟨gU,.str ((cs.drop p).take (runN yq (cs.drop p))),p⟩,p+runN yq (cs.drop p))
  else if cg z=true then nP cs p else some (jh cs p z)
def jr(cs:Sa)(a:Nat):Option (Tok×Nat):=pg cs (a+runN iI (cs.drop a))
variable{l:Th}
variable{Φ:iC}{Q:za1}{H:List S}{w:Nat}
theorem x_raise(h:aV T Φ false e B σ= .ok (.ref i) aC)(h1:aC[i]?=some (.exc c fs))(h2:T.isExc c=true)(h3:X Q (.exc i B (aC.set i (.up c fs)))):X Q (aN T Φ (.raise e::A) false B σ):=
 h3.of (Ia (by
  exact(tok h).trans ((Yy h1).trans (d7 h2))))
theorem Ud(h:aN T Φ AD false B σ= .done .next bx σ')(h2:X Q (aN T Φ A false bx σ')){m:za9}:X Q (aN T Φ (.zO AD c m H::A) false B σ):=
 h2.of (uz (by rw[wI,h];rfl))
theorem Q9(h:aN T Φ AD false B σ= .done (.ret v) bx σ')(h2:X Q (.done (.ret v) bx σ')){m:za9}:X Q (aN T Φ (.zO AD c m H::A) false B σ):=
 h2.of (Dv (by rw[wI,h];rfl))
theorem N7{nT:Loc}(h:aN T Φ AD false B σ= .exc i bx σ')(h1:σ'[i]?=some (.up c fs))(h0:T.isExc c=true)(h2:aN T Φ H true bx σ'= .done (.ret v) nT bL)(h3:X Q (.done (.ret v) nT bL)):X Q (aN T Φ (.zO AD c none H::A) false B σ):=
 h3.of (Dv (by
  rw[wI,h];exact(Hf h1).trans ((d7 (by rw[h0,beq_self_eq_true];rfl)).trans (congrArg (My · λf B σ=>.done f B σ) h2))))
variable{j:Nat}
theorem Kp{nT:Loc}(h:aN T Φ AD false B σ= .exc i bx σ')(h1:σ'[i]?=some (.up c fs))(h0:T.isExc c=true)(h2:aN T Φ H true (bx.set j (.ref i)) σ'= .done (.ret v) nT bL)(hj:j<nT.length)(h3:X Q (.done (.ret v) (nT.set j .L) bL)):X Q (aN T Φ (.zO AD c (some j) H::A) false B σ):=
 h3.of (Dv (by
  rw[wI,h];exact(Hf h1).trans ((d7 (by rw[h0,beq_self_eq_true];rfl)).trans ((congrArg (My · λf B σ=>gd .bad (decide (j<B.length)) (.done f (B.set j .L) σ)) h2).trans (d7 (dF hj))))))
theorem za{as:Th}(h:T.uW c=some f)(h1:Φ hd f (.ref σ.length::as) (σ++[if T.isExc c then .exc c [] else .inst c []])= .ok .none σ'):lA T Φ hd c as σ= .ok (.ref σ.length) σ':=(rY h).trans (FW h1)
theorem Vb{a b:Nat}(h:σ[i]?=some (.list l)):slice (.ref i) (.int a) (.int b) σ= .ok (.ref σ.length) (σ++[.list ((l.take b).drop a)]):=by show gd .bad (decide (0<=(a:Int))) (gd .bad (decide (0<=(b:Int))) (J9 .bad σ[i]? λl=>Res.ok (U.ref σ.length) (σ++[AO.list (cut l (some a) (some b))])))=_;rw[dF (pL a),dF (pL b),h];rfl
variable{Φ:Nat->iC}
theorem Nz(τ:We):MT g O c at_ γ++τ=MT g O c at_ (γ++τ):=by rw[bw,bw];rfl
theorem zY(S:aK Φ){p:Int->Bool}(hp:∀c σ,Φ (d+2) false f [.int c] σ= .ok (.bool (p c)) σ)(ID:p (-1)=false)(hc:O[c]?=some (.list (cs.map cInt)))(ha:∀x∈cs,jR x){s a0:Int}:∀(rest:Sa) (a n:Nat),cs.drop a=rest->rest.length<n->
  f9 (aV T (Φ (d+2)) false (.call (.lit (.fn f)) [.aG (J 0) 22 [J 2]])) (λB σ=>aN T (Φ (d+2)) [.asg 2 (.bin .add (J 2) (D 1))] false B σ) n [.ref (O.length+16),.int a0,.int a] (MT g O c s γ)=
   .done .next [.ref (O.length+16),.int a0,.int ((a+runN p rest:Nat):Int)] (MT g O c s γ)
 |[],a,n+1,h,hn=>by have e:=gK (d:=d+1) (hd:=false) (k:=a) S (σ:=MT g O c s γ) gb (rB hc) (λx m=>(ha x m).le);rw[vm h] at e;exact cU (aD (C (d8 Z gb Z (C Z ak) e) ak) ((hp _ _).trans (by rw[ID])))
 |z::rest,a,n+1,h,hn=>by
  have e:=gK (d:=d+1) (hd:=false) (k:=a) S (σ:=MT g O c s γ) gb (rB hc) (λx m=>(ha x m).le);rw[mL h] at e
  cases hz:p z with
  |true=>have r:=zY S hp ID hc ha (s:=s) (a0:=a0) rest (a+1) n (nu h) (by simpa using hn);rw[gh hz,show a+(runN p rest+1)=a+1+runN p rest by exact Eq.trans (Nat.add_left_comm _ _ _) (rF _ _)];exact cJ (aD (C (d8 Z gb Z (C Z ak) e) ak) ((hp _ _).trans (by rw[hz]))) (gP (aH Z (bU Z))) r
  |false=>rw[iG hz];exact cU (aD (C (d8 Z gb Z (C Z ak) e) ak) ((hp _ _).trans (by rw[hz])))
theorem fh{a:Nat}:((cs.map cInt).take (a+m)).drop a=((cs.drop a).take m).map cInt:=by rw[<- List.map_take,<-List.map_drop,List.drop_take,jz]
theorem Ib(S:aK Φ)(hc:O[c]?=some (.list (cs.map cInt)))(ha:∀x∈cs,jR x)(hl:cs.length<=30){a:Nat}{s:Int}(h1:B[0]?=some (.ref (O.length+16)))(h2:B[1]?=some (.int a))(h3:B[2]?=some (.int ((a+m:Nat):Int))):
  ∃cZ,aV T (Φ (d+1)) false (Cf 23 [.Ox (.attr (J 0) 18) (J 1) (J 2)]) B (MT g O c s γ)= .ok (.str ((cs.drop a).take m)) (MT g O c s (γ++cZ)):=by
 have s1:=Vb (σ:=MT g O c s γ) (a:=a) (b:=a+m) (rB hc);rw[fh] at s1
 have t1:=Ce (d:=d) S (σ:=MT g O c s γ++[.list (((cs.drop a).take m).map cInt)]) (by rw[iz (bR _),jy];rfl)
  (by rw[yh,lK];exact XT (EA (dD hl (dm Z)))) (λx hx=>(ha x (Ht (List.mem_of_mem_take hx))).le)
 refine⟨[.list (((cs.drop a).take m).map cInt),.list (((cs.drop a).take m).map cStr)],?_⟩;rw[<- Nz];have l0:∀σ,aV T (Φ (d+1)) false (J 0) B σ= .ok (.ref (O.length+16)) σ:=λσ=>bG h1 (λq=>nomatch q);have l1:∀σ,aV T (Φ (d+1)) false (J 1) B σ= .ok (.int a) σ:=λσ=>bG h2 (λq=>nomatch q);have l2:∀σ,aV T (Φ (d+1)) false (J 2) B σ= .ok (.int ((a+m:Nat):Int)) σ:=λσ=>bG h3 (λq=>nomatch q);refine aD (C (Mu (nY (l0 _) gb) (l1 _) (l2 _) s1) ak) ?_;rw[t1,bw];rfl
theorem Y5(S:aK Φ)(hc:O[c]?=some (.list (cs.map cInt)))(ha:∀x∈cs,jR x)(hl:cs.length<=30){s:Int}{a:Nat}:
  ∃cZ,Φ (d+3) false 32 [.ref (O.length+16),.int a] (MT g O c s γ)= .ok (.str ((cs.drop a).take (runN yq (cs.drop a)))) (MT g O c ((a+runN yq (cs.drop a):Nat):Int) (γ++cZ)):=by
 have r:=zY (d:=d) (g:=g) (γ:=γ) S (λc σ=>vb S) Y hc ha (s:=s) (a0:=a) (cs.drop a) a NN Z (by rw[lK];unfold NN;exact EA (dD hl (dm Z)));obtain⟨cZ,t⟩:=Ib (B:=[.ref (O.length+16),.int a,.int ((a+runN yq (cs.drop a):Nat):Int)]) S hc ha hl Z Z Z;refine⟨cZ,ru S Z Z ?_⟩;refine aH Z<|fP r ?_;refine jg Z Z qx<|aR t Z
theorem eS(S:aK Φ)(hc:O[c]?=some (.list (cs.map cInt)))(ha:∀x∈cs,jR x){s:Int}{a:Nat}:
  Φ (d+2) false 34 [.ref (O.length+16),.int a] (MT g O c s γ)= .ok (.bool (endsAt cs a)) (MT g O c s γ):=by
 have e:=gK (d:=d) (hd:=false) (k:=a) S (σ:=MT g O c s γ) gb (rB hc) (λx m=>(ha x m).le);refine ru S Z Z<|aH (d8 Z gb Z (C Z ak) e) ?_;refine aR (aF (wM Z (wM Z (aQ (aD (C Z ak) (Gl S)))))) ?_
 have GL:codeAt cs a≠37:=by
  unfold codeAt
  cases q:cs[a]? with
  |none=>decide
  |some z=>have:=ha z (gq q);exact this.ind (P:=λz=>(z:Int)≠37) Y
 rw[dY GL,Bool.false_or];rfl
theorem Rk(S:aK Φ)(hc:O[c]?=some (.list (cs.map cInt)))(ha:∀x∈cs,jR x)(hl:cs.length<=30){s:Int}{a z:Nat}{rest:Sa}(h:cs.drop a=z::rest):
  ∃cZ,Φ (d+3) false 33 [.ref (O.length+16),.int a] (MT g O c s γ)= .ok (jh cs a z).1.av (MT g O c (jh cs a z).2 (γ++cZ)):=by
 have e:=gK (d:=d+1) (hd:=false) (k:=a) S (σ:=MT g O c s γ) gb (rB hc) (λx m=>(ha x m).le);rw[mL h] at e;have e2:=eS (d:=d) (g:=g) (γ:=γ) S hc ha (s:=s) (a:=a+1);unfold jh
 by_cases q:z=46/\endsAt cs (a+1)=true
 .rw[bz q];refine⟨[],ru S Z Z ?_⟩;rw[dH];refine aW (aF (bA (aP (d8 Z gb Z (C Z ak) e) Z (cz (by show(z:Int)=46;exact sZ q.1))) Z (aQ (d8 Z gb Z (C Z ak) (e2.trans (by rw[q.2]))))))<|jg Z Z qx ?_;exact aR Z Z
 .rw[bh q];have r:=zY (d:=d) (g:=g) (γ:=γ) S (λc σ=>Uz S) Y hc ha (s:=s) (a0:=a) (cs.drop a) a NN Z (by rw[lK];unfold NN;exact EA (dD hl (dm Z)));obtain⟨cZ,t⟩:=Ib (B:=[.ref (O.length+16),.int a,.int ((a+runN j4 (cs.drop a):Nat):Int)]) S hc ha hl Z Z Z;refine⟨cZ,ru S Z Z ?_⟩
  have c1:aV T (Φ (d+2)) false (.both true [(.cmp .eq (.aG (J 0) 22 [(J 1)]) (D 46)),(.aG (J 0) 30 [(.bin .add (J 1) (D 1))])]) [.ref (O.length+16),.int a,.L] (MT g O c s γ)= .ok (.bool false) (MT g O c s γ):=by
   by_cases z4:z=46
   .exact aF (bA (aP (d8 Z gb Z (C Z ak) e) Z (cz (by show(z:Int)=46;exact sZ z4))) Z (aQ (d8 Z gb Z (C Z ak) (e2.trans (by rw[Bool.eq_false_iff.mpr (λw=>q ⟨z4,w⟩)])))))
   .exact aF (bF (aP (d8 Z gb Z (C Z ak) e) Z (bN (by show ¬((z:Int)=46);exact qI z4))) Z)
  refine aL c1<|aH Z ?_;refine fP r<|jg Z Z qx ?_;exact aR (bM (C Z (C t (C Z ak)))) Z
theorem uO{Φ:iC}{s:Int}{a:Nat}(hc:O[c]?=some (.list (cs.map cInt))):∀(m k n:Nat) (r q:Int),k+m=cs.length->m<n->
  ∃r' q' k':Int,f9 (aV T Φ false (.both true [(.cmp .lt (J 4) (J 1)),(.cmp .lt (J 4) (Cb 0 [(.attr (J 0) 18)]))])) (λB σ=>aN T Φ QO false B σ) n [.ref (O.length+16),.int a,.int r,.int q,.int k] (MT g O c s γ)=
   .done .next [.ref (O.length+16),.int a,.int r',.int q',.int k'] (MT g O c s γ)
 |0,k,n+1,r,q,h,hn=>by
  have hl:=dM (σ:=MT g O c s γ) (rB hc);rw[dN] at hl;refine(Bd r q k (cU (aF ?_)))
  by_cases h1:(k:Int)<a
  .exact bA (cz h1) Z (aQ (aP Z (bK (C (nY Z gb) ak) Z hl) (bN (Bb (dh (Eq.symm h))))))
  .exact bF (bN h1) Z
 |m+1,k,n+1,r,q,h,hn=>by
  have hl:=dM (σ:=MT g O c s γ) (rB hc);rw[dN] at hl
  by_cases h1:(k:Int)<a
  .have hx:=gM (ye (dw (dh h)));have ix:=fV (σ:=MT g O c s γ) (rB hc) (by rw[fG,hx];rfl)
   by_cases h2:(cs[k]:Int)=10
   .refine MJ (uO (Φ:=Φ) (s:=s) (a:=a) hc m (k+1) n (r+1) 1 (Eq.trans (mC _ _ _) h) (gw hn)) λr' q' k' e=>?_;refine(Bd r' q' k' (cJ (aF (bA (cz h1) Z (aQ (aP Z (bK (C (nY Z gb) ak) Z hl) (cz (by lia)))))) (gP ?_) e));refine aW (aP (bB (nY Z gb) Z ix) Z (cz h2))<|aH Z (aH Z (aH Z (bU Z)))
   .refine MJ (uO (Φ:=Φ) (s:=s) (a:=a) hc m (k+1) n r (q+1) (Eq.trans (mC _ _ _) h) (gw hn)) λr' q' k' e=>?_;refine(Bd r' q' k' (cJ (aF (bA (cz h1) Z (aQ (aP Z (bK (C (nY Z gb) ak) Z hl) (cz (by lia)))))) (gP ?_) e));refine aL (aP (bB (nY Z gb) Z ix) Z (bN h2))<|aH Z (aH Z (bU Z))
  .exact(Bd r q k (cU (aF (bF (bN h1) Z))))
theorem vX(h:σ[i]?=some (.exc c fs))(h1:(T.fU c n).isNone=true)(h2:fs.length<1000):setAttr T (.ref i) n v σ=some (σ.set i (.exc c (oJ fs n v))):=by show yX T σ[i]? i n v σ=_;rw[h];exact d7 (by rw[h1,dF h2];rfl)
theorem jj{o₁ Io:AO}:(σ++[o₁]).set σ.length Io=σ++[Io]:=o5
theorem WK(S:aK Φ){s:Sa}{a r q:Int}:Φ (d+1) hd 1 [.ref σ.length,.str s,.int a,.int r,.int q] (σ++[.exc 1 []])= .ok .none (σ++[.exc 1 [(7,.str s),(8,.int a),(9,.int r),(10,.int q)]]):=by refine ru S Z Z ?_;have g:∀o:AO,(σ++[o])[σ.length]?=some o:=λo=>bk;refine jg Z Z ((vX (g _) Z Y).trans (congrArg some jj))<|jg Z Z ((vX (g _) Z (by show 1<1000;decide)).trans (congrArg some jj)) ?_;refine jg Z Z ((vX (g _) Z (by show 2<1000;decide)).trans (congrArg some jj))<|jg Z Z ((vX (g _) Z (by show 3<1000;decide)).trans (congrArg some jj)) ?_;exact bU Z
theorem Xq(S:aK Φ)(hc:O[c]?=some (.list (cs.map cInt)))(hl:cs.length<=30){s:Int}{a:Nat}{t:Sa}:
  ∃fs,Φ (d+2) false 29 [.ref (O.length+16),.str t,.int a] (MT g O c s γ)= .ok (.ref (MT g O c s γ).length) (MT g O c s γ++[.exc 1 fs]):=by
 refine MJ (uO (Φ:=Φ d) (g:=g) (γ:=γ) (s:=s) (a:=a) hc cs.length 0 NN 1 1 (rF _ _) (by unfold NN;exact dD hl (dm Z))) λr' q' k' e=>?_
 have pl:Φ (d+1) false 28 [.ref (O.length+16),.int a] (MT g O c s γ)= .ok (.tup [.int r',.int q']) (MT g O c s γ):=by refine ru S Z Z<|aH Z (aH Z (aH Z (fP e (aR Z Z))))
 refine⟨[(7,.str t),(8,.int a),(9,.int r'),(10,.int q')],ru S Z Z ?_⟩;refine qp Z (d8 Z gb Z (C Z ak) pl) Z<|aR (xT (C Z (C Z (C Z (C Z ak)))) (za Z (WK S))) Z
theorem M9(ha:∀x∈cs,jR x)(p:Nat):codeAt cs p= -1\/∃z:Nat,jR z/\codeAt cs p=z:=by
 unfold codeAt
 cases q:cs[p]? with
 |none=>exact .inl Z
 |some z=>exact .inr (aZ z (ha z (gq q)) Z)
theorem t8(ha:∀x∈cs,jR x)(p:Nat){z:Int}(h:(-1:Int)≠z/\∀x∈YF,((x:Nat):Int)≠z):codeAt cs p≠z:=by
 rcases M9 ha p with q|⟨w,q1,q2⟩
 .rw[q];exact h.1
 .rw[q2];exact q1.ind h.2
theorem Lp(S:aK Φ)(hc:O[c]?=some (.list (cs.map cInt)))(ha:∀x∈cs,jR x)(hl:cs.length<=30){s:Int}{a:Nat}:
  match nP cs a with
  |some (t,b)=>Φ (d+4) false 35 [.ref (O.length+16),.int a] (MT g O c s γ)= .ok t.av (MT g O c b γ)
  |none=>∃(j:Nat) (b:Int) (cZ:We) (fs:TZ),Φ (d+4) false 35 [.ref (O.length+16),.int a] (MT g O c s γ)= .exc j (MT g O c b (γ++cZ))/\(MT g O c b (γ++cZ))[j]?=some (.up 1 fs):=by
 have e:∀(k:Nat) (s:Int),Φ (d+3) false 27 [.ref (O.length+16),.int k] (MT g O c s γ)= .ok (.int (codeAt cs k)) (MT g O c s γ):=λk s=>gK S gb (rB hc) (λx m=>(ha x m).le);have dg:∀(k:Nat) (s:Int),Φ (d+3) false 36 [.ref (O.length+16),.int k,.int 10] (MT g O c s γ)= .ok (.int (m5 0 (cs.drop k))) (MT g O c ((k+runN cg (cs.drop k):Nat):Int) γ):=λk s=>Td S hc ha hl
 have step:∀{Q:za1},(∀ l3 l4 l2,X Q (aN T (Φ (d+3)) (Lo.drop 1) false [.ref (O.length+16),.int a,l2,l3,l4,.L] (MT g O c s γ)))->X Q (aN T (Φ (d+3)) Lo false [.ref (O.length+16),.int a,.L,.L,.L,.L] (MT g O c s γ)):=λH=>by
  by_cases z:codeAt cs a=48
  .refine aW (aP (d8 Z gb Z (C Z ak) (e a s)) Z (cz z))<|aH (d8 Z gb Z (C Z ak) (e (a+1) s)) ?_;refine aL (bN (t8 ha _ Y))<|aH (aD (C Z ak) (fN S (t8 ha _ Y) (t8 ha _ Y) (t8 ha _ Y))) ?_;refine aH (aD (C (d8 Z gb Z (C Z ak) (e (a+2) s)) ak) (Ex S)) ?_
   have q:aV T (Φ (d+3)) false (.both true [(.cmp .le (D 0) (J 4)),(.cmp .lt (J 4) (J 3))]) [.ref (O.length+16),.int a,.int (codeAt cs (a+1)),.int 0,.int (lU (codeAt cs (a+2))),.L] (MT g O c s γ)= .ok (.bool false) (MT g O c s γ):=by
    by_cases w:0<=lU (codeAt cs (a+2))
    .exact aF (bA (cz w) Z (aQ (bN (Dc w))))
    .exact aF (bF (bN w) Z)
   exact aL q (H _ _ _)
  .exact aL (aP (d8 Z gb Z (C Z ak) (e a s)) Z (bN z)) (H _ _ _)
 unfold nP;generalize hq:a+runN cg (cs.drop a)=q;have KG:=dg a s;rw[hq] at KG
 by_cases w:codeAt cs q=46/\cg (codeAt cs (q+1))=true
 .rw[bz w];obtain⟨fs,fl⟩:=Xq S hc hl;refine(WQ ((MT g O c ((q+1+runN cg (cs.drop (q+1)):Nat):Int) γ).length) (((q+1+runN cg (cs.drop (q+1)):Nat):Int)) ([.up 1 fs]) fs (ru S Z Z (step λl3 l4 l2=>?_)) ?_)
  .refine aH (d8 Z gb Z (C Z (C Z ak)) KG)<|aW (aF (bA (aP (d8 Z gb Z (C (o7 Z gb) ak) (e q _)) Z (cz w.1)) Z (aQ (aD (C (d8 Z gb Z (C (bZ (o7 Z gb) Z Z) ak) (e (q+1) _)) ak) ((vf S).trans (by rw[w.2])))))) ?_;refine cM (d8 Z gb Z (C (bZ (o7 Z gb) Z Z) (C Z ak)) (dg (q+1) _))<|x_raise (d8 Z gb Z (C Z (C Z ak)) fl) bk Z ?_;show Res.exc _ _=Res.exc _ _;rw[<- Nz,jj]
  .rw[<- Nz];exact bk
 .rw[bh w];refine ru S Z Z (step λl3 l4 l2=>?_);refine aH (d8 Z gb Z (C Z (C Z ak)) KG) ?_
  have c1:aV T (Φ (d+3)) false (.both true [(.cmp .eq (.aG (J 0) 22 [(.attr (J 0) 8)]) (D 46)),(Cf 16 [(.aG (J 0) 22 [(.bin .add (.attr (J 0) 8) (D 1))])])]) [.ref (O.length+16),.int a,l2,l3,l4,.int (m5 0 (cs.drop a))] (MT g O c q γ)= .ok (.bool false) (MT g O c q γ):=by
   by_cases z:codeAt cs q=46
   .exact aF (bA (aP (d8 Z gb Z (C (o7 Z gb) ak) (e q _)) Z (cz z)) Z (aQ (aD (C (d8 Z gb Z (C (bZ (o7 Z gb) Z Z) ak) (e (q+1) _)) ak) ((vf S).trans (by rw[Bool.eq_false_iff.mpr (λu=>w ⟨z,u⟩)])))))
   .exact aF (bF (aP (d8 Z gb Z (C (o7 Z gb) ak) (e q _)) Z (bN z)) Z)
  refine aL c1<|aR Z Z
noncomputable def gF:U->Bool
 | .str s=>decide (s=[45])
 |_=>false
noncomputable def intOf:U->Option Int
 | .int v=>some v
 |_=>none
def gW(cs:Sa)(s:Int)(t:Tok)(b:Nat):Option Int:=if t.k=rz/\b=cs.length then(intOf t.m).map (s*·) else none
def v7(cs:Sa):Option Int:=match jr cs 0 with
 |none=>none
 |some (t,b)=>if t.k=gU/\gF t.m=true then(match jr cs b with
  |none=>none
  |some (Fb,Tn)=>if Fb.p=t.p+1 then gW cs (-1) Fb Tn else none) else gW cs 1 t b
noncomputable def iH:Option Int->U
 |none=>.none
 |some v=>.int v
theorem pR{p:Int->Bool}{z:Nat}{r:Sa}:∀{l:Sa},l.drop (runN p l)=z::r->p z=false
 |[],h=>by cases h
 |x::l,h=>by
  cases hx:p x with
  |true=>rw[gh hx,List.drop_succ_cons] at h;exact pR h
  |false=>rw[iG hx] at h;cases h;exact hx
theorem e6:∀(rest:Sa) (v:Int),0<=v->(v+1)*10^rest.length<=10^30->0<=m5 v rest/\m5 v rest<=10^30:=by
 intro rest
 induction rest with
 |nil=>intro v h0 h1;exact⟨h0,qW (nH (xh h0) h1)⟩
 |cons z rest ih=>
  intro v h0 h1;show 0<=(if cg z=true then m5 (v*10+(z - 48)) rest else v)/\(if cg z=true then m5 (v*10+(z - 48)) rest else v)<=10^30
  by_cases hz:cg z=true
  .obtain⟨v1,q⟩:=Qq h0 (iU.mp hz);rw[bz hz];exact ih _ v1 (nG q h1)
  .rw[bh hz];exact⟨h0,qW (nH (xh h0) h1)⟩
def i7(t:Tok):Prop:=(t.k=rz->∃v:Int,t.m= .int v/\0<=v/\v<=10^30)/\(t.k=gU->∃s,t.m= .str s)
theorem yo(hl:cs.length<=30){a b:Nat}{t:Tok}(h:jr cs a=some (t,b)):i7 t:=by
 unfold jr pg at h;generalize a+runN iI (cs.drop a)=p at h
 split at h
 .cases h;exact⟨λq=>absurd (show bq=rz from q) Y,λq=>absurd (show bq=gU from q) Y⟩
 .split at h
  .cases h;exact⟨λq=>absurd (show gU=rz from q) Y,λ_=>⟨_,Z⟩⟩
  .split at h
   .unfold nP at h
    split at h
    .cases h
    .cases h
     have:=e6 (cs.drop p) 0 Y (by rw[Int.zero_add,Int.one_mul];exact z8 (by rw[lK];exact y9 hl));exact⟨λ_=>(oH _ Z this.1 this.2),λq=>absurd (show rz=gU from q) Y⟩
   .unfold jh at h
    split at h
    .cases h;exact⟨λq=>absurd (show Ww=rz from q) Y,λq=>absurd (show Ww=gU from q) Y⟩
    .cases h;exact⟨λq=>absurd (show gU=rz from q) Y,λ_=>⟨_,Z⟩⟩
variable{Φ:iC}
theorem Ff{r:Res α}{k:α->St->SR}(h:r= .exc i σ')(h1:σ'[i]?=some (.up c fs)):fZ r B k= .exc i B σ':=by rw[h];exact Hf h1
theorem Dj(h:aV T Φ hd e B σ= .exc i σ')(h1:σ'[i]?=some (.up c fs))(h2:X Q (.exc i B σ')):X Q (aN T Φ (.ret e::A) hd B σ):=h2.of (Ia (Ff h h1))
theorem tQ(h:aV T Φ hd e B σ= .exc i σ')(h1:σ'[i]?=some (.up c fs))(h2:X Q (.exc i B σ')):X Q (aN T Φ (.asg n e::A) hd B σ):=h2.of (Ia (Ff h h1))
theorem zJ(h:aV T Φ hd e B σ= .exc i σ')(h1:σ'[i]?=some (.up c fs))(h2:X Q (.exc i B σ')):X Q (aN T Φ (.expr e::A) hd B σ):=h2.of (Ia (Ff h h1))
variable{Φ:Nat->iC}
def QZ(o:Option (Tok×Nat))(r:Res U)(g:GS)(O:We)(c:Nat)(γ:We):Prop:=match o with
 |some (t,b)=>∃cZ,r= .ok t.av (MT g O c b (γ++cZ))
 |none=>∃(j:Nat) (b:Int) (cZ:We) (fs:TZ),r= .exc j (MT g O c b (γ++cZ))/\(MT g O c b (γ++cZ))[j]?=some (.up 1 fs)
theorem Pb(S:aK Φ)(hc:O[c]?=some (.list (cs.map cInt)))(ha:∀x∈cs,jR x)(hl:cs.length<=30){a:Nat}:QZ (jr cs a) (Φ (d+5) false 30 [.ref (O.length+16)] (MT g O c a γ)) g O c γ:=by
 have e:∀(k:Nat) (s:Int),Φ (d+4) false 27 [.ref (O.length+16),.int k] (MT g O c s γ)= .ok (.int (codeAt cs k)) (MT g O c s γ):=λk s=>gK S gb (rB hc) (λx m=>(ha x m).le);have sk:=Zy (d:=d+2) (g:=g) (γ:=γ) S hc ha (dD hl (dm Z)) (a:=a);have st:=@pR iI;unfold jr;have stop:∀{z r},cs.drop (a+runN iI (cs.drop a))=z::r->iI z=false:=λh=>by rw[<- qX] at h;exact pR h
 generalize a+runN iI (cs.drop a)=p at sk stop;have hle:=dM (σ:=MT g O c p γ) (rB hc);rw[dN] at hle
 have front:∀{Q:za1},X Q (aN T (Φ (d+4)) (ua.drop 3) false [.ref (O.length+16),.int a,.int p,.L,.L] (MT g O c p γ))->X Q (aN T (Φ (d+4)) ua false [.ref (O.length+16),.L,.L,.L,.L] (MT g O c a γ)):=λH=>by refine aH (o7 Z gb)<|cM (d8 Z gb Z ak sk) ?_;exact aH (o7 Z gb) H
 unfold pg
 cases hp:cs.drop p with
 |nil=>
  have:cs.length<=p:=by have:=congrArg List.length hp;rw[lK] at this;exact Nat.le_of_sub_eq_zero this
  refine⟨[],ru S Z Z (front ?_)⟩;rw[dH];refine aW (aP Z (bK (C (nY Z gb) ak) Z hle) (cz (xN this)))<|aR Z Z
 |cons z rest=>
  have lt:p<cs.length:=by have:=congrArg List.length hp;rw[lK,dC] at this;exact F3 this
  have az:=ha z (nQ hp);have nl:=stop hp;have hz:=e p p;rw[mL hp] at hz
  have lR:∀{Q:za1},X Q (aN T (Φ (d+4)) (ua.drop 6) false [.ref (O.length+16),.int a,.int p,.int z,.L] (MT g O c p γ))->X Q (aN T (Φ (d+4)) ua false [.ref (O.length+16),.L,.L,.L,.L] (MT g O c a γ)):=λH=>by refine front<|aL (aP Z (bK (C (nY Z gb) ak) Z hle) (bN (uY lt))) ?_;refine aH (d8 Z gb Z (C Z ak) hz)<|aL (bN (az.ind (P:=λz=>¬(z:Int)=40) Y)) H
  by_cases TX:z=97
  .show QZ (if z=97 then _ else _) _ _ _ _ _;rw[bz TX];subst TX;obtain⟨cZ,w⟩:=Y5 S hc ha hl;rw[hp] at w;refine⟨cZ,ru S Z Z (lR ?_)⟩;refine aW (aD (C Z ak) (Ow S))<|aR (bM (C Z (C (d8 Z gb Z (C Z ak) w) (C Z ak)))) Z
  .show QZ (if z=97 then _ else _) _ _ _ _ _;rw[bh TX]
   have sm:R8 z=false:=by refine az.ind (P:=λz=>¬z=97->R8 z=false) ?_ TX;unfold R8;decide
   have cp:Ea z=false:=by refine az.ind (P:=λz=>Ea z=false) ?_;unfold Ea;decide
   have pA:∀{Q:za1},X Q (aN T (Φ (d+4)) (ua.drop 8) false [.ref (O.length+16),.int a,.int p,.int z,.L] (MT g O c p γ))->X Q (aN T (Φ (d+4)) ua false [.ref (O.length+16),.L,.L,.L,.L] (MT g O c a γ)):=λH=>by refine lR<|aL (aD (C Z ak) ((Ow S).trans (by rw[sm]))) ?_;exact aL (aF (bA (aD (C Z ak) ((Ni S).trans (by rw[cp]))) Z (aQ (bN (az.ind (P:=λz=>¬(z:Int)=95) Y))))) H
   by_cases dz:cg z=true
   .rw[bz dz];have nm:=Lp (d:=d) (g:=g) (γ:=γ) S hc ha hl (s:=p) (a:=p);unfold QZ
    cases hn:nP cs p with
    |some tb=>obtain⟨t,b⟩:=tb;rw[hn] at nm;refine⟨[],ru S Z Z (pA ?_)⟩;rw[dH];refine aW (aD (C Z ak) ((vf S).trans (by rw[dz])))<|aR (d8 Z gb Z (C Z ak) nm) Z
    |none=>rw[hn] at nm;refine Tc nm λj b cZ fs n1 n2=>?_;refine(WQ j b cZ fs (ru S Z Z (pA ?_)) n2);refine aW (aD (C Z ak) ((vf S).trans (by rw[dz])))<|Dj (d8 Z gb Z (C Z ak) n1) n2 Z
   .rw[bh dz];have dz':=Bool.eq_false_iff.mpr dz
    have z3:z=45\/z=43\/z=46:=by have q:¬(48<=(z:Int)/\(z:Int)<=57):=λu=>dz (iU.mpr u);have q2:z≠32/\z≠10:=⟨λu=>by subst u;exact absurd nl Y,λu=>by subst u;exact absurd nl Y⟩;exact az.sym TX q q2
    have sy:j4 z=true:=by rcases z3 with u|u|u<;>subst u<;>decide
    obtain⟨cZ,w⟩:=Rk S hc ha hl hp;refine⟨cZ,ru S Z Z (pA ?_)⟩;refine aL (aD (C Z ak) ((vf S).trans (by rw[dz'])))<|aL (bN (az.ind (P:=λz=>¬(z:Int)=39) Y)) ?_;refine aL (bN (az.ind (P:=λz=>¬(z:Int)=34) Y))<|aL (bN (az.ind (P:=λz=>¬(z:Int)=96) Y)) ?_;refine aW (aD (C Z ak) ((Uz S).trans (by rw[sy])))<|aR (d8 Z gb Z (C Z ak) w) Z
theorem aX:(mem g++O)++γ=mem g++(O++γ):=bw ..
theorem I4{m:U}{s:Sa}(h:m= .str s):gF m=decide (s=[45]):=by subst h;rfl
theorem Xp{Φ:iC}(hc:O[c]?=some (.list (cs.map cInt))){t:Tok}(hm:i7 t){s:Int}{b:Nat}(hs:s=1\/s= -1)(H:∀v bx,iH (gW cs s t b)=v->X Q (.done (.ret v) bx (MT g O c b γ))):
  X Q (aN T Φ (E9.drop 3) false [.ref (c+16),.ref (O.length+16),.int s,t.av,x] (MT g O c b γ)):=by
 have hl:=dM (σ:=MT g O c b γ) (rB hc);rw[dN] at hl
 by_cases hk:t.k=rz
 .have k1:aV T Φ false (.cmp .ne (.idx (J 3) (D 0)) (Ls [105,110,116])) [.ref (c+16),.ref (O.length+16),.int s,t.av,x] (MT g O c b γ)= .ok (.bool false) (MT g O c b γ):=by show Res.ok (U.bool (!decide (t.k=rz))) _=_;rw[dF hk];rfl
  by_cases hb:b=cs.length
  .refine um (hm.1 hk) λv hv v0 v1=>?_;refine aL (aF (bA k1 Z (aQ (aP (o7 Z gb) (bK (C Z ak) Z hl) (gR (sZ hb)))))) ?_
   have e1:aV T Φ false (.idx (J 3) (D 1)) [.ref (c+16),.ref (O.length+16),.int s,t.av,x] (MT g O c b γ)= .ok (.int v) (MT g O c b γ):=by show Res.ok t.m _=_;rw[hv]
   refine aR (bZ Z e1 (qF ?_)) (H _ _ ?_)
   .rw[eG (by lia) v1,eG (by rcases hs with rfl|rfl<;>decide) (by rcases hs with rfl|rfl<;>decide)];rfl
   .unfold gW;rw[bz ⟨hk,hb⟩,hv];rfl
  .refine aW (aF (bA k1 Z (aQ (aP (o7 Z gb) (bK (C Z ak) Z hl) (jK (qI hb))))))<|aR Z (H _ _ ?_);unfold gW;rw[bh (λq=>hb q.2)];rfl
 .refine aW (aF (bF (jK hk) Z)) ?_
  .refine aR Z (H _ _ ?_);unfold gW;rw[bh (λq=>hk q.1)];rfl
theorem Sh(S:aK Φ):Φ (d+1) hd 26 [.ref σ.length,.ref (c+16)] (σ++[.inst 3 []])= .ok .none (σ++[Rf c 0]):=by refine ru S Z Z ?_;have g:∀o:AO,(σ++[o])[σ.length]?=some o:=λo=>bk;refine jg Z Z ((tU (g _) Z Y).trans (congrArg some jj))<|jg Z Z ((tU (g _) Z (by show 1<1000;decide)).trans (congrArg some jj)) ?_;refine jg Z Z ((tU (g _) Z (by show 2<1000;decide)).trans (congrArg some jj))<|bU Z
theorem OJ(S:aK Φ)(hc:O[c]?=some (.list (cs.map cInt)))(ha:∀x∈cs,jR x)(hl:cs.length<=30):∃γ,Φ (d+6) false 37 [.ref (c+16)] (mem g++O)= .ok (iH (v7 cs)) (mem g++(O++γ)):=by
 have YO:=Sh (d:=d+4) (hd:=false) (σ:=mem g++O) (c:=c) S
 have nw:lA T (Φ (d+5)) false 3 [.ref (c+16)] (mem g++O)= .ok (.ref (O.length+16)) (MT g O c ((0:Nat):Int) []):=by refine(za Z YO).trans ?_;rw[aX];rfl
 have n1:=Pb (d:=d) (g:=g) (γ:=[]) S hc ha hl (a:=0)
 have front:∀{Q:za1},X Q (aN T (Φ (d+5)) (E9.drop 2) false [.ref (c+16),.ref (O.length+16),.int 1,.L,.L] (MT g O c ((0:Nat):Int) []))->X Q (aN T (Φ (d+5)) E9 false [.ref (c+16),.L,.L,.L,.L] (mem g++O)):=λH=>by refine aH (xT (C Z ak) nw)<|aH Z H
 have ns:aV T (Φ (d+5)) false (.aG (J 1) 33 []) [.ref (c+16),.ref (O.length+16),.int 1,.L,.L] (MT g O c ((0:Nat):Int) [])=Φ (d+5) false 30 [.ref (O.length+16)] (MT g O c ((0:Nat):Int) []):=d8 Z gb Z ak Z;have bad:∀{Q:za1} {j:Nat} {fs:TZ} {B:Loc} {σ:St},X Q (.done (.ret .none) B σ)->X Q (aN T (Φ (d+5)) [.ret (.lit .none)] true B σ):=λH=>aR Z H;unfold v7
 cases hn:jr cs 0 with
 |none=>rw[hn] at n1;refine Tc n1 λj b cZ fs q1 q2=>?_;refine⟨Rf c b::([]++cZ),ru S Z Z (front ?_)⟩;refine N7 (gP (tQ (ns.trans q1) q2 Z)) q2 Z (gP (aR Z Z)) Z
 |some tb=>
  obtain⟨t,b⟩:=tb;have hm:=yo hl hn;rw[hn] at n1;obtain⟨cZ,q1⟩:=n1;show ∃γ,_=Res.ok (iH (if t.k=gU/\gF t.m=true then _ else _)) _
  by_cases hk:t.k=gU/\gF t.m=true
  .rw[bz hk];obtain⟨s,hs⟩:=hm.2 hk.1
   have c1:aV T (Φ (d+5)) false (.both true [(.cmp .eq (.idx (J 3) (D 0)) (Ls [110,97,109,101])),(.cmp .eq (.idx (J 3) (D 1)) (Ls [45]))]) [.ref (c+16),.ref (O.length+16),.int 1,t.av,.L] (MT g O c b ([]++cZ))= .ok (.bool true) (MT g O c b ([]++cZ)):=by refine aF (bA (cz hk.1) Z (aQ ?_));show Hm (equal t.m (.str [45]) _) _=_;have:=hk.2;rw[I4 hs] at this;rw[hs];show Res.ok (U.bool (decide (s=[45]))) _=_;rw[this]
   have n2:=Pb (d:=d) (g:=g) (γ:=[]++cZ) S hc ha hl (a:=b);have iN:aV T (Φ (d+5)) false (.aG (J 1) 33 []) [.ref (c+16),.ref (O.length+16),.int (-1),t.av,.int (t.p+1)] (MT g O c b ([]++cZ))=Φ (d+5) false 30 [.ref (O.length+16)] (MT g O c b ([]++cZ)):=d8 Z gb Z ak Z
   cases Mi:jr cs b with
   |none=>rw[Mi] at n2;refine Tc n2 λj b' Hp fs r1 r2=>?_;refine⟨Rf c b'::(([]++cZ)++Hp),ru S Z Z (front ?_)⟩;refine N7 (gP (aH (ns.trans q1) (aW c1 (aH Z (aH Z (tQ (iN.trans r1) r2 Z)))))) r2 Z (gP (aR Z Z)) Z
   |some vS=>
    obtain⟨Fb,Tn⟩:=vS;have BM:=yo hl Mi;rw[Mi] at n2;obtain⟨Hp,r1⟩:=n2;refine⟨Rf c Tn::(([]++cZ)++Hp),ru S Z Z (front ?_)⟩;show X (λs=>iZ s=Res.ok (iH (if Fb.p=t.p+1 then gW cs (-1) Fb Tn else none)) _) _
    by_cases hp:Fb.p=t.p+1
    .rw[bz hp];refine Ud (bx:=[.ref (c+16),.ref (O.length+16),.int (-1),Fb.av,.int (t.p+1)]) (σ':=MT g O c Tn (([]++cZ)++Hp)) ?_ ?_
     .refine gP<|aH (ns.trans q1) ?_;refine aW c1<|aH Z ?_;refine aH Z<|aH (iN.trans r1) ?_;exact aL (gR (Eq.trans (sZ hp) A3)) (bU Z)
     exact Xp hc BM (.inr Z) (λv bx e=>congrArg (Res.ok · _) e.symm)
    .rw[bh hp];refine Q9 (v:=.none) (bx:=[.ref (c+16),.ref (O.length+16),.int (-1),Fb.av,.int (t.p+1)]) (σ':=MT g O c Tn (([]++cZ)++Hp)) ?_ ?_
     rotate_left
     .rfl
     refine gP<|aH (ns.trans q1) ?_;refine aW c1<|aH Z ?_;refine aH Z<|aH (iN.trans r1) ?_;exact aW (jK (p:=(Fb.p:Int)=t.p+1) (by lia)) (aR Z Z)
  .rw[bh hk]
   have c1:aV T (Φ (d+5)) false (.both true [(.cmp .eq (.idx (J 3) (D 0)) (Ls [110,97,109,101])),(.cmp .eq (.idx (J 3) (D 1)) (Ls [45]))]) [.ref (c+16),.ref (O.length+16),.int 1,t.av,.L] (MT g O c b ([]++cZ))= .ok (.bool false) (MT g O c b ([]++cZ)):=by
    by_cases k1:t.k=gU
    .obtain⟨s,hs⟩:=hm.2 k1;refine aF (bA (cz (p:=t.k=gU) k1) Z (aQ ?_));show Hm (equal t.m (.str [45]) _) _=_;have:gF t.m=false:=Bool.eq_false_iff.mpr λq=>hk ⟨k1,q⟩;rw[I4 hs] at this;rw[hs];show Res.ok (U.bool (decide (s=[45]))) _=_;rw[this]
    .exact aF (bF (bN (p:=t.k=gU) k1) Z)
   refine⟨Rf c b::([]++cZ),ru S Z (B:=[.ref (c+16),.L,.L,.L,.L]) Z (front ?_)⟩;refine Ud (bx:=[.ref (c+16),.ref (O.length+16),.int 1,t.av,.L]) (σ':=MT g O c b ([]++cZ)) ?_ ?_
   .refine gP<|aH (ns.trans q1) ?_;exact aL c1 (bU Z)
   exact Xp hc hm (.inl Z) (λv bx e=>congrArg (Res.ok · _) e.symm)
noncomputable def xM(c:Int):Bool:=decide (c=32)||decide (c=10)
noncomputable def kj:List Nat->List Nat
 |45::r=>r
 |r=>r
noncomputable def xQ:List Nat->Bool
 |45::_=>true
 |_=>false
def lC(l:Sa):Bool:=decide (runN cg l=l.length)
def qG(r:Sa):Option Int:=if kj r≠[]/\lC (kj r)=true then some (if xQ r=true then -(m5 0 (kj r)) else m5 0 (kj r)) else none
def cT(cs:Sa):Option Int:=qG (cs.drop (runN xM cs))
theorem yV{p:Int->Bool}:∀(l:Sa),runN p l<=l.length
 |[]=>bR _
 |c::l=>by
  have:=yV (p:=p) l
  cases h:p c with
  |true=>rw[gh h,dC];exact vL this
  |false=>rw[iG h];exact zz _ _
theorem zZ{p q:Int->Bool}:∀{l:Sa},(∀ c∈l,p c=q c)->runN p l=runN q l
 |[],_=>rfl
 |c::l,h=>by
  have ih:=zZ λc m=>h c (.tail _ m);have e:=h c (.head _)
  cases hp:p c with
  |true=>rw[gh hp,gh (e▸hp),ih]
  |false=>rw[iG hp,iG (e▸hp)]
theorem qA(h:jR c):iI c=xM c:=by refine h.ind (P:=λc=>iI c=xM c) ?_;unfold iI xM;decide
variable{p:Nat}
theorem Uo{b:Nat}{t:Tok}(h:pg cs p=some (t,b)):t.p=p:=by
 unfold pg at h
 split at h
 .cases h;rfl
 .split at h
  .cases h;rfl
  .split at h
   .unfold nP at h
    split at h
    .cases h
    .cases h;rfl
   .unfold jh at h
    split at h
    .cases h;rfl
    .cases h;rfl
theorem tY{s:Int}{t:Tok}{b:Nat}(h:t.k≠rz):gW cs s t b=none:=bh λq=>h q.1
theorem Aj{p:Nat}(s:Int)(hp:p<=cs.length):((nP cs p).bind λtb=>gW cs s tb.1 tb.2)=if lC (cs.drop p)=true then some (s*m5 0 (cs.drop p)) else none:=by
 have le:=yV (p:=cg) (cs.drop p);rw[lK] at le;unfold lC nP
 by_cases h:runN cg (cs.drop p)=(cs.drop p).length
 .rw[bz (dF h)];rw[lK] at h
  have e:codeAt cs (p+runN cg (cs.drop p))= -1:=by unfold codeAt;rw[lL (by rw[h];exact dh (Nat.add_sub_of_le hp).symm)]
  rw[bh (by rw[e];exact λq=>absurd q.1 Y)];show gW cs s _ _=_;unfold gW;rw[bz ⟨Z,by show p+_=_;rw[h];exact Nat.add_sub_of_le hp⟩];rfl
 .refine Eq.trans ?_ (bh (by rw[dY h];decide)).symm;rw[lK] at h
  split
  .rfl
  .show gW cs s _ _=_;exact bh λq=>h (Nat.eq_sub_of_add_eq' q.2)
theorem I3{l:Sa}{z:Nat}{r:Sa}(h:l=z::r)(hz:z≠45)(hm:m≠0):gF (.str (l.take m))=false:=by
 subst h
 cases m with
 |zero=>exact absurd Z hm
 |succ m=>exact dY λq=>hz (List.cons.inj q).1
theorem Fv(cs:Sa):v7 cs=(jr cs 0).bind λtb=>if tb.1.k=gU/\gF tb.1.m=true then(jr cs tb.2).bind λub=>(if ub.1.p=tb.1.p+1 then gW cs (-1) ub.1 ub.2 else none) else gW cs 1 tb.1 tb.2:=by
 unfold v7
 cases jr cs 0 with
 |none=>rfl
 |some tb=>
  obtain⟨t,b⟩:=tb;show(if t.k=gU/\gF t.m=true then _ else _)=if t.k=gU/\gF t.m=true then _ else _
  cases jr cs b with
  |none=>rfl
  |some ub=>rfl
theorem nZ{z:Nat}{r:Sa}(h:lC (z::r)=true):cg z=true:=by
 unfold lC at h;rw[fO] at h
 cases q:cg z with
 |true=>rfl
 |false=>rw[iG q] at h;cases h
theorem J3{f h:Tok×Nat->Option α}(H:∀tb,tb.1.k=rz->tb.1.p=p->f tb=h tb):(nP cs p).bind f=(nP cs p).bind h:=by
 unfold nP
 split
 .rfl
 .exact H _ Z Z
theorem Ih(ha:∀x∈cs,jR x):v7 cs=cT cs:=by
 rw[Fv];unfold cT jr;rw[<- zZ λc m=>qA (ha c m)];have hs:=@pR iI;have le:=yV (p:=iI) cs;rw[mz,List.drop_zero];have stop:∀{z r},cs.drop (runN iI cs)=z::r->iI z=false:=λh=>pR h;generalize runN iI cs=p at stop le;unfold pg
 cases hp:cs.drop p with
 |nil=>rfl
 |cons z r=>
  have az:=ha z (nQ hp);have nl:=stop hp
  have Sk:p+1+r.length=cs.length:=by have:=congrArg List.length hp;rw[lK,dC] at this;exact F4 this
  have hr:=nu hp;show(Option.bind (if z=97 then _ else if cg z=true then _ else _) _)=_
  by_cases TX:z=97
  .rw[bz TX];have e:gF (.str ((z::r).take (runN yq (z::r))))=false:=I3 Z (by rw[TX];decide) (by subst TX;rw[gh Y];exact dX (Nat.succ_pos _));show(if gU=gU/\gF (.str ((z::r).take (runN yq (z::r))))=true then _ else gW cs 1 _ _)=_;rw[bh (λq=>by rw[e] at q;cases q.2),tY (show gU≠rz by decide)];subst TX;exact(bh λq=>absurd (nZ q.2) Y).symm
  .rw[bh TX]
   by_cases dz:cg z=true
   .rw[bz dz];have dd:=iU.mp dz
    have u:kj (z::r)=z::r:=by
     unfold kj
     split
     .rename_i h;cases h;lia
     .rfl
    have m:xQ (z::r)=false:=by
     unfold xQ
     split
     .rename_i h;cases h;exact Eq.trans (Eq.symm dz) Y
     .rfl
    have lw:qG (z::r)=if z::r≠[]/\lC (z::r)=true then some (m5 0 (z::r)) else none:=by unfold qG;rw[u,m];rfl
    rw[lw];have nf:=Aj 1 (le);rw[hp,Int.one_mul] at nf;refine(J3 λtb hk _=>bh λq=>absurd (hk.symm.trans q.1) Y).trans (nf.trans ?_)
    by_cases al:lC (z::r)=true
    .rw[bz al,bz ⟨by simp,al⟩]
    .rw[bh al,bh λq=>al q.2]
   .rw[bh dz]
    by_cases L7:z=45
    .subst L7;show(if(jh cs p 45).1.k=gU/\gF (jh cs p 45).1.m=true then _ else gW cs 1 (jh cs p 45).1 (jh cs p 45).2)=if r≠[]/\lC r=true then some (-(m5 0 r)) else none
     have so:jh cs p 45=(⟨gU,.str (45::r.take (runN j4 r)),p⟩,p+(runN j4 r+1)):=by unfold jh;rw[bh (λq=>absurd q.1 Y),hp,gh (show j4 ((45:Nat):Int)=true by decide)];rfl
     rw[so]
     by_cases r0:runN j4 r=0
     .have tk:r.take (runN j4 r)=[]:=by rw[r0];rfl
      rw[bz ⟨Z,by show gF (.str (45::r.take (runN j4 r)))=true;rw[tk];rfl⟩,r0];show(pg cs (p+1+runN iI (cs.drop (p+1)))).bind (λub=>if ub.1.p=p+1 then gW cs (-1) ub.1 ub.2 else none)=_;rw[hr]
      cases r with
      |nil=>unfold pg;rw[hr];show(if p+1=p+1 then gW cs (-1) _ _ else none)=none;rw[bz Z,tY (show bq≠rz by decide)]
      |cons y r'=>
       have ay:=ha y (nQ hr)
       cases ly:iI y with
       |true=>
        rw[gh ly,bh]
        .cases ht:pg cs (p+1+(runN iI r'+1)) with
         |none=>rfl
         |some tb=>have:=Uo ht;exact bh (dX (dq (dh this.symm)))
        .intro q;have a:=iU.mp (nZ q.2);unfold iI at ly;rw[ur,jH,fO,fO,fO] at ly
         lia
       |false=>
        rw[iG ly,iu];unfold pg;rw[hr];show(Option.bind (if y=97 then _ else if cg y=true then _ else _) _)=_
        by_cases FC:y=97
        .rw[bz FC];show(if p+1=p+1 then gW cs (-1) _ _ else none)=_;rw[bz Z,tY (show gU≠rz by decide),bh];intro q;subst FC;exact absurd (nZ q.2) Y
        .rw[bh FC]
         by_cases dy:cg y=true
         .rw[bz dy];have nf:=Aj (-1) (LF (dh Sk));rw[hr] at nf;refine(J3 λtb _ hq=>bz hq).trans (nf.trans ?_)
          by_cases al:lC (y::r')=true
          .rw[bz al,bz ⟨by simp,al⟩,Int.neg_one_mul]
          .rw[bh al,bh λq=>al q.2]
         .exfalso
          have y3:y=45\/y=43\/y=46:=by have q:¬(48<=(y:Int)/\(y:Int)<=57):=λu=>dy (iU.mpr u);have q2:y≠32/\y≠10:=⟨λu=>by subst u;exact absurd ly Y,λu=>by subst u;exact absurd ly Y⟩;exact ay.sym (by subst_vars;assumption) q q2
          have sy:j4 y=true:=by rcases y3 with u|u|u<;>subst u<;>decide
          rw[gh sy] at r0
          cases r0
     .rw[bh,tY (show gU≠rz by decide),bh]
      .intro q
       cases r with
       |nil=>exact r0 Z
       |cons y r'=>
        have dy:=nZ q.2;have a:=iU.mp dy;apply r0;refine iG ?_;have ay:=ha y (nQ hr);unfold j4;rw[Bool.and_eq_false_iff,Bool.and_eq_false_iff];refine .inr (.inr ?_);have:y=48\/y=49\/y=50\/y=51\/y=52\/y=53\/y=54\/y=55\/y=56\/y=57:=by lia
        rcases this with h|h|h|h|h|h|h|h|h|h<;>subst h<;>decide
      .intro q;have e:gF (.str (45::r.take (runN j4 r)))=decide (45::r.take (runN j4 r)=[45]):=rfl;rw[e,fO] at q;have q2:=q.2;injection q2 with _ q3;have:=congrArg List.length q3;rw[yh] at this;have l2:=yV (p:=j4) r;have z:([]:Sa).length=0:=rfl
       lia
    .have sy:j4 z=true:=by
      have z3:z=45\/z=43\/z=46:=by have q:¬(48<=(z:Int)/\(z:Int)<=57):=λu=>dz (iU.mpr u);have q2:z≠32/\z≠10:=⟨λu=>by subst u;exact absurd nl Y,λu=>by subst u;exact absurd nl Y⟩;exact az.sym TX q q2
      rcases z3 with u|u|u<;>subst u<;>decide
     have u:kj (z::r)=z::r:=by
      unfold kj
      split
      .rename_i h;cases h;lia
      .rfl
     have lw:qG (z::r)=none:=by unfold qG;rw[u];exact bh λq=>dz (nZ q.2)
     rw[lw];show(if(jh cs p z).1.k=gU/\gF (jh cs p z).1.m=true then _ else gW cs 1 (jh cs p z).1 (jh cs p z).2)=none;unfold jh
     split
     .rw[bh (λq=>absurd (show Ww=gU from q.1) Y),tY (show Ww≠rz by decide)]
     .rw[hp,bh,tY (show gU≠rz by decide)];intro q;have e:gF (.str ((z::r).take (runN j4 (z::r))))=false:=I3 Z L7 (by rw[gh sy];exact dX (Nat.succ_pos _));have q2:=q.2;rw[show gF (.str ((z::r).take (runN j4 (z::r))))=true from q2] at e
      cases e
variable{b:Bool}{r:Th}
theorem Jd(h:σ[i]?=some o)(k:sV v (some o)=some b):eX .isIn v (.ref i) σ= .ok (.bool b) σ:=(congrArg (λo=>Hm (sV v o) σ) h).trans (congrArg (Hm · σ) k)
theorem xF(h:σ[i]?=some o)(k:sV v (some o)=some b):eX .kW v (.ref i) σ= .ok (.bool (!b)) σ:=(congrArg (λo=>Hm ((sV v o).map Bool.not) σ) h).trans (congrArg (λr=>Hm (r.map Bool.not) σ) k)
theorem wB{z:Int}(h:keyOk es (.int z)=true)(k:Bw es (.int z)=b):sV (.int z) (some (.dict es))=some b:=(d7 (by rw[h];rfl)).trans (congrArg some k)
theorem add_str{s t:Sa}(h:(s++t).length<=LL):binop .add (.str s) (.str t) σ= .ok (.str (s++t)) σ:=d7 (dF h)
theorem QK{s t:Sa}(h:(s++t).length<=LL):gc (.str s) (.str t)=some (.str (s++t)):=d7 (dF h)
theorem XD(h1:σ[i]?=some (.list l))(h2:σ[j]?=some (.list r))(h:GZ l r=some b):equal (.ref i) (.ref j) σ=some b:=(jE h1).trans ((jE h2).trans h)
theorem Yb{n:Int}(h:0<=n/\n<=1114111):fj 3 [.int n] σ= .ok (.str [n.toNat]) σ:=d7 (by rw[dF h.1,dF h.2];rfl)
theorem Vk{n:Int}(h:lQ n=true):fj 1 [.int n] σ= .ok (.yK 0 n 1) σ:=d7 h
variable{slot:Nat}
theorem GP{b:Loc->St->SR}{w:Option U}(h:dJ v k σ=some w)(h2:FQ .bad (some w) (λx=>turned (b (B.set slot x) σ) λbx σ'=>forL b slot v n (k+1) bx σ') (.done .next B σ)=R):forL b slot v (n+1) k B σ=R:=(congrArg (λw=>FQ .bad w (λx=>turned (b (B.set slot x) σ) λbx σ'=>forL b slot v n (k+1) bx σ') (.done .next B σ)) h).trans h2
theorem cV{b:Loc->St->SR}(h:dJ v k σ=some (some x))(hb:b (B.set slot x) σ= .done .next bx σ')(h2:forL b slot v n (k+1) bx σ'=R):forL b slot v (n+1) k B σ=R:=GP h ((congrArg (turned · _) hb).trans h2)
theorem dW{b:Loc->St->SR}(h:dJ v k σ=some none):forL b slot v (n+1) k B σ= .done .next B σ:=GP h Z
theorem qN{b:Loc->St->SR}{u:U}(h:dJ v k σ=some (some x))(hb:b (B.set slot x) σ= .done (.ret u) bx σ'):forL b slot v (n+1) k B σ= .done (.ret u) bx σ':=GP h (congrArg (turned · _) hb)
theorem eD{b:Loc->St->SR}(h:dJ v k σ=some (some x))(hb:b (B.set slot x) σ= .exc j bx σ'):forL b slot v (n+1) k B σ= .exc j bx σ':=GP h (congrArg (turned · _) hb)
theorem Qy{elt:Loc->St->Res U}{acc:Th}{R:Res (List U)}{w:Option U}(h:dJ v k σ=some w)(h2:FQ .bad (some w) (λx=>iF .bad (elt (B.set slot x) σ) λy σ'=>jO elt slot v B n (k+1) (acc++[y]) σ') (.ok acc σ)=R):jO elt slot v B (n+1) k acc σ=R:=(congrArg (λw=>FQ .bad w (λx=>iF .bad (elt (B.set slot x) σ) λy σ'=>jO elt slot v B n (k+1) (acc++[y]) σ') (.ok acc σ)) h).trans h2
theorem lz{elt:Loc->St->Res U}{acc:Th}{R:Res (List U)}(h:dJ v k σ=some (some x))(hb:elt (B.set slot x) σ= .ok y σ')(h2:jO elt slot v B n (k+1) (acc++[y]) σ'=R):jO elt slot v B (n+1) k acc σ=R:=Qy h ((congrArg (λr=>iF (.bad:Res (List U)) r λy σ'=>jO elt slot v B n (k+1) (acc++[y]) σ') hb).trans h2)
theorem p7{elt:Loc->St->Res U}{acc:Th}(h:dJ v k σ=some none):jO elt slot v B (n+1) k acc σ= .ok acc σ:=Qy h Z
theorem cD(h:σ[i]?=some (.list l)):dJ (.ref i) k σ=some l[k]?:=jE h
abbrev P':List S:=eE KV
abbrev OF:List S:=eE (KV.drop 5)
theorem DC(c:Nat):([[32],[10]]:za0).contains [c]=xM c:=by
 unfold xM;rw[qZ,zF,ur,fO,fO,pJ,pJ]
 constructor
 .intro h
  rcases h with h|h|h
  .cases h;exact .inl Z
  .cases h;exact .inr Z
  .cases h
 .intro h
  rcases h with h|h
  .exact .inl (by rw[show c=32 by exact yL h])
  .exact .inr (.inl (by rw[show c=10 by exact yL h]))
noncomputable def CJ:List Nat:=[48,49,50,51,52,53,54,55,56,57]
theorem s9(c:Nat):CJ.contains c=cg c:=by
 by_cases h:c<58
 .have k:∀c,c<58->CJ.contains c=cg c:=by unfold CJ cg;decide
  exact k c h
 .have k:∀x∈CJ,x<58:=by unfold CJ;decide
  rw[show CJ.contains c=false from Bool.eq_false_iff.mpr λm=>h (k c (List.contains_iff_mem.mp m))];unfold cg;rw[dY (uY (dw (iW h)):¬(c:Int)<=57),Bool.and_false]
theorem QV{l:Sa}:lC l=true↔∀c∈l,cg c=true:=by
 unfold lC;rw[fO]
 induction l with
 |nil=>exact⟨λ_ c m=>(nomatch m),λ_=>rfl⟩
 |cons a l ih=>
  constructor
  .intro h c m
   cases ha:cg a with
   |false=>rw[iG ha] at h;cases h
   |true=>
    rw[gh ha,dC] at h
    cases m with
    |head=>exact ha
    |tail _ m=>exact ih.mp (by lia) c m
  .intro h;rw[gh (h a eQ),dC,ih.mpr λc m=>h c (.tail _ m)]
theorem uc{f:Nat->Bool}:∀{l:Sa},boolsOf (l.map λc=>U.bool (f c))=some (l.map f)
 |[]=>rfl
 |c::l=>by show(boolsOf (l.map λc=>U.bool (f c))).map (f c::·)=_;rw[uc];rfl
theorem VP{l:Sa}:(l.map λc:Nat=>cg c).contains false=!lC l:=by
 rw[qZ,zF,vM,Bool.eq_false_iff,ne_eq,QV]
 constructor
 .intro h q;refine bY (List.mem_map.mp h) λc m e=>?_;rw[q c m] at e;cases e
 .intro h;refine Classical.byContradiction λq=>h λc m=>?_
  cases e:cg c with
  |true=>rfl
  |false=>exact absurd (List.mem_map.mpr (aZ c m e)) q
variable{r:Res U}
theorem wA(h:σ[i]?=some (.list l))(hb:WM v l=some b):eX .isIn v (.ref i) σ= .ok (.bool b) σ:=Jd h hb
theorem zR{Φ:iC}{t:Sa}{l2 l3 l4 l5:U}:∀(rest:Sa) (n:Nat) (σ:St),rest.length<n->
  ∃γ,f9 (aV T Φ false (.both true [(.cmp .ne (J 1) (Ls [])),(.cmp .isIn (.idx (J 1) (D 0)) (.list [(Ls [32]),(Ls [10])]))])) (λB σ=>aN T Φ P' false B σ) n [.str t,.str rest,l2,l3,l4,l5] σ=
   .done .next [.str t,.str (rest.drop (runN xM rest)),l2,l3,l4,l5] (σ++γ)
 |[],n+1,σ,hn=>by refine⟨[],?_⟩;rw[dH];exact cU (aF (bF (gR Z) Z))
 |c::rest,n+1,σ,hn=>by
  have m:=wA (σ:=σ++[.list [.str [32],.str [10]]]) (v:=.str [c]) bk (by show some (([[32],[10]]:za0).contains [c])=_;rw[DC])
  have tp:∀b,xM c=b->aV T Φ false (.both true [(.cmp .ne (J 1) (Ls [])),(.cmp .isIn (.idx (J 1) (D 0)) (.list [(Ls [32]),(Ls [10])]))]) [.str t,.str (c::rest),l2,l3,l4,l5] σ= .ok (.bool b) (σ++[.list [.str [32],.str [10]]]):=λb hb=>
   aF (bA (jK (λq=>by cases q)) Z (aQ (aP (bB Z Z Z) (cG (C Z (C Z ak))) (m.trans (by rw[hb])))))
  cases hb:xM c with
  |true=>obtain⟨γ,r⟩:=zR rest n (σ++[.list [.str [32],.str [10]]]) (gw hn);refine⟨[.list [.str [32],.str [10]]]++γ,?_⟩;rw[<- bw,gh hb,List.drop_succ_cons];exact cJ (tp true hb) (gP (aH Z (bU Z))) r
  |false=>refine⟨[.list [.str [32],.str [10]]],?_⟩;rw[iG hb,List.drop_zero];exact cU (tp false hb)
theorem zL{Φ:iC}{ds:Sa}{l0 l1 l5:U}:∀(rest:Sa) (k n:Nat) (v:Int) (x:U),ds.drop k=rest->rest.length<n->(∀ c∈rest,cg c=true)->0<=v->(v+1)*10^rest.length<=10^30->
  ∃x',forL (λB σ=>aN T Φ OF false B σ) 3 (.str ds) n k [l0,l1,.str ds,x,.int v,l5] σ= .done .next [l0,l1,.str ds,x',.int (m5 v rest),l5] σ
 |[],k,n+1,v,x,h,hn,ha,h0,h1=>by refine⟨x,?_⟩;exact dW (by show some (ds[k]?.map λc=>U.str [c])=_;rw[show ds[k]?=([]:Sa)[0]? by rw[<- h,iY,iu]];rfl)
 |z::rest,k,n+1,v,x,h,hn,ha,h0,h1=>by
  have hz:=ha z eQ;have b:=iU.mp hz;obtain⟨v1,q⟩:=Qq h0 b;have lv:=qW (nH (xh h0) h1);obtain⟨x',r⟩:=zL rest (k+1) n (v*10+((z:Int) - 48)) (.str [z]) (nu h) (gw hn) (λc m=>ha c (.tail _ m)) v1 (nG q h1);refine⟨x',?_⟩;have sm:binop .mul (.int 10) (.int v) σ= .ok (.int (10*v)) σ:=qF (by rw[eG (iO h0) lv];rfl)
  have bd:aN T Φ OF false [l0,l1,.str ds,.str [z],.int v,l5] σ= .done .next [l0,l1,.str ds,.str [z],.int (v*10+((z:Int) - 48)),l5] σ:=by refine gP<|aH (bZ (bZ (bZ Z Z sm) (bK (C Z ak) Z Z) Z) Z ?_) (bU Z);show Res.ok (U.int (10*v+z - 48)) σ=_;rw[Int.add_sub_assoc,Int.mul_comm]
  refine cV (by show some (ds[k]?.map λc=>U.str [c])=_;rw[show ds[k]?=(z::rest)[0]? by rw[<- h,iY,iu]];rfl) bd ?_;rw[JG hz];exact r
set_option tactic.hygienic true in
theorem rZ(S:aK Φ){t:Sa}(hl:t.length<=30):∃γ,Φ (d+1) false 90 [.str t] σ= .ok (iH (cT t)) (σ++γ):=by
 obtain⟨γ,st⟩:=zR t NN σ (by unfold NN;exact dD hl (dm Z));have lr:(t.drop (runN xM t)).length<=30:=by rw[lK];exact y9 hl
 unfold cT;generalize t.drop (runN xM t)=rest at st lr
 have e2:∀{σ:St},aV T (Φ d) false (.ite (.cmp .eq (.Ox (J 1) (.lit .none) (D 1)) (Ls [45])) (.Ox (J 1) (D 1) (.lit .none)) (J 1)) [.str t,.str rest,.L,.L,.L,.L] σ= .ok (.str (kj rest)) σ:=λ{σ}=>by
  by_cases h:rest.take 1=[45]
  .refine fJ (cz h) ?_
   cases rest with
   |nil=>cases h
   |cons a l=>cases h;rfl
  .refine fK (bN h) ?_
   congr 2
   unfold kj
   split
   .exact absurd Z h
   .rfl
 have ld:(kj rest).length<=30:=by
  unfold kj
  split
  .simp at lr;exact oU lr
  .exact lr
 have hm:∀{σ:St} {ds x l4 l5:U},rest≠[]->aV T (Φ d) false (.cmp .eq (.idx (J 1) (D 0)) (Ls [45])) [.str t,.str rest,ds,x,l4,l5] σ= .ok (.bool (xQ rest)) σ:=λ{σ} ds x l4 l5 h=>by
  cases rest with
  |nil=>exact absurd Z h
  |cons a l=>
   show Res.ok (U.bool (decide ([a]=[45]))) σ=_
   congr 2
   unfold xQ
   split
   .rename_i q;cases q;rfl
   .rename_i q
    refine dY λw=>?_
    cases w
    exact q l Z
 unfold qG;generalize Ho:kj rest=ds at e2 ld
 by_cases h0:ds=[]
 .refine⟨γ,ru S Z Z ?_⟩;refine aH Z<|fP st ?_;refine aH e2<|aW (aF (bF (cz h0) Z)) ?_;rw[bh (λq=>q.1 h0)];exact aR Z Z
 .
  obtain⟨σ',ce,q⟩:=tG (B:=[.str t,.str rest,.str ds,.L,.L,.L]) (v:=.str ds) (elt:=λB σ=>aV T (Φ d) false (.cmp .isIn (J 5) (.lit (.str CJ))) B σ) (slot:=5) (F:=λk=>match ds[k]? with|some c=>.bool (cg c)|none=>.none)
   (λ_ τ=>τ=σ++γ) (λk τ q=>by rw[fG];rfl) (λk x τ hx q=>by
    rw[fG] at hx;obtain⟨c,hc,rfl⟩:=zb3 hx;refine(aZ τ ?_ q);rw[hc];show Res.ok (U.bool (CJ.contains c)) τ=_;rw[s9]) ds.length NN 0 [] (σ++γ) (by rw[dN,mz]) (by unfold NN;exact dD ld (dm Z)) Z
  subst q;rw[mW,xu ds (λc:Nat=>U.bool (cg c)) _ (λk x h=>by rw[h])] at ce;have mm:=wA (σ:=(σ++γ)++[.list (ds.map λc:Nat=>U.bool (cg c))]) (v:=.bool false) bk (by show(boolsOf (ds.map λc:Nat=>U.bool (cg c))).map _=_;rw[uc];show some ((ds.map λc:Nat=>cg c).contains false)=_;rw[VP])
  have tp:aV T (Φ d) false (.both false [(.cmp .eq (J 2) (Ls [])),(.cmp .isIn (.lit (.bool false)) (.comp (.cmp .isIn (J 5) (.lit (.str CJ))) 5 (J 2)))]) [.str t,.str rest,.str ds,.L,.L,.L] (σ++γ)= .ok (.bool (!lC ds)) ((σ++γ)++[.list (ds.map λc:Nat=>U.bool (cg c))]):=
   aF (bA (bN h0) Z (aQ (aP Z (lu Z Z ce) mm)))
  refine⟨γ++[.list (ds.map λc:Nat=>U.bool (cg c))],ru S Z Z ?_⟩;rw[<- bw];refine aH Z<|fP st ?_;refine aH e2 ?_
  cases al:lC ds with
  |false=>rw[al] at tp;refine aW tp ?_;rw[bh (λq=>by cases q.2)];exact aR Z Z
  |true=>
   rw[al] at tp;refine aL tp ?_;rw[bz ⟨h0,Z⟩];refine aH Z ?_;obtain⟨x',r⟩:=zL ds 0 NN 0 .L Z (by unfold NN;exact dD ld (dm Z)) (QV.mp al) Y (by rw[Int.zero_add,Int.one_mul];exact z8 ld);refine jf Z Z r ?_;have rn:rest≠[]:=λq=>by subst q;exact h0 Ho.symm
   cases hh:xQ rest with
   |true=>exact aR (fJ ((hm rn).trans (by rw[hh])) (Xu Z)) Z
   |false=>exact aR (fK ((hm rn).trans (by rw[hh])) Z) Z
abbrev P9:List S:=eE OW
abbrev Mb:List S:=eE ui
theorem JD:∀n:Nat,n<10->(Nat.digitChar n).toNat=48+n:=Y
theorem uT(h:n<10):cB n=[48+n]:=by unfold cB;rw[Nat.toDigits_of_lt_base h,cH,JD n h];rfl
theorem xH(h:10<=n):cB n=cB (n / 10)++[48+n%10]:=by unfold cB;rw[Nat.toDigits_of_base_le Y h,oO,cH,JD _ (Nat.mod_lt _ Y)];rfl
theorem Ph(n:Nat):∀c∈cB n,48<=c/\c<=57:=by
 induction n using Nat.strongRecOn with
 |_ n ih=>
  rcases Nat.lt_or_ge n 10 with h|h
  .rw[uT h];intro c m
   cases m with
   |head=>exact⟨(oW (DM (dm Z))),(Tz (Nat.le_of_lt_succ h) (dl Z))⟩
   |tail _ m=>cases m
  .rw[xH h];intro c m
   rcases List.mem_append.mp m with m|m
   .exact ih _ (Nat.div_lt_self (bj Y h) Y) c m
   .cases m with
    |head=>exact⟨d9 ..,Nat.add_le_add_left (Nat.le_of_lt_succ (Nat.mod_lt n Y)) 48⟩
    |tail _ m=>cases m
theorem wy:∀{k:Nat},n<10^(k+1)->(cB n).length<=k+1:=by
 intro k
 induction k generalizing n with
 |zero=>intro h;rw[uT (by simpa using h)];exact bR _
 |succ k ih=>
  intro h
  rcases Nat.lt_or_ge n 10 with q|q
  .rw[uT q];simp
  .rw[xH q,bW];have:n / 10<10^(k+1):=dv h;have:=ih this;exact vL this
noncomputable def Ab:Nat->Nat->List Nat
 |0,_=>[]
 |k+1,r=>Ab k (r / 10)++[48+r%10]
theorem DG:∀k,Ab k 0=List.replicate k 48
 |0=>rfl
 |k+1=>by show Ab k 0++[48]=_;rw[DG k,List.replicate_succ']
theorem Di:∀(k r:Nat),r<10^(k+1)->zfill (cB r) (k+1)=Ab (k+1) r
 |0,r,h=>by
  have h:r<10:=by simpa using h
  rw[uT h];show List.replicate (1 - 1) 48++[48+r]=[]++[48+r%10];rw[Nat.mod_eq_of_lt h];rfl
 |k+1,r,h=>by
  rcases Nat.lt_or_ge r 10 with q|q
  .rw[uT q];show List.replicate (k+1+1 - 1) 48++[48+r]=Ab (k+1) (r / 10)++[48+r%10];rw[Nat.div_eq_of_lt q,Nat.mod_eq_of_lt q,DG];rfl
  .have ih:=Di k (r / 10) (dv h);show _=Ab (k+1) (r / 10)++[48+r%10];rw[<- ih,xH q];unfold zfill;rw[bW,bw];show List.replicate (k+1+1 - ((cB (r / 10)).length+1)) 48++_=_;rw[Nat.add_sub_add_right]
theorem Pg:∀(k q r:Nat),0<q->r<10^k->cB q++Ab k r=cB (q*10^k+r)
 |0,q,r,hq,h=>by
  have h:r=0:=by simpa using h
  subst h;rw[dH,Nat.pow_zero,Nat.mul_one,iu]
 |k+1,q,r,hq,h=>by have ih:=Pg k q (r / 10) hq (dv h);have p:0<10^k:=Nat.pow_pos Y;have Si:=Nat.mul_le_mul hq p;rw[xH (n:=q*10^(k+1)+r) (by rw[Nat.pow_succ,<-Nat.mul_assoc];exact bO (Nat.mul_le_mul_right 10 Si) (d9 ..))];show cB q++(Ab k (r / 10)++[48+r%10])=_;rw[<- bw,ih,Nat.pow_succ,<-Nat.mul_assoc];rw[Nat.mul_comm (q*10^k) 10,Nat.mul_add_div Y,Nat.mul_add_mod]
def cN(v:Int):List Nat:=(if v<0 then[45] else[])++cB v.natAbs
theorem Qs:∀n:Nat,n<10->CJ[n]?=some (48+n):=Y
theorem uF{Φ:iC}{l0:U}:∀(m n k:Nat) (t:Sa),n<10^m->m<k->t.length+m<=1000->
  f9 (aV T Φ hd (.cmp .gt (J 2) (D 0))) (λB σ=>aN T Φ P9 hd B σ) k [l0,.str t,.int n] σ= .done .next [l0,.str (if n=0 then t else cB n++t),.int 0] σ
 |0,n,k+1,t,h,hk,ht=>by
  have h:n=0:=by simpa using h
  subst h;exact cU (bN Y)
 |m+1,n,k+1,t,h,hk,ht=>by
  by_cases n0:n=0
  .subst n0;exact cU (bN Y)
  .have ih:=uF (Φ:=Φ) (l0:=l0) m (n / 10) k ((48+n%10)::t) (dv h) (gw hk) (by rw[dC];exact dq ht)
   have mo:binop .mod (.int n) (.int 10) σ= .ok (.int ((n%10:Nat):Int)) σ:=by rw[Int.ofNat_fmod];rfl
   have di:binop .fdiv (.int n) (.int 10) σ= .ok (.int ((n / 10:Nat):Int)) σ:=by rw[Int.ofNat_fdiv];rfl
   have ap:binop .add (.str [48+n%10]) (.str t) σ= .ok (.str ((48+n%10)::t)) σ:=add_str (by show t.length+1<=LL;unfold LL;exact dq ht);rw[bh n0];refine cJ (cz (by show(n:Int)>0;exact Bc (Nat.pos_of_ne_zero n0))) (gP (aH (bZ (bB Z (bZ Z Z mo) (Gu (Qs _ (Nat.mod_lt _ Y)))) Z ap) (aH (bZ Z Z di) (bU Z)))) (ih.trans ?_)
   rcases Nat.lt_or_ge n 10 with q|q
   .rw[bz (Nat.div_eq_of_lt q),uT q,Nat.mod_eq_of_lt q];rfl
   .rw[bh (dX (Nat.div_pos q Y)),xH q,bw];rfl
theorem V8(n:Nat):cB n≠[]:=by
 rcases Nat.lt_or_ge n 10 with q|q
 .rw[uT q];exact λh=>by cases h
 .rw[xH q];simp
theorem vd(S:aK Φ){v:Int}(hv:v.natAbs<=10^30):Φ (d+1) hd 91 [.int v] σ= .ok (.str (cN v)) σ:=by
 have lt:v.natAbs<10^31:=dD hv Y;have lp:=uF (Φ:=Φ d) (hd:=hd) (σ:=σ) (l0:=.int v) 31 v.natAbs NN [] lt Y Y;rw[dH] at lp
 have e1:aV T (Φ d) hd (.ite (.cmp .ge (J 0) (D 0)) (J 0) (.neg (J 0))) [.int v,.str [],.L] σ= .ok (.int v.natAbs) σ:=by
  by_cases h:v>=0
  .refine fJ (cz h) ?_;show Res.ok (U.int v) σ=_;rw[show(v.natAbs:Int)=v from Int.natAbs_of_nonneg h]
  .refine fK (bN h) ?_;show Res.ok (U.int (-v)) σ=_;rw[show(v.natAbs:Int)= -v from Int.ofNat_natAbs_of_nonpos (qW (Int.not_le.mp h))]
 have e2:∀{l1 l2:U},aV T (Φ d) hd (.ite (.cmp .lt (J 0) (D 0)) (Ls [45]) (Ls [])) [.int v,l1,l2] σ= .ok (.str (if v<0 then[45] else[])) σ:=λ{l1 l2}=>by
  by_cases h:v<0
  .rw[bz h];exact fJ (cz h) Z
  .rw[bh h];exact fK (bN h) Z
 have ln:=wy lt;refine ru S Z Z<|aH Z ?_;refine aH e1<|fP lp ?_
 have e3:aV T (Φ d) hd (.ite (.cmp .eq (J 1) (Ls [])) (Ls [48]) (J 1)) [.int v,.str (if v.natAbs=0 then[] else cB v.natAbs),.int 0] σ= .ok (.str (cB v.natAbs)) σ:=by
  by_cases h:v.natAbs=0
  .rw[bz h];refine fJ (cz Z) ?_;rw[h];rfl
  .rw[bh h];exact fK (bN (V8 _)) Z
 refine aR (bZ e2 e3 (add_str ?_)) Z;rw[bW];have:(if v<0 then[45] else[]:Sa).length<=1:=by split<;>simp
 unfold LL;exact bO (rH this ln) (dl Z)
variable{Φ:iC}
theorem kC{ss:za0}(h1:aV T Φ false e B σ= .ok (.str []) aC)(h2:aV T Φ false a B aC= .ok (.ref i) bL)(h:bL[i]?=some (.list l))(hs:strsOf l=some ss)(hl:ss.reverse.flatten.length<=LL):aV T Φ false (.joinRev e a) B σ= .ok (.str ss.reverse.flatten) bL:=by refine(d7 Z).trans ((rD h1).trans ((rD h2).trans ?_));exact(jE h).trans ((rY hs).trans (d7 (dF hl)))
theorem mG(hl:l.length<LL):dj Φ hd .list (.ref σ.length) 0 [v] (σ++[.list l])= .ok .none (σ++[.list (l++[v])]):=by rw[jq bk hl,jj]
theorem str_int(h:n<=10^30):fj 5 [.int n] σ= .ok (.str (cB n)) σ:=by
 have h':(n:Int)<=10^30:=by exact_mod_cast h
 refine(d7 (eG (by lia) h')).trans ?_;unfold qH;rw[bh (PX),Int.natAbs_natCast]
theorem T9{s:Sa}(h:∀c∈s,48<=c/\c<=57):dj Φ hd .str (.str s) 5 [.int 18] σ= .ok (.str (zfill s 18)) σ:=by refine d7 ?_;show s.all _=true;rw[zB];intro c m;have:=h c m;rw[jH,fO,fO];exact this
variable{Φ:Nat->iC}
theorem CA(p q:Sa):([p]++[q]).reverse.flatten=q++p:=by simp
theorem Ai{Φ:iC}{v:Int}{q:Nat}{p:Sa}(ps:Th)(hp:(ps=[]/\p=[])\/ps=[.str p])(hq:q<=10^30)(ht:cB q++p=cB v.natAbs)(lt:(cB v.natAbs).length<=40)
  (H:∀B l,X Q (.done (.ret (.str (cN v))) B (σ++[.list l]))):X Q (aN T Φ (ui.drop 3) false [.int v,.int q,.ref σ.length,x] (σ++[.list ps])):=by
 have l1:(ps++[U.str (cB q)]).length<=2:=by rcases hp with⟨h,_⟩|h<;>rw[h]<;>simp
 have l0:ps.length<LL:=by rw[bW] at l1;unfold LL;exact dw (bO l1 (dl Z))
 have s1:∃ss,strsOf (ps++[U.str (cB q)])=some ss/\ss.reverse.flatten=cB q++p/\strsOf (ps++[.str (cB q)]++[U.str [45]])=some (ss++[[45]]):=by
  rcases hp with⟨h,h'⟩|h
  .subst h;subst h';exact(oH ([cB q]) Z (by simp) Z)
  .subst h;exact(oH ([p]++[cB q]) Z (CA _ _) Z)
 refine um s1 λss h1 h2 h3=>?_;refine cM (cP Z (cX bk Y) (C (bK (C Z ak) Z (str_int hq)) ak) (mG l0)) ?_
 by_cases hv:v<0
 .refine aW (cz hv)<|cM (cP Z (cX bk Y) (C Z ak) (mG (by unfold LL;exact dD l1 (dm Z)))) ?_;refine aR (kC Z Z bk h3 ?_) ?_
  .rw[List.reverse_append,List.flatten_append,h2,ht,bW];unfold LL;exact Tz (bO lt (dl Z)) (dl Z)
  .have e:cN v=(ss++[[45]]).reverse.flatten:=by rw[List.reverse_append,List.flatten_append,h2,ht];unfold cN;rw[bz hv];rfl
   rw[<- e];exact H _ _
 .refine aL (bN hv)<|aR (kC Z Z bk h1 ?_) ?_
  .rw[h2,ht];unfold LL;exact bO lt (dl Z)
  .have e:cN v=ss.reverse.flatten:=by rw[h2,ht];unfold cN;rw[bh hv];rfl
   rw[<- e];exact H _ _
theorem sr(S:aK Φ){v:Int}(hv:v.natAbs<=10^30):∃γ,Φ (d+1) false 24 [.int v] σ= .ok (.str (cN v)) (σ++γ):=by
 have lt:v.natAbs<10^31:=dD hv Y;have ln:=wy lt;have pw:∀{B:Loc} {σ:St},aV T (Φ d) false (.bin .pow (D 10) (D 18)) B σ= .ok (.int (10^18:Nat)) σ:=λ{B σ}=>rfl;have front:∀{Q:za1},X Q (aN T (Φ d) (ui.drop 2) false [.int v,.int v.natAbs,.ref σ.length,.L] (σ++[.list []]))->X Q (aN T (Φ d) ui false [.int v,.L,.L,.L] σ):=λH=>aH (bK (C Z ak) Z Z) (aH (cG ak) H)
 have ends:∀(q:Nat) (x:U) (l:Th),q<10^18->∀n,f9 (aV T (Φ d) false (.cmp .ge (J 1) (.bin .pow (D 10) (D 18)))) (λB σ=>aN T (Φ d) Mb false B σ) (n+1) [.int v,.int q,.ref σ.length,x] (σ++[.list l])= .done .next [.int v,.int q,.ref σ.length,x] (σ++[.list l]):=λq x l hq n=>
  cU (aP Z pw (bN (uY hq)))
 rcases Nat.lt_or_ge v.natAbs (10^18) with h|h
 .suffices hh:X (λs=>∃γ,iZ s= .ok (.str (cN v)) (σ++γ)) (aN T (Φ d) ui false [.int v,.L,.L,.L] σ) from run S (λr=>∃γ,r=Res.ok (.str (cN v)) (σ++γ)) Z Z hh
  refine front<|fP (ends _ _ _ h _) ?_;exact Ai [] (.inl ⟨Z,Z⟩) hv (dH _) (bO ln (dl Z)) (λB l=>⟨_,Z⟩)
 .suffices hh:X (λs=>∃γ,iZ s= .ok (.str (cN v)) (σ++γ)) (aN T (Φ d) ui false [.int v,.L,.L,.L] σ) from run S (λr=>∃γ,r=Res.ok (.str (cN v)) (σ++γ)) Z Z hh
  refine front ?_
  have q1:v.natAbs / 10^18<10^18:=by rw[Nat.div_lt_iff_lt_mul Y];exact bj lt Y
  have q0:=Nat.div_pos h Y;have r1:v.natAbs%10^18<10^18:=Nat.mod_lt _ Y
  have dm:fj 10 [.int v.natAbs,.int ((10^18:Nat):Int)] (σ++[.list []])= .ok (.tup [.int ((v.natAbs / 10^18:Nat):Int),.int ((v.natAbs%10^18:Nat):Int)]) (σ++[.list []]):=by rw[Int.ofNat_fdiv,Int.ofNat_fmod];rfl
  have zf:=T9 (Φ:=Φ d) (hd:=false) (σ:=σ++[.list []]) (s:=cB (v.natAbs%10^18)) (Ph _);rw[Di 17 _ r1] at zf
  have st:f9 (aV T (Φ d) false (.cmp .ge (J 1) (.bin .pow (D 10) (D 18)))) (λB σ=>aN T (Φ d) Mb false B σ) NN [.int v,.int v.natAbs,.ref σ.length,.L] (σ++[.list []])= .done .next [.int v,.int ((v.natAbs / 10^18:Nat):Int),.ref σ.length,.int ((v.natAbs%10^18:Nat):Int)] (σ++[.list [.str (Ab 18 (v.natAbs%10^18))]]):=by
   refine cJ (bx:=[.int v,.int ((v.natAbs / 10^18:Nat):Int),.ref σ.length,.int ((v.natAbs%10^18:Nat):Int)]) (bL:=σ++[.list [.str (Ab 18 (v.natAbs%10^18))]]) (aC:=σ++[.list []]) ?_ ?_ ?_
   .refine aP Z pw<|cz (xN h)
   rotate_left
   .exact(ends _ _ _ q1 998)
   refine gP<|qp Z (bK (C Z (C pw ak)) Z dm) Z ?_;refine cM (cP Z (cX bk Y) (C (cP (bK (C Z ak) Z (str_int (lJ (bj r1 Y)))) Z (C Z ak) zf) ak) (mG Y))<|bU Z
  refine fP st<|Ai [.str (Ab 18 (v.natAbs%10^18))] (.inr Z) (lJ (bj q1 Y)) ?_ (bO ln (dl Z)) (λB l=>⟨_,Z⟩);rw[Pg 18 _ _ q0 r1,Nat.div_add_mod']
section
variable{α:Type}[DecidableEq α]{ts:List α}{t u:α}
theorem Hh(h:t∈ts):cQ ts t=ts:=bz h
theorem Ga(h:t∈ts):cO ts t=ts.idxOf t:=bz h
theorem gO:t∈cQ ts t:=by
 unfold cQ
 by_cases h:t∈ts
 .rw[bz h];exact h
 .rw[bh h];exact List.mem_append_right _ eQ
theorem uX(h:t∈ts):t∈cQ ts u:=by
 unfold cQ
 split
 .exact h
 .exact List.mem_append_left _ h
theorem num_add(h:t∈ts):cO (cQ ts u) t=cO ts t:=by
 rw[Ga (uX h),Ga h];unfold cQ
 split
 .rfl
 .rw[List.idxOf_append,bz h]
theorem jk:cO (cQ ts t) t=cO ts t:=by
 by_cases h:t∈ts
 .rw[Hh h]
 .rw[Ga gO];unfold cO cQ;rw[bh h,bh h,List.idxOf_append,bh h,List.idxOf_cons_self,mz]
theorem jQ:(cQ ts t).length<=ts.length+1:=by
 unfold cQ
 split
 .exact d9 _ _
 .rw[bW];exact bR _
theorem Hb(h:t∈ts):ts[cO ts t]?=some t:=by rw[Ga h];exact List.getElem?_eq_some_iff.mpr ⟨List.idxOf_lt_length_of_mem h,List.getElem_idxOf _⟩
end
def GC(g:GS)(t:Sa)(n:Nat):Prop:=t∈g.ts/\(cO g.ts t,n)∈g.fs
def Cy(g:GS)(t:Sa)(n:Nat):Nat:=cO g.fs (cO g.ts t,n)
noncomputable def vI(n:Nat):U:=.tup [.str [97],.int n]
noncomputable def pH(f:Nat)(l:Th):U:=.tup [.str [115],.int f,.tup l]
def bH(f:U):U:=pH 16 [f,vI 25]
noncomputable def mQ:List Nat:=[116,121,112,101,95,101,114,114,111,114]
noncomputable def jT:List Nat:=[105,110,115,116,97,110,116,105,97,116,105,111,110,95,101,114,114,111,114]
noncomputable def uK:List Nat:=[114,101,112,114,101,115,101,110,116,97,116,105,111,110,95,101,114,114,111,114]
noncomputable def uy:List Nat:=[115,121,110,116,97,120,95,101,114,114,111,114]
theorem vQ(h:σ[i]?=some (.list l)):fj 7 [.ref i] σ= .ok (.tup l) σ:=jE h
theorem wW(S:aK Φ){t:Sa}(h:t∈g.ts)(hl:g.ts.length<1000):Φ (d+1) hd 5 [.ref 2,.str t] (mem g++O)= .ok (.int (cO g.ts t)) (mem g++O):=by have e:=o8 (d:=d) (hd:=hd) (O:=O) S (t:=t) hl;rw[Hh h] at e;exact e
theorem dE(S:aK Φ){t:Sa}{n:Nat}(h:GC g t n)(hl:g.ts.length<1000)(hf:g.fs.length<1000):Φ (d+2) hd 8 [.ref 2,.str t,.int n] (mem g++O)= .ok (.int (Cy g t n)) (mem g++O):=by have e:=Qi (d:=d) (hd:=hd) (O:=O) S (t:=t) (n:=n) hl hf;rw[Hh h.1,Hh h.2] at e;exact e
theorem WL(S:aK Φ):Φ (d+1) hd 0 [.ref σ.length,.tup l] (σ++[.exc 0 []])= .ok .none (σ++[.exc 0 [(6,.tup l)]]):=by refine ru S Z Z ?_;have g:∀o:AO,(σ++[o])[σ.length]?=some o:=λo=>bk;refine jg Z Z ((vX (g _) Z Y).trans (congrArg some jj))<|bU Z
theorem tR(S:aK Φ):Φ (d+2) hd 9 [.tup l] σ= .ok (.ref σ.length) (σ++[.exc 0 [(6,bH (.tup l))]]):=by refine ru S Z Z<|aR (xT (C Z ak) (za Z (WL S))) Z
def qz(g:GS):U->U
 | .str t=>vI (cO g.ts t)
 |v=>v
def LQ(g:GS):U->Prop
 | .str t=>t∈g.ts
 | .tup _=>True
 |_=>False
abbrev f10:List S:=eE PC
theorem ZV(S:aK Φ)(hl:g.ts.length<1000)(hp:LQ g v)(h0:B[0]?=some (.ref 2))(h1:B[j]?=some v):aV T (Φ (d+1)) hd (.ite (Cb 4 [(.B j),(.lit (.bi 5))]) (.tup [(Ls [97]),(.aG (J 0) 15 [(.B j)])]) (.B j)) B (mem g++O)= .ok (qz g v) (mem g++O):=by
 have l0:aV T (Φ (d+1)) hd (J 0) B (mem g++O)= .ok (.ref 2) (mem g++O):=bG h0 (λq=>nomatch q)
 cases v with
 |str t=>have l1:aV T (Φ (d+1)) hd (.B j) B (mem g++O)= .ok (.str t) (mem g++O):=bG h1 (λq=>nomatch q);refine fJ (bK (C l1 (C Z ak)) Z Z)<|bM (C Z (C (bJ l0 Z (C l1 ak) (wW S hp hl)) ak))
 |tup l=>have l1:aV T (Φ (d+1)) hd (.B j) B (mem g++O)= .ok (.tup l) (mem g++O):=bG h1 (λq=>nomatch q);exact fK (bK (C l1 (C Z ak)) Z Z) l1
 |_=>exact hp.elim
theorem yw(S:aK Φ)(hl:g.ts.length<1000){ps:Th}{name:Sa}:∀(rest:Th) (k n:Nat) (acc:Th) (x:U),ps.drop k=rest->(∀ v∈rest,LQ g v)->rest.length<n->acc.length+rest.length<1000->
  ∃x',forL (λB σ=>aN T (Φ (d+1)) f10 false B σ) 4 (.tup ps) n k [.ref 2,.str name,.tup ps,.ref (mem g++O).length,x] ((mem g++O)++[.list acc])=
   .done .next [.ref 2,.str name,.tup ps,.ref (mem g++O).length,x'] ((mem g++O)++[.list (acc++rest.map (qz g))])
 |[],k,n+1,acc,x,h,hp,hn,ha=>by refine⟨x,(dW ?_).trans (by rw[vJ,dH])⟩;show some ps[k]?=_;rw[show ps[k]?=([]:Th)[0]? by rw[<- h,iY,iu]];rfl
 |v::rest,k,n+1,acc,x,h,hp,hn,ha=>by
  have h':ps.drop (k+1)=rest:=by rw[<- qX,h];rfl
  obtain⟨x',r⟩:=yw S hl rest (k+1) n (acc++[qz g v]) v h' (λw m=>hp w (.tail _ m)) (by simpa using hn) (by rw[bW];simp at ha ⊢;exact dq ha);refine⟨x',cV (x:=v) ?_ (gP ?_) (r.trans (by rw[bw (as:=acc)];rfl))⟩
  .show some ps[k]?=_;rw[show ps[k]?=(v::rest)[0]? by rw[<- h,iY,iu]];rfl
  .have p:=ZV (d:=d) (hd:=false) (O:=O++[.list acc]) S hl (hp v eQ) (B:=[.ref 2,.str name,.tup ps,.ref (mem g++O).length,v]) (j:=4) Z Z;rw[<- aX] at p;refine cM (cP Z (cX bk Y) (C p ak) (mG (by unfold LL;exact ye (bj ha (dl Z)))))<|bU Z
theorem xR(S:aK Φ)(hl:g.ts.length<1000)(hf:g.fs.length<1000){ps:Th}{name:Sa}(hp:∀v∈ps,LQ g v)(hn:ps.length<900)(hF:GC g name ps.length):
  ∃γ,Φ (d+3) false 10 [.ref 2,.str name,.tup ps] (mem g++O)= .ok (pH (Cy g name ps.length) (ps.map (qz g))) (mem g++(O++γ)):=by
 obtain⟨x',r⟩:=yw S hl ps 0 NN [] .L Z hp (by unfold NN;exact bj hn (dl Z)) (by simp;exact bj hn (dl Z));rw[mW] at r;refine⟨[.list (ps.map (qz g))],ru S Z Z ?_⟩;rw[<- aX];refine aH (cG ak)<|jf Z Z r ?_;have fn:=dE (d:=d) (hd:=false) (O:=O++[.list (ps.map (qz g))]) S hF hl hf;rw[<- aX] at fn;have le:=dM (σ:=(mem g++O)++[.list (ps.map (qz g))]) bk;rw[dN] at le
 have gm:aV T (Φ (d+2)) false (.aG (J 0) 16 [(J 1),(Cb 0 [(J 3)])]) [.ref 2,.str name,.tup ps,.ref (mem g++O).length,x'] ((mem g++O)++[.list (ps.map (qz g))])= .ok (.int (Cy g name ps.length)) ((mem g++O)++[.list (ps.map (qz g))]):=by rw[aX] at fn le ⊢;exact bJ Z Z (C Z (C (bK (C Z ak) Z le) ak)) fn
 exact aR (bM (C Z (C gm (C (bK (C Z ak) Z (vQ bk)) ak)))) Z
def TP(r:Res U)(g:GS)(O:We)(vz:U):Prop:=∃γ,r= .ok (.ref (mem g++(O++γ)).length) ((mem g++(O++γ))++[.exc 0 [(6,vz)]])
def dG(r:Res U)(g:GS)(O:We)(vz:U):Prop:=∃γ,r= .exc (mem g++(O++γ)).length ((mem g++(O++γ))++[.up 0 [(6,vz)]])
theorem dG.out{τ:We}{vz:U}(h:dG r g (O++τ) vz):dG r g O vz:=by obtain⟨γ,h⟩:=h;exact⟨τ++γ,by rw[h,bw]⟩
variable{vz:U}
theorem je{Φ:iC}(h:aV T Φ false e B σ=r)(hr:TP r g O vz)(H:∀γ,X Q (.exc (mem g++(O++γ)).length B ((mem g++(O++γ))++[.up 0 [(6,vz)]]))):X Q (aN T Φ (.raise e::A) false B σ):=by obtain⟨γ,hr⟩:=hr;refine x_raise (h.trans hr) bk Z ?_;rw[jj];exact H γ
theorem gQ{s:SR}(h:∃γ B,s= .exc (mem g++(O++γ)).length B ((mem g++(O++γ))++[.up 0 [(6,vz)]])):dG (iZ s) g O vz:=by refine mK h λγ B h=>?_;exact⟨γ,by rw[h];rfl⟩
theorem eq_nil(h1:σ[i]?=some (.list l))(h2:σ[j]?=some (.list [])):eX .eq (.ref i) (.ref j) σ= .ok (.bool (decide (l=[]))) σ:=by
 refine congrArg (Hm · σ) (XD h1 h2 ?_)
 cases l with
 |nil=>rfl
 |cons _ _=>rfl
theorem Ks(S:aK Φ)(hl:g.ts.length<1000)(hf:g.fs.length<1000){kind:Sa}(hk:kind∈g.ts)(hF:GC g mQ 2):TP (Φ (d+4) false 12 [.ref 2,.str kind,.tup l] (mem g++O)) g O (bH (pH (Cy g mQ 2) [vI (cO g.ts kind),.tup l])):=by
 obtain⟨γ,e⟩:=xR S hl hf (ps:=[.str kind,.tup l]) (λv m=>by
  rcases zb5 m with rfl|m
  .exact hk
  .rcases zb5 m with rfl|m
   .trivial
   .cases m) (by show 2<900;decide) hF
 refine⟨γ,ru S Z Z ?_⟩;exact aR (aD (C (aD (C Z (C Z (C (bM (C Z (C Z ak))) ak))) e) ak) (tR S)) Z
theorem K7(S:aK Φ)(hl:g.ts.length<1000)(hf:g.fs.length<1000){kind:Sa}(hk:kind∈g.ts)(hF:GC g uK 1):TP (Φ (d+4) false 13 [.ref 2,.str kind] (mem g++O)) g O (bH (pH (Cy g uK 1) [vI (cO g.ts kind)])):=by
 obtain⟨γ,e⟩:=xR S hl hf (ps:=[.str kind]) (λv m=>by
  rcases zb5 m with rfl|m
  .exact hk
  .cases m) (by show 1<900;decide) hF
 refine⟨γ,ru S Z Z ?_⟩;exact aR (aD (C (aD (C Z (C Z (C (bM (C Z ak)) ak))) e) ak) (tR S)) Z
theorem Rj(S:aK Φ)(hl:g.ts.length<1000)(hf:g.fs.length<1000){kind:Sa}(hk:kind∈g.ts)(hF:GC g uy 1):TP (Φ (d+4) false 14 [.ref 2,.str kind] (mem g++O)) g O (bH (pH (Cy g uy 1) [vI (cO g.ts kind)])):=by
 obtain⟨γ,e⟩:=xR S hl hf (ps:=[.str kind]) (λv m=>by
  rcases zb5 m with rfl|m
  .exact hk
  .cases m) (by show 1<900;decide) hF
 refine⟨γ,ru S Z Z ?_⟩;exact aR (aD (C (aD (C Z (C Z (C (bM (C Z ak)) ak))) e) ak) (tR S)) Z
theorem Ba(S:aK Φ)(hl:g.ts.length<1000)(hk:jT∈g.ts):TP (Φ (d+4) false 11 [.ref 2] (mem g++O)) g O (bH (vI (cO g.ts jT))):=by refine⟨[],ru S Z Z ?_⟩;rw[dH];exact aR (aD (C (bM (C Z (C (bJ Z Z (C Z ak) (wW S hk hl)) ak))) ak) (tR S)) Z
noncomputable def kO(g:GS):List U->GS
 |[]=>g
 | .str t::l=>kO {g with ts:=cQ g.ts t} l
 |_::l=>kO g l
noncomputable def qy(g:GS):List U->List U
 |[]=>[]
 | .str t::l=>vI (cO g.ts t)::qy {g with ts:=cQ g.ts t} l
 |v::l=>v::qy g l
def Gq:U->Prop
 | .str _=>True
 | .tup _=>True
 |_=>False
def yM(g:GS)(k:Sa)(n:Nat):GS:={g with ts:=cQ g.ts k,fs:=cQ g.fs (cO g.ts k,n)}
theorem Lj(S:aK Φ){ps:Th}{kd:Sa}(hi:O[i]?=some (.list ps)):∀(rest:Th) (k n:Nat) (acc:Th) (g:GS),ps.drop k=rest->(∀ v∈rest,Gq v)->rest.length<n->g.ts.length+rest.length<1000->
  jO (λB σ=>aV T (Φ (d+1)) false (.ite (Cb 4 [(J 5),(.lit (.bi 5))]) (.tup [(Ls [97]),(.aG (J 0) 15 [(J 5)])]) (J 5)) B σ) 5 (.ref (i+16)) [.ref 2,.str kd,.ref (i+16),.L,.L,.L] n k acc (mem g++O)= .ok (acc++qy g rest) (mem (kO g rest)++O):=by
 intro rest
 induction rest with
 |nil=>intro k n acc g h hp hn ha;obtain⟨n,rfl⟩:=Js hn;refine(p7 ?_).trans (by show _=Res.ok (acc++[]) _;rw[dH];rfl);rw[cD hi,show ps[k]?=([]:Th)[0]? by rw[<- h,iY,iu]];rfl
 |cons v rest ih=>
  intro k n acc g h hp hn ha;obtain⟨n,rfl⟩:=Js hn;have it:dJ (.ref (i+16)) k (mem g++O)=some (some v):=by rw[cD hi,show ps[k]?=(v::rest)[0]? by rw[<- h,iY,iu]];rfl
  have hd:ps.drop (k+1)=rest:=by rw[<- qX,h];rfl
  have ih:=λacc g=>ih (k+1) n acc g hd (λw m=>hp w (.tail _ m)) (by simpa using hn)
  cases v with
  |str t=>
   have ih:=ih (acc++[vI (cO g.ts t)]) {g with ts:=cQ g.ts t} (by
    have:=jQ (ts:=g.ts) (t:=t);simp at ha;exact fH this ha)
   exact lz it (fJ (bK (C Z (C Z ak)) Z Z) (bM (C Z (C (bJ Z Z (C Z ak) (o8 S (by simp at ha;exact ye ha))) ak)))) (ih.trans (by rw[bw];rfl))
  |tup l=>have ih:=ih (acc++[.tup l]) g (by simp at ha;exact oV (gw ha));exact lz it (fK (bK (C Z (C Z ak)) Z Z) Z) (ih.trans (by rw[bw];rfl))
  |_=>exact(hp _ eQ).elim
theorem Aa:∀{ps:Th} {g:GS},(kO g ps).ts.length<=g.ts.length+ps.length/\(kO g ps).fs=g.fs
 |[],g=>⟨bR _,Z⟩
 |v::l,g=>by
  have key:∀g',(kO g' l).ts.length<=g'.ts.length+l.length/\(kO g' l).fs=g'.fs:=λg'=>Aa
  cases v with
  |str t=>have:=key {g with ts:=cQ g.ts t};have l1:=jQ (ts:=g.ts) (t:=t);exact⟨by have:=this.1;rw[dC];show(kO {g with ts:=cQ g.ts t} l).ts.length<=_;simp only at this;exact fH this l1,this.2⟩
  |_=>exact⟨by have:=(key g).1;rw[dC];show(kO g l).ts.length<=_;exact oU this,(key g).2⟩
theorem uP:∀{ps:Th} {g:GS},(qy g ps).length=ps.length
 |[],g=>rfl
 |v::l,g=>by
  cases v with
  |str t=>show(qy _ l).length+1=_;rw[uP];rfl
  |_=>show(qy g l).length+1=_;rw[uP];rfl
noncomputable def uU:List Nat:=[101,114,114,111,114]
theorem AU(S:aK Φ){ps:Th}{kd:Sa}(hi:O[i]?=some (.list ps))(hp:∀v∈ps,Gq v)(hn:ps.length<100)(hl:g.ts.length<800)(hf:g.fs.length<800):
  ∃γ,Φ (d+3) false 87 [.ref 2,.str kd,.ref (i+16)] (mem g++O)= .ok (.tup [.str uU,bH (if ps=[] then vI (cO g.ts kd) else pH (cO g.fs (cO (kO g ps).ts kd,ps.length)) (qy g ps))]) (mem (yM (kO g ps) kd ps.length)++(O++γ)):=by
 have lg:=Aa (ps:=ps) (g:=g);have cp:=Lj (d:=d+1) S (kd:=kd) hi ps 0 NN [] g Z hp (by unfold NN;exact bj hn (dl Z)) (bj (Nat.add_lt_add hl hn) (dl Z));rw[mW] at cp;generalize hg1:kO g ps=g1 at cp lg;generalize hv:qy g ps=ws at cp;have lw:ws.length=ps.length:=by rw[<- hv,uP]
 have fn:=Qi (d:=d) (hd:=false) (g:=g1) (O:=O++[.list ws]) (t:=kd) (n:=ps.length) S (nU lg.1 hl hn) (by rw[lg.2];exact bj hf (dl Z));have le:=dM (σ:=mem g1++(O++[.list ws])) gb;rw[lw] at le;have tu:=vQ (σ:=mem (yM g1 kd ps.length)++(O++[.list ws])) gb;refine⟨[.list ws,.list []],ru S Z Z ?_⟩;refine aH ((lu Z Z cp).trans (by rewrite[aX];rfl))<|aH (bM (C Z (C (bJ Z Z (C Z (C (bK (C Z ak) Z le) ak)) fn) (C (bK (C Z ak) Z tu) ak)))) ?_;have fin:∀{Q:za1} {F:Th} {l1 l2 l3 l5:U} {σ:St},(∀ B,X Q (.done (.ret (.tup [.str uU,bH (.tup F)])) B σ))->X Q (aN T (Φ (d+2)) (OY.drop 3) false [.ref 2,l1,l2,l3,.tup F,l5] σ):=λH=>aR Z (H _)
 have eqs:∀(b:Bool),(b=decide (ps=[]))->aV T (Φ (d+2)) false (.cmp .eq (J 3) (.list [])) [.ref 2,.str kd,.ref (i+16),.ref (O.length+16),pH (cO g1.fs (cO g1.ts kd,ps.length)) ws,.L] (mem (yM g1 kd ps.length)++(O++[.list ws]))= .ok (.bool b) (mem (yM g1 kd ps.length)++(O++[.list ws,.list []])):=λb hb=>by
  have e2:mem (yM g1 kd ps.length)++(O++[.list ws,.list []])=(mem (yM g1 kd ps.length)++(O++[.list ws]))++[.list []]:=by rewrite[aX,bw];rfl
  rw[e2];refine aP Z (cG ak) ?_;generalize Bz:mem (yM g1 kd ps.length)++(O++[.list ws])=σ;have q0:σ[O.length+16]?=some (.list ws):=by rw[<- Bz];exact gb
  have q1:(σ++[.list []])[O.length+16]?=some (.list ws):=dU q0;refine(eq_nil q1 bk).trans ?_
  have:decide (ps=[])=decide (ws=[]):=by rw[qZ,fO,fO,<-List.length_eq_zero_iff,<-List.length_eq_zero_iff,lw]
  rw[hb,this]
 by_cases h0:ps=[]
 .have ai:=wW (d:=d+1) (hd:=false) (g:=yM g1 kd ps.length) (O:=O++[.list ws,.list []]) S gO (by
   have:=jQ (ts:=g1.ts) (t:=kd);show(cQ g1.ts kd).length<_;exact Wl this lg.1 hl hn)
  refine aW (eqs true (dF h0).symm) ?_;rw[bz h0]
  have ng:cO (yM g1 kd ps.length).ts kd=cO g.ts kd:=by rw[jk,<-hg1,h0];rfl
  rw[ng] at ai;refine aH (bM (C Z (C (bJ Z Z (C Z ak) ai) ak)))<|fin λB=>rfl
 .refine aL (eqs false (dY h0).symm) ?_;rw[bh h0,lg.2];exact fin λB=>rfl
noncomputable def cl(t:Nat)(v:Int):U:=.tup [.int t,.int v]
inductive gJ(hp:Th):U->U->Prop where
 |stop {t:Nat} {v:Int} (h:2<=t):gJ hp (cl t v) (cl t v)
 |self {a:Nat} (h:hp[a]?=some (cl 0 a)):gJ hp (cl 0 a) (cl 0 a)
 |step {a t:Nat} {v:Int} (h:hp[a]?=some (cl t v)) (h2:2<=t):gJ hp (cl 0 a) (cl t v)
noncomputable def lZ(p:Nat):Nat->List U
 |0=>[]
 |n+1=>cl 0 p::lZ (p+1) n
abbrev QE:List S:=eE Po
abbrev f41:List S:=eE Pp
variable{c:U}
theorem uG(t t':Nat)(v v':Int):eX .eq (cl t v) (cl t' v') σ= .ok (.bool (decide (t=t')&&decide (v=v'))) σ:=by
 have e:eX .eq (cl t v) (cl t' v') σ= .ok (.bool (decide ((t:Int)=t')&&(decide (v=v')&&true))) σ:=rfl;rw[e,Bool.and_true]
 congr 3
 rw[qZ,fO,fO];exact Qa
theorem vo{Φ:iC}{t:Nat}{w:Int}(h:B[j]?=some (cl t w))(m:Nat):aV T Φ hd (.cmp .eq (.idx (.B j) (D 0)) (.lit (.int m))) B σ= .ok (.bool (decide (t=m))) σ:=by
 have l1:aV T Φ hd (.B j) B σ= .ok (cl t w) σ:=bG h (λq=>nomatch q);refine(aP (bB l1 Z Z) Z (r:=.ok (.bool (decide ((t:Int)=m))) σ) Z).trans ?_
 congr 2
 rw[qZ,fO,fO];exact Qa
theorem Qd{Φ:iC}(hl:g.hp.length<200000):dj Φ hd .list (.ref 10) 0 [v] (mem g++O)= .ok .none (mem {g with hp:=g.hp++[v]}++O):=
 (jq Z (by unfold LL;exact bj hl (dl Z))).trans Z
theorem uZ(hk:k<g.hp.length):rP (.ref 10) (.int k) v (mem g++O)=some (mem {g with hp:=g.hp.set k v}++O):=
 (yU Z hk).trans Z
theorem mR(h:g.hp[k]?=some v):getIdx (.ref 10) (.int k) (mem g++O)= .ok v (mem g++O):=fV Z h
theorem Gz:fj 0 [.ref 10] (mem g++O)= .ok (.int g.hp.length) (mem g++O):=dM Z
theorem qM(S:aK Φ){t:Nat}{w:Int}:Φ (d+1) hd 54 [cl t w] σ= .ok (.bool (decide (t=0)||decide (t=1))) σ:=by refine ru S Z Z<|aR (aF (wM (vo Z 0) (aQ (vo Z 1)))) Z
theorem w7(S:aK Φ){t:Nat}{w:Int}:Φ (d+1) hd 70 [cl t w] σ= .ok (.bool (decide (t=0)||decide (t=1))) σ:=by refine ru S Z Z<|aR (aF (wM (vo Z 0) (aQ (vo Z 1)))) Z
theorem vh(S:aK Φ){t:Nat}{w:Int}:Φ (d+1) hd 45 [.ref 9,cl t w] σ= .ok (.bool (decide (t=2)||decide (t=3))) σ:=by refine ru S Z Z<|aR (aF (wM (vo Z 2) (aQ (vo Z 3)))) Z
theorem vP(S:aK Φ){w:Int}:Φ (d+1) hd 47 [.ref 9,cl 3 w] σ= .ok (.int 2) σ:=by refine ru S Z Z<|aH Z ?_;refine aW (cz Y)<|aR Z Z
theorem sg(S:aK Φ){w:Int}:Φ (d+1) hd 46 [.ref 9,cl 3 w] σ= .ok (.int 0) σ:=by refine ru S Z Z<|aH Z ?_;refine aL (bN Y)<|aW (cz Y) ?_;exact aR Z Z
theorem nF(S:aK Φ){w:Int}:Φ (d+1) hd 48 [.ref 9,cl 3 w] σ= .ok (.int w) σ:=by refine ru S Z Z<|aW (cz Z) ?_;exact aR Z Z
theorem iK(S:aK Φ){r:U}(h:gJ g.hp c r):Φ (d+1) hd 42 [.ref 9,c] (mem g++O)= .ok r (mem g++O):=by
 have stop:∀(t:Nat) (v:Int) (x y:U) (n:Nat),2<=t->f9 (aV T (Φ d) hd (.lit (.bool true))) (λB σ=>aN T (Φ d) QE hd B σ) (n+1) [.ref 9,cl t v,x,y] (mem g++O)= .done (.ret (cl t v)) [.ref 9,cl t v,.int t,y] (mem g++O):=λt v x y n h2=>by refine iQ Z (gP ?_);refine aH Z<|aL (bN (by show ¬((t:Int)=0);exact Int.ne_of_gt (nH Je (xN h2)))) ?_;refine aL (bN (by show ¬((t:Int)=1);exact qI (dX (dw h2))))<|aR Z Z
 cases h with
 |@stop t v h2=>refine ru S Z Z<|jY (stop _ _ _ _ 999 h2) Z
 |@self a h1=>refine ru S Z Z<|jY (bx:=[.ref 9,cl 0 a,.int 0,cl 0 a]) (iQ Z (gP ?_)) Z;refine aH Z<|aW (cz Y) ?_;refine aH (bB (bV Z Z) Z (mR h1))<|aW (aP Z Z ((uG 0 0 a a).trans (by rw[dF Z,dF Z];rfl))) ?_;exact aR Z Z
 |@step a t v h1 h2=>refine ru S Z Z<|jY (cJ Z (gP ?_) (stop t v (.int 0) (cl t v) 998 h2)) Z;refine aH Z<|aW (cz Y) ?_;refine aH (bB (bV Z Z) Z (mR h1))<|aL (aP Z Z ((uG t 0 v a).trans (by rw[dY (dX (dw (iw h2)))];rfl))) ?_;exact aH Z (bU Z)
theorem GD(S:aK Φ){t:Nat}{v:Int}(h:gJ g.hp c (cl t v))(h1:t≠1)(hc:c≠.L):Φ (d+2) hd 44 [.ref 9,c] (mem g++O)= .ok (cl t v) (mem g++O):=by have l1:aV T (Φ (d+1)) hd (J 1) [.ref 9,c,.L] (mem g++O)= .ok c (mem g++O):=bG Z hc;refine ru S Z Z<|aH (bJ Z Z (C l1 ak) (iK S h)) ?_;refine aL ((vo Z 1).trans (by rw[dY h1]))<|aR Z Z
theorem Tr(S:aK Φ){a:Nat}(hk:a<g.hp.length):Φ (d+1) hd 43 [.ref 9,cl 0 a,.tup l] (mem g++O)= .ok .none (mem {g with hp:=g.hp.set a (.tup l)}++O):=by refine ru S Z Z<|aH Z ?_;refine aW (cz Z)<|fQ Z (bV Z Z) Z (uZ hk) ?_;refine aL (aP Z (bV Z Z) (bN (PX)))<|bU Z
theorem Lw(S:aK Φ)(hl:g.hp.length<100000):Φ (d+2) hd 40 [.ref 9] (mem g++O)= .ok (cl 0 g.hp.length) (mem {g with hp:=g.hp++[cl 0 g.hp.length]}++O):=by
 have push:Φ (d+1) hd 39 [.ref 9,cl 0 g.hp.length] (mem g++O)= .ok (.int g.hp.length) (mem {g with hp:=g.hp++[cl 0 g.hp.length]}++O):=by refine ru S Z Z<|aH (bK (C (bV Z Z) ak) Z Gz) ?_;refine aL (aP Z (bV Z Z) (bN (uY hl)))<|cM (cP (bV Z Z) Z (C Z ak) (Qd (bj hl (dl Z)))) ?_;exact aR Z Z
 refine ru S Z Z<|aH (bM (C Z (C (bK (C (bV Z Z) ak) Z Gz) ak))) ?_;refine cM (bJ Z Z (C Z ak) push)<|aR Z Z
theorem rR:dJ (.yK 0 n 1) k σ=some (if k<n then some (.int k) else none):=by
 show some (if k<rT 0 n 1 then some (U.int (0+1*k)) else none)=_
 have:rT 0 n 1=n:=by
  show((n:Int) - 0).toNat=n
  lia
 rw[this,show(0+1*(k:Int))=k by lia]
theorem vZ(S:aK Φ)(hl:p+n<200000):∀(m k N:Nat) (g:GS) (x:U),k+m=n->m<N->g.hp.length=p+k->
  ∃x',forL (λB σ=>aN T (Φ d) f41 hd B σ) 3 (.yK 0 n 1) N k [.ref 9,.int n,.int p,x] (mem g++O)= .done .next [.ref 9,.int n,.int p,x'] (mem {g with hp:=g.hp++lZ (p+k) m}++O)
 |0,k,N+1,g,x,h,hN,hg=>by refine⟨x,(dW (by rw[rR,bh (Nat.not_lt_of_le (dh (Eq.symm h)))])).trans ?_⟩;rw[dH]
 |m+1,k,N+1,g,x,h,hN,hg=>by
  obtain⟨x',r⟩:=vZ S hl m (k+1) N {g with hp:=g.hp++[cl 0 ((p+k:Nat):Int)]} (.int k) (Eq.trans (mC _ _ _) h) (gw hN) (by show(g.hp++_).length=_;rw[bW,hg];rfl);refine⟨x',cV (by rw[rR,bz (dq (dh h))]) (gP ?_) (r.trans ?_)⟩
  .refine cM (cP (bV Z Z) Z (C (bM (C Z (C Z ak))) ak) (Qd (nU (dh hg) (dh h) hl)))<|bU Z
  .show SR.done .next _ (mem {g with hp:=(g.hp++[cl 0 ((p+k:Nat):Int)])++lZ (p+(k+1)) m}++O)=_;rw[bw];rfl
theorem z6(S:aK Φ)(hl:g.hp.length+n<=50000)(hn:n<900):Φ (d+1) hd 41 [.ref 9,.int n] (mem g++O)= .ok (.int g.hp.length) (mem {g with hp:=g.hp++lZ g.hp.length n}++O):=by
 obtain⟨x',r⟩:=vZ S (dD hl (dm Z)) n 0 NN g .L (rF _ _) (by unfold NN;exact bj hn (dl Z)) Z;refine ru S Z Z<|aH (bK (C (bV Z Z) ak) Z Gz) ?_;refine aL (aP (bZ Z Z Z) (bV Z Z) (bN (by lia)))<|jf (bK (C Z ak) Z (Vk ?_)) (by cases hd<;>rfl) r ?_
 .unfold lQ;rw[jH,fO,fO];lia
 .exact aR Z Z
theorem JZ(S:aK Φ)(hl:g.hp.length<=40000):Φ (d+2) hd 49 [.ref 9,.int 0] (mem g++O)= .ok (cl 3 g.hp.length) (mem {g with hp:=g.hp++[cl 0 g.hp.length,cl 0 ((g.hp.length+1:Nat):Int)]}++O):=by refine ru S Z Z<|aW (cz Y) ?_;exact aR (bM (C Z (C (bJ Z Z (C Z ak) (z6 S (oW (oR (dD hl (dm Z)))) Y)) ak))) Z
inductive El where
 |i (n:Int)
 |a (k:Nat)
 |v (k:Nat)
def El.tm:El->U
 | .i n=>.tup [.str [105],.int n]
 | .a k=>vI k
 | .v k=>.tup [.str [118],.int k]
def El.cell(p:Nat):El->U
 | .i n=>cl 5 n
 | .a k=>cl 4 k
 | .v _=>cl 0 p
noncomputable def bQ(tl:El):List El->U
 |[]=>tl.tm
 |e::es=>pH 0 [e.tm,bQ tl es]
noncomputable def J0(tl:El):Nat->List El->List U
 |_,[]=>[]
 |p,e::[]=>[e.cell p,tl.cell (p+1)]
 |p,e::e'::es=>e.cell p::cl 3 ((p+2:Nat):Int)::J0 tl (p+2) (e'::es)
noncomputable def El.vars:El->List Nat
 | .v k=>[k]
 |_=>[]
noncomputable def cL(tl:El):List El->List Nat
 |[]=>tl.vars
 |e::es=>e.vars++cL tl es
def lM(tb:za5):List (U×U):=tb.map λp=>(.int p.1,cl 0 p.2)
noncomputable def yO(tb:za5)(p:Nat):El->List (Nat×Nat)
 | .v k=>tb++[(k,p)]
 |_=>tb
theorem kE{l:List α}{x:α}(h:l[p]?=some x):l.set p x=l:=by
 apply List.ext_getElem?;intro j
 by_cases e:p=j
 .subst e;rw[iy (zb6 h).1,h]
 .rw[jX e]
variable{tb:za5}
theorem zQ:keyOk (lM tb) (.int k)=true:=by
 unfold keyOk lM;rw[show isKey (.int k)=true from Z,yg,zB];intro e m;obtain⟨q,_,rfl⟩:=List.mem_map.mp m
 rfl
theorem Uu:∀(tb:za5),Bw (lM tb) (.int k)=decide (k∈tb.map (·.1))
 |[]=>rfl
 |(a,b)::l=>by
  have ih:=Uu l;show(decide ((a:Int)=k)||Bw (lM l) (.int k))=_;rw[ih,qZ,ur,fO,fO,fO,cH,pJ]
  constructor
  .rintro(h|h)
   .exact .inl (by show k=a;exact yL (Eq.symm h))
   .exact .inr h
  .rintro(h|h)
   .exact .inl (by have h:=h;exact sZ (Eq.symm h))
   .exact .inr h
theorem KD{q:Nat}:∀{tb:za5},k∉tb.map (·.1)->oM (lM tb) (.int k) (cl 0 q)=lM (tb++[(k,q)])
 |[],_=>rfl
 |(a,b)::l,h=>by
  rw[cH,pJ,not_or] at h;have ih:=KD (q:=q) h.2;show oM ((.int a,cl 0 b)::lM l) (.int k) (cl 0 q)=_;have h1:=h.1;rw[nA,bh,ih];· rfl
  show ¬(decide ((a:Int)=k)=true);rw[fO];lia
theorem Uv:∀{tb:za5},k∈tb.map (·.1)->∃q:Nat,jN (lM tb) (.int k)=some (cl 0 q)
 |[],h=>by cases h
 |(a,b)::l,h=>by
  show ∃q:Nat,jN ((.int a,cl 0 b)::lM l) (.int k)=_;rw[jw]
  by_cases e:Ax (.int a) (.int k)=true
  .rw[bz e];exact⟨b,Z⟩
  .rw[bh e];refine Uv ?_;rw[cH,pJ] at h
   rcases h with h|h
   .exfalso;apply e;show decide ((a:Int)=k)=true;rw[fO];have h:=h;exact sZ (Eq.symm h)
   .exact h
theorem Oe{q:Nat}:∀{tb:za5},k∉tb.map (·.1)->jN (lM (tb++[(k,q)])) (.int k)=some (cl 0 q)
 |[],_=>by show jN [(.int k,cl 0 q)] (.int k)=_;rw[jw,bz];exact dF Z
 |(a,b)::l,h=>by
  rw[cH,pJ,not_or] at h;have h1:=h.1;show jN ((.int a,cl 0 b)::lM (l++[(k,q)])) (.int k)=_;rw[jw,bh]
  .exact Oe h.2
  .show ¬(decide ((a:Int)=k)=true);rw[fO];lia
theorem El.zP(e:El):e.tm≠.L:=by cases e<;>exact λh=>by cases h
theorem lD(tl:El)(es:List El):∃l,bQ tl es= .tup l:=by
 cases es with
 |nil=>cases tl<;>exact⟨_,Z⟩
 |cons e es=>exact⟨_,Z⟩
abbrev D6:List S:=eE (DH.drop 8)
abbrev OH:List S:=eE (D6.drop 2)
def T1(O:We)(ti:Nat)(ks:Th)(tb:za5)(W:Th):List AO:=O.set ti (.dict (lM tb))++[.list ks,.list W]
variable{ti:Nat}{ks W W':Th}{tb':za5}
theorem Zh(h:ti<O.length):(T1 O ti ks tb W)[ti]?=some (.dict (lM tb)):=by unfold T1;rw[oX (by rw[fB];exact h),iy h]
theorem yS:(T1 O ti ks tb W)[O.length+1]?=some (.list W):=by unfold T1;rw[iz (by rw[fB];exact d9 _ _),fB,jz];rfl
theorem Zg(h:ti<O.length):(T1 O ti ks tb W).set ti (.dict (lM tb'))=T1 O ti ks tb' W:=by unfold T1;rw[Dg _ _ (by rw[fB];exact h),List.set_set]
theorem Zf:(T1 O ti ks tb W).set (O.length+1) (.list W')=T1 O ti ks tb W':=by unfold T1;rw[mX _ _ (by rw[fB];exact d9 _ _),fB,jz];rfl
theorem mem_set:(mem g++O).set (j+16) o=mem g++O.set j o:=rfl
theorem Wg:sV (.int k) (some (.dict (lM tb)))=some (decide (k∈tb.map (·.1))):=wB zQ (Uu _)
theorem in_dict{Φ:iC}(h:σ[i]?=some (.dict (lM tb))):eX .isIn (.int k) (.ref i) σ= .ok (.bool (decide (k∈tb.map (·.1)))) σ:=Jd h Wg
theorem notin_dict{Φ:iC}(h:σ[i]?=some (.dict (lM tb))):eX .kW (.int k) (.ref i) σ= .ok (.bool (!decide (k∈tb.map (·.1)))) σ:=xF h Wg
noncomputable def Ux:El->U
 | .i _=>.str [105]
 | .a _=>.str [97]
 | .v _=>.str [118]
theorem z7(S:aK Φ)(Bf:ti<O.length)(Ko:tb.length<1000)(e:El)(hp:g.hp[p]?=some (cl 0 p))(hv:∀k∈e.vars,k∉tb.map (·.1)){l1 l3 l4 l5 l6 l7 l9 lY:U}:
  aN T (Φ d) OH false [.ref 9,l1,.ref (ti+16),l3,l4,l5,l6,l7,.int p,l9,e.tm,lY] (mem g++T1 O ti ks tb W)=
   .done .next [.ref 9,l1,.ref (ti+16),l3,Ux e,l5,l6,l7,.int ((p+1:Nat):Int),l9,e.tm,lY] (mem {g with hp:=g.hp.set p (e.cell p)}++T1 O ti ks (yO tb p e) W):=by
 have lt:=(zb6 hp).1;refine gP ?_
 cases e with
 |i n=>refine aH Z<|aL (bN Y) ?_;refine aL (bN Y)<|aW (cz Z) ?_;refine fQ Z (bV Z Z) Z (uZ lt)<|uw Z Z Z (bU Z)
 |a n=>refine aH Z<|aL (bN Y) ?_;refine aW (cz Z)<|fQ Z (bV Z Z) Z (uZ lt) ?_;exact uw Z Z Z (bU Z)
 |v n=>
  have nn:=hv n eQ;have dk:(mem g++T1 O ti ks tb W)[ti+16]?=some (.dict (lM tb)):=Zh Bf;have sd:=lW (v:=cl 0 p) dk (zQ (k:=n)) (by unfold lM LL;rw[dN];exact bj Ko (dl Z));rw[KD nn,mem_set,Zg Bf] at sd;refine aH Z<|aW (cz Z) ?_;refine aL (aP Z Z ((in_dict (Φ:=Φ d) dk).trans (by rw[dY nn])))<|fQ Z Z Z sd ?_;refine uw Z Z Z (bU ?_)
  have e:{g with hp:=g.hp.set p (El.cell p (.v n))}=g:=by rw[kE hp]
  rw[e];rfl
theorem qe(tb:za5)(p:Nat)(e:El):(yO tb p e).map (·.1)=tb.map (·.1)++e.vars:=by
 cases e with
 |v k=>show(tb++[(k,p)]).map (·.1)=_;rw[oO];rfl
 |_=>exact(dH _).symm
theorem Kc(tb:za5)(p:Nat)(e:El):(yO tb p e).length<=tb.length+1:=by
 cases e with
 |v k=>show(tb++[(k,p)]).length<=_;rw[bW];exact bR _
 |_=>exact pI _
theorem xG{A AD BC:Sa}(h:(A++(AD++BC)).Nodup):∀k∈AD,k∉A:=by intro k hk ha;exact(List.nodup_append.mp h).2.2 k ha k (List.mem_append_left _ hk) Z
theorem qb(tl e e':El)(es:List El)(q:Nat):J0 tl q (e::e'::es)=e.cell q::cl 3 ((q+2:Nat):Int)::J0 tl (q+2) (e'::es):=rfl
theorem G8(tl e:El)(q:Nat):J0 tl q [e]=[e.cell q,tl.cell (q+1)]:=rfl
theorem Vf{H:Th}{a b:U}:(H++[a,b]).set H.length x=H++[x,b]:=by rw[mX _ _ (bR _),jy];rfl
variable{τ:Th}
theorem K6{H:Th}{a b:U}:(H++a::b::τ).set (H.length+1) x=H++a::x::τ:=by rw[mX _ _ (d9 _ _),jz];rfl
theorem Bl{H:Th}{a:U}:(H++a::τ)[H.length]?=some a:=by rw[iz (bR _),jy];rfl
theorem GF{H:Th}{a b:U}:(H++a::b::τ)[H.length+1]?=some b:=by rw[iz (d9 _ _),jz];rfl
theorem Vp(S:aK Φ)(hp:p<g.hp.length)(hl:g.hp.length<=40000)(hw:W.length<100000){a b:U}{l1 l3 l4 l5 l7 l9 lY:U}:
  aN T (Φ (d+3)) OH false [.ref 9,l1,.ref (ti+16),l3,l4,l5,.ref (O.length+1+16),l7,.int p,l9,pH 0 [a,b],lY] (mem g++T1 O ti ks tb W)=
   .done .next [.ref 9,l1,.ref (ti+16),l3,.str [115],l5,.ref (O.length+1+16),l7,.int ((p+1:Nat):Int),l9,pH 0 [a,b],cl 3 g.hp.length]
    (mem {g with hp:=(g.hp++[cl 0 g.hp.length,cl 0 ((g.hp.length+1:Nat):Int)]).set p (cl 3 g.hp.length)}++T1 O ti ks tb (W++[.tup [.int g.hp.length,.tup [a,b]]])):=by
 refine gP<|aH Z ?_;refine aL (bN Y)<|aL (bN Y) ?_;refine aL (bN Y)<|aH (bJ Z Z (C Z ak) (JZ S hl)) ?_;refine fQ Z (bV Z Z) Z (uZ (by show p<(g.hp++_).length;rw[bW];exact DM hp)) ?_;show X _ (aN T (Φ (d+3)) _ false _ (mem {g with hp:=(g.hp++[cl 0 g.hp.length,cl 0 ((g.hp.length+1:Nat):Int)]).set p (cl 3 g.hp.length)}++T1 O ti ks tb W));generalize hg:({g with hp:=(g.hp++[cl 0 g.hp.length,cl 0 ((g.hp.length+1:Nat):Int)]).set p (cl 3 g.hp.length)}:GS)=g1;have wt:(mem g1++T1 O ti ks tb W)[O.length+1+16]?=some (.list W):=yS;have pu:=jq (Φ:=Φ (d+3)) (hd:=false) (v:=.tup [.int g.hp.length,.tup [a,b]]) wt (by unfold LL;exact bj hw (dl Z));rw[mem_set,Zf] at pu;refine cM (cP Z (cX wt Y) (C (bM (C (bJ Z Z (C Z ak) (nF S)) (C Z ak))) ak) pu)<|uw Z Z Z (bU Z)
variable{tl:El}
theorem Vq(S:aK Φ)(Bf:ti<O.length){l1 l3 l5:U}:∀(es:List El) (e:El) (k N:Nat) (H:Th) (tb:za5) (W0:Th) (g:GS) (l4 l8 l9 jC lY:U),g.hp=H++[cl 0 H.length,cl 0 ((H.length+1:Nat):Int)]->W0.length=k->(tb.map (·.1)++cL tl (e::es)).Nodup->es.length+1<N->tb.length+es.length<900->H.length+2*es.length<=30000->k+es.length<50000->
  ∃EK EJ EI EH bg ba tb' W',f9 (aV T (Φ (d+3)) false (.cmp .lt (J 7) (Cb 0 [(J 6)]))) (λB σ=>aN T (Φ (d+3)) D6 false B σ) N [.ref 9,l1,.ref (ti+16),l3,l4,l5,.ref (O.length+1+16),.int k,l8,l9,jC,lY] (mem g++T1 O ti ks tb (W0++[.tup [.int H.length,.tup [e.tm,bQ tl es]]]))=
   .done .next [.ref 9,l1,.ref (ti+16),l3,EK,l5,.ref (O.length+1+16),EJ,EI,EH,bg,ba] (mem {g with hp:=H++J0 tl H.length (e::es)}++T1 O ti ks tb' W')/\tb'.map (·.1)=tb.map (·.1)++cL tl (e::es):=by
 intro es
 induction es with
 |nil=>
  intro e k N H tb W0 g l4 l8 l9 jC lY hg hW qj hN Ko hH hk;obtain⟨N,rfl⟩:=eP hN;have hnd':(tb.map (·.1)++(e.vars++tl.vars)).Nodup:=qj;have k1:=z7 (d:=d+3) (ks:=ks) (W:=W0++[.tup [.int H.length,.tup [e.tm,bQ tl []]]]) (l1:=l1) (l3:=l3) (l4:=l4) (l5:=l5) (l6:=.ref (O.length+1+16)) (l7:=.int ((k+1:Nat):Int)) (l9:=.tup [e.tm,bQ tl []]) (lY:=lY) S Bf (by simp at Ko;exact bj Ko (dl Z)) e (by rw[hg];exact Bl) (xG hnd');rw[hg,Vf] at k1
  have k2:=z7 (d:=d+3) (ks:=ks) (g:={g with hp:=H++[e.cell H.length,cl 0 ((H.length+1:Nat):Int)]}) (W:=W0++[.tup [.int H.length,.tup [e.tm,bQ tl []]]]) (tb:=yO tb H.length e) (l1:=l1) (l3:=l3) (l4:=Ux e) (l5:=l5) (l6:=.ref (O.length+1+16)) (l7:=.int ((k+1:Nat):Int)) (l9:=.tup [e.tm,bQ tl []]) (lY:=lY) S Bf
   (by have:=Kc tb H.length e;simp at Ko;exact fH this Ko) tl GF (by
    rw[qe];rw[<- bw] at hnd';exact xG (by rw[dH];exact hnd'))
  rw[K6] at k2;have wl:(mem g++T1 O ti ks tb (W0++[.tup [.int H.length,.tup [e.tm,bQ tl []]]]))[O.length+1+16]?=some (.list (W0++[.tup [.int H.length,.tup [e.tm,bQ tl []]]])):=yS;have ln:=dM wl;rw[bW,hW] at ln;have ix:=fV wl (by rw[iz (by exact dh hW),hW,jy];rfl);have P7:∀{g:GS} {tb:za5},(mem g++T1 O ti ks tb (W0++[.tup [.int H.length,.tup [e.tm,bQ tl []]]]))[O.length+1+16]?=some (.list (W0++[.tup [.int H.length,.tup [e.tm,bQ tl []]]])):=yS
  have ln2:∀{g:GS} {tb:za5},fj 0 [.ref (O.length+1+16)] (mem g++T1 O ti ks tb (W0++[.tup [.int H.length,.tup [e.tm,bQ tl []]]]))= .ok (.int ((k+1:Nat):Int)) (mem g++T1 O ti ks tb (W0++[.tup [.int H.length,.tup [e.tm,bQ tl []]]])):=λ{g tb}=>by have:=dM (P7 (g:=g) (tb:=tb));rw[bW,hW] at this;exact this
  have tn:aN T (Φ (d+3)) D6 false [.ref 9,l1,.ref (ti+16),l3,l4,l5,.ref (O.length+1+16),.int k,l8,l9,jC,lY] (mem g++T1 O ti ks tb (W0++[.tup [.int H.length,.tup [e.tm,bQ tl []]]]))=
    .done .next [.ref 9,l1,.ref (ti+16),l3,Ux tl,l5,.ref (O.length+1+16),.int ((k+1:Nat):Int),.int ((H.length+1+1:Nat):Int),.tup [e.tm,bQ tl []],tl.tm,lY] (mem {g with hp:=H++[e.cell H.length,tl.cell (H.length+1)]}++T1 O ti ks (yO (yO tb H.length e) (H.length+1) tl) (W0++[.tup [.int H.length,.tup [e.tm,bQ tl []]]])):=by
   refine gP<|qp Z (bB Z Z ix) Z ?_;refine uw Z Z Z<|jf (v:=.tup [e.tm,bQ tl []]) Z Z (cV (x:=e.tm) Z k1 (cV (x:=tl.tm) Z k2 (dW Z))) (bU Z)
  refine(A4 (Ux tl) (.int ((k+1:Nat):Int)) (.int ((H.length+1+1:Nat):Int)) (.tup [e.tm,bQ tl []]) tl.tm lY (yO (yO tb H.length e) (H.length+1) tl) (W0++[.tup [.int H.length,.tup [e.tm,bQ tl []]]]) ?_ ?_)
  .rw[G8];refine cJ (aP Z (bK (C Z ak) Z ln2) (cz (p:=(k:Int)<((k+1:Nat):Int)) (by exact Bc (j9 _)))) tn<|cU (aP Z (bK (C Z ak) Z ln2) (bN (p:=((k+1:Nat):Int)<((k+1:Nat):Int)) (by exact Bb (bR _))))
  .rw[qe,qe,bw];rfl
 |cons e' es ih=>
  intro e k N H tb W0 g l4 l8 l9 jC lY hg hW qj hN Ko hH hk;rw[dC] at hN Ko hH hk;obtain⟨N,rfl⟩:=Js hN;have hnd':=qj;have k1:=z7 (d:=d+3) (ks:=ks) (g:=g) (W:=W0++[.tup [.int H.length,.tup [e.tm,bQ tl (e'::es)]]]) (l1:=l1) (l3:=l3) (l4:=l4) (l5:=l5) (l6:=.ref (O.length+1+16)) (l7:=.int ((k+1:Nat):Int)) (l9:=.tup [e.tm,bQ tl (e'::es)]) (lY:=lY) S Bf (by exact ye (bj Ko (dl Z))) e (p:=H.length) (by rw[hg];exact Bl) (xG hnd');rw[hg,Vf] at k1
  have k2:=Vp (d:=d) (ti:=ti) (O:=O) (ks:=ks) (g:={g with hp:=H++[e.cell H.length,cl 0 ((H.length+1:Nat):Int)]}) (W:=W0++[.tup [.int H.length,.tup [e.tm,bQ tl (e'::es)]]]) (tb:=yO tb H.length e) (a:=e'.tm) (b:=bQ tl es) (l1:=l1) (l3:=l3) (l4:=Ux e) (l5:=l5) (l7:=.int ((k+1:Nat):Int)) (l9:=.tup [e.tm,bQ tl (e'::es)]) (lY:=lY) S (p:=H.length+1)
   (by show _<(H++_).length;rw[bW];show _<H.length+2;exact j9 _) (by show(H++_).length<=_;rw[bW];show H.length+2<=_;exact dq hH) (by rw[bW,hW];show k+1<_;exact dq hk)
  have hq:(H++[e.cell H.length,cl 0 ((H.length+1:Nat):Int)]).length=H.length+2:=by rw[bW];rfl
  have Ic:(H++[e.cell H.length,cl 3 ((H.length+2:Nat):Int)]).length=H.length+2:=by rw[bW];rfl
  have hs:((H++[e.cell H.length,cl 0 ((H.length+1:Nat):Int)])++[cl 0 ((H.length+2:Nat):Int),cl 0 ((H.length+2+1:Nat):Int)]).set (H.length+1) (cl 3 ((H.length+2:Nat):Int))=(H++[e.cell H.length,cl 3 ((H.length+2:Nat):Int)])++[cl 0 ((H.length+2:Nat):Int),cl 0 ((H.length+2+1:Nat):Int)]:=by rw[bw,bw];exact K6
  simp only[hq] at k2;rw[hs] at k2;have wl:∀{g:GS} {tb:za5} {W:Th},(mem g++T1 O ti ks tb W)[O.length+1+16]?=some (.list W):=yS;have ix:=fV (k:=k) (wl (g:=g) (tb:=tb) (W:=W0++[.tup [.int H.length,.tup [e.tm,bQ tl (e'::es)]]])) (by rw[iz (by exact dh hW),hW,jy];rfl);have ln:=dM (wl (g:=g) (tb:=tb) (W:=W0++[.tup [.int H.length,.tup [e.tm,bQ tl (e'::es)]]]));rw[bW,hW] at ln
  have tn:aN T (Φ (d+3)) D6 false [.ref 9,l1,.ref (ti+16),l3,l4,l5,.ref (O.length+1+16),.int k,l8,l9,jC,lY] (mem g++T1 O ti ks tb (W0++[.tup [.int H.length,.tup [e.tm,bQ tl (e'::es)]]]))=
    .done .next [.ref 9,l1,.ref (ti+16),l3,.str [115],l5,.ref (O.length+1+16),.int ((k+1:Nat):Int),.int ((H.length+1+1:Nat):Int),.tup [e.tm,bQ tl (e'::es)],bQ tl (e'::es),cl 3 ((H.length+2:Nat):Int)] (mem {g with hp:=(H++[e.cell H.length,cl 3 ((H.length+2:Nat):Int)])++[cl 0 ((H.length+2:Nat):Int),cl 0 ((H.length+2+1:Nat):Int)]}++T1 O ti ks (yO tb H.length e) ((W0++[.tup [.int H.length,.tup [e.tm,bQ tl (e'::es)]]])++[.tup [.int ((H.length+2:Nat):Int),.tup [e'.tm,bQ tl es]]])):=by
   refine gP<|qp Z (bB Z Z ix) Z ?_;refine uw Z Z Z<|jf (v:=.tup [e.tm,bQ tl (e'::es)]) Z Z (cV (x:=e.tm) Z k1 (cV (x:=bQ tl (e'::es)) Z k2 (dW Z))) (bU Z)
  have SA:((yO tb H.length e).map (·.1)++cL tl (e'::es)).Nodup:=by rw[qe,bw];exact hnd'
  have al:=Kc tb H.length e
  refine CS (ih e' (k+1) N (H++[e.cell H.length,cl 3 ((H.length+2:Nat):Int)]) (yO tb H.length e) (W0++[.tup [.int H.length,.tup [e.tm,bQ tl (e'::es)]]]) {g with hp:=(H++[e.cell H.length,cl 3 ((H.length+2:Nat):Int)])++[cl 0 ((H.length+2:Nat):Int),cl 0 ((H.length+2+1:Nat):Int)]} (.str [115]) (.int ((H.length+1+1:Nat):Int)) (.tup [e.tm,bQ tl (e'::es)]) (bQ tl (e'::es)) (cl 3 ((H.length+2:Nat):Int))
   (by simp only[Ic]) (by rw[bW,hW];rfl) SA (by exact gw hN) (by exact fH al Ko) (by rw[Ic];exact dq hH) (by exact dq hk)) λEK EJ EI EH bg ba tb' W' r1 r2=>?_
  simp only[Ic] at r1;refine(A4 EK EJ EI EH bg ba tb' W' ?_ ?_)
  .rw[qb];refine cJ (aP Z (bK (C Z ak) Z ln) (cz (p:=(k:Int)<((k+1:Nat):Int)) (by exact Bc (j9 _)))) tn (r1.trans ?_);rw[bw];rfl
  .rw[r2,qe,bw];rfl
def pU(p:Nat)(tl:El):List El->U
 |[]=>tl.cell p
 |_::_=>cl 3 p
def ie(p:Nat)(tl:El):List El->List U
 |[]=>(match tl with
  | .v _=>[cl 0 p]
  |_=>[])
 |e::es=>J0 tl p (e::es)
abbrev g52:List S:=eE DH
theorem Og:∀tb:List (Nat×Nat),intKeys (lM tb)=true
 |[]=>rfl
 |p::l=>Og l
theorem DX{Φ:iC}{lst:Nat}{l1 l4 l5 l6 l7 l8 l9 jC lY:U}(h1:σ[i]?=some (.dict (lM tb)))(h2:σ[lst]?=some (.list ((lM tb).map (·.1)))):∀(m k N:Nat) (x:U),k+m=tb.length->m<N->
  ∃x',forL (λB σ=>aN T Φ g52 false B σ) 3 (.ref lst) N k [.ref 9,l1,.ref i,x,l4,l5,l6,l7,l8,l9,jC,lY] σ= .done .next [.ref 9,l1,.ref i,x',l4,l5,l6,l7,l8,l9,jC,lY] σ
 |0,k,N+1,x,h,hN=>by refine⟨x,dW ?_⟩;rw[cD h2];unfold lM;rw[List.map_map,fG,lL (dh (Eq.symm h))];rfl
 |m+1,k,N+1,x,h,hN=>by
  have lt:k<tb.length:=by exact ye (dw (dh h))
  have hk:=gM lt;obtain⟨x',r⟩:=DX h1 h2 m (k+1) N (.int tb[k].1) (Eq.trans (mC _ _ _) h) (gw hN);obtain⟨q,hq⟩:=Uv (List.mem_map.mpr (aZ _ (Dd lt) Z));refine⟨x',cV (x:=.int tb[k].1) ?_ (gP ?_) r⟩
  .rw[cD h2];unfold lM;rw[List.map_map,fG,hk];rfl
  .refine aL (aP (bB (bB Z Z (zg h1 zQ Z hq)) Z Z) Z (bN Y))<|bU Z
theorem ar(h:σ[i]?=some (.dict (lM tb))):fj 8 [.ref i] σ= .ok (.ref σ.length) (σ++[.list ((lM tb).map (·.1))]):=(Nv h).trans (d7 (Og tb))
theorem Xv{Φ:iC}{l:List E}{c:Nat}(h1:lH T Φ false l B σ= .ok vs aC)(h2:fj c vs aC=r):aV T Φ false (.call (.lit (.bi c)) l) B σ=r:=(rD h1).trans h2
theorem Vo(S:aK Φ)(ht:O[ti]?=some (.dict (lM tb)))(tl:El)(aO:List El)(qj:(tb.map (·.1)++cL tl aO).Nodup)(Ko:tb.length+aO.length<800)(hl:g.hp.length+2*aO.length<=29000):
  ∃tb' γ,Φ (d+4) false 52 [.ref 9,bQ tl aO,.ref (ti+16)] (mem g++O)= .ok (pU g.hp.length tl aO) (mem {g with hp:=g.hp++ie g.hp.length tl aO}++(O.set ti (.dict (lM tb'))++γ))/\tb'.map (·.1)=tb.map (·.1)++cL tl aO:=by
 have lt:=(zb6 ht).1;have lo:=ar (σ:=mem g++O) (i:=ti+16) ht;rw[aX] at lo;have d1:(mem g++(O++[.list ((lM tb).map (·.1))]))[ti+16]?=some (.dict (lM tb)):=rB ht;have d2:(mem g++(O++[AO.list ((lM tb).map (·.1))]))[O.length+16]?=some (.list ((lM tb).map (·.1))):=gb;obtain⟨lt',rE⟩:=lD tl aO;obtain⟨x',kl⟩:=DX d1 d2 tb.length 0 NN .L (rF _ _) (by unfold NN;exact ye (bj Ko (dl Z)))
 have JU:∀{l3 l4:U} {σ:St},aV T (Φ (d+3)) false (J 1) [.ref 9,bQ tl aO,.ref (ti+16),l3,l4,.L,.L,.L,.L,.L,.L,.L] σ= .ok (bQ tl aO) σ:=λ{l3 l4 σ}=>by rw[rE];rfl
 have front:∀{Q:za1},X Q (aN T (Φ (d+3)) (DH.drop 1) false [.ref 9,bQ tl aO,.ref (ti+16),x',.L,.L,.L,.L,.L,.L,.L,.L] (mem g++(O++[.list ((lM tb).map (·.1))])))->X Q (aN T (Φ (d+3)) DH false [.ref 9,bQ tl aO,.ref (ti+16),.L,.L,.L,.L,.L,.L,.L,.L,.L] (mem g++O)):=λH=>
  jf (Xv (C Z ak) lo) Z kl H
 have bind:ou MS [.ref 9,bQ tl aO,.ref (ti+16)]=some [.ref 9,bQ tl aO,.ref (ti+16),.L,.L,.L,.L,.L,.L,.L,.L,.L]:=rfl
 cases aO with
 |nil=>
  cases tl with
  |i n=>refine(dK tb ([.list ((lM tb).map (·.1))]) (ru S Z bind (front ?_)) ((dH _).symm));rw[kE ht];refine aH Z<|aL (bN Y) ?_;refine aL (bN Y)<|aW (cz Z) ?_;refine aR Z ?_;rw[dH];rfl
  |a n=>refine(dK tb ([.list ((lM tb).map (·.1))]) (ru S Z bind (front ?_)) ((dH _).symm));rw[kE ht];refine aH Z<|aL (bN Y) ?_;refine aW (cz Z)<|aR Z ?_;rw[dH];rfl
  |v n=>have nn:=xG (AD:=[n]) qj n eQ;refine(dK (tb++[(n,g.hp.length)]) ([.list ((lM tb).map (·.1))]) (ru S Z bind (front ?_)) (by rw[oO];rfl));refine aH Z<|aW (cz Z) ?_;refine aW (aP Z Z ((notin_dict (Φ:=Φ (d+3)) d1).trans (by rw[dY nn];rfl))) ?_;have nv:=Lw (d:=d+1) (hd:=false) (O:=O++[.list ((lM tb).map (·.1))]) S (dD hl (dm Z));have sd:=lW (σ:=mem {g with hp:=g.hp++[cl 0 g.hp.length]}++(O++[.list ((lM tb).map (·.1))])) (v:=cl 0 g.hp.length) (rB ht) (zQ (k:=n)) (by unfold lM LL;rw[dN];exact bj Ko (dl Z));rw[KD nn,mem_set,Dg _ _ lt] at sd;refine fQ (bJ Z Z ak nv) Z Z sd ?_;have d3:(mem {g with hp:=g.hp++[cl 0 g.hp.length]}++(O.set ti (.dict (lM (tb++[(n,g.hp.length)])))++[.list ((lM tb).map (·.1))]))[ti+16]?=some (.dict (lM (tb++[(n,g.hp.length)]))):=rB (iy lt);exact aR (bB Z Z (zg d3 zQ Z (Oe nn))) Z
 |cons e es=>
  rw[dC] at Ko hl;have bo:=JZ (d:=d+1) (hd:=false) (O:=O++[.list ((lM tb).map (·.1))]) S (LF (bO hl (dl Z)))
  have t1:∀W:List U,(O++[.list ((lM tb).map (·.1))])++[.list W]=T1 O ti ((lM tb).map (·.1)) tb W:=λW=>by unfold T1;rw[kE ht,bw];rfl
  refine CS (Vq (d:=d) (ti:=ti) (O:=O) (ks:=(lM tb).map (·.1)) (l1:=bQ tl (e::es)) (l3:=x') (l5:=cl 3 g.hp.length) S lt (tl:=tl) es e 0 NN g.hp tb [] {g with hp:=g.hp++[cl 0 g.hp.length,cl 0 ((g.hp.length+1:Nat):Int)]} (.str [115]) .L .L .L .L Z Z qj (by unfold NN;exact PF (bj Ko (dl Z))) (by exact gw (bj Ko (dl Z))) (by exact dq hl) (by exact dq hl)) λEK EJ EI EH bg ba tb' W' r1 r2=>?_;refine(dK tb' ([.list ((lM tb).map (·.1)),.list W']) (ru S Z bind (front ?_)) r2);refine aH (v:=.str [115]) Z<|aL (bN (p:=([115]:Sa)=[118]) Y) ?_;refine aL (bN (p:=([115]:Sa)=[97]) Y)<|aL (bN (p:=([115]:Sa)=[105]) Y) ?_;refine aH (bJ Z Z (C Z ak) bo)<|aH (v:=.ref (O.length+1+16)) (σ':=mem {g with hp:=g.hp++[cl 0 g.hp.length,cl 0 ((g.hp.length+1:Nat):Int)]}++T1 O ti ((lM tb).map (·.1)) tb ([]++[.tup [.int g.hp.length,.tup [e.tm,bQ tl es]]])) ((cG (C (bM (C (bJ Z Z (C Z ak) (nF S)) (C Z ak))) ak)).trans ?_) ?_
  .rw[aX,t1];show Res.ok (U.ref (mem _++(O++[AO.list ((lM tb).map (·.1))])).length) _=_;have:(O++[AO.list ((lM tb).map (·.1))]).length=O.length+1:=by rw[bW];rfl
   show Res.ok (U.ref ((O++[AO.list ((lM tb).map (·.1))]).length+16)) _=_;rw[this];rfl
  .refine aH Z<|fP r1 ?_;exact aR Z Z
def El.val:El->U
 | .i n=>cl 5 n
 | .a k=>cl 4 k
 | .v w=>cl 0 w
def gX(hp:Th)(c:U)(e:El):Prop:=gJ hp c e.val
noncomputable def oN(hp:Th)(tl:El):Nat->U->List El->Prop
 |_,c,[]=>gX hp c tl
 |b,c,e::es=>∃(p:Nat) (c1 c2:U),b<=p/\gJ hp c (cl 3 p)/\hp[p]?=some c1/\gX hp c1 e/\hp[p+1]?=some c2/\oN hp tl (p+2) c2 es
def El.norm:El->El
 | .v _=>.v 0
 |e=>e
def El.vG(a0:Nat):El->Prop
 | .v w=>w=a0
 |_=>True
variable{hp:Th}
theorem gJ.ne{r:U}(h:gJ hp c r):c≠.L:=by cases h<;>exact λq=>by cases q
abbrev vF:List S:=eE Pl
variable{A γ:List α}{a b c x:α}
theorem dA:(A++a::b::c::γ)[A.length]?=some a:=by rw[iz (bR _),jy];rfl
theorem r8:(A++a::b::c::γ)[A.length+1]?=some b:=by rw[iz (d9 _ _),jz];rfl
theorem Xf:(A++a::b::c::γ)[A.length+2]?=some c:=by rw[iz (d9 _ _),jz];rfl
theorem F6:(A++a::b::c::γ).set A.length x=A++x::b::c::γ:=by rw[mX _ _ (bR _),jy];rfl
theorem zd:(A++a::b::c::γ).set (A.length+1) x=A++a::x::c::γ:=by rw[mX _ _ (d9 _ _),jz];rfl
theorem o3:(A++a::b::c::γ).set (A.length+2) x=A++a::b::x::γ:=by rw[mX _ _ (d9 _ _),jz];rfl
noncomputable def tq(a0:Nat):Bool->List (U×U)
 |true=>[(.int a0,.int 0)]
 |false=>[]
variable{γ:We}{x:U}{a b:E}{A:List S}{a0:Nat}{q:Bool}{kn:YR}{res work:Th}
theorem kX{Φ:iC}(h:aV T Φ hd a B σ= .ok (.ref i) aC)(h1:aV T Φ hd b B aC= .ok (.int k) bL)(h2:bL[i]?=some (.list l))(h3:X Q (aN T Φ A hd B (bL.set i (.list (l.take k))))):X Q (aN T Φ (.M5 a b::A) hd B σ):=
 h3.of (uz (by
  refine(tok h).trans ((tok h1).trans ?_);exact congrArg (Ac · B) ((jE (f:=λl=>gd none (decide (0<=(k:Int))) (some (bL.set i (.list (l.take k))))) h2).trans (d7 (dF (pL k))))))
theorem K5(h:σ[i]?=some (.list l)):slice (.ref i) (.int k) .none σ= .ok (.ref σ.length) (σ++[.list (l.drop k)]):=by refine(d7 (z:=.bad) (dF (pL k))).trans<|jE h
def T2(O:We)(ti a0:Nat)(q:Bool)(kn:YR)(res work:Th)(γ:We):List AO:=O.set ti (.dict (tq a0 q))++.dict kn::.list res::.list work::γ
theorem Uy(h:ti<O.length):(mem g++T2 O ti a0 q kn res work γ)[ti+16]?=some (.dict (tq a0 q)):=by show(T2 O ti a0 q kn res work γ)[ti]?=_;unfold T2;rw[oX (by rw[fB];exact h),iy h]
theorem mM:(mem g++T2 O ti a0 q kn res work γ)[O.length+16]?=some (.dict kn):=by have:=dA (A:=O.set ti (.dict (tq a0 q))) (a:=AO.dict kn) (b:=.list res) (c:=.list work) (γ:=γ);rw[fB] at this;exact this
theorem Fl:(mem g++T2 O ti a0 q kn res work γ)[O.length+1+16]?=some (.list res):=by have:=r8 (A:=O.set ti (.dict (tq a0 q))) (a:=AO.dict kn) (b:=.list res) (c:=.list work) (γ:=γ);rw[fB] at this;exact this
theorem Cg:(mem g++T2 O ti a0 q kn res work γ)[O.length+2+16]?=some (.list work):=by have:=Xf (A:=O.set ti (.dict (tq a0 q))) (a:=AO.dict kn) (b:=.list res) (c:=.list work) (γ:=γ);rw[fB] at this;exact this
theorem hZ{PK:YR}:(mem g++T2 O ti a0 q kn res work γ).set (O.length+16) (.dict PK)=mem g++T2 O ti a0 q PK res work γ:=by have:=F6 (A:=O.set ti (.dict (tq a0 q))) (a:=AO.dict kn) (b:=.list res) (c:=.list work) (γ:=γ) (x:=.dict PK);rw[fB] at this;exact congrArg (mem g++·) this
theorem hY{p0:Th}:(mem g++T2 O ti a0 q kn res work γ).set (O.length+1+16) (.list p0)=mem g++T2 O ti a0 q kn p0 work γ:=by have:=zd (A:=O.set ti (.dict (tq a0 q))) (a:=AO.dict kn) (b:=.list res) (c:=.list work) (γ:=γ) (x:=.list p0);rw[fB] at this;exact congrArg (mem g++·) this
theorem hV{Ug:Th}:(mem g++T2 O ti a0 q kn res work γ).set (O.length+2+16) (.list Ug)=mem g++T2 O ti a0 q kn res Ug γ:=by have:=o3 (A:=O.set ti (.dict (tq a0 q))) (a:=AO.dict kn) (b:=.list res) (c:=.list work) (γ:=γ) (x:=.list Ug);rw[fB] at this;exact congrArg (mem g++·) this
theorem yk(h:ti<O.length){q':Bool}:(mem g++T2 O ti a0 q kn res work γ).set (ti+16) (.dict (tq a0 q'))=mem g++T2 O ti a0 q' kn res work γ:=by show mem g++((T2 O ti a0 q kn res work γ).set ti (.dict (tq a0 q')))=_;unfold T2;rw[Dg _ _ (by rw[fB];exact h),List.set_set]
theorem mN:(mem g++T2 O ti a0 q kn res work γ)++[o]=mem g++T2 O ti a0 q kn res work (γ++[o]):=by unfold T2;rw[aX,bw];rfl
theorem Le{Φ:iC}:dj Φ hd .list (.ref (O.length+2+16)) 1 [] (mem g++T2 O ti a0 q kn res (work++[v]) γ)= .ok v (mem g++T2 O ti a0 q kn res work γ):=by rw[Lh Cg,hV]
theorem Lb{Φ:iC}(hl:work.length<100000):dj Φ hd .list (.ref (O.length+2+16)) 0 [v] (mem g++T2 O ti a0 q kn res work γ)= .ok .none (mem g++T2 O ti a0 q kn res (work++[v]) γ):=by rw[jq Cg (by unfold LL;exact bj hl (dl Z)),hV]
theorem Fy{Φ:iC}(hl:res.length<100000):dj Φ hd .list (.ref (O.length+1+16)) 0 [v] (mem g++T2 O ti a0 q kn res work γ)= .ok .none (mem g++T2 O ti a0 q kn (res++[v]) work γ):=by rw[jq Fl (by unfold LL;exact bj hl (dl Z)),hY]
def R9(kn:YR):Prop:=∀e∈kn,∃n:Nat,e.1= .int n
def AN(kn:YR)(b:Nat):Prop:=∀e∈kn,∃n:Nat,e.1= .int n/\n<b
theorem Az(h:R9 kn):keyOk kn (.int k)=true:=by unfold keyOk;rw[show isKey (.int k)=true from Z,yg,zB];intro e m;obtain⟨n,hn⟩:=h e m;rw[hn];rfl
theorem ah{b:Nat}(h:AN kn b)(hb:b<=k):Bw kn (.int k)=false:=by unfold Bw;rw[List.any_eq_false];intro e m;refine bY (h e m) λn hn lt=>?_;rw[hn];show ¬(decide ((n:Int)=k)=true);rw[fO];exact qI (iV (bj lt hb))
theorem Em:∀{kn:YR},R9 kn->R9 (oM kn (.int k) v)
 |[],_,e,m=>by
  cases m with
  |head=>exact⟨k,Z⟩
  |tail _ m=>cases m
 |(a,b)::l,h,e,m=>by
  rw[nA] at m
  split at m
  .rcases zb5 m with rfl|m
   .exact h (a,b) eQ
   .exact h e (.tail _ m)
  .rcases zb5 m with rfl|m
   .exact h _ eQ
   .exact Em (λe m=>h e (.tail _ m)) e m
theorem JM:∀{kn:YR} {k v:U},(oM kn k v).length<=kn.length+1
 |[],_,_=>bR _
 |(a,b)::l,k,v=>by
  rw[nA]
  split
  .rw[dC,dC];exact d9 _ _
  .have:=JM (kn:=l) (k:=k) (v:=v);rw[dC,dC];exact vL this
theorem JK{b:Nat}:∀{kn:YR},AN kn b->b<=k->oM kn (.int k) v=kn++[(.int k,v)]
 |[],_,_=>rfl
 |(a,w)::l,h,hb=>by
  refine bY (h _ eQ) λn hn lt=>?_;have hn:a= .int n:=hn;rw[nA,bh,JK (λe m=>h e (.tail _ m)) hb];· rfl
  rw[hn];show ¬(decide ((n:Int)=k)=true);rw[fO];exact qI (iV (bj lt hb))
noncomputable abbrev LT(O:We)(ti:Nat)(c l6 l7 l8 l9 jC lY vD:U):Loc:=[.ref 9,c,.ref (ti+16),.ref (O.length+16),.ref (O.length+1+16),.ref (O.length+2+16),l6,l7,l8,l9,jC,lY,vD]
theorem Kv:keyOk (tq a0 q) (.int k)=true:=by cases q<;>rfl
theorem Um(h:σ[i]?=some (.dict (tq a0 q))):eX .kW (.int a0) (.ref i) σ= .ok (.bool (!q)) σ:=by
 refine xF h (wB Kv ?_)
 cases q with
 |false=>rfl
 |true=>show(decide ((a0:Int)=a0)||false)=true;rw[dF Z];rfl
theorem mf:jN (tq a0 true) (.int a0)=some (.int 0):=by show jN [(.int a0,.int 0)] (.int a0)=_;rw[jw,bz];exact dF Z
theorem lT(h:σ[i]?=some (.dict (tq a0 false))):fj 0 [.ref i] σ= .ok (.int 0) σ:=congrArg (aE · σ) h
theorem Dl(S:aK Φ)(Bf:ti<O.length){c c0 l6 l7 l8 l9 jC lY vD:U}{Rs:Th}{e:El}(h:gX g.hp c e)(hv:e.vG a0)(hr:Rs.length<100000):
  ∃q' t1 c1,aN T (Φ (d+2)) vF false (LT O ti c0 l6 l7 l8 l9 jC lY vD) (mem g++T2 O ti a0 q kn Rs (W++[.tup [.int 0,c]]) γ)=
   .done .next (LT O ti c1 (.int 0) l7 l8 l9 t1 lY vD) (mem g++T2 O ti a0 q' kn (Rs++[e.norm.tm]) W γ):=by
 have cu:=gJ.ne h;have ec:∀{σ:St} {l6:U},aV T (Φ (d+2)) false (J 1) (LT O ti c l6 l7 l8 l9 jC lY vD) σ= .ok c σ:=λ{σ l6}=>bG Z cu
 have front:∀{Q:za1},X Q (aN T (Φ (d+2)) (vF.drop 3) false (LT O ti e.val (.int 0) l7 l8 l9 jC lY vD) (mem g++T2 O ti a0 q kn Rs W γ))->X Q (aN T (Φ (d+2)) vF false (LT O ti c0 l6 l7 l8 l9 jC lY vD) (mem g++T2 O ti a0 q kn Rs (W++[.tup [.int 0,c]]) γ)):=λH=>by refine qp Z (cP Z (cX Cg Y) ak Le) Z<|aL (bN Y) ?_;exact aH (bJ Z Z (C ec ak) (iK S h)) H
 cases e with
 |i n=>refine(Bd q (.int 5) (cl 5 n) (gP (front ?_)));refine aH Z<|aL (bN Y) ?_;refine aL (bN Y)<|aW (cz Z) ?_;refine cM (cP Z (cX Fl Y) (C (bM (C Z (C Z ak))) ak) (Fy hr))<|bU Z
 |a n=>refine(Bd q (.int 4) (cl 4 n) (gP (front ?_)));refine aH Z<|aL (bN Y) ?_;refine aW (cz Z)<|cM (cP Z (cX Fl Y) (C (bM (C Z (C Z ak))) ak) (Fy hr)) ?_;exact bU Z
 |v n=>
  have hv:=hv;subst hv
  have fin:∀{Q:za1} {AD:List Mine.Internal.S},X Q (aN T (Φ (d+2)) AD false (LT O ti (cl 0 n) (.int 0) l7 l8 l9 (.int 0) lY vD) (mem g++T2 O ti n true kn (Rs++[.tup [.str [118],.int 0]]) W γ))->X Q (aN T (Φ (d+2)) (.expr (.aG (J 4) 0 [(.tup [(Ls [118]),(.idx (J 2) (.idx (J 1) (D 1)))])])::AD) false (LT O ti (cl 0 n) (.int 0) l7 l8 l9 (.int 0) lY vD) (mem g++T2 O ti n true kn Rs W γ)):=λH=>by refine cM (cP Z (cX Fl Y) (C (bM (C Z (C (bB Z Z (zg (Uy Bf) Kv Z mf)) ak))) ak) (Fy hr)) H
  refine(Bd true (.int 0) (cl 0 n) (gP (front ?_)));refine aH Z<|aW (cz Z) ?_
  cases q with
  |true=>refine aL (aP Z Z (Um (Uy Bf)))<|fin (bU Z)
  |false=>have sd:=lW (v:=.int 0) (Uy (g:=g) (a0:=n) (q:=false) (kn:=kn) (res:=Rs) (work:=W) (γ:=γ) Bf) (Kv (k:=n)) (by show 0<LL;unfold LL;exact dm Z);have sd:=sd.trans (congrArg some (yk (q':=true) Bf));refine aW (aP Z Z (Um (Uy Bf)))<|fQ (bK (C Z ak) Z (lT (Uy Bf))) Z Z sd ?_;exact fin (bU Z)
theorem Rc(S:aK Φ){c c0 c1 c2 l6 l7 l8 l9 jC lY vD:U}{Rs:Th}{b:Nat}(h:gJ g.hp c (cl 3 p))(hb:b<=p)(hk:AN kn b)(h1:g.hp[p]?=some c1)(h2:g.hp[p+1]?=some c2)(hw:W.length<90000)(IH:kn.length<90000):
  aN T (Φ (d+2)) vF false (LT O ti c0 l6 l7 l8 l9 jC lY vD) (mem g++T2 O ti a0 q kn Rs (W++[.tup [.int 0,c]]) γ)=
   .done .next (LT O ti (cl 3 p) (.int 0) l7 l8 l9 (.int 3) (.int p) (.int 0)) (mem g++T2 O ti a0 q (kn++[(.int p,.none)]) Rs (((W++[.tup [.int 1,cl 3 p]])++[.tup [.int 0,c2]])++[.tup [.int 0,c1]]) γ):=by
 have cu:=gJ.ne h;have ec:∀{σ:St} {l6:U},aV T (Φ (d+2)) false (J 1) (LT O ti c l6 l7 l8 l9 jC lY vD) σ= .ok c σ:=λ{σ l6}=>bG Z cu;have ik:R9 kn:=λe m=>let⟨n,h,_⟩:=hk e m;⟨n,h⟩;have HC:∀{σ:St} {i:Nat},σ[i]?=some (.dict kn)->eX .isIn (.int p) (.ref i) σ= .ok (.bool false) σ:=λ{σ i} h=>Jd h (wB (Az ik) (ah hk hb));have sd:=lW (v:=.none) (mM (g:=g) (O:=O) (ti:=ti) (a0:=a0) (q:=q) (res:=Rs) (work:=W) (γ:=γ)) (Az (k:=p) ik) (by unfold LL;exact bj IH (dl Z));rw[JK hk hb,hZ] at sd;have rg:fj 1 [.int 1,.int (-1),.int (-1)] (mem g++T2 O ti a0 q (kn++[(.int p,.none)]) Rs (W++[.tup [.int 1,cl 3 p]]) γ)= .ok (.yK 1 (-1) (-1)) (mem g++T2 O ti a0 q (kn++[(.int p,.none)]) Rs (W++[.tup [.int 1,cl 3 p]]) γ):=rfl;refine gP<|qp Z (cP Z (cX Cg Y) ak Le) Z ?_;refine aL (bN Y)<|aH (bJ Z Z (C ec ak) (iK S h)) ?_;refine aH Z<|aL (bN Y) ?_;refine aL (bN Y)<|aL (bN Y) ?_;refine aL (aP Z Z (HC mM))<|fQ Z Z Z sd ?_;refine cM (cP Z (cX Cg Y) (C (bM (C Z (C Z ak))) ak) (Lb (bj hw (dl Z))))<|aH (bJ Z Z (C Z ak) (nF S)) ?_
 have k1:∀j:U,aN T (Φ (d+2)) [.expr (.aG (J 5) 0 [(.tup [(D 0),(.idx (.attr (J 0) 36) (.bin .add (J 11) (J 12)))])])] false (LT O ti (cl 3 p) (.int 0) l7 l8 l9 (.int 3) (.int p) (.int 1)) (mem g++T2 O ti a0 q (kn++[(.int p,.none)]) Rs (W++[.tup [.int 1,cl 3 p]]) γ)=
   .done .next (LT O ti (cl 3 p) (.int 0) l7 l8 l9 (.int 3) (.int p) (.int 1)) (mem g++T2 O ti a0 q (kn++[(.int p,.none)]) Rs ((W++[.tup [.int 1,cl 3 p]])++[.tup [.int 0,c2]]) γ):=λ_=>by
  refine gP<|cM (cP Z (cX Cg Y) (C (bM (C Z (C (bB (bV Z Z) (bZ Z Z Z) (mR h2)) ak))) ak) (Lb (by rw[bW];show W.length+1<_;exact oR (bj hw (dl Z))))) ?_;exact bU Z
 have k2:aN T (Φ (d+2)) [.expr (.aG (J 5) 0 [(.tup [(D 0),(.idx (.attr (J 0) 36) (.bin .add (J 11) (J 12)))])])] false (LT O ti (cl 3 p) (.int 0) l7 l8 l9 (.int 3) (.int p) (.int 0)) (mem g++T2 O ti a0 q (kn++[(.int p,.none)]) Rs ((W++[.tup [.int 1,cl 3 p]])++[.tup [.int 0,c2]]) γ)=
   .done .next (LT O ti (cl 3 p) (.int 0) l7 l8 l9 (.int 3) (.int p) (.int 0)) (mem g++T2 O ti a0 q (kn++[(.int p,.none)]) Rs (((W++[.tup [.int 1,cl 3 p]])++[.tup [.int 0,c2]])++[.tup [.int 0,c1]]) γ):=by
  refine gP<|cM (cP Z (cX Cg Y) (C (bM (C Z (C (bB (bV Z Z) (bZ Z Z Z) (mR h1)) ak))) ak) (Lb (by rw[bW,bW];show W.length+1+1<_;exact dq hw))) ?_;exact bU Z
 refine jf (bK (C (bZ (bJ Z Z (C Z ak) (vP S)) Z Z) (C Z (C Z ak))) Z rg) Z (cV Z (k1 .none) (cV Z k2 (dW Z))) (bU Z)
theorem Ku(S:aK Φ){c0 l6 l7 l8 l9 jC lY vD u w:U}{Rs:Th}{p:Nat}(hk:R9 kn)(IH:kn.length<90000)(hr:Rs.length<90000):
  aN T (Φ (d+2)) vF false (LT O ti c0 l6 l7 l8 l9 jC lY vD) (mem g++T2 O ti a0 q kn (Rs++[u,w]) (W++[.tup [.int 1,cl 3 p]]) γ)=
   .done .cont (LT O ti (cl 3 p) (.int 1) (.int 0) (.int Rs.length) (pH 0 [u,w]) jC lY vD) (mem g++T2 O ti a0 q (oM kn (.int p) (pH 0 [u,w])) (Rs++[pH 0 [u,w]]) W (γ++[.list [u,w]])):=by
 have ln:=dM (Fl (g:=g) (O:=O) (ti:=ti) (a0:=a0) (q:=q) (kn:=kn) (res:=Rs++[u,w]) (work:=W) (γ:=γ));rw[bW] at ln;have sl:=K5 (k:=Rs.length) (Fl (g:=g) (O:=O) (ti:=ti) (a0:=a0) (q:=q) (kn:=kn) (res:=Rs++[u,w]) (work:=W) (γ:=γ));rw[List.drop_left] at sl;have tu:=vQ (σ:=(mem g++T2 O ti a0 q kn (Rs++[u,w]) W γ)++[.list [u,w]]) bk;have sd:=lW (v:=pH 0 [u,w]) (mM (g:=g) (O:=O) (ti:=ti) (a0:=a0) (q:=q) (res:=Rs) (work:=W) (γ:=γ++[.list [u,w]])) (Az (k:=p) hk) (by unfold LL;exact bj IH (dl Z));rw[hZ] at sd;refine gP<|qp Z (cP Z (cX Cg Y) ak Le) Z ?_;refine aW (cz (p:=((1:Int))=1) Z)<|aH (bJ Z Z (C Z ak) (sg S)) ?_
 have sb:binop .sub (.int ((Rs.length+[u,w].length:Nat):Int)) (.int 2) (mem g++T2 O ti a0 q kn (Rs++[u,w]) W γ)= .ok (.int Rs.length) (mem g++T2 O ti a0 q kn (Rs++[u,w]) W γ):=by show Res.ok (U.int (((Rs.length+2:Nat):Int) - 2)) _=_;rw[show((Rs.length+2:Nat):Int) - 2=Rs.length by lia]
 refine aH (bZ (bK (C Z ak) Z ln) (bJ Z Z (C Z ak) (vP S)) sb)<|aH (v:=pH 0 [u,w]) (σ':=mem g++T2 O ti a0 q kn (Rs++[u,w]) W (γ++[.list [u,w]])) ((bM (C Z (C Z (C (bK (C (Mu Z Z Z sl) ak) Z tu) ak)))).trans (by rw[mN];rfl)) ?_;refine kX Z Z Fl ?_;rw[hY,List.take_left];refine fQ Z Z Z sd<|cM (cP Z (cX Fl Y) (C Z ak) (Fy (by exact bj hr (dl Z)))) ?_;exact Ue Z
abbrev tL(Φ:Nat->iC)(d:Nat)(n:Nat)(B:Loc)(σ:St):SR:=f9 (aV T (Φ (d+2)) false (.cmp .gt (Cb 0 [(J 5)]) (D 0))) (λB σ=>aN T (Φ (d+2)) vF false B σ) n B σ
theorem zb{Φ:iC}{c l6 l7 l8 l9 jC lY vD:U}:aV T Φ false (.cmp .gt (Cb 0 [(J 5)]) (D 0)) (LT O ti c l6 l7 l8 l9 jC lY vD) (mem g++T2 O ti a0 q kn res (W++[v]) γ)= .ok (.bool true) (mem g++T2 O ti a0 q kn res (W++[v]) γ):=
 aP (bK (C Z ak) Z (dM Cg)) Z (cz (by rw[bW];show((W.length+1:Nat):Int)>0;exact Je))
theorem Uw(S:aK Φ)(Bf:ti<O.length)(wD:tl.vG a0):∀(es:List El) (c:U) (b:Nat) (W Rs:Th) (kn:YR) (q:Bool) (γ:We) (c0 l6 l7 l8 l9 jC lY vD:U),oN g.hp tl b c es->(∀ e∈es,e.vG a0)->AN kn b->kn.length+2*es.length<50000->W.length+es.length<50000->Rs.length+es.length<50000->
  ∃(m:Nat) (q':Bool) (PK:YR) (cZ:We) (c1 m6 m7 m8 m9 wm wh we:U),m<=3*es.length+1/\R9 PK/\PK.length<=kn.length+2*es.length/\∀N,tL Φ d (N+m) (LT O ti c0 l6 l7 l8 l9 jC lY vD) (mem g++T2 O ti a0 q kn Rs (W++[.tup [.int 0,c]]) γ)=tL Φ d N (LT O ti c1 m6 m7 m8 m9 wm wh we) (mem g++T2 O ti a0 q' PK (Rs++[bQ tl.norm (es.map El.norm)]) W cZ):=by
 intro es
 induction es with
 |nil=>intro c b W Rs kn q γ c0 l6 l7 l8 l9 jC lY vD h hv hk h1 h2 h3;refine MJ (Dl (d:=d) (q:=q) (kn:=kn) (γ:=γ) (W:=W) (c0:=c0) (l6:=l6) (l7:=l7) (l8:=l8) (l9:=l9) (jC:=jC) (lY:=lY) (vD:=vD) S Bf h wD (bj h3 (dl Z))) λq' t1 c1 e=>?_;exact(ka 1 q' kn γ c1 (.int 0) l7 l8 l9 t1 lY vD (bR _) (λe m=>let⟨n,h,_⟩:=hk e m;⟨n,h⟩) (d9 _ _) (λN=>cJ zb e Z))
 |cons e es ih=>
  intro c b W Rs kn q γ c0 l6 l7 l8 l9 jC lY vD h hv hk h1 h2 h3;rw[dC] at h1 h2 h3;refine JB h λp c1 c2 hb hd g1 r1 g2 r2=>?_;have e1:=Rc (d:=d) (ti:=ti) (a0:=a0) (q:=q) (O:=O) (γ:=γ) (c0:=c0) (l6:=l6) (l7:=l7) (l8:=l8) (l9:=l9) (jC:=jC) (lY:=lY) (vD:=vD) (Rs:=Rs) S hd hb hk g1 g2 (ye (bj h2 (dl Z))) (ye (bj h1 (dl Z)));refine MJ (Dl (d:=d) (q:=q) (kn:=kn++[(.int p,.none)]) (γ:=γ) (W:=(W++[.tup [.int 1,cl 3 p]])++[.tup [.int 0,c2]]) (Rs:=Rs) (c0:=cl 3 p) (l6:=.int 0) (l7:=l7) (l8:=l8) (l9:=l9) (jC:=.int 3) (lY:=.int p) (vD:=.int 0) S Bf r1 (hv e eQ) (by exact ye (bj h3 (dl Z)))) λq1 t1 cc e2=>?_
  have lk:AN (kn++[(.int p,.none)]) (p+2):=λe m=>by
   rcases List.mem_append.mp m with m|m
   .refine bY (hk e m) λn h lt=>?_;exact(aZ n h (by exact DM (bj lt hb)))
   .cases m with
    |head=>exact(aZ p Z (by exact rI (d9 _ _)))
    |tail _ m=>cases m
  refine kF (ih c2 (p+2) (W++[.tup [.int 1,cl 3 p]]) (Rs++[e.norm.tm]) (kn++[(.int p,.none)]) q1 γ cc (.int 0) l7 l8 l9 t1 (.int p) (.int 0) r2 (λe m=>hv e (.tail _ m)) lk (by rw[bW];show kn.length+1+_<_;exact dq h1) (by rw[bW];show W.length+1+_<_;exact dq h2) (by rw[bW];show Rs.length+1+_<_;exact dq h3)) λm q' PK cZ cc' m6 m7 m8 m9 wm wh we hm ik wo e3=>?_;rw[bW] at wo;have wo:PK.length<=kn.length+1+2*es.length:=wo;have e4:=Ku (d:=d) (ti:=ti) (a0:=a0) (g:=g) (q:=q') (O:=O) (γ:=cZ) (c0:=cc') (l6:=m6) (l7:=m7) (l8:=m8) (l9:=m9) (jC:=wm) (lY:=wh) (vD:=we) (u:=e.norm.tm) (w:=bQ tl.norm (es.map El.norm)) (W:=W) (Rs:=Rs) (p:=p) S ik (by exact fH wo h1) (by exact ye (bj h3 (dl Z)));have dl:=JM (kn:=PK) (k:=.int p) (v:=pH 0 [e.norm.tm,bQ tl.norm (es.map El.norm)]);refine(ka (m+3) q' (oM PK (.int p) (pH 0 [e.norm.tm,bQ tl.norm (es.map El.norm)])) (cZ++[.list [e.norm.tm,bQ tl.norm (es.map El.norm)]]) (cl 3 p) (.int 1) (.int 0) (.int Rs.length) (pH 0 [e.norm.tm,bQ tl.norm (es.map El.norm)]) wm wh we (by rw[dC];exact dq hm) (Em ik) (by rw[dC];exact fH dl wo) (λN=>?_));have e3':=e3 (N+1);rw[bw (as:=Rs)] at e3';rw[show N+(m+3)=((N+1)+m)+1+1 by exact zA (LC) (LC)];refine cJ zb e1 (cJ zb e2 (e3'.trans ?_));exact lV zb e4 Z
variable{aO:List El}
theorem Oh(S:aK Φ){c:U}{b t:Nat}{v:Int}(Bf:O[ti]?=some (.dict []))(h:oN g.hp tl b c aO)(hD:gJ g.hp c (cl t v))(WW:t≠1)(wD:tl.vG a0)(hv:∀e∈aO,e.vG a0)(hn:aO.length<200):
  ∃q γ,Φ (d+3) false 53 [.ref 9,c,.ref (ti+16)] (mem g++O)= .ok (bQ tl.norm (aO.map El.norm)) (mem g++(O.set ti (.dict (tq a0 q))++γ)):=by
 have lt:=(zb6 Bf).1;have cu:=gJ.ne hD
 have hD2:gJ g.hp (cl t v) (cl t v):=by
  cases hD with
  |stop h1=>exact .stop h1
  |self h1=>exact .self h1
  |step h1 h2=>exact .stop h2
 have hR:oN g.hp tl b (cl t v) aO:=by
  have tr:∀{r:U},gJ g.hp c r->gJ g.hp (cl t v) r:=λ{r} hr=>by
   cases hD with
   |stop h1=>exact hr
   |self h1=>exact hr
   |step h1 h2=>
    cases hr with
    |self h'=>
     rw[h1] at h';have:=Option.some.inj h';injection this with q;injection q with q1 _;injection q1 with q1
     lia
    |step h' h2'=>rw[h1] at h';rw[<- Option.some.inj h'];exact .stop h2
    |stop h'=>exact absurd h' (by lia)
  cases aO with
  |nil=>exact tr h
  |cons e es=>refine uh h λp c1 c2 h1 h2 h3=>?_;exact(pq p c1 c2 h1 (tr h2) h3)
 refine kF (Uw (d:=d) S lt wD aO (cl t v) b [] [] [] false [] c .L .L .L .L .L .L .L hR hv (λe m=>by cases m) (by show 0+_<_;exact fH hn hn) (by show 0+_<_;exact dq hn) (by show 0+_<_;exact dq hn)) λm q' PK cZ cc m6 m7 m8 m9 wm wh we hm ik wo e=>?_;have bind:ou MR [.ref 9,c,.ref (ti+16)]=some [.ref 9,c,.ref (ti+16),.L,.L,.L,.L,.L,.L,.L,.L,.L,.L]:=rfl;have ec:∀{l3 l4 l5:U} {σ:St},aV T (Φ (d+2)) false (J 1) [.ref 9,c,.ref (ti+16),l3,l4,l5,.L,.L,.L,.L,.L,.L,.L] σ= .ok c σ:=λ{l3 l4 l5 σ}=>bG Z cu;have ts:O.set ti (.dict (tq a0 false))=O:=kE Bf;refine(eO q' (.dict PK::.list [bQ tl.norm (aO.map El.norm)]::.list []::cZ) (ru S Z bind ?_))
 refine aH (by
  show Res.ok (U.ref (mem g++O).length) ((mem g++O)++[.dict []])=_;rewrite[aX];rfl) ?_
 refine aH (σ':=mem g++(O++[.dict [],.list []])) ((cG ak).trans (by
  rewrite[aX,bw];show Res.ok (U.ref ((O++[AO.dict []]).length+16)) _=_;rw[bW];rfl)) ?_
 refine aH (σ':=mem g++T2 O ti a0 false [] [] ([]++[.tup [.int 0,cl t v]]) []) ((cG (C (bM (C Z (C (bJ Z Z (C ec ak) (GD S hD WW cu)) ak))) ak)).trans (by
  unfold T2;rewrite[aX,bw,ts];show Res.ok (U.ref ((O++[AO.dict [],AO.list []]).length+16)) _=_;rw[bW];rfl)) ?_
 refine fP (bx:=LT O ti cc m6 m7 m8 m9 wm wh we) (σ':=mem g++T2 O ti a0 q' PK ([]++[bQ tl.norm (aO.map El.norm)]) [] cZ) ?_ ?_
 .have e':=e (NN - 1 - m+1);rw[mC,Hs (by exact bO hm (show 3*aO.length+1<=999 from nU hn hn hn))] at e';refine e'.trans<|cU (aP (bK (C Z ak) Z (dM Cg)) Z (bN Y))
 .obtain⟨l',hl'⟩:=lD tl.norm (aO.map El.norm);refine aR (bB Z Z (fV Fl Z)) ?_
  rfl
abbrev Qr:List S:=eE Pc
abbrev f77:List S:=eE O'
abbrev QA:List S:=eE Pm
def Gs(c:U):Prop:=∃(t:Nat) (v:Int),c=cl t v
noncomputable def Dk:U:=.tup [.int 5,.int 0]
theorem Uc:fj 0 [.ref 13] (mem g++O)= .ok (.int g.xs.length) (mem g++O):=dM Z
theorem Y0{Φ:iC}(h:g.xs.length<1000):dj Φ hd .list (.ref 13) 0 [v] (mem g++O)= .ok .none (mem {g with xs:=g.xs++[v]}++O):=(jq Z (by unfold LL;exact bj h (dl Z))).trans Z
theorem Ub(hk:k<g.xs.length):rP (.ref 13) (.int k) v (mem g++O)=some (mem {g with xs:=g.xs.set k v}++O):=(yU Z hk).trans Z
theorem Vd(S:aK Φ){c:U}(hc:Gs c)(hx:g.xs.length<1000)(hk:k<=g.xs.length):Φ (d+1) false 76 [.ref 8,.int k,c] (mem g++O)= .ok .none (mem {g with xs:=if k<g.xs.length then g.xs.set k c else g.xs++[c]}++O):=by
 obtain⟨t,w,rfl⟩:=hc;refine ru S Z Z ?_
 have ends:∀(g:GS) (n:Nat),k<g.xs.length->f9 (aV T (Φ d) false (.cmp .le (Cb 0 [(.attr (J 0) 67)]) (J 1))) (λB σ=>aN T (Φ d) Qr false B σ) (n+1) [.ref 8,.int k,cl t w] (mem g++O)= .done .next [.ref 8,.int k,cl t w] (mem g++O):=λg n h=>
  cU (aP (bK (C (bV Z Z) ak) Z Uc) Z (bN (uY h)))
 by_cases h:k<g.xs.length
 .rw[bz h];refine fP (ends g 999 h)<|fQ Z (bV Z Z) Z (Ub h) (bU Z)
 .rw[bh h];have hk':k=g.xs.length:=by exact zA hk (iW h)
  have l2:k<({g with xs:=g.xs++[Dk]}:GS).xs.length:=by show k<(g.xs++[Dk]).length;rw[bW,hk'];show _<_+1;exact j9 _
  refine fP (cJ (aP (bK (C (bV Z Z) ak) Z Uc) Z (cz (xN (iW h)))) ?_ (ends _ 998 l2)) ?_
  .refine gP<|cM (cP (bV Z Z) Z (C Z ak) (Y0 hx)) (bU Z)
  .refine fQ Z (bV Z Z) Z (Ub l2) (bU ?_);rw[hk',mX _ _ (bR _),jy];rfl
theorem H9(S:aK Φ){c1 c2 u:U}(h1:Gs c1)(h2:Gs c2)(hi:O[i]?=some (.list [c1,c2]))(hx:g.xs=[u]\/∃a b,g.xs=[u,a,b]):Φ (d+2) false 77 [.ref 8,.ref (i+16)] (mem g++O)= .ok .none (mem {g with xs:=[u,c1,c2]}++O):=by
 refine ru S Z Z ?_;have it:∀(g:GS) (k:Nat),dJ (.ref (i+16)) k (mem g++O)=some [c1,c2][k]?:=λg k=>cD hi;obtain⟨t1,w1,rfl⟩:=h1;obtain⟨t2,w2,rfl⟩:=h2;refine aH Z ?_
 have turn:∀(g g':GS) (k:Nat) (t:Nat) (w:Int),g.xs.length<1000->k+1<=g.xs.length->g'={g with xs:=if k+1<g.xs.length then g.xs.set (k+1) (cl t w) else g.xs++[cl t w]}->aN T (Φ (d+1)) f77 false [.ref 8,.ref (i+16),.int k,cl t w] (mem g++O)= .done .next [.ref 8,.ref (i+16),.int ((k+1:Nat):Int),cl t w] (mem g'++O):=λg g' k t w hx hk e=>by subst e;refine gP<|uw Z Z Z ?_;exact cM (bJ Z Z (C Z (C Z ak)) (Vd S (eO t w Z) hx hk)) (bU Z)
 have key:∃g1:GS,g1={g with xs:=if 0+1<g.xs.length then g.xs.set (0+1) (cl t1 w1) else g.xs++[cl t1 w1]}/\({g with xs:=[u,cl t1 w1,cl t2 w2]}:GS)={g1 with xs:=if 1+1<g1.xs.length then g1.xs.set (1+1) (cl t2 w2) else g1.xs++[cl t2 w2]}/\g.xs.length<1000/\1<=g.xs.length/\g1.xs.length<1000/\2<=g1.xs.length:=by
  rcases hx with h|⟨a,b,h⟩
  .refine(A8 ({g with xs:=[u,cl t1 w1]}) (by rw[h];rfl) Z (by rw[h];show 1<1000;decide) (by rw[h];exact bR _) (by show 2<1000;decide) (bR _))
  .refine(A8 ({g with xs:=[u,cl t1 w1,b]}) (by rw[h];rfl) Z (by rw[h];show 3<1000;decide) (by rw[h];show 1<=3;decide) (by show 3<1000;decide) (by show 2<=3;decide))
 refine Kn key λg1 e1 e2 b1 b2 b3 b4=>?_;refine jf Z Z (cV (it _ _) (turn g g1 0 t1 w1 b1 b2 e1) (cV (it _ _) (turn g1 _ 1 t2 w2 b3 b4 e2) (dW (it _ _)))) (bU Z)
theorem yd(S:aK Φ){c:U}{t:Nat}{w:Int}(h:g.xs[k]?=some c)(hD:gJ g.hp c (cl t w))(ht:t≠1):Φ (d+3) hd 78 [.ref 8,.int k] (mem g++O)= .ok (cl t w) (mem g++O):=by refine ru S Z Z<|aR (bJ (bV Z Z) Z (C (bB (bV Z Z) Z (fV Z h)) ak) (GD S hD ht (gJ.ne hD))) Z
theorem wz(S:aK Φ){c:U}{b t:Nat}{v:Int}(h:oN g.hp tl b c aO)(hD:gJ g.hp c (cl t v))(WW:t≠1)(wD:tl.vG a0)(hv:∀e∈aO,e.vG a0)(hn:aO.length<200):
  ∃γ,Φ (d+4) false 80 [.ref 8,c] (mem g++O)= .ok (bQ tl.norm (aO.map El.norm)) (mem g++(O++γ)):=by
 refine mK (Oh (d:=d) (O:=O++[.dict []]) S bk h hD WW wD hv hn) λq γ e=>?_;have cu:=gJ.ne hD;refine⟨.dict (tq a0 q)::γ,ru S Z Z ?_⟩;have ec:∀{σ:St},aV T (Φ (d+3)) false (J 1) [.ref 8,c] σ= .ok c σ:=λ{σ}=>bG Z cu
 have dn:∀{B:Loc},aV T (Φ (d+3)) false .lN B (mem g++O)= .ok (.ref (O.length+16)) (mem g++(O++[.dict []])):=λ{B}=>by rw[aX];rfl
 refine aR (bJ (bV Z Z) Z (C ec (C dn ak)) ((?_:_=Res.ok (bQ tl.norm (aO.map El.norm)) (mem g++(O++.dict (tq a0 q)::γ))))) Z;refine e.trans ?_;rw[o5,bw];rfl
abbrev JI:List S:=eE (Lm.drop 2)
abbrev JE:List S:=eE (Lm.drop 6)
def El.con:El->Prop
 | .v _=>False
 |_=>True
noncomputable def T4:Nat->List El->List U
 |_,[]=>[]
 |p,e::es=>e.cell p::cl 3 ((p+2:Nat):Int)::T4 (p+2) es
theorem Py:∀(es:List El) (p:Nat),(T4 p es).length=2*es.length
 |[],_=>rfl
 |e::es,p=>by show(T4 (p+2) es).length+1+1=2*(es.length+1);rw[Py es];exact Z
theorem Px:∀(es:List El) (e:El) (p:Nat) {x:U},(∀ p,tl.cell p=x)->(T4 p (e::es)).set (2*es.length+1) x=J0 tl p (e::es)
 |[],e,p,x,hx=>by rw[G8,hx];rfl
 |e'::es,e,p,x,hx=>by rw[qb];rw[show 2*(es.length+1)+1=(2*es.length+1)+1+1 by exact Z,List.set_cons_succ,List.set_cons_succ,Px es e' (p+2) hx]
theorem El.oh{e:El}(h:e.con)(p:Nat):e.cell p=e.val/\∃(t:Nat) (v:Int),2<=t/\e.val=cl t v:=by
 cases e with
 |i n=>exact⟨Z,5,n,by decide,Z⟩
 |a n=>exact⟨Z,4,n,by decide,Z⟩
 |v n=>exact h.elim
variable{ds:List El}
theorem Eg(S:aK Φ)(hi:O[i]?=some (.list (ds.map El.val)))(hc:∀e∈ds,e.con)(hl:ds.length<900){l2 l3 l6 l7 l8:U}:∀(m k N:Nat) (x:U),k+m=ds.length->m<N->
  ∃x',forL (λB σ=>aN T (Φ (d+2)) JI false B σ) 5 (.ref (i+16)) N k [.ref 9,.ref (i+16),l2,l3,.ref (O.length+16),x,l6,l7,l8] (mem g++(O++[.list ((ds.map El.val).take k)]))=
   .done .next [.ref 9,.ref (i+16),l2,l3,.ref (O.length+16),x',l6,l7,l8] (mem g++(O++[.list (ds.map El.val)]))
 |0,k,N+1,x,h,hN=>by
  refine⟨x,(dW ?_).trans ?_⟩
  .rw[cD (rB hi),lL (by rw[dN];exact dh (Eq.symm h))]
  .rw[Hv (by rw[dN];exact dh (Eq.symm h))]
 |m+1,k,N+1,x,h,hN=>by
  have lt:k<ds.length:=by exact dq (dh h)
  have hk:(ds.map El.val)[k]?=some (ds[k].val):=by rw[fG,gM lt];rfl
  obtain⟨-,t,v,t2,hv⟩:=El.oh (hc _ (Dd lt)) 0;rw[hv] at hk;obtain⟨x',r⟩:=Eg S hi hc hl m (k+1) N (cl t v) (Eq.trans (mC _ _ _) h) (gw hN);refine⟨x',cV (by rw[cD (rB hi),hk]) (gP ?_) r⟩;have pu:=mG (Φ:=Φ (d+2)) (hd:=false) (σ:=mem g++O) (l:=(ds.map El.val).take k) (v:=cl t v) (by rw[yh];unfold LL;exact Nat.lt_trans (XU lt) (bj hl (dl Z)));rw[aX,aX] at pu;have tk:(ds.map El.val).take (k+1)=(ds.map El.val).take k++[cl t v]:=by rw[List.take_add_one,hk];rfl
  rw[tk];exact cM (cP Z (cX gb Y) (C (bJ Z Z (C Z ak) (GD S (.stop t2) (dX (dw t2)) (λq=>by cases q))) ak) pu) (bU Z)
theorem DW{Φ:iC}(hi:O[i]?=some (.list (ds.map El.val)))(hc:∀e∈ds,e.con){l1 l2 l3 l5 l6:U}:∀(rest:List El) (k N:Nat) (H:Th) (g:GS) (x:U),ds.drop k=rest->rest.length<N->g.hp=H++lZ H.length (2*rest.length)->
  ∃x',forL (λB σ=>aN T Φ JE false B σ) 8 (.ref (i+16)) N k [.ref 9,l1,l2,l3,.ref (i+16),l5,l6,.int H.length,x] (mem g++O)=
   .done .next [.ref 9,l1,l2,l3,.ref (i+16),l5,l6,.int ((H.length+2*rest.length:Nat):Int),x'] (mem {g with hp:=H++T4 H.length rest}++O)
 |[],k,N+1,H,g,x,h,hN,hg=>by
  refine⟨x,(dW ?_).trans ?_⟩
  .rw[cD hi,fG,show ds[k]?=([]:List El)[0]? by rw[<- h,iY,iu]];rfl
  .show _=SR.done .next _ (mem {g with hp:=H++[]}++O);rw[show H++[]=g.hp from hg.symm];rfl
 |e::rest,k,N+1,H,g,x,h,hN,hg=>by
  have he:=Ht (by rw[h];exact eQ);obtain⟨jM,t,v,t2,hv⟩:=El.oh (hc _ he) H.length
  have B0:g.hp=H++cl 0 H.length::cl 0 ((H.length+1:Nat):Int)::lZ (H.length+2) (2*rest.length):=by rw[hg,dC,show 2*(rest.length+1)=2*rest.length+1+1 by exact Z];rfl
  have hh:(H++[e.val,cl 3 ((H.length+2:Nat):Int)]).length=H.length+2:=by rw[bW];rfl
  obtain⟨x',r⟩:=DW hi hc rest (k+1) N (H++[e.val,cl 3 ((H.length+2:Nat):Int)]) {g with hp:=(H++[e.val,cl 3 ((H.length+2:Nat):Int)])++lZ (H.length+2) (2*rest.length)} e.val (by rw[<- qX,h];rfl) (by simpa using hN) (by rw[hh]);rw[hh] at r;have s1:=uZ (O:=O) (v:=e.val) (by rw[B0,bW,dC];exact F3 (jz _ _));have s2:=uZ (g:={g with hp:=g.hp.set H.length e.val}) (O:=O) (v:=cl 3 ((H.length+2:Nat):Int)) (by rw[fB,B0,bW,dC,dC];exact rI (vL (d9 _ _)))
  have hf:(g.hp.set H.length e.val).set (H.length+1) (cl 3 ((H.length+2:Nat):Int))=(H++[e.val,cl 3 ((H.length+2:Nat):Int)])++lZ (H.length+2) (2*rest.length):=by rw[B0,mX _ _ (bR _),jy];rw[K6,bw];rfl
  refine⟨x',cV (x:=e.val) ?_ (gP ?_) (r.trans ?_)⟩
  .rw[cD hi,fG,show ds[k]?=(e::rest)[0]? by rw[<- h,iY,iu]];rfl
  .rw[<- hf];have l8:∀{σ:St},aV T Φ false (J 8) [.ref 9,l1,l2,l3,.ref (i+16),l5,l6,.int H.length,e.val] σ= .ok e.val σ:=λ{σ}=>by rw[hv];rfl
   refine fQ l8 (bV Z Z) Z s1<|fQ Z (bV Z Z) (bZ Z Z Z) s2 ?_;exact uw Z Z Z (bU Z)
  .rw[dC,show H.length+2*(rest.length+1)=H.length+2+2*rest.length by exact Eq.trans (Nat.add_left_comm _ _ _) (rF _ _)];show _=SR.done .next _ (mem {g with hp:=H++(e.cell H.length::cl 3 ((H.length+2:Nat):Int)::T4 (H.length+2) rest)}++O);have ha:(H++[e.val,cl 3 ((H.length+2:Nat):Int)])++T4 (H.length+2) rest=H++(e.val::cl 3 ((H.length+2:Nat):Int)::T4 (H.length+2) rest):=by rw[bw];rfl
   rw[jM,<-ha]
theorem Yg(S:aK Φ){e:El}(hi:O[i]?=some (.list ((e::ds).map El.val)))(hc:∀x∈e::ds,x.con)(hl:ds.length<300)(hh:g.hp.length+2*ds.length<=20000):
  ∃γ,Φ (d+3) false 50 [.ref 9,.ref (i+16)] (mem g++O)= .ok (cl 3 g.hp.length) (mem {g with hp:=g.hp++J0 (.a 0) g.hp.length (e::ds)}++(O++γ)):=by
 obtain⟨x',r1⟩:=Eg S hi hc (by rw[dC];exact oR (bj hl (dl Z))) (ds.length+1) 0 NN .L (by rw[dC];exact rF _ _) (by unfold NN;exact oR (bj hl (dl Z)));have ln:=dM (σ:=mem g++(O++[.list ((e::ds).map El.val)])) gb;rw[dN,dC] at ln;have rs:=z6 (d:=d+1) (hd:=false) (O:=O++[.list ((e::ds).map El.val)]) (n:=2*(ds.length+1)) S (oW (oR (dD hh (dm Z)))) (fH hl hl);obtain⟨x'',r2⟩:=DW (Φ:=Φ (d+2)) (O:=O++[.list ((e::ds).map El.val)]) bk hc (l1:=.ref (i+16)) (l2:=.none) (l3:=cl 4 0) (l5:=x') (l6:=.int g.hp.length) (e::ds) 0 NN g.hp {g with hp:=g.hp++lZ g.hp.length (2*(ds.length+1))} .L Z (by rw[dC];unfold NN;exact oR (bj hl (dl Z))) (by rw[dC]);refine⟨[.list ((e::ds).map El.val)],ru S Z Z ?_⟩;refine aW Z<|aH Z ?_;refine aH ((cG ak).trans (by rw[aX];rfl))<|jf Z Z r1 ?_;refine aL (aP (bK (C Z ak) Z ln) Z (bN (Int.ne_of_gt Je))) ?_
 have rs':Φ (d+2) false 41 [.ref 9,.int (2*((ds.length+1:Nat):Int))] (mem g++(O++[.list ((e::ds).map El.val)]))= .ok (.int g.hp.length) (mem {g with hp:=g.hp++lZ g.hp.length (2*(ds.length+1))}++(O++[.list ((e::ds).map El.val)])):=by rw[<- rs,Int.natCast_mul];rfl
 have si:smallInt ((ds.length+1:Nat):Int)=true:=eG (by lia) (nG (xN (oW hl)) Y);generalize ID:((ds.length+1:Nat):Int)=n1 at si rs' ln;have ml:=qF (σ:=mem g++(O++[.list ((e::ds).map El.val)])) (x:=2) (by rw[si];rfl);refine aH (bJ Z Z (C (bZ Z (bK (C Z ak) Z ln) ml) ak) rs')<|aH Z ?_;refine jf Z Z r2 ?_
 have sb:∀{B:Loc} {σ:St},B[7]?=some (.int ((g.hp.length+2*(e::ds).length:Nat):Int))->aV T (Φ (d+2)) false (.bin .sub (J 7) (D 1)) B σ= .ok (.int ((g.hp.length+(2*ds.length+1):Nat):Int)) σ:=λ{B σ} h=>by have l7:aV T (Φ (d+2)) false (J 7) B σ= .ok (.int ((g.hp.length+2*(e::ds).length:Nat):Int)) σ:=bG h (λq=>nomatch q);refine bZ l7 Z ?_;show Res.ok (U.int (((g.hp.length+2*(ds.length+1):Nat):Int) - 1)) σ=_;rw[show((g.hp.length+2*(ds.length+1):Nat):Int) - 1=((g.hp.length+(2*ds.length+1):Nat):Int) by lia]
 have ll:=Py (e::ds) g.hp.length;rw[dC] at ll;have st:=uZ (g:={g with hp:=g.hp++T4 g.hp.length (e::ds)}) (O:=O++[.list ((e::ds).map El.val)]) (k:=g.hp.length+(2*ds.length+1)) (v:=cl 4 0) (by show _<(g.hp++T4 g.hp.length (e::ds)).length;rw[bW,ll];exact j9 _);refine fQ (v:=cl 4 0) Z (bV (g:={g with hp:=g.hp++T4 g.hp.length (e::ds)}) Z Z) (sb Z) st<|aR (v:=cl 3 g.hp.length) Z ?_;show Res.ok _ (mem {g with hp:=(g.hp++T4 g.hp.length (e::ds)).set (g.hp.length+(2*ds.length+1)) (cl 4 0)}++_)=_;rw[mX _ _ (by exact d9 _ _),jz,Px (tl:=.a 0) ds e g.hp.length (x:=cl 4 0) (λ_=>rfl)]
variable{o₁ Io:AO}{s:za6}
theorem de:(mem g++(O++o₁::Io::γ))[O.length+1+16]?=some Io:=by show(O++o₁::Io::γ)[O.length+1]?=_;rw[iz (d9 _ _),jz];rfl
theorem Ee:(mem g++(O++o₁::γ)).set (O.length+16) o=mem g++(O++o::γ):=by show mem g++((O++o₁::γ).set O.length o)=_;rw[o5]
theorem MB:(mem g++(O++o₁::Io::γ)).set (O.length+1+16) o=mem g++(O++o₁::o::γ):=by show mem g++((O++o₁::Io::γ).set (O.length+1) o)=_;rw[mX _ _ (d9 _ _),jz];rfl
theorem Ft{Φ:iC}(h:σ[i]?=some (.set s))(hl:s.length<1000)(hn:s.contains (k:Int)=false):dj Φ hd .set (.ref i) 3 [.int k] σ= .ok .none (σ.set i (.set (s++[(k:Int)]))):=by refine(Yw h).trans ((d7 (dF hl)).trans ?_);rw[hn];rfl
theorem O7(h:σ[i]?=some (.set s))(hn:s.contains (k:Int)=false):eX .kW (.int k) (.ref i) σ= .ok (.bool true) σ:=by exact xF (b:=false) h (by show some (s.contains (k:Int))=_;rw[hn])
def GV(s:za6)(b:Nat):Prop:=∀x∈s,x<b
theorem Pr{b:Nat}(h:GV s b)(hb:b<=k):s.contains (k:Int)=false:=by rw[Bool.eq_false_iff,ne_eq,zF];intro m;have:=h _ m;exact J4 (Z9 this) hb
theorem gJ.fun{c r r':U}(h:gJ hp c r)(h':gJ hp c r'):r=r':=by
 cases h with
 |stop h1=>
  cases h' with
  |stop _=>rfl
  |self _=>exact Z
  |step _ _=>exact J4 (rI h1) (dl Z)
 |self h1=>
  cases h' with
  |stop h2=>exact Z
  |self _=>rfl
  |step h2 h3=>
   rw[h1] at h2;have:=Option.some.inj h2;injection this with q;injection q with q1 _;injection q1 with q1
   lia
 |step h1 h2=>
  cases h' with
  |stop h3=>exact J4 (rI h3) (dl Z)
  |self h3=>
   rw[h3] at h1;have:=Option.some.inj h1;injection this with q;injection q with q1 _;injection q1 with q1
   lia
  |step h3 _=>rw[h3] at h1;exact(Option.some.inj h1).symm
theorem El.Ey(e:El):∃(t:Nat) (v:Int),e.val=cl t v/\t≠3/\t≠1/\t≠2:=by
 cases e with
 |i n=>exact(rA 5 n Z Y Y Y)
 |a n=>exact(rA 4 n Z Y Y Y)
 |v n=>exact(rA 0 n Z Y Y Y)
theorem Nh(S:aK Φ):∀(aO:List El) (c cd:U) (b N:Nat) (found:Th) (s:za6),oN g.hp tl b c aO->gJ g.hp c cd->GV s b->aO.length<N->s.length+aO.length<900->found.length+aO.length<900->
  ∃s',f9 (aV T (Φ (d+1)) false (.both true [(.cmp .eq (.idx (J 1) (D 0)) (D 3)),(.cmp .kW (.idx (J 1) (D 1)) (J 3))])) (λB σ=>aN T (Φ (d+1)) QA false B σ) N [.ref 9,cd,.ref (O.length+16),.ref (O.length+1+16)] (mem g++(O++[.list found,.set s]))=
   .done .next [.ref 9,tl.val,.ref (O.length+16),.ref (O.length+1+16)] (mem g++(O++[.list (found++aO.map El.val),.set s'])):=by
 intro aO
 induction aO with
 |nil=>intro c cd b N found s h hd hs hN h1 h2;have:cd=tl.val:=gJ.fun hd h;subst this;obtain⟨N,rfl⟩:=Js hN;obtain⟨t,v,e,ht, -, -⟩:=tl.Ey;refine⟨s,?_⟩;rw[vJ,dH,e];refine cU (aF (bF (bN (qI ht)) Z))
 |cons e aO ih=>
  intro c cd b N found s h hd hs hN h1 h2;rw[dC] at hN h1 h2;obtain⟨N,rfl⟩:=Js hN;refine JB h λp c1 c2 hb hd1 g1 r1 g2 r2=>?_;have:cd=cl 3 p:=gJ.fun hd hd1;subst this
  have dc2:∃KS,gJ g.hp c2 KS:=by
   cases aO with
   |nil=>exact⟨_,r2⟩
   |cons e' aO=>obtain⟨p',_,_,_,q,_⟩:=r2;exact⟨_,q⟩
  obtain⟨KS,hd2⟩:=dc2;have nt:=Pr hs hb
  obtain⟨s',r⟩:=ih c2 KS (p+2) N (found++[e.val]) (s++[(p:Int)]) r2 hd2 (λx m=>by
   rcases List.mem_append.mp m with m|m
   .have:=hs x m;exact nH this (xN (vn hb))
   .cases m with
    |head=>exact Bc (rI (d9 _ _))
    |tail _ m=>cases m) (gw hN) (by rw[bW];show s.length+1+_<_;exact dq h1) (by rw[bW];show found.length+1+_<_;exact dq h2)
  refine⟨s',cJ (aF (bA (cz Z) Z (aQ (aP Z Z (O7 de nt))))) (gP ?_) (r.trans (by rw[bw];rfl))⟩;have sa:=Ft (Φ:=Φ (d+1)) (hd:=false) (de (g:=g) (O:=O) (o₁:=.list found) (γ:=[])) (ye (bj h1 (dl Z))) nt;rw[MB] at sa;have pu:=jq (Φ:=Φ (d+1)) (hd:=false) (v:=e.val) (gb (g:=g) (O:=O) (γ:=[.set (s++[(p:Int)])])) (by unfold LL;exact ye (bj h2 (dl Z)));rw[Ee] at pu;refine cM (cP Z (Ml de) (C Z ak) sa)<|cM (cP Z (cX gb Y) (C (bJ Z Z (C (bB (bV Z Z) Z (mR g1)) ak) (iK S r1)) ak) pu) ?_;exact aH (bJ Z Z (C (bB (bV Z Z) (bZ Z Z Z) (mR g2)) ak) (iK S hd2)) (bU Z)
theorem Cr(S:aK Φ){c cd:U}{b:Nat}(h:oN g.hp tl b c aO)(hd:gJ g.hp c cd)(hn:aO.length<200):
  ∃γ,Φ (d+2) false 51 [.ref 9,c] (mem g++O)= .ok (.tup [.ref (O.length+16),tl.val]) (mem g++(O++.list (aO.map El.val)::γ)):=by
 obtain⟨s',r⟩:=Nh S aO c cd b NN [] [] h hd (λx m=>by cases m) (by unfold NN;exact bj hn (dl Z)) (by show 0+_<_;exact dq hn) (by show 0+_<_;exact dq hn);have cu:=gJ.ne hd;refine⟨[.set s'],ru S Z Z ?_⟩;have ec:∀{l2 l3:U} {σ:St},aV T (Φ (d+1)) false (J 1) [.ref 9,c,l2,l3] σ= .ok c σ:=λ{l2 l3 σ}=>bG Z cu
 refine aH ((cG ak).trans (by rewrite[aX];rfl))<|aH ((bK ak Z (by
  show Res.ok (U.ref (mem g++(O++[AO.list []])).length) ((mem g++(O++[AO.list []]))++[.set []])=Res.ok (U.ref (O.length+1+16)) (mem g++(O++[.list [],.set []]));rewrite[aX,bw];show Res.ok (U.ref ((O++[AO.list []]).length+16)) _=_;rw[bW];rfl))) ?_
 refine aH (bJ Z Z (C ec ak) (iK S hd))<|fP r ?_;obtain⟨t,v,e, -⟩:=tl.Ey;refine aR (bM (C Z (C ?_ ak))) Z;rw[e];rfl
noncomputable def gj:List Nat:=[110,117,109,98,101,114]
def uC:List Nat:=[108,105,115,116]
noncomputable def sX:List Nat:=[105,110,116,101,103,101,114]
noncomputable def jo:List Nat:=[99,104,97,114,97,99,116,101,114]
noncomputable def PN:List Nat:=[99,104,97,114,97,99,116,101,114,95,99,111,100,101]
noncomputable def uD:List Nat:=[97,116,111,109]
noncomputable def gV:List Nat:=[105,108,108,101,103,97,108,95,110,117,109,98,101,114]
def Cd(g:GS)(kind:Sa)(c:U):U:=pH (Cy g mQ 2) [vI (cO g.ts kind),c]
def EC(g:GS)(kind:Sa):U:=pH (Cy g uK 1) [vI (cO g.ts kind)]
def vT(g:GS)(kind:Sa):U:=pH (Cy g uy 1) [vI (cO g.ts kind)]
def rb(g:GS):U:=vI (cO g.ts jT)
def pZ(g:GS)(kind:Sa):Prop:=kind∈g.ts/\GC g mQ 2
def kx(g:GS)(kind:Sa):Prop:=kind∈g.ts/\GC g uK 1
def Xb(g:GS)(kind:Sa):Prop:=kind∈g.ts/\GC g uy 1
structure NB(g:GS):Prop where
 lt:g.ts.length<800
 lf:g.fs.length<800
noncomputable def eV(au:Bool)(ts:za0):El->Option Nat
 | .i n=>if au=true/\0<=n/\n<=1114111 then some n.toNat else none
 | .a k=>if au=true then none else match ts[k]? with
  |some [c]=>some c
  |_=>none
 | .v _=>none
def Jz(au:Bool)(g:GS)(e:El):U:=if au=true then(match e with
 | .i _=>EC g PN
 |e=>Cd g sX e.tm) else Cd g jo e.tm
def XN(au:Bool)(g:GS)(e:El):Prop:=if au=true then(match e with
 | .i _=>kx g PN
 |_=>pZ g sX) else pZ g jo
def El.mV(ts:za0):El->Prop
 | .a k=>k<ts.length
 |_=>True
variable{au:Bool}
theorem Dm(S:aK Φ){t:Sa}(h:g.ts[k]?=some t):Φ (d+2) hd 57 [.ref 8,cl 4 k] (mem g++O)= .ok (.str t) (mem g++O):=by refine ru S Z Z<|aR (bJ (bV Z Z) Z (C Z ak) (Fg S h)) Z
theorem El.sO{e:El}(h:e.con):e.norm=e:=by cases e<;>first|rfl|exact h.elim
theorem El.Uq(e:El):∃l,e.tm= .tup l:=by cases e<;>exact⟨_,Z⟩
theorem qi(S:aK Φ)(G:NB g){kind:Sa}(hk:pZ g kind){c t:U}(ht:∃l,t= .tup l)(h:∃γ,Φ (d+4) false 80 [.ref 8,c] (mem g++O)= .ok t (mem g++(O++γ)))(h0:B[0]?=some (.ref 8))(hj:B[j]?=some c)(hc:c≠.L):
  TP (aV T (Φ (d+4)) false (Cf 12 [(.attr (J 0) 34),(.lit (.str kind)),(.aG (J 0) 53 [(.B j)])]) B (mem g++O)) g O (bH (Cd g kind t)):=by
 obtain⟨γ,h⟩:=h;obtain⟨l,rfl⟩:=ht;have l0:∀{σ:St},aV T (Φ (d+4)) false (J 0) B σ= .ok (.ref 8) σ:=λ{σ}=>bG h0 (λq=>nomatch q);have lj:∀{σ:St},aV T (Φ (d+4)) false (.B j) B σ= .ok c σ:=λ{σ}=>bG hj hc;obtain⟨cZ,e⟩:=Ks S (by have:=G.lt;exact bj this (dl Z)) (by have:=G.lf;exact bj this (dl Z)) hk.1 hk.2;refine⟨γ++cZ,?_⟩;rw[aD (C (bV l0 Z) (C Z (C (bJ l0 Z (C lj ak) h) ak))) e,bw];rfl
theorem El.wQ(e:El):e.val≠.L:=by cases e<;>exact λh=>by cases h
theorem Oi(S:aK Φ){e:El}(h:e.con):∃γ,Φ (d+4) false 80 [.ref 8,e.val] (mem g++O)= .ok e.tm (mem g++(O++γ)):=by
 obtain⟨-,t,v,t2,hv⟩:=El.oh h 0;have AM:gJ g.hp e.val e.val:=by rw[hv];exact .stop t2
 have iv:e.vG 0:=by cases e<;>first|exact h.elim|trivial
 obtain⟨γ,q⟩:=wz (aO:=[]) (b:=0) S (show gX g.hp e.val e from AM) (by rw[hv];exact .stop t2) (dX (dw t2)) iv (λx m=>by cases m) (by show 0<200;decide);exact⟨γ,by rw[q];show Res.ok e.norm.tm _=_;rw[El.sO h]⟩
theorem Xy(S:aK Φ)(G:NB g){e:El}(h:e.con)(ha:e.mV g.ts)(hh:eV au g.ts e=none->XN au g e):
  match eV au g.ts e with
  |some c=>Φ (d+5) false 59 [.ref 8,e.val,.bool au] (mem g++O)= .ok (cStr c) (mem g++O)
  |none=>dG (Φ (d+5) false 59 [.ref 8,e.val,.bool au] (mem g++O)) g O (bH (Jz au g e)):=by
 have bind:∀{e:El},ou MQ [.ref 8,e.val,.bool au]=some [.ref 8,e.val,.bool au]:=rfl;have tk:=λkind (hk:pZ g kind)=>qi (d:=d) (O:=O) S G hk e.Uq (Oi S h) (B:=[.ref 8,e.val,.bool au]) (j:=1) Z Z e.wQ
 cases au with
 |true=>
  cases e with
  |v n=>exact h.elim
  |a n=>have hk:=hh Z;refine run S (λr=>dG r g O _) Z bind<|aW Z ?_;refine aW (jK Y)<|je Z (tk _ hk) λγ=>gQ (eO γ _ Z)
  |i n=>
   by_cases hb:0<=n/\n<=1114111
   .have et:eV true g.ts (.i n)=some n.toNat:=bz ⟨Z,hb⟩;rw[et];refine ru S Z bind<|aW Z ?_;refine aL (gR Z)<|aL (aF (bA (bN (Dc hb.1)) Z (aQ (bN (Dc hb.2))))) ?_;exact aR (bK (C Z ak) Z (Yb hb)) Z
   .have et:eV true g.ts (.i n)=none:=bh λq=>hb q.2;rw[et];have hk:=hh et;refine run S (λr=>dG r g O _) Z bind<|aW Z ?_;refine aL (gR Z) ?_
    have c1:aV T (Φ (d+4)) false (.both false [(.cmp .lt (.idx (J 1) (D 1)) (D 0)),(.cmp .gt (.idx (J 1) (D 1)) (D 1114111))]) [.ref 8,El.val (.i n),.bool true] (mem g++O)= .ok (.bool true) (mem g++O):=by
     by_cases h0:n<0
     .exact aF (bF (cz h0) Z)
     .exact aF (bA (bN h0) Z (aQ (cz (by lia))))
    refine aW c1<|je (aD (C (bV Z Z) (C Z ak)) Z) (K7 S (by have:=G.lt;exact bj this (dl Z)) (by have:=G.lf;exact bj this (dl Z)) hk.1 hk.2) λγ=>gQ (eO γ _ Z)
 |false=>
  cases e with
  |v n=>exact h.elim
  |i n=>
   have et:eV false g.ts (.i n)=none:=by show(if false=true/\0<=n/\n<=1114111 then some n.toNat else none)=none;exact bh λq=>absurd q.1 Y
   rw[et];have hk:=hh et;refine run S (λr=>dG r g O _) Z bind<|aL Z ?_;refine aW (aF (bF (jK Y) Z))<|je Z (tk _ hk) λγ=>gQ (eO γ _ Z)
  |a n=>
   obtain⟨t,ht⟩:∃t,g.ts[n]?=some t:=⟨_,gM ha⟩;have tx:=Dm (d:=d+2) (hd:=false) (O:=O) S ht
   by_cases h1:t.length=1
   .obtain⟨c,rfl⟩:∃c,t=[c]:=List.length_eq_one_iff.mp h1;have et:eV false g.ts (.a n)=some c:=by show(if false=true then none else match g.ts[n]? with|some [c]=>some c|_=>none)=_;rw[bh Y,ht]
    rw[et];refine ru S Z bind<|aL Z ?_;refine aL (aF (bA (gR Z) Z (aQ (aP (bK (C (aD (C Z (C Z ak)) tx) ak) Z Z) Z (gR Z)))))<|aR (aD (C Z (C Z ak)) tx) Z
   .have et:eV false g.ts (.a n)=none:=by
     show(if false=true then none else match g.ts[n]? with|some [c]=>some c|_=>none)=_;rw[bh Y,ht]
     cases t with
     |nil=>rfl
     |cons c t=>cases t with
      |nil=>exact absurd Z h1
      |cons _ _=>rfl
    rw[et];have hk:=hh et;refine run S (λr=>dG r g O _) Z bind<|aL Z ?_;refine aW (aF (bA (gR Z) Z (aQ (aP (bK (C (aD (C Z (C Z ak)) tx) ak) Z Z) Z (jK (qI h1))))))<|je Z (tk _ hk) λγ=>gQ (eO γ _ Z)
abbrev JA:List S:=eE (fR.drop 3)
abbrev eL:List S:=eE (fR.drop 6)
abbrev f58:List S:=eE Pf
noncomputable def mO(au:Bool)(ts:za0):List El->Sum El (List Nat)
 |[]=>.inr []
 | .v _::es=>mO au ts es
 |e::es=>match eV au ts e with
  |none=>.inl e
  |some c=>match mO au ts es with
   | .inl x=>.inl x
   | .inr l=>.inr (c::l)
noncomputable def El.fr:El->Bool
 | .v _=>true
 |_=>false
variable{τ:We}{known:Bool}
theorem gY(S:aK Φ)(e:El):Φ (d+1) hd 54 [e.val] σ= .ok (.bool e.fr) σ:=by
 cases e with
 |i n=>exact qM S
 |a n=>exact qM S
 |v n=>exact qM S
theorem Ra{Φ:iC}(h:aV T Φ hd e B σ= .ok v aC)(h1:nM hd v=true)(h3:forL (λB σ=>aN T Φ AD hd B σ) i v NN 0 B aC= .exc j bx σ')(h2:X Q (.exc j bx σ')):X Q (aN T Φ (.lG i e AD::A) hd B σ):=
 h2.of (Ia ((tok h).trans ((d7 h1).trans h3)))
theorem vq(S:aK Φ)(hi:(mem g++τ)[i]?=some (.list (aO.map El.val))){l0 l1 l2 l3 l4 l5 l8:U}:∀(rest:List El) (k N:Nat) (cm:Bool) (x:U),aO.drop k=rest->rest.length<N->
  ∃x',forL (λB σ=>aN T (Φ (d+1)) JA false B σ) 7 (.ref i) N k [l0,l1,l2,l3,l4,l5,.bool cm,x,l8] (mem g++τ)= .done .next [l0,l1,l2,l3,l4,l5,.bool (cm&&!(rest.any El.fr)),x',l8] (mem g++τ)
 |[],k,N+1,cm,x,h,hN=>by
  refine⟨x,(dW ?_).trans ?_⟩
  .rw[cD hi,fG,show aO[k]?=([]:List El)[0]? by rw[<- h,iY,iu]];rfl
  .show SR.done .next [l0,l1,l2,l3,l4,l5,.bool cm,x,l8] _=SR.done .next [l0,l1,l2,l3,l4,l5,.bool (cm&&true),x,l8] _;rw[Bool.and_true]
 |e::rest,k,N+1,cm,x,h,hN=>by
  have it:dJ (.ref i) k (mem g++τ)=some (some e.val):=by rw[cD hi,fG,show aO[k]?=(e::rest)[0]? by rw[<- h,iY,iu]];rfl
  have lv:∀{l6:U},aV T (Φ (d+1)) false (J 7) [l0,l1,l2,l3,l4,l5,l6,e.val,l8] (mem g++τ)= .ok e.val (mem g++τ):=λ{l6}=>by cases e<;>rfl
  cases hf:e.fr with
  |true=>
   obtain⟨x',r⟩:=vq S hi rest (k+1) N false e.val (by rw[<- qX,h];rfl) (by simpa using hN);refine⟨x',cV it (gP ?_) (r.trans ?_)⟩
   .refine aW (aD (C lv ak) ((gY S e).trans (by rw[hf])))<|aH Z (bU Z)
   .rw[rG,hf,Bool.true_or,Bool.not_true,Bool.and_false,Bool.false_and]
  |false=>
   obtain⟨x',r⟩:=vq S hi rest (k+1) N cm e.val (by rw[<- qX,h];rfl) (by simpa using hN);refine⟨x',cV it (gP ?_) (r.trans ?_)⟩
   .exact aL (aD (C lv ak) ((gY S e).trans (by rw[hf]))) (bU Z)
   .rw[rG,hf,Bool.false_or]
theorem vp(S:aK Φ)(G:NB g)(hi:τ[i]?=some (.list (aO.map El.val)))(ha:∀e∈aO,e.mV g.ts)(hl:aO.length<300){l1 l3 l4 l5 l6:U}:∀(rest:List El) (k N:Nat) (acc:Sa) (x:U),aO.drop k=rest->rest.length<N->acc.length+rest.length<1000->(∀ e,mO au g.ts rest= .inl e->XN au g e)->
  match mO au g.ts rest with
  | .inr l=>∃x',forL (λB σ=>aN T (Φ (d+5)) eL false B σ) 7 (.ref (i+16)) N k [.ref 8,l1,.bool au,l3,l4,l5,l6,x,.ref (τ.length+16)] (mem g++(τ++[.list (acc.map cStr)]))= .done .next [.ref 8,l1,.bool au,l3,l4,l5,l6,x',.ref (τ.length+16)] (mem g++(τ++[.list ((acc++l).map cStr)]))
  | .inl e=>∃bx γ,forL (λB σ=>aN T (Φ (d+5)) eL false B σ) 7 (.ref (i+16)) N k [.ref 8,l1,.bool au,l3,l4,l5,l6,x,.ref (τ.length+16)] (mem g++(τ++[.list (acc.map cStr)]))= .exc (mem g++(τ++γ)).length bx ((mem g++(τ++γ))++[.up 0 [(6,bH (Jz au g e))]])
 |[],k,N+1,acc,x,h,hN,hA,hE=>by refine⟨x,(dW ?_).trans (by rw[dH])⟩;rw[cD (rB hi),fG,show aO[k]?=([]:List El)[0]? by rw[<- h,iY,iu]];rfl
 |e::rest,k,N+1,acc,x,h,hN,hA,hE=>by
  rw[dC] at hN hA;have me:=Ht (by rw[h];exact eQ);have it:∀acc:List U,dJ (.ref (i+16)) k (mem g++(τ++[.list acc]))=some (some e.val):=λacc=>by rw[cD (rB hi),fG,show aO[k]?=(e::rest)[0]? by rw[<- h,iY,iu]];rfl
  have lv:∀{l6 l8:U} {σ:St},aV T (Φ (d+5)) false (J 7) [.ref 8,l1,.bool au,l3,l4,l5,l6,e.val,l8] σ= .ok e.val σ:=λ{l6 l8 σ}=>by cases e<;>rfl
  have hd:aO.drop (k+1)=rest:=by rw[<- qX,h];rfl
  cases hf:e.fr with
  |true=>
   obtain⟨n,rfl⟩:∃n,e= .v n:=by cases e<;>first|cases hf;done|exact⟨_,Z⟩
   have ec:mO au g.ts (.v n::rest)=mO au g.ts rest:=rfl;have ih:=vp S G hi ha hl (l1:=l1) (l3:=l3) (l4:=l4) (l5:=l5) (l6:=l6) rest (k+1) N acc (El.v n).val hd (gw hN) (oV (gw hA)) (λe q=>hE e (ec.trans q));rw[ec]
   have bd:aN T (Φ (d+5)) eL false [.ref 8,l1,.bool au,l3,l4,l5,l6,(El.v n).val,.ref (τ.length+16)] (mem g++(τ++[.list (acc.map cStr)]))= .done .next [.ref 8,l1,.bool au,l3,l4,l5,l6,(El.v n).val,.ref (τ.length+16)] (mem g++(τ++[.list (acc.map cStr)])):=by refine gP<|aL (cR (aD (C lv ak) (gY S (.v n)))) (bU Z)
   cases hc:mO au g.ts rest with
   |inr l=>rw[hc] at ih;obtain⟨x',r⟩:=ih;exact⟨x',cV (it _) bd r⟩
   |inl z=>rw[hc] at ih;refine mK ih λbx γ r=>?_;exact(eO bx γ (cV (it _) bd r))
  |false=>
   have con:e.con:=by cases e<;>first|cases hf;done|trivial
   have ec:mO au g.ts (e::rest)=match eV au g.ts e with
    |none=>.inl e
    |some c=>match mO au g.ts rest with
     | .inl x=>.inl x
     | .inr l=>.inr (c::l):=by cases e<;>first|cases hf;done|rfl
   have et:=Xy (d:=d) (O:=τ++[.list (acc.map cStr)]) S G con (ha e me) (λq=>hE e (by rw[ec,q]))
   have xB:aV T (Φ (d+5)) false (.not (Cf 54 [J 7])) [.ref 8,l1,.bool au,l3,l4,l5,l6,e.val,.ref (τ.length+16)] (mem g++(τ++[.list (acc.map cStr)]))= .ok (.bool true) (mem g++(τ++[.list (acc.map cStr)])):=
    (cR (aD (C lv ak) (gY S e))).trans (by rw[hf];rfl)
   cases ht:eV au g.ts e with
   |none=>
    rw[ht] at et;rw[ec,ht];obtain⟨γ,q⟩:=et;have B0:=cX (k:=0) (gb (g:=g) (O:=τ) (o:=.list (acc.map cStr)) (γ:=[])) Y;refine(eO ([.ref 8,l1,.bool au,l3,l4,l5,l6,e.val,.ref (τ.length+16)]) ([AO.list (acc.map cStr)]++γ) (eD (it _) (gP ?_)));refine aW xB ?_
    have ex:aV T (Φ (d+5)) false (.aG (J 8) 0 [(Cf 59 [(J 0),(J 7),(J 2)])]) [.ref 8,l1,.bool au,l3,l4,l5,l6,e.val,.ref (τ.length+16)] (mem g++(τ++[.list (acc.map cStr)]))= .exc (mem g++((τ++[AO.list (acc.map cStr)])++γ)).length ((mem g++((τ++[AO.list (acc.map cStr)])++γ))++[.up 0 [(6,bH (Jz au g e))]]):=by refine(rD Z).trans ((rY B0).trans ?_);rw[xU,aD (C Z (C lv (C Z ak))) q];rfl
    rw[bw] at ex;exact zJ ex bk Z
   |some c=>
    rw[ht] at et;have ih:=vp S G hi ha hl (l1:=l1) (l3:=l3) (l4:=l4) (l5:=l5) (l6:=l6) rest (k+1) N (acc++[c]) e.val hd (gw hN) (by rw[bW];show acc.length+1+_<_;exact dq hA) (λe q=>hE e (by rw[ec,ht,q]));have pu:=mG (Φ:=Φ (d+5)) (hd:=false) (σ:=mem g++τ) (l:=acc.map cStr) (v:=cStr c) (by rw[dN];unfold LL;exact ye (bj hA (dl Z)));rw[aX,aX,show acc.map cStr++[cStr c]=(acc++[c]).map cStr by rw[oO];rfl] at pu
    have bd:aN T (Φ (d+5)) eL false [.ref 8,l1,.bool au,l3,l4,l5,l6,e.val,.ref (τ.length+16)] (mem g++(τ++[.list (acc.map cStr)]))= .done .next [.ref 8,l1,.bool au,l3,l4,l5,l6,e.val,.ref (τ.length+16)] (mem g++(τ++[.list ((acc++[c]).map cStr)])):=by refine gP<|aW xB ?_;exact cM (cP Z (cX gb Y) (C (aD (C Z (C lv (C Z ak))) et) ak) pu) (bU Z)
    rw[ec,ht]
    cases hc:mO au g.ts rest with
    |inr l=>rw[hc] at ih;obtain⟨x',r⟩:=ih;rw[bw] at r;exact⟨x',cV (it _) bd r⟩
    |inl z=>rw[hc] at ih;refine mK ih λbx γ r=>?_;exact(eO bx γ (cV (it _) bd r))
inductive xi where
 |err (F:U)
 |text (t:Sa)
 |part
noncomputable def dO:El->Bool
 | .i _=>true
 | .a k=>!decide (k=0)
 | .v _=>false
def dZ(tl:El)(aO:List El):Bool:=tl.fr||aO.any El.fr
def dR(au known:Bool)(g:GS)(tl:El)(aO:List El)(CE:U):xi:=
 if dO tl=true then .err (Cd g uC CE)
 else if dZ tl aO=true/\known=false then .err (rb g)
 else match mO au g.ts aO with
  | .inl e=>.err (Jz au g e)
  | .inr l=>if dZ tl aO=true then .part else .text l
structure uI(au known:Bool)(g:GS)(tl:El)(aO:List El):Prop where
 tail:dO tl=true->pZ g uC
 inst:dO tl=false->dZ tl aO=true->known=false->jT∈g.ts
 el:dO tl=false->(dZ tl aO=true->known=true)->∀e,mO au g.ts aO= .inl e->XN au g e
def QW(o:xi)(r:Res U)(g:GS)(O:We):Prop:=match o with
 | .err F=>dG r g O (bH F)
 | .text t=>∃γ,r= .ok (.str t) (mem g++(O++γ))
 | .part=>∃γ,r= .ok .none (mem g++(O++γ))
theorem Nf(t t':Nat)(v v':Int):eX .ne (cl t v) (cl t' v') σ= .ok (.bool (!(decide (t=t')&&decide (v=v')))) σ:=by
 have e:eX .ne (cl t v) (cl t' v') σ= .ok (.bool (!(decide ((t:Int)=t')&&(decide (v=v')&&true)))) σ:=rfl;rw[e,Bool.and_true]
 congr 4
 rw[qZ,fO,fO];exact Qa
theorem QB{e:El}{l:Sa}{w:za9}{v:Sum El (List Nat)}(ih:∀l,v= .inr l->l.length<=aO.length)(h:(match w with|none=>(.inl e:Sum El (List Nat))|some c=>match (generalizing:=false) v with| .inl x=>.inl x| .inr l=>.inr (c::l))= .inr l):l.length<=aO.length+1:=by
 cases w with
 |none=>cases h
 |some c=>
  cases v with
  |inl x=>cases h
  |inr l'=>cases h;exact vL (ih l' Z)
variable{ts:za0}
theorem zq:∀{aO:List El} {l:Sa},mO au ts aO= .inr l->l.length<=aO.length:=by
 intro aO
 induction aO with
 |nil=>intro l h;cases h;exact bR _
 |cons e aO ih=>
  intro l h
  cases e with
  |v n=>exact oU (ih h)
  |i n=>exact QB (λl q=>ih q) h
  |a n=>exact QB (λl q=>ih q) h
theorem KQ(S:aK Φ)(G:NB g){c:U}{bb t:Nat}{v:Int}(h:oN g.hp tl bb c aO)(hD:gJ g.hp c (cl t v))(WW:t≠1)(hv:dO tl=true->tl.vG a0/\∀e∈aO,e.vG a0)(ha:∀e∈aO,e.mV g.ts)(hn:aO.length<150)(H:uI au known g tl aO):
  QW (dR au known g tl aO (bQ tl.norm (aO.map El.norm))) (Φ (d+6) false 60 [.ref 8,c,.bool au,.bool known] (mem g++O)) g O:=by
 have cu:=gJ.ne hD;obtain⟨γ,lc⟩:=Cr (d:=d+3) (O:=O) S h hD (bj hn (dl Z));have bind:ou MO [.ref 8,c,.bool au,.bool known]=some [.ref 8,c,.bool au,.bool known,.L,.L,.L,.L,.L]:=rfl;have ec:∀{l4 l5:U} {σ:St},aV T (Φ (d+5)) false (J 1) [.ref 8,c,.bool au,.bool known,l4,l5,.L,.L,.L] σ= .ok c σ:=λ{l4 l5 σ}=>bG Z cu;refine oK tl.Ey λtt tv rq t3 t1 t2=>?_;have et:∀{l6 l7 l8:U} {σ:St},aV T (Φ (d+5)) false (J 5) [.ref 8,c,.bool au,.bool known,.ref (O.length+16),tl.val,l6,l7,l8] σ= .ok tl.val σ:=λ{l6 l7 l8 σ}=>by cases tl<;>rfl
 generalize Qc:(O++.list (aO.map El.val)::γ)=τ at lc;have By:τ[O.length]?=some (.list (aO.map El.val)):=by rw[<- Qc];exact bk
 have front:∀{Q:za1},X Q (aN T (Φ (d+5)) (fR.drop 1) false [.ref 8,c,.bool au,.bool known,.ref (O.length+16),tl.val,.L,.L,.L] (mem g++τ))->X Q (aN T (Φ (d+5)) fR false [.ref 8,c,.bool au,.bool known,.L,.L,.L,.L,.L] (mem g++O)):=λH=>
  qp Z (bJ (bV Z Z) Z (C ec ak) lc) Z H
 have RO:∀{r:Res U} {vz:U},dG r g τ vz->dG r g O vz:=λ{r vz} q=>by rw[<- Qc] at q;exact q.out
 unfold dR
 cases hb:dO tl with
 |true=>
  rw[bz Z];have hk:=H.tail hb
  have c1:aV T (Φ (d+5)) false (.both true [(.not (Cf 54 [(J 5)])),(.cmp .ne (J 5) (.tup [(D 4),(D 0)]))]) [.ref 8,c,.bool au,.bool known,.ref (O.length+16),tl.val,.L,.L,.L] (mem g++τ)= .ok (.bool true) (mem g++τ):=by
   have nf:tl.fr=false:=by cases tl<;>first|rfl|cases hb
   refine aF (bA ((cR (aD (C et ak) (gY S tl))).trans (by rw[nf];rfl)) Z (aQ (aP et Z ?_)))
   cases tl with
   |v n=>cases hb
   |i n=>exact(Nf 5 4 n 0).trans (by rw[dY Y];rfl)
   |a n=>
    have:n≠0:=by intro q;subst q;cases hb
    exact(Nf 4 4 n 0).trans (by rw[dF Z,dY (qI this)];rfl)
  refine RO (run S (λr=>dG r g τ _) Z bind (front ?_));refine aW c1<|je Z (qi S G hk (lD _ _) (wz S h hD WW (hv hb).1 (hv hb).2 (bj hn (dl Z))) Z Z cu) λγ=>gQ (eO γ _ Z)
 |false=>
  rw[bh Y]
  have c1:aV T (Φ (d+5)) false (.both true [(.not (Cf 54 [(J 5)])),(.cmp .ne (J 5) (.tup [(D 4),(D 0)]))]) [.ref 8,c,.bool au,.bool known,.ref (O.length+16),tl.val,.L,.L,.L] (mem g++τ)= .ok (.bool false) (mem g++τ):=by
   cases tl with
   |i n=>cases hb
   |v n=>exact aF (bF ((cR (aD (C et ak) (gY S (.v n)))).trans Z) Z)
   |a n=>
    have:n=0:=by have:(!decide (n=0))=false:=hb;rw[Bool.not_eq_false',fO] at this;exact this
    subst this;exact aF (bA ((cR (aD (C et ak) (gY S (.a 0)))).trans Z) Z (aQ (aP et Z (Nf 4 4 0 0))))
  obtain⟨x',bl⟩:=vq (i:=O.length+16) S By aO 0 NN (!tl.fr) .L Z (by unfold NN;exact bj hn (dl Z));have cm:(!tl.fr&&!(aO.any El.fr))=!dZ tl aO:=by unfold dZ;rw[Bool.not_or]
  rw[cm] at bl
  have lR:∀{Q:za1},X Q (aN T (Φ (d+5)) (fR.drop 4) false [.ref 8,c,.bool au,.bool known,.ref (O.length+16),tl.val,.bool (!dZ tl aO),x',.L] (mem g++τ))->X Q (aN T (Φ (d+5)) fR false [.ref 8,c,.bool au,.bool known,.L,.L,.L,.L,.L] (mem g++O)):=λH=>by refine front<|aL c1 ?_;refine aH (cR (aD (C et ak) (gY S tl)))<|jf Z Z bl H
  by_cases hL:dZ tl aO=true/\known=false
  .rw[bz hL];have hk:=H.inst hb hL.1 hL.2;refine RO (run S (λr=>dG r g τ _) Z bind (lR ?_));refine aW (aF (bA ((cR Z).trans (by rw[hL.1];rfl)) Z (aQ ((cR Z).trans (by rw[hL.2];rfl)))))<|je (aD (C (bV Z Z) ak) Z) (Ba S (by have:=G.lt;exact bj this (dl Z)) hk) λγ=>gQ (eO γ _ Z)
  .rw[bh hL]
   have c2:aV T (Φ (d+5)) false (.both true [(.not (J 6)),(.not (J 3))]) [.ref 8,c,.bool au,.bool known,.ref (O.length+16),tl.val,.bool (!dZ tl aO),x',.L] (mem g++τ)= .ok (.bool false) (mem g++τ):=by
    cases hl:dZ tl aO with
    |false=>exact aF (bF Z Z)
    |true=>
     cases hk:known with
     |true=>exact aF (bA Z Z (aQ Z))
     |false=>exact absurd ⟨hl,hk⟩ hL
   have pA:∀{Q:za1},X Q (aN T (Φ (d+5)) (fR.drop 6) false [.ref 8,c,.bool au,.bool known,.ref (O.length+16),tl.val,.bool (!dZ tl aO),x',.ref (τ.length+16)] (mem g++(τ++[.list []])))->X Q (aN T (Φ (d+5)) fR false [.ref 8,c,.bool au,.bool known,.L,.L,.L,.L,.L] (mem g++O)):=λH=>by refine lR<|aL c2 ?_;exact aH ((cG ak).trans (by rw[aX];rfl)) H
   have cl:=vp (d:=d) (l1:=c) (l3:=.bool known) (l4:=.ref (O.length+16)) (l5:=tl.val) (l6:=.bool (!dZ tl aO)) S G By ha (bj hn (dl Z)) aO 0 NN [] x' Z (by unfold NN;exact bj hn (dl Z)) (by show 0+_<_;exact dq hn) (H.el hb (λq=>by cases hk:known with|true=>rfl|false=>exact absurd ⟨q,hk⟩ hL))
   cases hc:mO au g.ts aO with
   |inl e=>rw[hc] at cl;refine mK cl λbx cZ q=>?_;refine RO (run S (λr=>dG r g τ _) Z bind (pA ?_));exact Ra Z Z q (gQ (eO cZ _ Z))
   |inr l=>
    rw[hc] at cl;obtain⟨x'',q⟩:=cl;have ll:=zq hc;rw[mW] at q
    cases hl:dZ tl aO with
    |true=>rw[hl] at q;refine⟨.list (aO.map El.val)::(γ++[.list (l.map cStr)]),ru S Z bind (pA ?_)⟩;rw[hl];refine jf Z Z q<|aL Z ?_;refine aR Z ?_;rw[<- Qc,bw];rfl
    |false=>rw[hl] at q;have j:=Gn (Φ:=Φ (d+5)) (hd:=false) (σ:=mem g++(τ++[.list (l.map cStr)])) gb (strs_map l) (by rw[p6];unfold LL;exact lJ (bj (dD ll hn) (dl Z)));rw[p6] at j;refine⟨.list (aO.map El.val)::(γ++[.list (l.map cStr)]),ru S Z bind (pA ?_)⟩;rw[hl];refine jf Z Z q<|aW Z ?_;refine aR (cP Z Z (C Z ak) j) ?_;rw[<- Qc,bw];rfl
def fW(au:Bool)(ts:za0)(c:Nat):El:=if au=true then .i c else .a (cO ts [c])
theorem tH{c:Nat}:(fW au ts c).con:=by
 unfold fW
 split<;>trivial
theorem zT(S:aK Φ)(G:NB g){t:Sa}(hl:t.length<300)(ha:au=false->∀c∈t,[c]∈g.ts):∀(rest:Sa) (k N:Nat) (acc:Sa) (x:U),t.drop k=rest->rest.length<N->acc.length+rest.length<1000->
  ∃x',forL (λB σ=>aN T (Φ (d+1)) f58 false B σ) 4 (.str t) N k [.ref 8,.str t,.bool au,.ref (O.length+16),x] (mem g++(O++[.list ((acc.map (fW au g.ts)).map El.val)]))= .done .next [.ref 8,.str t,.bool au,.ref (O.length+16),x'] (mem g++(O++[.list (((acc++rest).map (fW au g.ts)).map El.val)]))
 |[],k,N+1,acc,x,h,hN,hA=>by refine⟨x,(dW ?_).trans (by rw[dH])⟩;show some (t[k]?.map λc=>U.str [c])=_;rw[show t[k]?=([]:Sa)[0]? by rw[<- h,iY,iu]];rfl
 |c::rest,k,N+1,acc,x,h,hN,hA=>by
  rw[dC] at hN hA;obtain⟨x',r⟩:=zT S G hl ha rest (k+1) N (acc++[c]) (.str [c]) (by rw[<- qX,h];rfl) (gw hN) (by rw[bW];show acc.length+1+_<_;exact dq hA);rw[bw] at r;have mc:=nQ h;have pu:=mG (Φ:=Φ (d+1)) (hd:=false) (σ:=mem g++O) (l:=(acc.map (fW au g.ts)).map El.val) (v:=(fW au g.ts c).val) (by rw[dN,dN];unfold LL;exact ye (bj hA (dl Z)));rw[aX,aX,show(acc.map (fW au g.ts)).map El.val++[(fW au g.ts c).val]=((acc++[c]).map (fW au g.ts)).map El.val by rw[oO,oO];rfl] at pu;refine⟨x',cV (x:=.str [c]) ?_ (gP ?_) r⟩
  .show some (t[k]?.map λc=>U.str [c])=_;rw[show t[k]?=(c::rest)[0]? by rw[<- h,iY,iu]];rfl
  .cases au with
   |true=>refine aW Z<|cM (cP Z (cX gb Y) (C (bM (C Z (C (bK (C Z ak) Z Z) ak))) ak) pu) (bU Z)
   |false=>refine aL Z<|cM (cP Z (cX gb Y) (C (bM (C Z (C (bJ (bV Z Z) Z (C Z ak) (wW S (ha Z c mc) (by have:=G.lt;exact bj this (dl Z)))) ak))) ak) pu) (bU Z)
theorem yI(S:aK Φ)(G:NB g){c:Nat}{t:Sa}(hl:t.length<200)(ha:au=false->∀z∈c::t,[z]∈g.ts)(hh:g.hp.length<=15000):
  ∃γ,Φ (d+4) false 58 [.ref 8,.str (c::t),.bool au] (mem g++O)= .ok (cl 3 g.hp.length) (mem {g with hp:=g.hp++J0 (.a 0) g.hp.length ((c::t).map (fW au g.ts))}++(O++γ)):=by
 obtain⟨x',r⟩:=zT S G (by rw[dC];exact oR (bj hl (dl Z))) ha (c::t) 0 NN [] .L Z (by rw[dC];unfold NN;exact oR (bj hl (dl Z))) (by rw[dC];show 0+_<_;exact dq hl)
 obtain⟨γ,b⟩:=Yg (e:=fW au g.ts c) (ds:=t.map (fW au g.ts)) S bk (λx m=>by
  rcases zb5 m with rfl|m
  .exact tH
  .obtain⟨z,_,rfl⟩:=List.mem_map.mp m;exact tH) (by rw[dN];exact bj hl (dl Z)) (by rw[dN];exact nU hh hl hl)
 refine⟨[.list (((c::t).map (fW au g.ts)).map El.val)]++γ,ru S Z Z ?_⟩;rw[<- bw (as:=O)];refine aH (σ':=mem g++(O++[.list []])) ((cG ak).trans (by rw[aX];rfl)) ?_;refine jf Z Z r ?_;exact aR (bJ (bV Z Z) Z (C Z ak) b) Z
theorem Ha(S:aK Φ)(G:NB g){t:Sa}(hl:t.length<1000)(ha:t∈g.ts):Φ (d+2) false 55 [.ref 8,.str t] (mem g++O)= .ok (cl 4 (cO g.ts t)) (mem g++O):=by refine ru S Z Z<|aL (aP (bK (C Z ak) Z Z) (bV (bV Z Z) Z) (bN (Bb (lJ (bj hl (dl Z)))))) ?_;exact aR (bM (C Z (C (bJ (bV Z Z) Z (C Z ak) (wW S ha (by have:=G.lt;exact bj this (dl Z)))) ak))) Z
theorem JW(S:aK Φ)(G:NB g)(e:El)(hk:(∃ n,e= .i n)->pZ g uD):
  match e with
  | .i _=>dG (Φ (d+5) false 56 [.ref 8,e.val] (mem g++O)) g O (bH (Cd g uD e.tm))
  |_=>Φ (d+5) false 56 [.ref 8,e.val] (mem g++O)= .ok .none (mem g++O):=by
 cases e with
 |i n=>refine run S (λr=>dG r g O _) Z Z<|aW (aF (bA ((cR (aD (C Z ak) (gY S (.i n)))).trans Z) Z (aQ (jK Y)))) ?_;exact je Z (qi S G (hk ⟨n,Z⟩) (El.Uq (.i n)) (Oi S trivial) Z Z (El.wQ (.i n))) λγ=>gQ (eO γ _ Z)
 |a n=>refine ru S Z Z<|aL (aF (bA ((cR (aD (C Z ak) (gY S (.a n)))).trans Z) Z (aQ (gR Z)))) ?_;exact bU Z
 |v n=>refine ru S Z Z<|aL (aF (bF ((cR (aD (C Z ak) (gY S (.v n)))).trans Z) Z)) ?_;exact bU Z
abbrev D5:List S:=eE Pd
noncomputable def Rg(hp:Th):Nat->U->List El->Prop
 |_,c,[]=>c=cl 4 0
 |b,c,d::ds=>∃(q:Nat) (c2:U),b<=q/\c=cl 3 q/\d.con/\hp[q]?=some d.val/\hp[q+1]?=some c2/\Rg hp (q+2) c2 ds
theorem Rg.Gs{b:Nat}{c:U}(h:Rg hp b c ds):∃(t:Nat) (v:Int),c=cl t v/\3<=t:=by
 cases ds with
 |nil=>exact(dK 4 0 h Y)
 |cons d ds=>obtain⟨q,_,_,e,_⟩:=h;exact(dK 3 q e Y)
theorem Rg.set{a:Nat}:∀{ds:List El} {b:Nat} {c:U},Rg hp b c ds->a<b->Rg (hp.set a x) b c ds
 |[],_,_,h,_=>h
 |d::ds,b,c,⟨q,c2,h1,h2,h3,h4,h5,h6⟩,hb=>(Be q c2 h1 h2 h3 (by rw[jX (iV (bj hb h1))];exact h4) (by rw[jX (iV (oV (bj hb h1)))];exact h5) (h6.set (DM (bj hb h1))))
theorem Rg.rep:∀{ds:List El} {b:Nat} {c:U},Rg hp b c ds->oN hp (.a 0) b c ds
 |[],_,_,h=>by have h:=h;subst h;exact gJ.stop Y
 |d::ds,b,c,⟨q,c2,h1,h2,h3,h4,h5,h6⟩=>by subst h2;obtain⟨-,t,v,t2,hv⟩:=El.oh h3 0;exact(Gw q d.val c2 h1 (.stop Y) h4 (by show gJ hp d.val d.val;rw[hv];exact .stop t2) h5 h6.rep)
variable{c1 c2:U}{q:Nat}
theorem iA:fj 1 [.int 1,.int (-1),.int (-1)] σ= .ok (.yK 1 (-1) (-1)) σ:=rfl
theorem Du{o':AO}:(τ.set j o).set j o'=τ.set j o':=List.set_set ..
theorem Fz(S:aK Φ)(hj:τ[j]?=some (.list W))(hw:W.length<90000)(h1:g.hp[p]?=some c1)(h2:g.hp[p+1]?=some c2):Φ (d+2) false 67 [.ref 9,cl 3 p,.ref (j+16)] (mem g++τ)= .ok .none (mem g++τ.set j (.list ((W++[c2])++[c1]))):=by
 have lt:=(zb6 hj).1;have p1:dj (Φ (d+1)) false .list (.ref (j+16)) 0 [c2] (mem g++τ)= .ok .none (mem g++τ.set j (.list (W++[c2]))):=jq hj (by unfold LL;exact bj hw (dl Z));have rS:(τ.set j (.list (W++[c2])))[j]?=some (.list (W++[c2])):=iy lt
 have p2:dj (Φ (d+1)) false .list (.ref (j+16)) 0 [c1] (mem g++τ.set j (.list (W++[c2])))= .ok .none (mem g++τ.set j (.list ((W++[c2])++[c1]))):=by rw[jq (i:=j+16) rS (by rw[bW];show W.length+1<LL;unfold LL;exact oR (bj hw (dl Z))),mem_set,Du]
 refine ru S Z Z<|aH (bJ Z Z (C Z ak) (nF S)) ?_
 have k1:aN T (Φ (d+1)) (eE (K0.drop 1)) false [.ref 9,cl 3 p,.ref (j+16),.int p,.int 1] (mem g++τ)= .done .next [.ref 9,cl 3 p,.ref (j+16),.int p,.int 1] (mem g++τ.set j (.list (W++[c2]))):=by refine gP<|cM (cP Z (cX (show(mem g++τ)[j+16]?=some (.list W) from hj) Y) (C (bB (bV Z Z) (bZ Z Z Z) (mR h2)) ak) p1) (bU Z)
 have k2:aN T (Φ (d+1)) (eE (K0.drop 1)) false [.ref 9,cl 3 p,.ref (j+16),.int p,.int 0] (mem g++τ.set j (.list (W++[c2])))= .done .next [.ref 9,cl 3 p,.ref (j+16),.int p,.int 0] (mem g++τ.set j (.list ((W++[c2])++[c1]))):=by refine gP<|cM (cP Z (cX (show(mem g++τ.set j (.list (W++[c2])))[j+16]?=some (.list (W++[c2])) from rS) Y) (C (bB (bV Z Z) (bZ Z Z Z) (mR h1)) ak) p2) (bU Z)
 exact jf (bK (C (bZ (bJ Z Z (C Z ak) (vP S)) Z Z) (C Z (C Z ak))) Z iA) Z (cV Z k1 (cV Z k2 (dW Z))) (bU Z)
theorem Cm(S:aK Φ){d1 d2:U}(hj:τ[j]?=some (.list W))(hw:W.length<90000)(h1:g.hp[p]?=some c1)(h2:g.hp[p+1]?=some c2)(h3:g.hp[q]?=some d1)(h4:g.hp[q+1]?=some d2):Φ (d+2) false 68 [.ref 9,cl 3 p,cl 3 q,.ref (j+16)] (mem g++τ)= .ok .none (mem g++τ.set j (.list ((W++[.tup [c2,d2]])++[.tup [c1,d1]]))):=by
 have lt:=(zb6 hj).1;have p1:dj (Φ (d+1)) false .list (.ref (j+16)) 0 [.tup [c2,d2]] (mem g++τ)= .ok .none (mem g++τ.set j (.list (W++[.tup [c2,d2]]))):=jq hj (by unfold LL;exact bj hw (dl Z));have rS:(τ.set j (.list (W++[.tup [c2,d2]])))[j]?=some (.list (W++[.tup [c2,d2]])):=iy lt
 have p2:dj (Φ (d+1)) false .list (.ref (j+16)) 0 [.tup [c1,d1]] (mem g++τ.set j (.list (W++[.tup [c2,d2]])))= .ok .none (mem g++τ.set j (.list ((W++[.tup [c2,d2]])++[.tup [c1,d1]]))):=by rw[jq (i:=j+16) rS (by rw[bW];show W.length+1<LL;unfold LL;exact oR (bj hw (dl Z))),mem_set,Du]
 refine ru S Z Z<|aH (bJ Z Z (C Z ak) (nF S)) ?_;refine aH (bJ Z Z (C Z ak) (nF S)) ?_
 have k1:aN T (Φ (d+1)) (eE (KX.drop 2)) false [.ref 9,cl 3 p,cl 3 q,.ref (j+16),.int p,.int q,.int 1] (mem g++τ)= .done .next [.ref 9,cl 3 p,cl 3 q,.ref (j+16),.int p,.int q,.int 1] (mem g++τ.set j (.list (W++[.tup [c2,d2]]))):=by refine gP<|cM (cP Z (cX (show(mem g++τ)[j+16]?=some (.list W) from hj) Y) (C (bM (C (bB (bV Z Z) (bZ Z Z Z) (mR h2)) (C (bB (bV Z Z) (bZ Z Z Z) (mR h4)) ak))) ak) p1) (bU Z)
 have k2:aN T (Φ (d+1)) (eE (KX.drop 2)) false [.ref 9,cl 3 p,cl 3 q,.ref (j+16),.int p,.int q,.int 0] (mem g++τ.set j (.list (W++[.tup [c2,d2]])))= .done .next [.ref 9,cl 3 p,cl 3 q,.ref (j+16),.int p,.int q,.int 0] (mem g++τ.set j (.list ((W++[.tup [c2,d2]])++[.tup [c1,d1]]))):=by refine gP<|cM (cP Z (cX (show(mem g++τ.set j (.list (W++[.tup [c2,d2]])))[j+16]?=some (.list (W++[.tup [c2,d2]])) from rS) Y) (C (bM (C (bB (bV Z Z) (bZ Z Z Z) (mR h1)) (C (bB (bV Z Z) (bZ Z Z Z) (mR h3)) ak))) ak) p2) (bU Z)
 exact jf (bK (C (bZ (bJ Z Z (C Z ak) (vP S)) Z Z) (C Z (C Z ak))) Z iA) Z (cV Z k1 (cV Z k2 (dW Z))) (bU Z)
theorem VD(S:aK Φ):∀(ds:List El) (b N:Nat) (c x:U) (s:za6),Rg g.hp b c ds->GV s b->2*ds.length+1<N->s.length+ds.length<900->
  ∃x' s',f9 (aV T (Φ (d+2)) false (.cmp .gt (Cb 0 [(J 4)]) (D 0))) (λB σ=>aN T (Φ (d+2)) D5 false B σ) N [.ref 9,cl 0 w,x,.ref (O.length+16),.ref (O.length+1+16)] (mem g++(O++[.set s,.list [c]]))=
   .done .next [.ref 9,cl 0 w,x',.ref (O.length+16),.ref (O.length+1+16)] (mem g++(O++[.set s',.list []])):=by
 have stop:∀(x:U) (s:za6) (N:Nat),f9 (aV T (Φ (d+2)) false (.cmp .gt (Cb 0 [(J 4)]) (D 0))) (λB σ=>aN T (Φ (d+2)) D5 false B σ) (N+1) [.ref 9,cl 0 w,x,.ref (O.length+16),.ref (O.length+1+16)] (mem g++(O++[.set s,.list []]))= .done .next [.ref 9,cl 0 w,x,.ref (O.length+16),.ref (O.length+1+16)] (mem g++(O++[.set s,.list []])):=λx s N=>
  cU (aP (bK (C Z ak) Z (dM de)) Z (bN Y))
 have more:∀(x:U) (s:za6) (W:Th) (v:U),aV T (Φ (d+2)) false (.cmp .gt (Cb 0 [(J 4)]) (D 0)) [.ref 9,cl 0 w,x,.ref (O.length+16),.ref (O.length+1+16)] (mem g++(O++[.set s,.list (W++[v])]))= .ok (.bool true) (mem g++(O++[.set s,.list (W++[v])])):=λx s W v=>
  aP (bK (C Z ak) Z (dM de)) Z (cz (by rw[bW];show((W.length+1:Nat):Int)>0;exact Je))
 have pop:∀(s:za6) (W:Th) (v:U),dj (Φ (d+2)) false .list (.ref (O.length+1+16)) 1 [] (mem g++(O++[.set s,.list (W++[v])]))= .ok v (mem g++(O++[.set s,.list W])):=λs W v=>by rw[Lh de,MB]
 have con:∀(t:Nat) (u:Int) (x:U) (s:za6) (W:Th),4<=t->aN T (Φ (d+2)) D5 false [.ref 9,cl 0 w,x,.ref (O.length+16),.ref (O.length+1+16)] (mem g++(O++[.set s,.list (W++[cl t u])]))= .done .next [.ref 9,cl 0 w,cl t u,.ref (O.length+16),.ref (O.length+1+16)] (mem g++(O++[.set s,.list W])):=λt u x s W h4=>by refine gP<|aH (bJ Z Z (C (cP Z (cX de Y) ak (pop s W (cl t u))) ak) (iK S (.stop (BR h4)))) ?_;refine aL (aP Z Z ((uG t 0 u w).trans (by rw[dY (dX (dw (BR h4)))];rfl)))<|aL (aF (bF (bJ Z Z (C Z ak) ((vh S).trans (by rw[dY (dX (dw (iw h4))),dY (dX (dw h4))];rfl))) Z)) ?_;exact bU Z
 intro ds
 induction ds with
 |nil=>intro b N c x s h hs hN hl;have h:=h;subst h;obtain⟨N,rfl⟩:=eP hN;exact(eO (cl 4 0) s (cJ (more x s [] _) (con 4 0 x s [] Y) (stop _ _ _)))
 |cons e ds ih=>
  intro b N c x s h hs hN hl;rw[dC] at hN hl;refine Bt h λq c2 h1 h2 h3 h4 h5 h6=>?_;subst h2;obtain⟨N,rfl⟩:=kB hN
  refine mK (ih (q+2) N c2 e.val (s++[(q:Int)]) h6 (λy m=>by
   rcases List.mem_append.mp m with m|m
   .have:=hs y m;exact nH this (xN (vn h1))
   .cases m with
    |head=>exact Bc (rI (d9 _ _))
    |tail _ m=>cases m) (gw (gw hN)) (by rw[bW];show s.length+1+_<_;exact dq hl)) λx' s' r=>?_
  have nt:=Pr hs h1;have sa:=Ft (Φ:=Φ (d+2)) (hd:=false) (gb (g:=g) (O:=O) (γ:=[.list []])) (ye (bj hl (dl Z))) nt;rw[Ee] at sa;have pa:=Fz (d:=d) (τ:=O++[.set (s++[(q:Int)]),.list []]) (j:=O.length+1) S (by rw[iz (d9 _ _),jz];rfl) Y h4 h5;rw[show(O++[AO.set (s++[(q:Int)]),.list []]).set (O.length+1) (.list (([]++[c2])++[e.val]))=O++[.set (s++[(q:Int)]),.list (([]++[c2])++[e.val])] from by rw[mX _ _ (d9 _ _),jz];rfl] at pa
  have Au:aN T (Φ (d+2)) D5 false [.ref 9,cl 0 w,x,.ref (O.length+16),.ref (O.length+1+16)] (mem g++(O++[.set s,.list ([]++[cl 3 q])]))= .done .next [.ref 9,cl 0 w,cl 3 q,.ref (O.length+16),.ref (O.length+1+16)] (mem g++(O++[.set (s++[(q:Int)]),.list (([]++[c2])++[e.val])])):=by refine gP<|aH (bJ Z Z (C (cP Z (cX de Y) ak (pop s [] (cl 3 q))) ak) (iK S (.stop Y))) ?_;refine aL (aP Z Z ((uG 3 0 q w).trans Z))<|aW (aF (bA (bJ Z Z (C Z ak) (vh S)) Z (aQ (aP Z Z (O7 gb nt))))) ?_;refine cM (cP Z (Ml gb) (C Z ak) sa)<|cM (aD (C Z (C Z (C Z ak))) pa) (bU Z)
  obtain⟨-,t,v,t2,hv⟩:=El.oh h3 0
  have t4:4<=t:=by
   cases e with
   |i n=>injection hv with q1;injection q1 with q2 _;injection q2 with q2;lia
   |a n=>injection hv with q1;injection q1 with q2 _;injection q2 with q2;exact dh (yL q2)
   |v n=>exact h3.elim
  have cn:=con t v (cl 3 q) (s++[(q:Int)]) [c2] t4;rw[<- hv] at cn;exact(eO x' s' (cJ (more x s [] _) Au (cJ (more _ _ [c2] _) cn r)))
noncomputable def DU(O:We)(sp:Nat):AO:=.inst 5 [(59,.int sp),(60,.ref (O.length+1+16))]
def T3(O:We)(sp:Nat)(s:za6)(W:Th)(γ:We):List AO:=O++DU O sp::.set s::.list W::γ
variable{c:U}{b sp:Nat}{s':za6}
theorem RT(S:aK Φ)(H:(∃ (t:Nat) (u:Int),c=cl t u/\4<=t)\/(Rg g.hp b c ds/\ds.length<300)):∃γ,Φ (d+3) false 73 [.ref 9,cl 0 w,c] (mem g++O)= .ok (.bool false) (mem g++(O++γ)):=by
 have con:∀(t:Nat) (u:Int),c=cl t u->4<=t->∃γ,Φ (d+3) false 73 [.ref 9,cl 0 w,c] (mem g++O)= .ok (.bool false) (mem g++(O++γ)):=λt u e h4=>by
  subst e;refine⟨[],ru S Z Z ?_⟩;rw[dH];refine aH (bJ Z Z (C Z ak) (iK S (.stop (BR h4))))<|aL (aP Z Z ((uG t 0 u w).trans (by rw[dY (dX (dw (BR h4)))];rfl))) ?_
  have c1:aV T (Φ (d+2)) false (.both false [(.cmp .eq (.idx (J 1) (D 0)) (D 1)),(.not (.aG (J 0) 62 [(J 2)]))]) [.ref 9,cl 0 w,cl t u,.L,.L] (mem g++O)= .ok (.bool true) (mem g++O):=
   aF (bA (bN Y) Z (aQ ((cR (bJ Z Z (C Z ak) (vh S))).trans (by rw[dY (dX (dw (iw h4))),dY (dX (dw h4))];rfl))))
  refine aW c1<|aR Z Z
 rcases H with⟨t,u,e,h4⟩|⟨h,hl⟩
 .exact con t u e h4
 .cases ds with
  |nil=>exact con 4 0 h Y
  |cons e ds=>
   refine mK (VD (d:=d) (O:=O) (w:=w) S (e::ds) b NN c c [] h (λx m=>by cases m) (by rw[dC] at hl ⊢;unfold NN;exact fH hl hl) (by show 0+_<_;exact dq hl)) λx' s' r=>?_;refine Bt h λq c2 h1 h2 h3 h4 h5 h6=>?_;subst h2;refine⟨[.set s',.list []],ru S Z Z ?_⟩;refine aH (bJ Z Z (C Z ak) (iK S (.stop Y)))<|aL (aP Z Z ((uG 3 0 q w).trans Z)) ?_
   have c1:aV T (Φ (d+2)) false (.both false [(.cmp .eq (.idx (J 1) (D 0)) (D 1)),(.not (.aG (J 0) 62 [(J 2)]))]) [.ref 9,cl 0 w,cl 3 q,.L,.L] (mem g++O)= .ok (.bool false) (mem g++O):=
    aF (bA (bN Y) Z (aQ ((cR (bJ Z Z (C Z ak) (vh S))).trans Z)))
   refine aL c1<|aH ((bK ak Z (by
    show Res.ok (U.ref (mem g++O).length) ((mem g++O)++[.set []])=Res.ok (U.ref (O.length+16)) (mem g++(O++[.set []]));rewrite[aX];rfl))) ?_
   refine aH (σ':=mem g++(O++[.set [],.list [cl 3 q]])) ((cG (C Z ak)).trans (by
    rewrite[aX,bw];show Res.ok (U.ref ((O++[AO.set []]).length+16)) _=_;rw[bW];rfl)) ?_
   refine fP r<|aR Z Z
theorem Yk(S:aK Φ){t:Nat}{u:Int}(hc:c=cl t u)(hw:w<g.hp.length)(H:(∃ (t:Nat) (u:Int),c=cl t u/\4<=t)\/(Rg g.hp b c ds/\ds.length<300)):∃γ,Φ (d+4) false 72 [.ref 9,cl 0 w,c,.bool true] (mem g++O)= .ok (.bool true) (mem {g with hp:=g.hp.set w c}++(O++γ)):=by obtain⟨γ,oc⟩:=RT (d:=d) (O:=O) (w:=w) S H;subst hc;refine⟨γ,ru S Z Z ?_⟩;refine aL (aF (bA Z Z (aQ (aD (C Z (C Z (C Z ak))) oc))))<|cM (bJ Z Z (C Z (C Z ak)) (Tr S hw)) ?_;exact aR Z Z
theorem mE:(mem g++T3 O sp s W γ)[O.length+16]?=some (DU O sp):=dA
theorem mB:(mem g++T3 O sp s W γ)[O.length+1+16]?=some (.set s):=r8
theorem Ze:(mem g++T3 O sp s W γ)[O.length+2+16]?=some (.list W):=Xf
theorem yi:(mem g++T3 O sp s W γ).set (O.length+1+16) (.set s')=mem g++T3 O sp s' W γ:=congrArg (mem g++·) zd
theorem yb:(mem g++T3 O sp s W γ).set (O.length+2+16) (.list W')=mem g++T3 O sp s W' γ:=congrArg (mem g++·) o3
theorem mI:T3 O sp s W γ++τ=T3 O sp s W (γ++τ):=by unfold T3;rw[bw];rfl
theorem Lk(S:aK Φ):lA T (Φ (d+1)) false 5 [.ref 9] (mem g++O)= .ok (.ref (O.length+16)) (mem g++(O++[DU O (g.hp.length+1),.set []])):=by
 have YN:Φ (d+1) false 65 [.ref (O.length+16),.ref 9] (mem g++(O++[.inst 5 []]))= .ok .none (mem g++(O++[DU O (g.hp.length+1),.set []])):=by
  refine ru S Z Z ?_;have s1:=tU (n:=59) (v:=.int ((g.hp.length+1:Nat):Int)) (gb (g:=g) (O:=O) (o:=.inst 5 []) (γ:=[])) Z (by show 0<1000;decide);rw[Ee] at s1;refine jg (bZ (bK (C (bV Z Z) ak) Z Gz) Z Z) Z s1 ?_;have s2:=tU (n:=60) (v:=.ref (O.length+1+16)) (gb (g:=g) (O:=O) (o:=.inst 5 (oJ [] 59 (.int ((g.hp.length+1:Nat):Int)))) (γ:=[.set []])) Z (by show 1<1000;decide);rw[Ee] at s2
  refine jg (bK ak Z (by
   show Res.ok (U.ref (mem g++(O++[AO.inst 5 (oJ [] 59 (.int ((g.hp.length+1:Nat):Int)))])).length) ((mem g++(O++[AO.inst 5 (oJ [] 59 (.int ((g.hp.length+1:Nat):Int)))]))++[.set []])=Res.ok (U.ref (O.length+1+16)) (mem g++(O++[.inst 5 (oJ [] 59 (.int ((g.hp.length+1:Nat):Int))),.set []]));rewrite[aX,bw];show Res.ok (U.ref ((O++[AO.inst 5 (oJ [] 59 (.int ((g.hp.length+1:Nat):Int)))]).length+16)) _=_;rw[bW];rfl)) Z s2 ?_
  exact bU Z
 refine za Z ?_;rewrite[aX];exact YN
theorem ZW(S:aK Φ)(hp:p<=100000)(kg:sp<=200000)(hs:s.length<900)(hn:∀x∈s,x<(p:Int)*sp):Φ (d+1) false 66 [.ref (O.length+16),cl 3 p,cl 3 q] (mem g++T3 O sp s W γ)= .ok (.bool true) (mem g++T3 O sp (s++[((p*sp+q:Nat):Int)]) W γ):=by
 have nt:s.contains ((p*sp+q:Nat):Int)=false:=by
  rw[Bool.eq_false_iff,ne_eq,zF];intro m;have:=hn _ m;rw[CZ,Int.natCast_mul] at this
  lia
 have sa:=Ft (Φ:=Φ d) (hd:=false) (mB (g:=g) (O:=O) (sp:=sp) (W:=W) (γ:=γ)) (bj hs (dl Z)) nt;rw[yi] at sa
 have HC:eX .isIn (.int ((p*sp+q:Nat):Int)) (.ref (O.length+1+16)) (mem g++T3 O sp s W γ)= .ok (.bool false) (mem g++T3 O sp s W γ):=Jd mB (congrArg some nt)
 have ml:binop .mul (.int p) (.int sp) (mem g++T3 O sp s W γ)= .ok (.int ((p:Int)*sp)) (mem g++T3 O sp s W γ):=qF (by
  rw[eG (by lia) (nG (xN hp) Y),eG (by lia) (nG (xN kg) Y)];rfl)
 have a59:∀{B:Loc} {s:za6},B[0]?=some (.ref (O.length+16))->aV T (Φ d) false (.attr (J 0) 59) B (mem g++T3 O sp s W γ)= .ok (.int sp) (mem g++T3 O sp s W γ):=λ{B s} h=>wJ (bG h (λq=>nomatch q)) mE Z Z;have PG:∀{B:Loc} {s:za6},B[0]?=some (.ref (O.length+16))->aV T (Φ d) false (.attr (J 0) 60) B (mem g++T3 O sp s W γ)= .ok (.ref (O.length+1+16)) (mem g++T3 O sp s W γ):=λ{B s} h=>wJ (bG h (λq=>nomatch q)) mE Z Z
 refine ru S Z Z<|aH (v:=.int ((p*sp+q:Nat):Int)) (bZ (bZ Z (a59 Z) ml) Z (by
  show Res.ok (U.int ((p:Int)*sp+q)) _=_;rw[CZ,Int.natCast_mul])) ?_
 refine aL (aP Z (PG Z) HC)<|cM (cP (PG Z) (Ml mB) (C Z ak) sa) ?_;exact aR Z Z
theorem zU(S:aK Φ){u v:Int}{t:Nat}:Φ (d+1) false 69 [.ref 9,cl 3 u,cl t v] σ= .ok (.bool (decide (t=3))) σ:=by
 by_cases h:t=3
 .subst h;refine ru S Z Z<|aL (gR Z) ?_;refine aW (cz Z)<|aR Z Z
 .refine ru S Z Z<|aW (jK (by lia)) ?_;rw[dY h];exact aR Z Z
abbrev lh:List S:=eE Pe
variable{C1 C2 l6 l7:U}
noncomputable abbrev LU(O:We)(C1 C2 l6 l7:U):Loc:=[.ref 9,C1,C2,.bool true,.ref (O.length+16),.ref (O.length+2+16),l6,l7]
theorem p9{Φ:iC}:dj Φ hd .list (.ref (O.length+2+16)) 1 [] (mem g++T3 O sp s (W++[v]) γ)= .ok v (mem g++T3 O sp s W γ):=by rw[Lh Ze,yb]
theorem qu(S:aK Φ){t1 t2:Nat}{v1 v2:Int}{r1 r2:U}(h1:gJ g.hp c1 r1)(h2:gJ g.hp c2 r2)(e1:r1=cl t1 v1)(e2:r2=cl t2 v2)
  (H:X Q (aN T (Φ (d+4)) (lh.drop 3) false (LU O C1 C2 (cl t1 v1) (cl t2 v2)) (mem g++T3 O sp s W γ))):X Q (aN T (Φ (d+4)) lh false (LU O C1 C2 l6 l7) (mem g++T3 O sp s (W++[.tup [c1,c2]]) γ)):=by
 have u1:=gJ.ne h1;have u2:=gJ.ne h2;subst e1;subst e2;refine qp Z (cP Z (cX Ze Y) ak p9) Z<|aH (bJ Z Z (C (bG Z u1) ak) (iK S h1)) ?_;exact aH (bJ Z Z (C (bG Z u2) ak) (iK S h2)) H
theorem xd(S:aK Φ){t:Nat}{u:Int}(h1:gJ g.hp c1 (cl t u))(h2:gJ g.hp c2 (cl t u)):
  aN T (Φ (d+4)) lh false (LU O C1 C2 l6 l7) (mem g++T3 O sp s (W++[.tup [c1,c2]]) γ)= .done .cont (LU O C1 C2 (cl t u) (cl t u)) (mem g++T3 O sp s W γ):=by
 refine gP (qu S h1 h2 Z Z ?_);refine aW (aP Z Z ((uG t t u u).trans (by rw[dF Z,dF Z];rfl)))<|Ue Z
theorem xf(S:aK Φ){t:Nat}{u:Int}(h1:gJ g.hp c1 (cl 0 w))(h2:gJ g.hp c2 (cl t u))(ht:3<=t)(hw:w<g.hp.length)(H:(∃ (t':Nat) (u':Int),cl t u=cl t' u'/\4<=t')\/(Rg g.hp b (cl t u) ds/\ds.length<300)):
  ∃cZ,aN T (Φ (d+4)) lh false (LU O C1 C2 l6 l7) (mem g++T3 O sp s (W++[.tup [c1,c2]]) γ)= .done .next (LU O C1 C2 (cl 0 w) (cl t u)) (mem {g with hp:=g.hp.set w (cl t u)}++T3 O sp s W cZ):=by
 obtain⟨cZ,bc⟩:=Yk S Z hw H;rw[mI] at bc;refine⟨γ++cZ,gP (qu S h1 h2 Z Z ?_)⟩;refine aL (aP Z Z ((uG 0 t w u).trans (by rw[dY (iV (dw (BR ht)))];rfl)))<|aW (aD (C Z ak) (w7 S)) ?_;refine aL (aD (C Z ak) ((w7 S).trans (by rw[dY (dX (dw (BR ht))),dY (dX (dw (iw ht)))];rfl)))<|aL ((cR (aD (C Z (C Z (C Z (C Z ak)))) bc)).trans Z) ?_;exact bU Z
theorem yR(S:aK Φ){t t':Nat}{u u':Int}(h1:gJ g.hp c1 (cl t u))(h2:gJ g.hp c2 (cl t' u'))(ht:3<=t)(ht':3<=t')(qJ:¬(t=t'/\u=u'))(hs:t≠3\/t'≠3):
  aN T (Φ (d+4)) lh false (LU O C1 C2 l6 l7) (mem g++T3 O sp s (W++[.tup [c1,c2]]) γ)= .done (.ret (.bool false)) (LU O C1 C2 (cl t u) (cl t' u')) (mem g++T3 O sp s W γ):=by
 refine gP (qu S h1 h2 Z Z ?_)
 refine aL (aP Z Z ((uG t t' u u').trans (by
  congr 2
  rw[Bool.and_eq_false_iff,N5,N5]
  by_cases q:t=t'
  .exact .inr λq2=>qJ ⟨q,q2⟩
  .exact .inl q))) ?_
 refine aL (aD (C Z ak) ((w7 S).trans (by rw[dY (dX (dw (BR ht))),dY (dX (dw (iw ht)))];rfl)))<|aL (aD (C Z ak) ((w7 S).trans (by rw[dY (dX (dw (BR ht'))),dY (dX (dw (iw ht')))];rfl))) ?_
 have c0:aV T (Φ (d+4)) false (.both true [(.aG (J 0) 62 [(J 6)]),(Cf 69 [(J 0),(J 6),(J 7)])]) (LU O C1 C2 (cl t u) (cl t' u')) (mem g++T3 O sp s W γ)= .ok (.bool false) (mem g++T3 O sp s W γ):=by
  by_cases q:t=3
  .subst q;exact aF (bA (bJ Z Z (C Z ak) (vh S)) Z (aQ (aD (C Z (C Z (C Z ak))) ((zU S).trans (by rw[dY (hs.resolve_left (λw=>w Z))])))))
  .exact aF (bF (bJ Z Z (C Z ak) ((vh S).trans (by rw[dY (dX (dw ht)),dY q];rfl))) Z)
 refine aL c0<|aR Z Z
theorem Rd(S:aK Φ){d1 d2 x1 x2:U}(h1:gJ g.hp c1 (cl 3 p))(h2:gJ g.hp c2 (cl 3 q))(Zs:p≠q)(hp:p<=100000)(kg:sp<=200000)(hs:s.length<900)(hn:∀x∈s,x<(p:Int)*sp)(hW:W.length<1000)
  (g1:g.hp[p]?=some x1) (g2:g.hp[p+1]?=some x2) (g3:g.hp[q]?=some d1) (g4:g.hp[q+1]?=some d2):
  aN T (Φ (d+4)) lh false (LU O C1 C2 l6 l7) (mem g++T3 O sp s (W++[.tup [c1,c2]]) γ)= .done .next (LU O C1 C2 (cl 3 p) (cl 3 q)) (mem g++T3 O sp (s++[((p*sp+q:Nat):Int)]) ((W++[.tup [x2,d2]])++[.tup [x1,d1]]) γ):=by
 refine gP (qu S h1 h2 Z Z ?_);refine aL (aP Z Z ((uG 3 3 p q).trans (by rw[dY (show ¬((p:Int)=q) by exact qI Zs)];rfl)))<|aL (aD (C Z ak) (w7 S)) ?_;refine aL (aD (C Z ak) (w7 S))<|aW (aF (bA (bJ Z Z (C Z ak) (vh S)) Z (aQ (aD (C Z (C Z (C Z ak))) (zU S))))) ?_;have ad:=ZW (d:=d+3) (g:=g) (O:=O) (W:=W) (γ:=γ) (q:=q) S hp kg hs hn;have pp:=Cm (d:=d+2) (τ:=T3 O sp (s++[((p*sp+q:Nat):Int)]) W γ) S Xf (bj hW (dl Z)) g1 g2 g3 g4;rw[show(T3 O sp (s++[((p*sp+q:Nat):Int)]) W γ).set (O.length+2) (.list ((W++[.tup [x2,d2]])++[.tup [x1,d1]]))=T3 O sp (s++[((p*sp+q:Nat):Int)]) ((W++[.tup [x2,d2]])++[.tup [x1,d1]]) γ from o3] at pp
 have am:aV T (Φ (d+4)) false (.aG (J 4) 3 [(J 6),(J 7)]) (LU O C1 C2 (cl 3 p) (cl 3 q)) (mem g++T3 O sp s W γ)= .ok (.bool true) (mem g++T3 O sp (s++[((p*sp+q:Nat):Int)]) W γ):=
  GR Z mE Z Z Z (C Z (C Z ak)) ad
 refine aW am<|cM (aD (C Z (C Z (C Z (C Z ak)))) pp) (bU Z)
noncomputable def Lf(hp:Th)(tl:El)(vc:Nat):Nat->U->List El->Prop
 |lo,c,[]=>(match tl with
  | .v _=>∃a,lo<=a+1/\a<vc/\c=cl 0 a/\hp[a]?=some (cl 0 a)
  |e=>c=e.val)
 |lo,c,e::es=>∃(p:Nat) (c2:U),lo<=p/\p+2<=vc/\c=cl 3 p/\hp[p]?=some (e.cell p)/\hp[p+1]?=some c2/\Lf hp tl vc (p+2) c2 es
noncomputable def pC:El->El->Bool
 | .i a,.i b=>decide (a=b)
 | .a j,.a k=>decide (j=k)
 |_,_=>false
noncomputable def meets(tl:El):List El->List El->Bool
 |[],[]=>true
 |[],_::_=>tl.fr
 |_::_,[]=>false
 |e::es,d::ds=>(e.fr||pC e d)&&meets tl es ds
theorem jD{t t':Nat}{v v':Int}(h:cl t v=cl t' v'):t=t'/\v=v':=by injection h with h;injection h with h1 h2;injection h1 with h1;injection h2 with h2 _;injection h2 with h2;exact⟨by exact yL h1,h2⟩
variable{vc:Nat}
theorem Lf.set{a:Nat}:∀{es:List El} {lo:Nat} {c:U},Lf hp tl vc lo c es->a+1<lo->Lf (hp.set a x) tl vc lo c es
 |[],lo,c,h,ha=>by
  cases tl with
  |v n=>refine Bu h λw h1 h2 h3 h4=>?_;exact(WR w h1 h2 h3 (by rw[jX (iV (gw (bj ha h1)))];exact h4))
  |i n=>exact h
  |a n=>exact h
 |e::es,lo,c,⟨p,c2,h1,h2,h3,h4,h5,h6⟩,ha=>(Be p c2 h1 h2 h3 (by rw[jX (iV (ye (bj ha h1)))];exact h4) (by rw[jX (iV (bj (ye ha) (oU h1)))];exact h5) (h6.set (DM (bj ha h1))))
variable{lo:Nat}
theorem Lf.ne{es:List El}(h:Lf hp tl vc lo c es)(hj:j+1<lo):c≠cl 0 j:=by
 cases es with
 |nil=>
  cases tl with
  |v n=>
   refine Bu h λa h1 _ h3 _=>?_;intro q;have:=(jD (h3.symm.trans q)).2
   lia
  |i n=>intro q;exact absurd (jD ((show c=cl 5 n from h).symm.trans q)).1 Y
  |a n=>intro q;exact absurd (jD ((show c=cl 4 n from h).symm.trans q)).1 Y
 |cons e es=>refine oK h λp _ _ _ h3 _=>?_;intro q;exact absurd (jD (h3.symm.trans q)).1 Y
theorem gJ.tr{a:Nat}{R r:U}(h:hp[a]?=some R)(hd:gJ hp (cl 0 a) r)(hr:r≠cl 0 a):gJ hp R r:=by
 cases hd with
 |stop h1=>exact absurd h1 Y
 |self h1=>exact absurd Z hr
 |step h1 h2=>rw[h] at h1;rw[Option.some.inj h1];exact .stop h2
theorem oN.at{a:Nat}(h:oN hp (.a 0) b (cl 0 a) ds):∃R,hp[a]?=some R/\oN hp (.a 0) b R ds:=by
 have key:∀{r:U},gJ hp (cl 0 a) r->r≠cl 0 a->∃R,hp[a]?=some R:=λ{r} hd hr=>by
  cases hd with
  |stop h1=>exact absurd h1 Y
  |self h1=>exact⟨_,h1⟩
  |step h1 h2=>exact⟨_,h1⟩
 cases ds with
 |nil=>have h:=h;have hr:cl 4 0≠cl 0 a:=λq=>absurd (jD q).1 Y;obtain⟨R,hR⟩:=key h hr;exact(aZ R hR (gJ.tr hR h hr))
 |cons d ds=>refine uh h λp c1 c2 h1 h2 h3=>?_;have hr:cl 3 p≠cl 0 a:=λq=>absurd (jD q).1 Y;obtain⟨R,hR⟩:=key h2 hr;exact⟨R,hR,p,c1,c2,h1,gJ.tr hR h2 hr,h3⟩
theorem Rg.at{a:Nat}(h:Rg hp b c ds)(ha:hp[a]?=some c)(NA:lo<=b):oN hp (.a 0) lo (cl 0 a) ds:=by
 cases ds with
 |nil=>have h:=h;subst h;exact gJ.step ha Y
 |cons d ds=>
  have r:=h.rep;refine Bt h λq c2 h1 h2 h3 h4 h5 h6=>?_;refine uh r λp x1 x2 k1 k2 k3=>?_;subst h2;have:cl 3 p=cl 3 q:=gJ.fun k2 (.stop Y);have:=(jD this).2;have:p=q:=by exact yL this
  subst this;exact(pq p x1 x2 (bO NA h1) (.step ha Y) k3)
theorem wL{e d:El}(he:e.con)(hd:d.con):pC e d=true↔e.val=d.val:=by
 cases e with
 |v n=>exact he.elim
 |i n=>
  cases d with
  |v n=>exact hd.elim
  |i m=>show decide (n=m)=true↔cl 5 n=cl 5 m;rw[fO];exact⟨λh=>by rw[h],λh=>(jD h).2⟩
  |a m=>exact⟨λh=>(nomatch h),λh=>absurd (jD h).1 Y⟩
 |a n=>
  cases d with
  |v n=>exact hd.elim
  |i m=>exact⟨λh=>(nomatch h),λh=>absurd (jD h).1 Y⟩
  |a m=>show decide (n=m)=true↔cl 4 n=cl 4 m;rw[fO];exact⟨λh=>by rw[h],λh=>by have:=(jD h).2;exact yL this⟩
theorem t6{e:El}(h:e.con):∃(t:Nat) (v:Int),4<=t/\e.val=cl t v:=by
 cases e with
 |i n=>exact(dK 5 n Y Z)
 |a n=>exact(dK 4 n Y Z)
 |v n=>exact h.elim
variable{vc:Nat}
abbrev uL(Φ:Nat->iC)(d:Nat)(n:Nat)(B:Loc)(σ:St):SR:=f9 (aV T (Φ (d+4)) false (.cmp .gt (Cb 0 [(J 5)]) (D 0))) (λB σ=>aN T (Φ (d+4)) lh false B σ) n B σ
theorem pO{Φ:iC}:aV T Φ false (.cmp .gt (Cb 0 [(J 5)]) (D 0)) (LU O C1 C2 l6 l7) (mem g++T3 O sp s (W++[v]) γ)= .ok (.bool true) (mem g++T3 O sp s (W++[v]) γ):=
 aP (bK (C Z ak) Z (dM Ze)) Z (cz (by rw[bW];show((W.length+1:Nat):Int)>0;exact Je))
theorem Oc{Φ:iC}:aV T Φ false (.cmp .gt (Cb 0 [(J 5)]) (D 0)) (LU O C1 C2 l6 l7) (mem g++T3 O sp s [] γ)= .ok (.bool false) (mem g++T3 O sp s [] γ):=
 aP (bK (C Z ak) Z (dM Ze)) Z (bN Y)
def TG(b:Bool)(O:We)(sp lo vc:Nat)(c:U)(ds:List El)(C1 C2:U)(g:GS)(r:SR):Prop:=
 if b=true then ∃hp' s' cZ m6 m7,hp'.length=g.hp.length/\(∀ j,(j+1<=lo/\c≠cl 0 j)\/vc<=j->hp'[j]?=g.hp[j]?)/\oN hp' (.a 0) lo c ds/\r= .done .next (LU O C1 C2 m6 m7) (mem {g with hp:=hp'}++T3 O sp s' [] cZ)
 else ∃hp' bx NQ,hp'.length=g.hp.length/\r= .done (.ret (.bool false)) bx (mem {g with hp:=hp'}++(O++NQ))
theorem Ul(S:aK Φ)(wD:tl= .a 0\/tl.fr=true):∀(aO ds:List El) (lo b N:Nat) (c c' l6 l7:U) (s:za6) (g:GS) (γ:We),Lf g.hp tl vc lo c aO->Rg g.hp b c' ds->vc<=b->vc<=g.hp.length->g.hp.length+1=sp->sp<=100000->(∀ x∈s,x<(lo:Int)*sp)->2*aO.length+3<N->s.length+aO.length<800->ds.length<250->
  TG (meets tl aO ds) O sp lo vc c ds C1 C2 g (uL Φ d N (LU O C1 C2 l6 l7) (mem g++T3 O sp s ([]++[.tup [c,c']]) γ)):=by
 intro aO
 induction aO with
 |nil=>
  intro ds lo b N c c' l6 l7 s g γ hL hR hU c9 kg bX hs hN ko Ho;obtain⟨N,rfl⟩:=eP hN
  have Yj:∀w,lo<=w+1->w<vc->c=cl 0 w->g.hp[w]?=some (cl 0 w)->TG true O sp lo vc c ds C1 C2 g (uL Φ d (N+2) (LU O C1 C2 l6 l7) (mem g++T3 O sp s ([]++[.tup [c,c']]) γ)):=λw h1 h2 h3 h4=>by
   subst h3;refine gH hR.Gs λt u hc t3=>?_;subst hc;obtain⟨cZ,tb⟩:=xf S (.self h4) (.stop (iw t3):gJ g.hp (cl t u) (cl t u)) t3 (bj h2 c9) (.inr ⟨hR,by exact bj Ho (dl Z)⟩);refine(ri (g.hp.set w (cl t u)) s cZ (cl 0 w) (cl t u) (fB ..) (λj hj=>?_) ?_ (cJ pO tb (cU Oc)))
   .rw[jX]
    rcases hj with⟨hj,qJ⟩|hj
    .intro q;subst q;exact qJ Z
    .exact iV (bj h2 hj)
   .exact(hR.set (bj h2 hU)).at (by rw[iy (bj h2 c9)]) (nU h2 h1 hU)
  cases tl with
  |v n=>
   refine Bu hL λw h1 h2 h3 h4=>?_;have hm:meets (.v n) [] ds=true:=by cases ds<;>rfl
   rw[hm];exact Yj w h1 h2 h3 h4
  |i n=>rcases wD with h|h<;>cases h
  |a n=>
   have hn:n=0:=by
    rcases wD with h|h
    .injection h
    .cases h
   subst hn;have hc:=hL;subst hc
   cases ds with
   |nil=>have hc':=hR;subst hc';exact(ri g.hp s γ (cl 4 0) (cl 4 0) Z (λ_ _=>rfl) (.stop Y) (lV pO (xd S (.stop Y) (.stop Y)) (cU Oc)))
   |cons e ds=>refine Bt hR λq x2 h1 h2 h3 h4 h5 h6=>?_;subst h2;exact(yN g.hp _ _ Z (iQ pO (yR S (.stop Y) (.stop Y) Y Y (λh=>absurd h.1 Y) (.inl Y))))
 |cons e aO ih=>
  intro ds lo b N c c' l6 l7 s g γ hL hR hU c9 kg bX hs hN ko Ho;rw[dC] at hN ko;refine Bt hL λp c2 h1 h2 h3 h4 h5 h6=>?_;subst h3
  cases ds with
  |nil=>have hc':=hR;subst hc';obtain⟨N,rfl⟩:=Js hN;exact(yN g.hp _ _ Z (iQ pO (yR S (.stop Y) (.stop Y) Y Y (λh=>absurd h.1 Y) (.inr Y))))
  |cons e' ds=>
   rw[dC] at Ho;obtain⟨N,rfl⟩:=kB hN;refine Bt hR λq d2 k1 k2 k3 k4 k5 k6=>?_;subst k2;have G1:(lo:Int)*sp<=(p:Int)*sp:=Int.mul_le_mul_of_nonneg_right (xN h1) (rh);have ql:=(zb6 k4).1;have tL:=Rd (d:=d) (O:=O) (W:=[]) (γ:=γ) (C1:=C1) (C2:=C2) (l6:=l6) (l7:=l7) S (.stop Y:gJ g.hp (cl 3 p) (cl 3 p)) (.stop Y:gJ g.hp (cl 3 q) (cl 3 q)) (iV (nU k1 h2 hU)) (Wl h2 bX (dh kg) c9) (bO bX (dl Z)) (ye (bj ko (dl Z))) (λx m=>by have:=hs x m;exact nH this G1) Y h4 h5 k4 k5
   have Zl:∀x∈s++[((p*sp+q:Nat):Int)],x<((p+2:Nat):Int)*sp:=λx m=>by
    have e2:((p+2:Nat):Int)*sp=(p:Int)*sp+2*sp:=by rw[CZ,Int.add_mul];rfl
    rcases List.mem_append.mp m with m|m
    .have:=hs x m;lia
    .cases m with
     |head=>rw[CZ,Int.natCast_mul];lia
     |tail _ m=>cases m
   refine gH (t6 k3) λt' u' t4 hv'=>?_
   have rest:∀(Sv:Th) (jG:We) (m6 m7:U),Sv.length=g.hp.length->(Sv=g.hp\/∃z,Sv=g.hp.set p z)->Sv[p]?=some e'.val->meets tl (e::aO) (e'::ds)=meets tl aO ds->
     (∀ R,TG (meets tl aO ds) O sp (p+2) vc c2 ds C1 C2 {g with hp:=Sv} R->R=uL Φ d N (LU O C1 C2 m6 m7) (mem {g with hp:=Sv}++T3 O sp (s++[((p*sp+q:Nat):Int)]) ([]++[.tup [c2,d2]]) jG)->uL Φ d (N+2) (LU O C1 C2 l6 l7) (mem g++T3 O sp s ([]++[.tup [cl 3 p,cl 3 q]]) γ)=R)->
     TG (meets tl (e::aO) (e'::ds)) O sp lo vc (cl 3 p) (e'::ds) C1 C2 g (uL Φ d (N+2) (LU O C1 C2 l6 l7) (mem g++T3 O sp s ([]++[.tup [cl 3 p,cl 3 q]]) γ)):=λSv jG m6 m7 hlen Mg ZA hm hR=>by
    have same:∀j,j≠p->Sv[j]?=g.hp[j]?:=λj hj=>by
     rcases Mg with h|⟨z,h⟩
     .rw[h]
     .rw[h,jX (by lia)]
    have L1:Lf Sv tl vc (p+2) c2 aO:=by
     rcases Mg with h|⟨z,h⟩
     .rw[h];exact h6
     .rw[h];exact h6.set (j9 _)
    have R1:Rg Sv (q+2) d2 ds:=by
     rcases Mg with h|⟨z,h⟩
     .rw[h];exact k6
     .rw[h];exact k6.set (nU k1 h2 hU)
    have I:=ih ds (p+2) (q+2) N c2 d2 m6 m7 (s++[((p*sp+q:Nat):Int)]) {g with hp:=Sv} jG L1 R1 (vn (bO hU k1)) (by show vc<=Sv.length;exact fH (dh hlen.symm) c9) (by show Sv.length+1=sp;exact zA (fH (dh hlen) (dh kg)) (fH (dh hlen.symm) (dh kg.symm))) bX Zl (gw (gw hN)) (by rw[bW];show s.length+1+_<_;exact dq ko) (ye Ho);have hR':=hR _ I Z;rw[hR',hm]
    cases hb:meets tl aO ds with
    |false=>rw[hb] at I;refine eW I λhp' bx NQ i1 i2=>?_;exact(yN hp' bx NQ (by rw[i1];exact hlen) i2)
    |true=>
     rw[hb] at I;refine CU I λhp' s' cZ n6 n7 i1 i2 i3 i4=>?_;refine(ri hp' s' cZ n6 n7 (by rw[i1];exact hlen) (λj hj=>?_) ?_ i4)
     .have jp:j≠p:=by
       rcases hj with⟨hj,_⟩|hj<;>lia
      rw[<- same j jp];refine i2 j ?_
      rcases hj with⟨hj,_⟩|hj
      .exact .inl ⟨by exact vn (bO hj h1),L1.ne (rI (oU (bO hj h1)))⟩
      .exact .inr hj
     .have HU:∃x2,hp'[p+1]?=some x2/\oN hp' (.a 0) (p+2) x2 ds:=by
       by_cases q:c2=cl 0 ((p+1:Nat):Int)
       .rw[q] at i3;exact i3.at
       .refine(aZ c2 ?_ i3);rw[i2 (p+1) (.inl ⟨bR _,q⟩)];rw[same (p+1) (dX (j9 _))];exact h5
      refine bY HU λx2 y1 y2=>?_;refine(Gw p e'.val x2 h1 (.stop Y) ?_ ?_ y1 y2)
      .rw[i2 p (.inl ⟨by exact pI _,L1.ne (j9 _)⟩)];exact ZA
      .show gJ hp' e'.val e'.val;rw[hv'];exact .stop (BR t4)
   have C7:e.con->TG (meets tl (e::aO) (e'::ds)) O sp lo vc (cl 3 p) (e'::ds) C1 C2 g (uL Φ d (N+2) (LU O C1 C2 l6 l7) (mem g++T3 O sp s ([]++[.tup [cl 3 p,cl 3 q]]) γ)):=λW8=>by
    refine gH (t6 W8) λt u t5 hv=>?_;have jM:=(El.oh W8 p).1;rw[jM] at h4 tL;have D1:gJ g.hp e.val (cl t u):=by rw[hv];exact .stop (BR t5)
    have D2:gJ g.hp e'.val (cl t' u'):=by rw[hv'];exact .stop (BR t4)
    by_cases q2:pC e e'=true
    .have ev:=(wL W8 k3).mp q2;have D3:gJ g.hp e'.val (cl t u):=by rw[<- ev];exact D1
     have tS:=xd (d:=d) (O:=O) (sp:=sp) (s:=s++[((p*sp+q:Nat):Int)]) (W:=[]++[.tup [c2,d2]]) (γ:=γ) (C1:=C1) (C2:=C2) (l6:=cl 3 p) (l7:=cl 3 q) S D1 D3;refine rest g.hp γ (cl t u) (cl t u) Z (.inl Z) (by rw[h4,ev]) (by show((e.fr||pC e e')&&_)=_;rw[q2,Bool.or_true,yg]) λR _ hR=>?_;rw[hR];exact cJ pO tL (lV pO tS Z)
    .have fr:e.fr=false:=by cases e<;>first|rfl|exact W8.elim
     have hm:meets tl (e::aO) (e'::ds)=false:=by show((e.fr||pC e e')&&_)=_;rw[fr,Bool.eq_false_iff.mpr q2];rfl
     rw[hm];have tN:=yR (d:=d) (O:=O) (sp:=sp) (s:=s++[((p*sp+q:Nat):Int)]) (W:=[]++[.tup [c2,d2]]) (γ:=γ) (C1:=C1) (C2:=C2) (l6:=cl 3 p) (l7:=cl 3 q) S D1 D2 (by exact iw t5) (by exact iw t4) (λh=>q2 ((wL W8 k3).mpr (by rw[hv,hv',h.1,h.2]))) (.inl (by exact dX (dw t5)));exact(yN g.hp _ _ Z (cJ pO tL (iQ pO tN)))
   cases e with
   |v n=>have h4:=h4;have tB:=xf (d:=d) (O:=O) (sp:=sp) (s:=s++[((p*sp+q:Nat):Int)]) (W:=[]++[.tup [c2,d2]]) (γ:=γ) (C1:=C1) (C2:=C2) (l6:=cl 3 p) (l7:=cl 3 q) (b:=0) (ds:=[]) S (.self h4) (.stop (by exact BR t4):gJ g.hp (cl t' u') (cl t' u')) (by exact iw t4) (by exact dw (iw (bO h2 c9))) (.inl (dK t' u' Z t4));obtain⟨cZ,tB⟩:=tB;rw[<- hv'] at tB;refine rest (g.hp.set p e'.val) cZ (cl 0 p) e'.val (fB ..) (.inr ⟨_,Z⟩) (by rw[iy (by exact dw (iw (bO h2 c9)))]) Z λR _ hR=>?_;rw[hR];exact cJ pO tL (cJ pO tB Z)
   |i n=>exact C7 trivial
   |a n=>exact C7 trivial
variable{c':U}{e e':El}
theorem pN(S:aK Φ)(h1:c≠.L)(h2:c'≠.L){P:Res U->Prop}(H:(∃ m6 m7 τ,uL Φ d NN (LU O c c' .L .L) (mem g++T3 O (g.hp.length+1) [] ([]++[.tup [c,c']]) [])= .done .next (LU O c c' m6 m7) τ/\P (.ok (.bool true) τ))\/
   (∃ v bx τ,uL Φ d NN (LU O c c' .L .L) (mem g++T3 O (g.hp.length+1) [] ([]++[.tup [c,c']]) [])= .done (.ret v) bx τ/\P (.ok v τ))):P (Φ (d+5) false 71 [.ref 9,c,c',.bool true] (mem g++O)):=by
 refine run S P Z Z<|aH (xT (C Z ak) (Lk S)) ?_
 refine aH (σ':=mem g++T3 O (g.hp.length+1) [] ([]++[.tup [c,c']]) []) ((cG (C (bM (C (bG Z h1) (C (bG Z h2) ak))) ak)).trans (by
  rewrite[aX,bw];show Res.ok (U.ref ((O++[DU O (g.hp.length+1),AO.set []]).length+16)) _=_;rw[bW];rfl)) ?_
 rcases H with⟨m6,m7,τ,h,hP⟩|⟨v,bx,τ,h,hP⟩
 .exact fP h (aR Z hP)
 .exact jY h hP
theorem Rb(S:aK Φ)(wD:tl= .a 0\/tl.fr=true)(hL:Lf g.hp tl vc lo c aO)(hR:Rg g.hp b c' ds)(hU:vc<=b)(c9:vc<=g.hp.length)(hl:g.hp.length<=50000)(he:aO.length<300)(hd:ds.length<250)(h1:c≠.L)(h2:c'≠.L):
  if meets tl aO ds=true then ∃hp' γ,hp'.length=g.hp.length/\(∀ j,(j+1<=lo/\c≠cl 0 j)\/vc<=j->hp'[j]?=g.hp[j]?)/\oN hp' (.a 0) lo c ds/\Φ (d+5) false 71 [.ref 9,c,c',.bool true] (mem g++O)= .ok (.bool true) (mem {g with hp:=hp'}++(O++γ))
  else ∃hp' γ,hp'.length=g.hp.length/\Φ (d+5) false 71 [.ref 9,c,c',.bool true] (mem g++O)= .ok (.bool false) (mem {g with hp:=hp'}++(O++γ)):=by
 have CE:=Ul (d:=d) (O:=O) (C1:=c) (C2:=c') S wD aO ds lo b NN c c' .L .L [] g [] hL hR hU c9 Z (oW (dD hl (dm Z))) (λx m=>by cases m) (by unfold NN;exact fH he he) (by show 0+_<_;exact dq he) hd;unfold TG at CE
 by_cases hm:meets tl aO ds=true
 .rw[bz hm] at CE ⊢;refine CU CE λhp' s' cZ m6 m7 i1 i2 i3 i4=>?_;refine(rA hp' _ i1 i2 i3 (pN S h1 h2 (P:=λr=>r=_) (.inl (yN m6 m7 _ i4 Z))))
 .rw[bh hm] at CE ⊢;refine eW CE λhp' bx NQ i1 i2=>?_;exact(dK hp' NQ i1 (pN S h1 h2 (P:=λr=>r=_) (.inr (yN _ bx _ i2 Z))))
theorem Za(S:aK Φ){t:Nat}{u:Int}(h:g.hp[w]?=some (cl 0 w))(ht:4<=t):∃γ,Φ (d+5) false 71 [.ref 9,cl 0 w,cl t u,.bool true] (mem g++O)= .ok (.bool true) (mem {g with hp:=g.hp.set w (cl t u)}++(O++γ)):=by have lt:=(zb6 h).1;obtain⟨cZ,tb⟩:=xf (b:=0) (ds:=[]) S (.self h) (.stop (BR ht):gJ g.hp (cl t u) (cl t u)) (iw ht) lt (.inl (dK t u Z ht));exact⟨_,pN S (λq=>by cases q) (λq=>by cases q) (P:=λr=>r=_) (.inl (yN (cl 0 w) (cl t u) _ (cJ pO tb (cU Oc)) Z))⟩
theorem Zb(S:aK Φ)(h:e.con)(h':e'.con):∃γ,Φ (d+5) false 71 [.ref 9,e.val,e'.val,.bool true] (mem g++O)= .ok (.bool (pC e e')) (mem g++(O++γ)):=by
 refine gH (t6 h) λt u t4 hv=>?_;refine gH (t6 h') λt' u' Mk hv'=>?_;have D1:gJ g.hp e.val (cl t u):=by rw[hv];exact .stop (BR t4)
 have D2:gJ g.hp e'.val (cl t' u'):=by rw[hv'];exact .stop (BR Mk)
 cases q:pC e e' with
 |true=>
  have ev:=(wL h h').mp q;have D3:gJ g.hp e'.val (cl t u):=by rw[<- ev];exact D1
  have tS:=xd (d:=d) (O:=O) (sp:=g.hp.length+1) (s:=[]) (W:=[]) (γ:=[]) (C1:=e.val) (C2:=e'.val) (l6:=.L) (l7:=.L) S D1 D3;exact⟨_,pN S e.wQ e'.wQ (P:=λr=>r=_) (.inl (yN (cl t u) (cl t u) _ (lV pO tS (cU Oc)) Z))⟩
 |false=>
  have tN:=yR (d:=d) (O:=O) (sp:=g.hp.length+1) (s:=[]) (W:=[]) (γ:=[]) (C1:=e.val) (C2:=e'.val) (l6:=.L) (l7:=.L) S D1 D2 (iw t4) (iw Mk) (λw=>by
   have:pC e e'=true:=(wL h h').mpr (by rw[hv,hv',w.1,w.2]);rw[q] at this;cases this) (.inl (dX (dw t4)))
  exact⟨_,pN S e.wQ e'.wQ (P:=λr=>r=_) (.inr (yN _ _ _ (iQ pO tN) Z))⟩
theorem Ge{P:Res U->Prop}(S:aK Φ)(h1:c≠.L)(h2:c'≠.L)(hP:P (Φ (d+5) false 71 [.ref 9,c,c',.bool true] (mem g++O)))(hv:∀r,P r->∃v σ,r= .ok v σ):P (Φ (d+6) false 79 [.ref 8,c,c'] (mem g++O)):=by refine mK (hv _ hP) λv σ e=>?_;refine run S P Z Z ?_;rw[e] at hP;exact aR (aD (C (bV Z Z) (C (bG Z h1) (C (bG Z h2) (C (bV Z Z) ak)))) e) hP
abbrev f89:List S:=eE OX
noncomputable def yJ:List (List Nat)->List Nat->List (List Nat)
 |ts,[]=>ts
 |ts,c::t=>yJ (cQ ts [c]) t
def nO(au:Bool)(g:GS)(t:Sa):GS:=if au=true then g else{g with ts:=yJ g.ts t}
theorem Ot{u:Sa}:∀{t:Sa} {ts:za0},u∈ts->u∈yJ ts t
 |[],_,h=>h
 |c::t,ts,h=>Ot (t:=t) (uX h)
theorem HH{u:Sa}:∀{t:Sa} {ts:za0},u∈ts->cO (yJ ts t) u=cO ts u
 |[],_,_=>rfl
 |c::t,ts,h=>(HH (uX h)).trans (num_add h)
theorem HJ:∀{t:Sa} {ts:za0},(yJ ts t).length<=ts.length+t.length
 |[],_=>bR _
 |c::t,ts=>by have:=HJ (t:=t) (ts:=cQ ts [c]);have h:=jQ (ts:=ts) (t:=[c]);rw[dC];show(yJ (cQ ts [c]) t).length<=_;exact fH h this
theorem vU:∀{t:Sa} {ts:za0} {c:Nat},c∈t->[c]∈yJ ts t
 |c'::t,ts,c,h=>by
  rcases zb5 h with rfl|h
  .exact Ot (t:=t) gO
  .exact vU (t:=t) h
theorem Ie{Φ:iC}{l0:U}(hi:σ[i]?=some (.list l)):∀(rest:List El) (k N:Nat) (acc:List El) (x:U),l.drop k=rest.map El.tm->rest.length<N->
  ∃x',forL (λB σ=>aN T Φ f89 false B σ) 2 (.ref i) N k [l0,bQ tl acc,x] σ= .done .next [l0,bQ tl (rest.reverse++acc),x'] σ
 |[],k,N+1,acc,x,h,hN=>by refine⟨x,dW ?_⟩;rw[cD hi,show l[k]?=([]:Th)[0]? by rw[show([]:Th)=l.drop k from h.symm,iY,iu]];rfl
 |e::rest,k,N+1,acc,x,h,hN=>by
  obtain⟨x',r⟩:=Ie hi rest (k+1) N (e::acc) e.tm (by rw[<- qX,h];rfl) (by simpa using hN);refine⟨x',cV (x:=e.tm) ?_ (gP ?_) (r.trans (by rw[List.reverse_cons,bw];rfl))⟩
  .rw[cD hi,show l[k]?=(e.tm::rest.map El.tm)[0]? by rw[show e.tm::rest.map El.tm=l.drop k from h.symm,iY,iu]];rfl
  .obtain⟨lt,rE⟩:=lD tl acc;refine aH (bM (C Z (C Z (C (bM (C (bG Z e.zP) (C (bG Z (by rw[rE];exact λq=>by cases q)) ak))) ak)))) (bU Z)
theorem pV(h:σ[i]?=some (.list l)):ZM (.ref i) σ= .ok (.ref σ.length) (σ++[.list l.reverse]):=jE h
theorem Vi(S:aK Φ)(hi:σ[i]?=some (.list (aO.map El.tm)))(hl:aO.length<900):Φ (d+1) false 89 [.ref i,tl.tm] σ= .ok (bQ tl aO) (σ++[.list (aO.map El.tm).reverse]):=by obtain⟨x',r⟩:=Ie bk aO.reverse 0 NN [] .L (by rw[List.map_reverse];rfl) (by rw[List.length_reverse];unfold NN;exact bj hl (dl Z));rw[List.reverse_reverse,dH] at r;refine ru S Z Z<|jf (by show ZM (.ref i) σ=_;exact pV hi) Z r ?_;obtain⟨lt,rE⟩:=lD tl aO;exact aR (bG Z (by rw[rE];exact λq=>by cases q)) Z
theorem uM(S:aK Φ){t:Sa}:∀(au:Bool) (rest:Sa) (k N:Nat) (acc:Th) (g:GS),t.drop k=rest->rest.length<N->g.ts.length+rest.length<1000->
  jO (λB σ=>aV T (Φ (d+1)) false (.ite (J 2) (.tup [(Ls [105]),(Cb 2 [(J 3)])]) (.tup [(Ls [97]),(.aG (J 0) 15 [(J 3)])])) B σ) 3 (.str t) [.ref 2,.str t,.bool au,.L] N k acc (mem g++O)=
   .ok (acc++(rest.map (fW au (nO au g rest).ts)).map El.tm) (mem (nO au g rest)++O)
 |au,[],k,N+1,acc,g,h,hN,hl=>by
  refine(p7 ?_).trans ?_
  .show some (t[k]?.map λc=>U.str [c])=_;rw[show t[k]?=([]:Sa)[0]? by rw[<- h,iY,iu]];rfl
  .rw[vJ,vJ,dH];unfold nO
   cases au<;>rfl
 |au,c::rest,k,N+1,acc,g,h,hN,hl=>by
  rw[dC] at hN hl
  have it:dJ (.str t) k (mem g++O)=some (some (.str [c])):=by show some (t[k]?.map λc=>U.str [c])=_;rw[show t[k]?=(c::rest)[0]? by rw[<- h,iY,iu]];rfl
  have hd:=nu h
  cases au with
  |true=>have ih:=uM S true rest (k+1) N (acc++[.tup [.str [105],.int c]]) g hd (gw hN) (oV (gw hl));refine lz it (fJ Z (bM (C Z (C (bK (C Z ak) Z Z) ak)))) (ih.trans ?_);rw[bw];rfl
  |false=>
   have ih:=uM S false rest (k+1) N (acc++[vI (cO g.ts [c])]) {g with ts:=cQ g.ts [c]} hd (gw hN) (by
    have:=jQ (ts:=g.ts) (t:=[c]);exact fH this hl)
   refine lz it (fK Z (bM (C Z (C (bJ Z Z (C Z ak) (o8 S (ye hl))) ak)))) (ih.trans ?_);rw[bw];have e1:cO (yJ (cQ g.ts [c]) rest) [c]=cO g.ts [c]:=(HH gO).trans jk;show Res.ok (acc++([vI (cO g.ts [c])]++(rest.map (fW false (yJ (cQ g.ts [c]) rest))).map El.tm)) _=Res.ok (acc++((vI (cO (yJ (cQ g.ts [c]) rest) [c]))::(rest.map (fW false (yJ (cQ g.ts [c]) rest))).map El.tm)) _;rw[e1];rfl
theorem rM(S:aK Φ){t:Sa}(ht:t.length<200)(hl:g.ts.length<700):Φ (d+2) false 92 [.ref 2,.str t,.bool au] (mem g++O)= .ok (.ref (O.length+16)) (mem (nO au g t)++(O++[.list ((t.map (fW au (nO au g t).ts)).map El.tm)])):=by have cp:=uM (d:=d) (O:=O) S au t 0 NN [] g Z (by unfold NN;exact bj ht (dl Z)) (bj (Nat.add_lt_add hl ht) (dl Z));rw[mW] at cp;refine ru S Z Z<|aR (lu Z Z cp) ?_;rw[aX];rfl
inductive Mt(k0:Nat):Nat->U->U->Prop where
 |a (n k:Nat):Mt k0 n (vI k) (vI k)
 |i (n:Nat) (z:Int):Mt k0 n (.tup [.str [105],.int z]) (.tup [.str [105],.int z])
 |v (n:Nat):Mt k0 n (.tup [.str [118],.int k0]) (.tup [.str [118],.int 0])
 |s (n f:Nat) (l l':Th) (h:l.length=l'.length) (hl:l.length<900) (H:∀(j:Nat) (x y:U),l[j]?=some x->l'[j]?=some y->Mt k0 n x y):Mt k0 (n+1) (pH f l) (pH f l')
noncomputable def mq(a b:Nat):Bool->List (U×U)
 |true=>[(.int a,.int b)]
 |false=>[]
def TQ(O:We)(i1 i2 k0:Nat)(q:Bool):List AO:=(O.set i1 (.dict (mq k0 0 q))).set i2 (.dict (mq 0 k0 q))
variable{i1 i2 k0 aa bb:Nat}{q q':Bool}
theorem Gf:keyOk (mq aa bb q) (.int k)=true:=by cases q<;>rfl
theorem Lx(h:σ[i]?=some (.dict (mq aa bb q))):eX .kW (.int aa) (.ref i) σ= .ok (.bool (!q)) σ:=by
 refine xF h (wB Gf ?_)
 cases q with
 |false=>rfl
 |true=>show(decide ((aa:Int)=aa)||false)=true;rw[dF Z];rfl
theorem Wc{Φ:iC}(h:σ[i]?=some (.dict (mq aa bb true))):dj Φ hd .dict (.ref i) 2 [.int aa,.int (-1)] σ= .ok (.int bb) σ:=by
 refine(Nv (f:=λes=>gd Res.bad (keyOk es (.int aa)) (Res.ok ((jN es (.int aa)).getD (.int (-1))) σ)) h).trans ((d7 (z:=Res.bad) Gf).trans ?_)
 have:jN (mq aa bb true) (.int aa)=some (.int bb):=by show jN [(.int aa,.int bb)] (.int aa)=_;rw[jw,bz];exact dF Z
 rw[this];rfl
theorem xS(h1:i1<O.length)(h2:i2<O.length)(qJ:i1≠i2):(mem g++(TQ O i1 i2 k0 q++γ))[i1+16]?=some (.dict (mq k0 0 q)):=by refine rB ?_;unfold TQ;rw[jX (by lia),iy h1]
theorem D7(h1:i1<O.length)(h2:i2<O.length)(qJ:i1≠i2):(mem g++(TQ O i1 i2 k0 q++γ))[i2+16]?=some (.dict (mq 0 k0 q)):=by refine rB ?_;unfold TQ;rw[iy (by rw[fB];exact h2)]
theorem Ry:dJ (.yK 0 n 1) k σ=some (((List.range n).map λk:Nat=>U.int k)[k]?):=by
 rw[rR,fG]
 by_cases h:k<n
 .rw[bz h,List.getElem?_range h];rfl
 .rw[bh h,lL (by rw[List.length_range];exact iW h)];rfl
theorem rW(h:n<900):fj 1 [.int n] σ= .ok (.yK 0 n 1) σ:=Vk (by
 unfold lQ;rw[jH,fO,fO];lia)
theorem VK{l:Sa}(h:σ[i]?=some (.list (l.map λ_=>U.bool true))):eX .kW (.bool false) (.ref i) σ= .ok (.bool true) σ:=by
 refine xF (b:=false) h ?_;show((boolsOf (l.map λ_=>U.bool true)).map λbs=>bs.contains false)=_;rw[uc];show some ((l.map λ_=>true).contains false)=_
 have:(l.map λ_=>true).contains false=false:=by
  rw[Bool.eq_false_iff,ne_eq,zF];intro m;refine bY (List.mem_map.mp m) λ_ _ h=>?_
  cases h
 rw[this]
theorem Pq(S:aK Φ){a:Nat}:Φ (d+1) hd 86 [vI k,vI k,.ref a,.ref b] σ= .ok (.bool true) σ:=by refine ru S Z Z<|aL (gR Z) ?_;refine aL (bN Y)<|aL (bN Y) ?_;exact aR (aF (bA (cz Z) Z (aQ (cR (bK (C Z (C Z ak)) Z Z))))) Z
theorem Pn(S:aK Φ){z:Int}{a:Nat}:Φ (d+1) hd 86 [.tup [.str [105],.int z],.tup [.str [105],.int z],.ref a,.ref b] σ= .ok (.bool true) σ:=by refine ru S Z Z<|aL (gR Z) ?_;refine aL (bN Y)<|aL (bN Y) ?_;exact aR (aF (bA (cz Z) Z (aQ (cR (bK (C Z (C Z ak)) Z Z))))) Z
theorem lS(h1:i1<O.length)(h2:i2<O.length)(qJ:i1≠i2):((TQ O i1 i2 k0 false++γ).set i1 (.dict (mq k0 0 true))).set i2 (.dict (mq 0 k0 true))=TQ O i1 i2 k0 true++γ:=by unfold TQ;rw[Dg _ _ (by rw[fB,fB];exact h1),Dg _ _ (by rw[fB,fB,fB];exact h2)];rw[List.set_comm _ _ (show i2≠i1 by lia),List.set_set,List.set_set]
theorem Pk(S:aK Φ)(h1:i1<O.length)(h2:i2<O.length)(qJ:i1≠i2):Φ (d+1) hd 86 [.tup [.str [118],.int k0],.tup [.str [118],.int (0:Nat)],.ref (i1+16),.ref (i2+16)] (mem g++(TQ O i1 i2 k0 q++γ))= .ok (.bool true) (mem g++(TQ O i1 i2 k0 true++γ)):=by
 have fin:∀{Q:za1} {AD:List Mine.Internal.S},(∀ B,X Q (.done (.ret (.bool true)) B (mem g++(TQ O i1 i2 k0 true++γ))))->X Q (aN T (Φ d) (.ret (.both true [(.cmp .eq (.aG (J 2) 2 [(.idx (J 0) (D 1)),(.neg (D 1))]) (.idx (J 1) (D 1))),(.cmp .eq (.aG (J 3) 2 [(.idx (J 1) (D 1)),(.neg (D 1))]) (.idx (J 0) (D 1)))])::AD) hd [.tup [.str [118],.int k0],.tup [.str [118],.int (0:Nat)],.ref (i1+16),.ref (i2+16),.L] (mem g++(TQ O i1 i2 k0 true++γ))):=λH=>by have e1:=aP (o:=.eq) (Φ:=Φ d) (hd:=hd) (B:=[.tup [.str [118],.int k0],.tup [.str [118],.int (0:Nat)],.ref (i1+16),.ref (i2+16),.L]) (σ:=mem g++(TQ O i1 i2 k0 true++γ)) (a:=.aG (J 2) 2 [(.idx (J 0) (D 1)),(.neg (D 1))]) (b:=.idx (J 1) (D 1)) (cP Z (Qf (xS h1 h2 qJ)) (C Z (C Z ak)) (Wc (xS h1 h2 qJ))) Z (cz Z);have e2:=aP (o:=.eq) (Φ:=Φ d) (hd:=hd) (B:=[.tup [.str [118],.int k0],.tup [.str [118],.int (0:Nat)],.ref (i1+16),.ref (i2+16),.L]) (σ:=mem g++(TQ O i1 i2 k0 true++γ)) (a:=.aG (J 3) 2 [(.idx (J 1) (D 1)),(.neg (D 1))]) (b:=.idx (J 0) (D 1)) (cP Z (Qf (D7 h1 h2 qJ)) (C Z (C Z ak)) (Wc (D7 h1 h2 qJ))) Z (cz Z);exact aR (aF (bA e1 Z (aQ e2))) (H _)
 refine ru S Z Z<|aL (gR Z) ?_;refine aW (cz Z) ?_
 cases q with
 |true=>
  refine aL (aF (bF (aP Z Z (Lx (xS h1 h2 qJ))) Z))<|fin λB=>?_
  rfl
 |false=>
  have s1:=lW (v:=.int (0:Nat)) (xS (g:=g) (k0:=k0) (q:=false) (γ:=γ) h1 h2 qJ) (Gf (k:=k0)) (by show 0<LL;unfold LL;exact dm Z)
  have g2:(mem g++((TQ O i1 i2 k0 false++γ).set i1 (.dict (mq k0 0 true))))[i2+16]?=some (.dict (mq 0 k0 false)):=by rw[jX (qJ)];exact D7 (g:=g) h1 h2 qJ
  have s2:=lW (v:=.int k0) g2 (Gf (k:=0)) (by show 0<LL;unfold LL;exact dm Z);have s2:=s2.trans (congrArg some (congrArg (mem g++·) (lS h1 h2 qJ)));refine aW (aF (bA (aP Z Z (Lx (xS h1 h2 qJ))) Z (aQ (aP Z Z (Lx (D7 h1 h2 qJ))))))<|fQ Z Z Z s1 ?_;refine fQ Z Z Z s2<|fin λB=>?_
  rfl
theorem I7(S:aK Φ)(h1:i1<O.length)(h2:i2<O.length)(qJ:i1≠i2):∀(n:Nat) (l r:U) (d:Nat) (q:Bool) (γ:We),Mt k0 n l r->
  ∃q' cZ,Φ (d+n+1) hd 86 [l,r,.ref (i1+16),.ref (i2+16)] (mem g++(TQ O i1 i2 k0 q++γ))= .ok (.bool true) (mem g++(TQ O i1 i2 k0 q'++(γ++cZ))):=by
 intro n
 induction n with
 |zero=>
  intro l r d q γ h
  cases h with
  |a _ k=>exact(eO q ([]) (by rw[dH];exact Pq S))
  |i _ z=>exact(eO q ([]) (by rw[dH];exact Pn S))
  |v _=>exact(eO true ([]) (by rw[dH];exact Pk S h1 h2 qJ))
 |succ n ih=>
  intro l r d q γ h
  cases h with
  |a _ k=>exact(eO q ([]) (by rw[dH];exact Pq S))
  |i _ z=>exact(eO q ([]) (by rw[dH];exact Pn S))
  |v _=>exact(eO true ([]) (by rw[dH];exact Pk S h1 h2 qJ))
  |s _ f l l' hlen hl H=>
   have ln:∀{σ:St} {l:Th},fj 0 [.tup l] σ= .ok (.int l.length) σ:=λ{σ l}=>rfl
   obtain⟨σ',ce,q',cZ,Bz⟩:=tG (B:=[pH f l,pH f l',.ref (i1+16),.ref (i2+16),.L]) (slot:=4)
    (elt:=λB σ=>aV T (Φ (d+n+1)) hd (Cf 86 [(.idx (.idx (J 0) (D 2)) (J 4)),(.idx (.idx (J 1) (D 2)) (J 4)),(J 2),(J 3)]) B σ)
    (λ_ σ=>∃q' cZ,σ=mem g++(TQ O i1 i2 k0 q'++(γ++cZ))) (λk σ _=>Ry) (λk x σ hx hI=>by
     obtain⟨q1,jG,rfl⟩:=hI;rw[fG] at hx;obtain⟨m,hm,rfl⟩:=zb3 hx
     have hk:k<l.length:=by
      have:=(zb6 hm).1
      rwa [List.length_range] at this
     have:m=k:=by rw[List.getElem?_range hk] at hm;exact(Option.some.inj hm).symm
     subst this;have e1:=gM hk;have e2:=gM (bj hk (dh hlen));refine mK (ih _ _ d q1 (γ++jG) (H m _ _ e1 e2)) λq2 lE e=>?_;exact⟨_,aD (C (bB Z Z (jt e1)) (C (bB Z Z (jt e2)) (C Z (C Z ak)))) e,q2,jG++lE,by rw[bw γ]⟩)
    l.length NN 0 [] (mem g++(TQ O i1 i2 k0 q++γ)) (by rw[dN,List.length_range,mz]) (by unfold NN;exact bj hl (dl Z)) (eO q ([]) (by rw[dH]))
   subst Bz;rw[mW] at ce;have nf:=VK (σ:=(mem g++(TQ O i1 i2 k0 q'++(γ++cZ)))++[.list ((List.range' 0 l.length).map λ_=>U.bool true)]) bk;refine(eO q' (cZ++[.list ((List.range' 0 l.length).map λ_=>U.bool true)]) (ru S Z Z ?_));refine aL (gR Z)<|aL (bN Y) ?_;refine aW (cz Z)<|aL (aF (bA (gR Z) Z (aQ (aP (bK (C Z ak) Z ln) (bK (C Z ak) Z ln) (gR (sZ hlen)))))) ?_;refine aR (aP Z (lu (bK (C (bK (C Z ak) Z ln) ak) Z (rW hl)) (by cases hd<;>rfl) ce) nf) ?_;show Res.ok _ _=Res.ok _ _;rw[aX,bw,bw]
abbrev Qb:List S:=eE OZ
noncomputable def YL(k:Nat):U:=.tup [.str [118],.int k]
noncomputable def bD(bd:TZ):List (U×U):=bd.map λp=>(.int p.1,p.2)
def qD(t:U):Prop:=∃(s:Sa) (l:Th),t= .tup (.str s::l)/\s≠[118]
inductive Fu(bd:TZ):Nat->U->U->Prop where
 |con (n:Nat) (s:Sa) (x:U) (h:s≠[118]) (h':s≠[115]):Fu bd n (.tup [.str s,x]) (.tup [.str s,x])
 |s (n f:Nat) (x y x' y':U) (h:Fu bd n x x') (h':Fu bd n y y'):Fu bd (n+1) (pH f [x,y]) (pH f [x',y'])
 |b (n k:Nat) (t r:U) (h:jN (bD bd) (.int k)=some t) (h1:qD t) (h2:Fu bd n t r):Fu bd n (YL k) r
variable{t:U}{bd QJ:TZ}
theorem Np:keyOk (bD bd) (.int k)=true:=by
 unfold keyOk bD;rw[show isKey (.int k)=true from Z,yg,zB];intro e m;obtain⟨q,_,rfl⟩:=List.mem_map.mp m
 rfl
theorem En:∀{es:YR},Bw es (.int k)=(jN es (.int k)).isSome
 |[]=>rfl
 |(a,b)::l=>by
  rw[jw];show(Ax a (.int k)||Bw l (.int k))=_;rw[En]
  cases Ax a (.int k) with
  |true=>rfl
  |false=>rfl
theorem jI(h:σ[i]?=some (.dict (bD bd))):eX .isIn (.int k) (.ref i) σ= .ok (.bool (jN (bD bd) (.int k)).isSome) σ:=Jd h (wB Np En)
theorem qD.ne(h:qD t):t≠.L:=by obtain⟨s,l,rfl,_⟩:=h;exact λq=>by cases q
variable{N:Nat}
theorem Jy{Φ:iC}(h:qD t):f9 (aV T Φ hd (.both true [(.cmp .eq (.idx (J 0) (D 0)) (Ls [118])),(.cmp .isIn (.idx (J 0) (D 1)) (J 1))])) (λB σ=>aN T Φ Qb hd B σ) (N+1) [t,.ref b] σ= .done .next [t,.ref b] σ:=by obtain⟨s,l,rfl,hs⟩:=h;exact cU (aF (bF (bN hs) Z))
theorem tD(S:aK Φ)(h:qD t):Φ (d+1) hd 82 [t,.ref b] σ= .ok t σ:=by have hn:=h.ne;refine ru S Z Z<|fP (Jy h) (aR (bG Z hn) Z)
theorem XF(S:aK Φ)(hb:σ[b]?=some (.dict (bD bd)))(h:jN (bD bd) (.int k)=none):Φ (d+1) hd 82 [YL k,.ref b] σ= .ok (YL k) σ:=by refine ru S Z Z<|fP (cU (aF (bA (cz Z) Z (aQ (aP Z Z ((jI hb).trans (by rw[h];rfl))))))) ?_;exact aR Z Z
theorem xV(S:aK Φ)(hb:σ[b]?=some (.dict (bD bd)))(h:jN (bD bd) (.int k)=some t)(ht:qD t):Φ (d+1) hd 82 [YL k,.ref b] σ= .ok t σ:=by have hn:=ht.ne;refine ru S Z Z<|fP (cJ (aF (bA (cz Z) Z (aQ (aP Z Z ((jI hb).trans (by rw[h];rfl)))))) (gP (aH (bB Z Z (zg hb Np Z h)) (bU Z))) (Jy ht)) ?_;exact aR (bG Z hn) Z
theorem Fu.ne(h:Fu bd n x y):x≠.L/\y≠.L:=by
 induction h with
 |con=>exact⟨λq=>(nomatch q),λq=>(nomatch q)⟩
 |s=>exact⟨λq=>(nomatch q),λq=>(nomatch q)⟩
 |b _ _ _ _ _ _ _ ih=>exact⟨λq=>(nomatch q),ih.2⟩
theorem dP(S:aK Φ){bi:Nat}(hb:O[bi]?=some (.dict (bD bd))):∀(n:Nat) (t r:U) (d:Nat) (γ:We),Fu bd n t r->
  ∃cZ,Φ (d+n+2) false 85 [t,.ref (bi+16)] (mem g++(O++γ))= .ok r (mem g++(O++(γ++cZ))):=by
 have IU:∀γ,(mem g++(O++γ))[bi+16]?=some (.dict (bD bd)):=λγ=>rB hb;intro n
 have back:∀(AM:Nat) (l0 t r:U) (γ:We),t≠.L->Φ (AM+1) false 82 [l0,.ref (bi+16)] (mem g++(O++γ))= .ok t (mem g++(O++γ))->l0≠.L->(∃ cZ,X (λs=>iZ s= .ok r (mem g++(O++(γ++cZ)))) (aN T (Φ (AM+1)) (E7.drop 1) false [t,.ref (bi+16),.L] (mem g++(O++γ))))->∃cZ,Φ (AM+2) false 85 [l0,.ref (bi+16)] (mem g++(O++γ))= .ok r (mem g++(O++(γ++cZ))):=λAM l0 t r γ ht he h0 ⟨cZ,H⟩=>by refine⟨cZ,ru S Z Z ?_⟩;exact aH (aD (C (bG Z h0) (C Z ak)) he) H
 have con:∀(AM:Nat) (s:Sa) (x:U) (γ:We),s≠[115]->∃cZ,X (λz=>iZ z= .ok (.tup [.str s,x]) (mem g++(O++(γ++cZ)))) (aN T (Φ (AM+1)) (E7.drop 1) false [.tup [.str s,x],.ref (bi+16),.L] (mem g++(O++γ))):=λAM s x γ h=>by refine⟨[],?_⟩;rw[dH];refine aL (bN h)<|aR Z Z
 induction n with
 |zero=>
  intro t r d γ h
  cases h with
  |con _ s x h h'=>exact back d _ (.tup [.str s,x]) _ γ (λq=>(nomatch q)) (tD S (dK s ([x]) Z h)) (λq=>(nomatch q)) (con _ _ _ _ h')
  |b _ k t _ h h1 h2=>
   cases h2 with
   |con _ s x hh h'=>exact back d _ (.tup [.str s,x]) _ γ (λq=>(nomatch q)) (xV S (IU γ) h h1) (λq=>(nomatch q)) (con _ _ _ _ h')
   |b _ k' t' _ _ _ _=>refine gH h1 λs l e hs=>?_;injection e with e;injection e with e _;injection e with e;exact absurd e.symm hs
 |succ n ih=>
  intro t r d γ h
  have two:∀(f:Nat) (x y x' y':U),Fu bd n x x'->Fu bd n y y'->∃cZ,X (λs=>iZ s= .ok (pH f [x',y']) (mem g++(O++(γ++cZ)))) (aN T (Φ (d+n+1+1)) (E7.drop 1) false [pH f [x,y],.ref (bi+16),.L] (mem g++(O++γ))):=λf x y x' y' hx hy=>by
   obtain⟨jG,e1⟩:=ih x x' d γ hx;obtain⟨lE,e2⟩:=ih y y' d (γ++jG) hy;rw[bw γ] at e2;refine⟨(jG++lE)++[.list [x',y']],?_⟩;refine aW (cz Z) ?_
   have ce:jO (λB σ=>aV T (Φ (d+n+1+1)) false (Cf 85 [(J 2),(J 1)]) B σ) 2 (.tup [x,y]) [pH f [x,y],.ref (bi+16),.L] NN 0 [] (mem g++(O++γ))= .ok [x',y'] (mem g++(O++(γ++(jG++lE)))):=
    lz Z (aD (C (bG Z hx.ne.1) (C Z ak)) e1) (lz Z (aD (C (bG Z hy.ne.1) (C Z ak)) e2) (p7 Z))
   refine aR (bM (C Z (C Z (C (bK (C (lu Z Z ce) ak) Z (vQ bk)) ak)))) ?_;show Res.ok _ _=Res.ok _ _;rw[aX,bw,bw,bw]
   rfl
  cases h with
  |con _ s x h h'=>exact back (d+(n+1)) _ (.tup [.str s,x]) _ γ (λq=>(nomatch q)) (tD S (dK s ([x]) Z h)) (λq=>(nomatch q)) (con _ _ _ _ h')
  |s _ f x y x' y' hx hy=>exact back (d+n+1) _ (pH f [x,y]) _ γ (λq=>(nomatch q)) (tD S (dK ([115]) _ Z Y)) (λq=>(nomatch q)) (two f x y x' y' hx hy)
  |b _ k t _ h h1 h2=>
   cases h2 with
   |con _ s x hh h'=>exact back (d+(n+1)) _ (.tup [.str s,x]) _ γ (λq=>(nomatch q)) (xV S (IU γ) h h1) (λq=>(nomatch q)) (con _ _ _ _ h')
   |s _ f x y x' y' hx hy=>exact back (d+n+1) _ (pH f [x,y]) _ γ (λq=>(nomatch q)) (xV S (IU γ) h h1) (λq=>(nomatch q)) (two f x y x' y' hx hy)
   |b _ k' t' _ _ _ _=>refine gH h1 λs l e hs=>?_;injection e with e;injection e with e _;injection e with e;exact absurd e.symm hs
inductive Gr:Nat->U->Prop where
 |con (n:Nat) (e:El) (h:e.con):Gr n e.tm
 |s (n f:Nat) (x y:U) (h:Gr n x) (h':Gr n y):Gr (n+1) (pH f [x,y])
theorem El.oZ(h:e.con):qD e.tm:=by
 cases e with
 |i n=>exact(dK ([105]) _ Z Y)
 |a n=>exact(dK ([97]) _ Z Y)
 |v n=>exact h.elim
theorem Gr.qD(h:Gr n t):Mine.Internal.qD t:=by
 cases h with
 |con _ e h=>exact El.oZ h
 |s _ f x y _ _=>exact(dK ([115]) _ Z Y)
theorem Gr.list:∀{ds:List El},(∀ e∈ds,e.con)->Gr ds.length (bQ (.a 0) ds)
 |[],_=>.con 0 (.a 0) trivial
 |d::ds,h=>by refine .s ds.length 0 _ _ (.con _ d (h d eQ)) (Gr.list λe m=>h e (.tail _ m))
theorem Fu.Ae(h:Gr n t):Fu bd n t t:=by
 induction h with
 |con n e h=>
  cases e with
  |i z=>exact .con n [105] _ Y Y
  |a z=>exact .con n [97] _ Y Y
  |v z=>exact h.elim
 |s n f x y _ _ ih ih'=>exact .s n f x y x y ih ih'
theorem tg(h:e.con):eX .eq e.tm (YL k) σ= .ok (.bool false) σ:=by
 cases e with
 |i z=>have e1:eX .eq (El.i z).tm (YL k) σ= .ok (.bool (decide (([105]:Sa)=[118])&&(decide (z=k)&&true))) σ:=rfl;rw[e1];rfl
 |a z=>have e1:eX .eq (El.a z).tm (YL k) σ= .ok (.bool (decide (([97]:Sa)=[118])&&(decide ((z:Int)=k)&&true))) σ:=rfl;rw[e1];rfl
 |v z=>exact h.elim
theorem Z2{l:Sa}(h:σ[i]?=some (.list (l.map λ_=>U.bool false))):eX .isIn (.bool true) (.ref i) σ= .ok (.bool false) σ:=by
 refine wA h ?_;show(boolsOf (l.map λ_=>U.bool false)).map (λbs=>bs.contains true)=_;rw[uc];show some ((l.map λ_=>false).contains true)=_
 have:(l.map λ_=>false).contains true=false:=by
  rw[Bool.eq_false_iff,ne_eq,zF];intro m;refine bY (List.mem_map.mp m) λ_ _ h=>?_
  cases h
 rw[this]
theorem Sg(S:aK Φ){bi:Nat}(hb:O[bi]?=some (.dict (bD bd))):∀(n:Nat) (t:U) (d:Nat) (γ:We),Gr n t->
  ∃cZ,Φ (d+n+2) false 83 [.int k,t,.ref (bi+16)] (mem g++(O++γ))= .ok (.bool false) (mem g++(O++(γ++cZ))):=by
 intro n
 have con:∀(AM:Nat) (e:El) (γ:We),e.con->∃cZ,Φ (AM+2) false 83 [.int k,e.tm,.ref (bi+16)] (mem g++(O++γ))= .ok (.bool false) (mem g++(O++(γ++cZ))):=λAM e γ h=>by
  refine⟨[],ru S Z Z ?_⟩;rw[dH];refine aH (aD (C (bG Z e.zP) (C Z ak)) (tD S (El.oZ h))) ?_
  have c1:aV T (Φ (AM+1)) false (.cmp .eq (.idx (J 1) (D 0)) (Ls [115])) [.int k,e.tm,.ref (bi+16),.L] (mem g++(O++γ))= .ok (.bool false) (mem g++(O++γ)):=by
   cases e with
   |i z=>exact bN Y
   |a z=>exact bN Y
   |v z=>exact h.elim
  refine aL c1<|aR (aP (bG Z e.zP) Z (tg h)) Z
 induction n with
 |zero=>
  intro t d γ h
  cases h with
  |con _ e h=>exact con d e γ h
 |succ n ih=>
  intro t d γ h
  cases h with
  |con _ e h=>exact con (d+(n+1)) e γ h
  |s _ f x y hx hy=>
   obtain⟨jG,e1⟩:=ih x d γ hx;obtain⟨lE,e2⟩:=ih y d (γ++jG) hy;rw[bw γ] at e2
   have ce:jO (λB σ=>aV T (Φ (d+n+1+1)) false (Cf 83 [(J 0),(J 3),(J 2)]) B σ) 3 (.tup [x,y]) [.int k,pH f [x,y],.ref (bi+16),.L] NN 0 [] (mem g++(O++γ))= .ok (([0,1]:Sa).map λ_=>U.bool false) (mem g++(O++(γ++(jG++lE)))):=
    lz Z (aD (C Z (C (bG Z hx.qD.ne) (C Z ak))) e1) (lz Z (aD (C Z (C (bG Z hy.qD.ne) (C Z ak))) e2) (p7 Z))
   refine⟨(jG++lE)++[.list (([0,1]:Sa).map λ_=>U.bool false)],ru S Z Z ?_⟩;refine aH (aD (C Z (C Z ak)) (tD S (dK ([115]) _ Z Y)))<|aW (cz Z) ?_;refine aR (aP Z (lu Z Z ce) (Z2 bk)) ?_;show Res.ok _ _=Res.ok _ _;rw[aX,bw,bw,bw]
theorem f7{a:Int}{b:U}(h:G9 (.int a) b=true): .int a=b:=by
 cases b<;>first|(cases h;done)|exact congrArg _ (eY h)
theorem f6{a:Sa}{b:U}(h:G9 (.str a) b=true): .str a=b:=by
 cases b<;>first|(cases h;done)|exact congrArg _ (eY h)
theorem f5{a:Th}{b:U}(h:G9 (.tup a) b=true):∃r,b= .tup r/\uH a r=true:=by
 cases b<;>first|(cases h;done)|exact(aZ _ Z h)
mutual
theorem fS:∀(a b:U),G9 a b=true->a=b
 | .int _,_,h=>f7 h
 | .str _,_,h=>f6 h
 | .tup a,_,h=>by obtain⟨r,rfl,h⟩:=f5 h;exact congrArg _ (xZ a r h)
 | .L,_,h=>nomatch h
 | .none,_,h=>nomatch h
 | .bool _,_,h=>nomatch h
 | .yK ..,_,h=>nomatch h
 | .ref _,_,h=>nomatch h
 | .fn _,_,h=>nomatch h
 | .cls _,_,h=>nomatch h
 | .bi _,_,h=>nomatch h
theorem xZ:∀(l r:Th),uH l r=true->l=r
 |[],[],_=>rfl
 |[],_::_,h=>nomatch h
 |_::_,[],h=>nomatch h
 |a::l,b::r,h=>by have h:=Bool.and_eq_true_iff.mp (show(G9 a b&&uH l r)=true from h);rw[fS a b h.1,xZ l r h.2]
end
theorem El.Ky(h:e.tm=e'.tm):e=e':=by
 have two:∀{s s':Sa} {a b:Int},U.tup [.str s,.int a]= .tup [.str s',.int b]->s=s'/\a=b:=λh=>by injection h with h;injection h with h1 h2;injection h1 with h1;injection h2 with h2 _;injection h2 with h2;exact⟨h1,h2⟩
 cases e with
 |i z=>
  cases e' with
  |i w=>rw[(two h).2]
  |a w=>exact absurd (two h).1 Y
  |v w=>exact absurd (two h).1 Y
 |a z=>
  cases e' with
  |i w=>exact absurd (two h).1 Y
  |a w=>rw[show z=w by have:=(two h).2;exact yL this]
  |v w=>exact absurd (two h).1 Y
 |v z=>
  cases e' with
  |i w=>exact absurd (two h).1 Y
  |a w=>exact absurd (two h).1 Y
  |v w=>rw[show z=w by have:=(two h).2;exact yL this]
variable{xg:El}
theorem zy:∀{aO iJ:List El},bQ tl aO=bQ xg iJ->aO=iJ/\tl=xg
 |[],[],h=>⟨Z,El.Ky h⟩
 |[],e::es,h=>by
  have h:=h
  cases tl<;>(injection h with h;injection h with h _;injection h with h;exact absurd h Y)
 |e::es,[],h=>by
  have h:=h
  cases xg<;>(injection h with h;injection h with h _;injection h with h;exact absurd h Y)
 |e::es,e'::es',h=>by injection h with h;injection h with _ h;injection h with _ h;injection h with h _;injection h with h;injection h with h1 h2;injection h2 with h2 _;obtain⟨q1,q2⟩:=zy h2;rw[El.Ky h1,q1];exact⟨Z,q2⟩
abbrev OG:List S:=eE (KW.drop 6)
def Hi:El->El->List (Nat×U)
 | .v k,d=>[(k,d.tm)]
 |_,_=>[]
noncomputable def kM(tl:El):List El->List El->List (Nat×U)
 |[],ds=>(match tl with
  | .v k=>[(k,bQ (.a 0) ds)]
  |_=>[])
 |_::_,[]=>[]
 |e::es,d::ds=>Hi e d++kM tl es ds
def ya(t:U):Prop:=∃l,t= .tup l/\pD l=true/\deps l<=60
theorem Q5(tl:El):∀(aO:List El),p8 (bQ tl aO)=true/\dep (bQ tl aO)<=2*aO.length+1
 |[]=>by cases tl<;>exact⟨Z,bR _⟩
 |e::es=>by
  have ih:=Q5 tl es;have he:p8 e.tm=true/\dep e.tm=1:=by cases e<;>exact⟨Z,Z⟩
  refine⟨?_,?_⟩
  .show(p8 e.tm&&(p8 (bQ tl es)&&true))&&true=true;rw[he.1,ih.1];rfl
  .show max 0 (max 0 (max (max (dep e.tm) (max (dep (bQ tl es)) 0)+1) 0))+1<=2*(es.length+1)+1;rw[he.2];have:=ih.2
   lia
theorem yf(tl:El)(h:aO.length<=29):ya (bQ tl aO):=by obtain⟨l,hl⟩:=lD tl aO;have c:=Q5 tl aO;rw[hl] at c;refine(oH l hl c.1 ?_);have:deps l+1<=2*aO.length+1:=c.2;exact nU this h h
theorem El.tok(e:El):ya e.tm:=yf e (aO:=[]) Y
theorem Ej{d:El}(h:d.con):pC d d=true:=by
 cases d with
 |i n=>exact dF Z
 |a n=>exact dF Z
 |v n=>exact h.elim
theorem Ao:∀{ds:List El},(∀ e∈ds,e.con)->meets (.a 0) ds ds=true/\kM (.a 0) ds ds=[]
 |[],_=>⟨Z,Z⟩
 |d::ds,h=>by
  have ih:=Ao λe m=>h e (.tail _ m);refine⟨?_,?_⟩
  .show((d.fr||pC d d)&&meets (.a 0) ds ds)=true;rw[Ej (h d eQ),ih.1,Bool.or_true];rfl
  .show Hi d d++kM (.a 0) ds ds=[];rw[ih.2,dH];have:=h d eQ
   cases d<;>first|rfl|exact this.elim
variable{bi:Nat}
theorem tC(hx:ya x)(hy:ya y):∃β:Bool,eX .eq x y σ= .ok (.bool β) σ/\(β=true->x=y):=by obtain⟨l,rfl,h1,h2⟩:=hx;obtain⟨r,rfl,h3,h4⟩:=hy;refine(aZ (uH l r) (congrArg (Hm · σ) (d7 ?_)) (λh=>by rw[xZ l r h]));rw[h1,h3,dF h2,dF h4];rfl
theorem sP{d:El}:eX .eq e.tm e.tm σ= .ok (.bool true) σ:=by
 cases e with
 |i z=>have e1:eX .eq (El.i z).tm (El.i z).tm σ= .ok (.bool (decide (([105]:Sa)=[105])&&(decide (z=z)&&true))) σ:=rfl;rw[e1,dF (Z:z=z)];rfl
 |a z=>have e1:eX .eq (El.a z).tm (El.a z).tm σ= .ok (.bool (decide (([97]:Sa)=[97])&&(decide ((z:Int)=z)&&true))) σ:=rfl;rw[e1,dF (Z:(z:Int)=z)];rfl
 |v z=>have e1:eX .eq (El.v z).tm (El.v z).tm σ= .ok (.bool (decide (([118]:Sa)=[118])&&(decide ((z:Int)=z)&&true))) σ:=rfl;rw[e1,dF (Z:(z:Int)=z)];rfl
def Ca(O:We)(bi:Nat)(bd:TZ)(γ:We):List AO:=O.set bi (.dict (bD bd))++γ
theorem hO(h:bi<O.length):(mem g++Ca O bi bd γ)[bi+16]?=some (.dict (bD bd)):=rB (iy h)
theorem mv(h:bi<O.length):(Ca O bi bd γ).set bi (.dict (bD QJ))=Ca O bi QJ γ:=by unfold Ca;rw[Dg _ _ (by rw[fB];exact h),List.set_set]
theorem QH:∀{bd:TZ},k∉bd.map (·.1)->jN (bD bd) (.int k)=none
 |[],_=>rfl
 |(a,b)::l,h=>by rw[cH,pJ,not_or] at h;show jN ((.int a,b)::bD l) (.int k)=none;rw[jw,bh,QH h.2];show ¬(decide ((a:Int)=k)=true);have h1:=h.1;rw[fO];lia
theorem Yn:∀{bd:TZ},k∉bd.map (·.1)->oM (bD bd) (.int k) t=bD (bd++[(k,t)])
 |[],_=>rfl
 |(a,b)::l,h=>by
  rw[cH,pJ,not_or] at h;show oM ((.int a,b)::bD l) (.int k) t=_;have h1:=h.1;rw[nA,bh,Yn h.2];· rfl
  show ¬(decide ((a:Int)=k)=true);rw[fO];lia
theorem I6(S:aK Φ)(cy:bi<O.length)(hk:k∉bd.map (·.1))(hl:bd.length<1000)(ht:Gr n t)(ho:ya t):∃cZ,Φ (d+n+3) false 84 [YL k,t,.ref (bi+16)] (mem g++Ca O bi bd γ)= .ok (.bool true) (mem g++Ca O bi (bd++[(k,t)]) (γ++cZ)):=by
 have hn:=ht.qD.ne;obtain⟨cZ,ins⟩:=Sg S (iy cy) n t d γ ht;obtain⟨β,eq1,eq2⟩:=tC (x:=YL k) (oH _ Z Z (by show 0<=60;exact dl Z)) ho
 have YV:β=false:=by
  cases hb:β with
  |false=>rfl
  |true=>refine gH ht.qD λs l e hs=>?_;have:=(eq2 hb).trans e;injection this with q;injection q with q _;injection q with q;exact absurd q.symm hs
 subst YV;have sd:=lW (v:=t) (hO (g:=g) (γ:=γ++cZ) cy) (Np (k:=k)) (by unfold bD LL;rw[dN];exact bj hl (dl Z));rw[Yn hk,mem_set,mv cy] at sd;have Pu:∀{l3:U} {σ:St},aV T (Φ (d+n+2)) false (J 1) [YL k,t,.ref (bi+16),l3] σ= .ok t σ:=bG Z hn;refine⟨cZ,ru S Z Z ?_⟩;refine aH (aD (C Z (C Z ak)) (XF S (hO cy) (QH hk)))<|aH (aD (C Pu (C Z ak)) (tD S ht.qD)) ?_;refine aL (aP Z Pu eq1)<|aW (cz Z) ?_;refine aL (aD (C Z (C Pu (C Z ak))) ins)<|fQ Pu Z Z sd ?_;exact aR Z Z
theorem nR(S:aK Φ){AM:Nat}(hx:qD x)(hy:qD y){β:Bool}(he:eX .eq x y σ= .ok (.bool β) σ){P:Res U->Prop}(h1:β=true->P (.ok (.bool true) σ))(h2:β=false->X (λs=>P (iZ s)) (aN T (Φ (AM+1)) (KW.drop 5) false [x,y,.ref b,.L] σ)):P (Φ (AM+2) false 84 [x,y,.ref b] σ):=by have xn:=hx.ne;have yn:=hy.ne;refine run S P Z Z<|aH (aD (C (bG Z xn) (C Z ak)) (tD S hx)) ?_;refine aH (aD (C (bG Z yn) (C Z ak)) (tD S hy))<|Y4 (aP (bG Z xn) (bG Z yn) he) (λhb=>aR Z (h1 hb)) λhb=>?_;obtain⟨s,l,rfl,hs⟩:=hx;obtain⟨s',l',rfl,hs'⟩:=hy;refine aL (bN hs)<|aL (bN hs') ?_;exact h2 hb
theorem sW(S:aK Φ){AM:Nat}{d:El}(h:e.con)(h':d.con):Φ (AM+2) false 84 [e.tm,d.tm,.ref b] σ= .ok (.bool (pC e d)) σ:=by
 refine bY (tC (σ:=σ) e.tok d.tok) λβ eq1 eq2=>?_;refine nR (P:=λr=>r=_) S (El.oZ h) (El.oZ h') eq1 (λhb=>?_) λhb=>?_
 .rw[El.Ky (eq2 hb),Ej h']
 .have ne:pC e d=false:=by
   cases q:pC e d with
   |false=>rfl
   |true=>
    exfalso
    have:e=d:=by
     cases e with
     |v _=>exact h.elim
     |i z=>cases d with
      |i w=>rw[eY (show decide (z=w)=true from q)]
      |_=>cases q
     |a z=>cases d with
      |a w=>rw[eY (show decide (z=w)=true from q)]
      |_=>cases q
    subst this;rw[sP (d:=e)] at eq1;injection eq1 with eq1;injection eq1 with eq1;rw[hb] at eq1;cases eq1
  rw[ne]
  have c1:aV T (Φ (AM+1)) false (.both false [(.cmp .ne (.idx (J 0) (D 0)) (Ls [115])),(.cmp .ne (.idx (J 1) (D 0)) (Ls [115])),(.cmp .ne (.idx (J 0) (D 1)) (.idx (J 1) (D 1)))]) [e.tm,d.tm,.ref b,.L] σ= .ok (.bool true) σ:=by
   cases e with
   |i z=>exact aF (bF (jK Y) Z)
   |a z=>exact aF (bF (jK Y) Z)
   |v z=>exact h.elim
  exact aW c1 (aR Z Z)
theorem w5:qD (bQ (.a 0) ds):=by
 cases ds with
 |nil=>exact(dK ([97]) _ Z Y)
 |cons d ds=>exact(dK ([115]) _ Z Y)
theorem Pj(S:aK Φ)(cy:bi<O.length){d':El}(hd:d'.con)(hv:∀k∈e.vars,k∉bd.map (·.1))(hl:bd.length<1000){AM:Nat}:∃cZ,Φ (AM+3) false 84 [e.tm,d'.tm,.ref (bi+16)] (mem g++Ca O bi bd γ)= .ok (.bool (e.fr||pC e d')) (mem g++Ca O bi (bd++Hi e d') (γ++cZ)):=by
 cases e with
 |v k=>exact I6 S cy (hv k eQ) hl (.con 0 d' hd) d'.tok
 |i z=>exact⟨[],by rewrite[dH];show _=Res.ok _ (mem g++Ca O bi (bd++[]) γ);rw[dH];exact sW S trivial hd⟩
 |a z=>exact⟨[],by rewrite[dH];show _=Res.ok _ (mem g++Ca O bi (bd++[]) γ);rw[dH];exact sW S trivial hd⟩
theorem Es{d':El}:(Hi e d').map (·.1)=e.vars:=by cases e<;>rfl
theorem ae(S:aK Φ)(cy:bi<O.length)(wD:tl= .a 0\/tl.fr=true):∀(aO ds:List El) (d:Nat) (bd:TZ) (γ:We),(∀ e∈ds,e.con)->(bd.map (·.1)++cL tl aO).Nodup->bd.length+aO.length<900->aO.length<=28->ds.length<=28->
  ∃QJ cZ,Φ (d+aO.length+ds.length+3) false 84 [bQ tl aO,bQ (.a 0) ds,.ref (bi+16)] (mem g++Ca O bi bd γ)= .ok (.bool (meets tl aO ds)) (mem g++Ca O bi QJ (γ++cZ))/\(meets tl aO ds=true->QJ=bd++kM tl aO ds):=by
 intro aO
 induction aO with
 |nil=>
  intro ds d bd γ hc qj hl h1 h2
  cases tl with
  |v k=>
   have hk:=xG (AD:=[k]) qj k eQ;obtain⟨cZ,e⟩:=I6 S cy hk (bj hl (dl Z)) (Gr.list hc) (yf (.a 0) (oU h2));have hm:meets (.v k) [] ds=true:=by cases ds<;>rfl
   refine(dK (bd++[(k,bQ (.a 0) ds)]) cZ ?_ (λ_=>rfl));rw[hm,<-e];rw[iu];rfl
  |i z=>rcases wD with h|h<;>cases h
  |a z=>
   have hz:z=0:=by
    rcases wD with h|h
    .injection h
    .cases h
   subst hz
   cases ds with
   |nil=>exact(dK bd ([]) (by rw[dH];exact sW S trivial trivial) (λ_=>(dH _).symm))
   |cons d1 ds=>
    refine(dK bd ([]) ?_ (λh=>by cases h));rw[dH];refine bY (tC (σ:=mem g++Ca O bi bd γ) (El.tok (.a 0)) (yf (.a 0) (oU h2))) λβ eq1 eq2=>?_;refine nR (P:=λr=>r=_) S (El.oZ (e:=.a 0) trivial) w5 eq1 (λhb=>?_) λhb=>?_
    .exfalso;have:=zy (aO:=[]) (eq2 hb)
     cases this.1
    .exact aW (aF (bF (jK Y) Z)) (aR Z Z)
 |cons e aO ih=>
  intro ds d bd γ hc qj hl h1 h2;rw[dC] at hl h1;have nx:qD (bQ tl (e::aO)):=(dK ([115]) _ Z Y)
  cases ds with
  |nil=>
   refine(dK bd ([]) ?_ (λh=>by cases h));rw[dH];refine bY (tC (σ:=mem g++Ca O bi bd γ) (yf tl (aO:=e::aO) (by rw[dC];exact oU h1)) (El.tok (.a 0))) λβ eq1 eq2=>?_;refine nR (P:=λr=>r=_) S nx (El.oZ (e:=.a 0) trivial) eq1 (λhb=>?_) λhb=>?_
   .exfalso;have:=zy (iJ:=[]) (eq2 hb)
    cases this.1
   .exact aW (aF (bA (gR Z) Z (bF (jK Y) Z))) (aR Z Z)
  |cons d1 ds=>
   rw[dC] at h2;have hnd':=qj;have NM:=hc d1 eQ;refine bY (tC (σ:=mem g++Ca O bi bd γ) (yf tl (aO:=e::aO) (by rw[dC];exact oU h1)) (yf (.a 0) (aO:=d1::ds) (by rw[dC];exact oU h2))) λβ eq1 eq2=>?_;have dl:d+aO.length+ds.length+4=(d+aO.length+ds.length+1)+3:=by exact Z
   obtain⟨jG,m1⟩:=Pj (g:=g) (γ:=γ) (bd:=bd) (e:=e) (d':=d1) (AM:=d+aO.length+ds.length+1) S cy NM (xG hnd') (by exact ye (bj hl (Mine.Internal.dl Z)))
   refine gH (ih ds (d+1) (bd++Hi e d1) (γ++jG) (λe m=>hc e (.tail _ m)) (by rw[oO,Es,bw];exact hnd') (by
    have:(Hi e d1).length<=1:=by cases e<;>first|exact bR _|exact gf _
    rw[bW];exact fH this hl) (by exact iw h1) (by exact iw h2)) λOV lE m2 m3=>?_
   rw[bw γ] at m2;have dd:d+(e::aO).length+(d1::ds).length+3=(d+aO.length+ds.length+3)+2:=by rw[dC,dC];lia
   rw[dd];have da:d+1+aO.length+ds.length+3=d+aO.length+ds.length+3+1:=by lia
   rw[da] at m2;have db:d+aO.length+ds.length+1+3=d+aO.length+ds.length+3+1:=by exact dl
   rw[db] at m1
   have lp:∀(z:Nat) (lx ly:U) (σ σ':St) (β:Bool) (l3:U),(∀ {σ:St},aV T (Φ (d+aO.length+ds.length+3+1)) false (.idx (.idx (J 0) (D 2)) (J 3)) [bQ tl (e::aO),bQ (.a 0) (d1::ds),.ref (bi+16),.int z] σ= .ok lx σ)->(∀ {σ:St},aV T (Φ (d+aO.length+ds.length+3+1)) false (.idx (.idx (J 1) (D 2)) (J 3)) [bQ tl (e::aO),bQ (.a 0) (d1::ds),.ref (bi+16),.int z] σ= .ok ly σ)->
     Φ (d+aO.length+ds.length+3+1) false 84 [lx,ly,.ref (bi+16)] σ= .ok (.bool β) σ'->aN T (Φ (d+aO.length+ds.length+3+1)) OG false [bQ tl (e::aO),bQ (.a 0) (d1::ds),.ref (bi+16),.int z] σ=if β=true then .done .next [bQ tl (e::aO),bQ (.a 0) (d1::ds),.ref (bi+16),.int z] σ' else .done (.ret (.bool false)) [bQ tl (e::aO),bQ (.a 0) (d1::ds),.ref (bi+16),.int z] σ':=λz lx ly σ σ' β l3 ex ey em=>by
    have xB:=cR (aD (f:=84) (C ex (C ey (C (a:=J 2) (x:=.ref (bi+16)) Z ak))) em);refine gP ?_
    cases β with
    |true=>exact aL xB (bU Z)
    |false=>exact aW xB (aR Z Z)
   have t1:=lp 0 e.tm d1.tm _ _ _ .L (λ{σ}=>bB Z Z (jt (k:=0) Z)) (λ{σ}=>bB Z Z (jt (k:=0) Z)) m1;have t2:=lp 1 (bQ tl aO) (bQ (.a 0) ds) _ _ _ .L (λ{σ}=>bB Z Z (jt (k:=1) Z)) (λ{σ}=>bB Z Z (jt (k:=1) Z)) m2
   have fin:β=false->∀(R:SR),forL (λB σ=>aN T (Φ (d+aO.length+ds.length+3+1)) OG false B σ) 3 (.yK 0 2 1) NN 0 [bQ tl (e::aO),bQ (.a 0) (d1::ds),.ref (bi+16),.L] (mem g++Ca O bi bd γ)=R->∀(xt:Bool) (vx:St),(R=if xt=true then .done .next [bQ tl (e::aO),bQ (.a 0) (d1::ds),.ref (bi+16),.int (1:Nat)] vx else R)->(xt=false->∃bx,R= .done (.ret (.bool false)) bx vx)->Φ (d+aO.length+ds.length+3+2) false 84 [bQ tl (e::aO),bQ (.a 0) (d1::ds),.ref (bi+16)] (mem g++Ca O bi bd γ)= .ok (.bool xt) vx:=λhb R hR xt vx h3 h4=>by
    refine nR (P:=λr=>r=_) S nx w5 eq1 (λq=>by rw[hb] at q;cases q) λ_=>?_;refine aL (aF (bA (gR (p:=([115]:Sa)=[115]) Z) Z (bA (gR (p:=([115]:Sa)=[115]) Z) Z (aQ (gR (p:=(0:Int)=0) Z))))) ?_
    cases xt with
    |true=>exact jf (v:=.yK 0 2 1) (bK (C (bK (C Z ak) Z Z) ak) Z (rW (n:=2) Y)) Z (hR.trans h3) (aR Z Z)
    |false=>obtain⟨bx,h4⟩:=h4 Z;exact w6 (v:=.yK 0 2 1) (bK (C (bK (C Z ak) Z Z) ak) Z (rW (n:=2) Y)) Z (hR.trans h4) Z
   by_cases hb:β=true
   .have q:=zy (eq2 hb);have mr:=Ao hc;refine(dK bd ([]) ?_ (λ_=>by rw[q.1,q.2,mr.2,dH]));rw[dH,q.1,q.2,mr.1];refine nR (P:=λr=>r=_) S w5 w5 (by rw[q.1,q.2] at eq1;exact eq1) (λ_=>rfl) λhf=>by rw[hb] at hf;cases hf
   .have IX:=Bool.eq_false_iff.mpr hb
    cases hh:(e.fr||pC e d1) with
    |false=>
     rw[hh,bh Y] at t1;have hm:meets tl (e::aO) (d1::ds)=false:=by show((e.fr||pC e d1)&&_)=false;rw[hh];rfl
     rw[hm];exact(dK (bd++Hi e d1) jG (fin IX _ (qN (n:=999) (x:=.int (0:Nat)) Z t1) false _ Z (λ_=>⟨_,Z⟩)) (λh=>by cases h))
    |true=>
     rw[hh,bz Z] at t1;have hm:meets tl (e::aO) (d1::ds)=meets tl aO ds:=by show((e.fr||pC e d1)&&_)=_;rw[hh];rfl
     rw[hm]
     cases hr:meets tl aO ds with
     |false=>rw[hr,bh Y] at t2;exact(dK OV (jG++lE) (fin IX _ (cV (n:=999) (x:=.int (0:Nat)) Z t1 (qN (n:=998) (x:=.int (1:Nat)) Z t2)) false _ Z (λ_=>⟨_,Z⟩)) (λh=>by cases h))
     |true=>rw[hr,bz Z] at t2;refine(dK OV (jG++lE) (fin IX _ (cV (n:=999) (x:=.int (0:Nat)) Z t1 (cV (n:=998) (x:=.int (1:Nat)) Z t2 (dW (n:=997) Z))) true _ Z (λh=>by cases h)) (λ_=>?_));rw[m3 hr,bw];rfl
structure CW(g:GS):Prop where
 Il:0<=g.pos
 Ld:g.pos<=g.cells.length
 Dw:0<=g.rest
 pQ:0<=g.oF
 zW:g.oF<=10^20
theorem wG(hk:k<4):rP (.ref 1) (.int k) v (mem g++O)=some ((mem g++O).set 1 (.list ([U.ref 0,.int g.pos,.int g.rest,.int g.oF].set k v))):=yU Z hk
theorem ZS(S:aK Φ)(H:CW g){m:Int}(hm:0<m)(BM:m<=10^30):∃(v p r s:Int),0<=v/\v<m/\CW {g with pos:=p,rest:=r,oF:=s}/\Φ (d+1) hd 81 [.ref 1,.int m] (mem g++O)= .ok (.int v) (mem {g with pos:=p,rest:=r,oF:=s}++O):=by
 have sm:=eG (by lia) BM;have fm:∀{x:Int} {σ:St},binop .mod (.int x) (.int m) σ= .ok (.int (Int.fmod x m)) σ:=λ{x σ}=>d7 (dF hm);have fd:∀{x:Int} {σ:St},binop .fdiv (.int x) (.int m) σ= .ok (.int (Int.fdiv x m)) σ:=λ{x σ}=>d7 (by rw[sm,dF hm];rfl);have g2:∀{g:GS} {B:Loc} {k:Nat} {v:U},B[0]?=some (.ref 1)->[U.ref 0,.int g.pos,.int g.rest,.int g.oF][k]?=some v->aV T (Φ d) hd (.idx (J 0) (.lit (.int k))) B (mem g++O)= .ok v (mem g++O):=λ{g B k v} h h2=>bB (bG h (λq=>nomatch q)) Z (fV Z h2)
 have back:∀(g:GS) (x:U),CW g->∃(v p r s:Int),0<=v/\v<m/\CW {g with pos:=p,rest:=r,oF:=s}/\X (λz=>iZ z= .ok (.int v) (mem {g with pos:=p,rest:=r,oF:=s}++O)) (aN T (Φ d) (O0.drop 1) hd [.ref 1,.int m,x,.L] (mem g++O)):=λg x H=>by refine(WN (Int.fmod g.rest m) g.pos (Int.fdiv g.rest m) g.oF (Hu _ hm) (Hq _ hm) ⟨H.Il,H.Ld,Int.fdiv_nonneg H.Dw (qW hm),H.pQ,H.zW⟩ ?_);refine aH (bZ (g2 Z Z) Z fm)<|fQ (bZ (g2 Z Z) Z fd) Z Z (wG Y) ?_;exact aR Z Z
 by_cases h0:g.rest=0
 .by_cases h1:g.pos=g.cells.length
  .have hs:0<=Int.fmod (g.oF*48271) 2147483647/\Int.fmod (g.oF*48271) 2147483647<2147483647:=⟨Hu _ Y,Hq _ Y⟩;refine(WN (Int.fmod (Int.fdiv (Int.fmod (g.oF*48271) 2147483647) 7) m) g.pos g.rest (Int.fmod (g.oF*48271) 2147483647) (Hu _ hm) (Hq _ hm) ⟨H.Il,H.Ld,H.Dw,hs.1,by show Int.fmod (g.oF*48271) 2147483647<=10^20;exact qW (nH hs.2 Y)⟩ ?_);refine ru S Z Z<|aW (aP (g2 Z Z) Z (cz h0)) ?_;have ln:fj 0 [.ref 0] (mem g++O)= .ok (.int (g.cells.map U.int).length) (mem g++O):=dM Z;rw[dN] at ln;refine aW (aP (g2 Z Z) (bK (C (g2 Z Z) ak) Z ln) (cz h1)) ?_;have ml:binop .mul (.int g.oF) (.int 48271) (mem g++O)= .ok (.int (g.oF*48271)) (mem g++O):=qF (by rw[eG (by have:=H.pQ;lia) (by have:=H.zW;exact nG this Y)];rfl);refine fQ (bZ (bZ (g2 Z Z) Z ml) Z Z) Z Z (wG Y)<|aR (bZ (bZ (g2 (g:={g with oF:=Int.fmod (g.oF*48271) 2147483647}) Z Z) Z Z) Z fm) Z
  .obtain⟨k,hk⟩:∃k:Nat,g.pos=k:=⟨g.pos.toNat,by have:=H.Il;lia⟩;have lt:k<g.cells.length:=by have:=H.Ld;lia
   have hc:(g.cells.map U.int)[k]?=some (.int g.cells[k]):=by rw[fG,gM lt];rfl
   generalize hz:g.cells[k]=z at hc;refine eT (back {g with pos:=g.pos+1,rest:=if z>=0 then z else -z} (.int z) ⟨by show 0<=g.pos+1;have:=H.Il;exact qW (Int.lt_add_one_of_le this),by show g.pos+1<=g.cells.length;lia,by show 0<=(if z>=0 then z else -z);split<;>lia,H.pQ,H.zW⟩) λv p r s b1 b2 b3 b4=>?_;refine(WN v p r s b1 b2 b3 (ru S Z Z ?_));have ln:=dM (σ:=mem g++O) (i:=0) Z;rw[dN] at ln;have e1:aV T (Φ d) hd (.idx (J 0) (D 1)) [.ref 1,.int m,.L,.L] (mem g++O)= .ok (.int k) (mem g++O):=(g2 Z Z).trans (by rw[hk]);refine aW (aP (g2 Z Z) Z (cz h0))<|aL (aP (g2 Z Z) (bK (C (g2 Z Z) ak) Z ln) (bN h1)) ?_;refine aH (bB (g2 Z Z) e1 (fV Z hc))<|fQ (bZ (g2 Z Z) Z Z) Z Z (wG Y) ?_
   have e2:aV T (Φ d) hd (.ite (.cmp .ge (J 2) (D 0)) (J 2) (.neg (J 2))) [.ref 1,.int m,.int z,.L] (mem {g with pos:=g.pos+1}++O)= .ok (.int (if z>=0 then z else -z)) (mem {g with pos:=g.pos+1}++O):=by
    by_cases q:z>=0
    .rw[bz q];exact fJ (cz q) Z
    .rw[bh q];exact fK (bN q) (Xu Z)
   refine fQ e2 Z Z (wG Y)<|b4
 .refine eT (back g .L H) λv p r s b1 b2 b3 b4=>?_;refine(WN v p r s b1 b2 b3 (ru S Z Z ?_));exact aL (aP (g2 Z Z) Z (bN h0)) b4
structure Gx(g g':GS)(n:Nat):Prop where
 ts:g.ts<+:g'.ts
 fs:g.fs<+:g'.fs
 lt:g'.ts.length<=g.ts.length+n
 lf:g'.fs.length<=g.fs.length+n
 same:g'={g with ts:=g'.ts,fs:=g'.fs}
theorem Gx.refl(g:GS):Gx g g n:=⟨zE _,zE _,d9 _ _,d9 _ _,Z⟩
variable{g'':GS}
theorem Gx.trans(h:Gx g g' n)(h':Gx g' g'' m):Gx g g'' (n+m):=by refine⟨h.ts.trans h'.ts,h.fs.trans h'.fs,fH h.lt h'.lt,fH h.lf h'.lf,?_⟩;have e:=h'.same;rw[h.same] at e;exact e
theorem qT[DecidableEq α]{ts:List α}{t:α}:ts<+:cQ ts t:=by
 unfold cQ
 split
 .exact zE _
 .exact List.prefix_append _ _
theorem HF:∀{t:Sa} {ts:za0},ts<+:yJ ts t
 |[],_=>zE _
 |c::t,ts=>(qT).trans (HF)
theorem FJ{l l':List α}(h:l<+:l')(hk:k<l.length):l'[k]?=l[k]?:=by obtain⟨t,rfl⟩:=h;exact oX hk
theorem Gx.VB(h:g.ts<+:ts)(hl:ts.length<=g.ts.length+n):Gx g {g with ts:=ts} n:=⟨h,zE _,hl,d9 _ _,Z⟩
theorem Gx.nr(au:Bool)(g:GS)(t:Sa):Gx g (nO au g t) t.length:=by
 unfold nO
 cases au with
 |true=>exact Gx.refl g
 |false=>exact Gx.VB HF HJ
theorem Gx.le(g:GS)(k:Sa)(n:Nat):Gx g (yM g k n) 1:=⟨qT,qT,jQ,jQ,Z⟩
variable{l:List E}{kind:Sa}{part:U}
theorem Pz(S:aK Φ){kd:Sa}{ps:Th}(h0:B[0]?=some (.ref 2))(hp:lH T (Φ (d+3)) false l B (mem g++τ)= .ok ps (mem g++τ))(hq:∀v∈ps,Gq v)(hn:ps.length<100)(hl:g.ts.length<800)(hf:g.fs.length<800):
  ∃γ,aV T (Φ (d+3)) false (Cf 87 [J 0,.lit (.str kd),.list l]) B (mem g++τ)= .ok (.tup [.str uU,bH (if ps=[] then vI (cO g.ts kd) else pH (cO g.fs (cO (kO g ps).ts kd,ps.length)) (qy g ps))]) (mem (yM (kO g ps) kd ps.length)++(τ++γ)):=by
 obtain⟨γ,e⟩:=AU (i:=τ.length) S bk hq hn hl hf;refine⟨[.list ps]++γ,?_⟩;rw[bw] at e;have el:aV T (Φ (d+3)) false (.list l) B (mem g++τ)= .ok (.ref (τ.length+16)) (mem g++(τ++[.list ps])):=(cG hp).trans (by rw[aX];rfl);exact aD (C (bG h0 (λq=>nomatch q)) (C Z (C el ak))) e
def Fd(g:GS)(kind:Sa):GS:=yM {g with ts:=cQ g.ts kind} mQ 2
def wc(g:GS)(kind:Sa):GS:=yM {g with ts:=cQ g.ts kind} uK 1
def ib(g:GS)(kind:Sa):GS:=yM {g with ts:=cQ g.ts kind} uy 1
def jS(g:GS):GS:=yM g jT 0
theorem Gx.two(g:GS)(k e:Sa)(n:Nat):Gx g (yM {g with ts:=cQ g.ts k} e n) 2:=(Gx.VB qT jQ).trans (Gx.le _ e n)
theorem Gj{k e:Sa}:cO (yM {g with ts:=cQ g.ts k} e n).ts k=cO g.ts k:=(num_add gO).trans jk
theorem Wm{e:Sa}:Cy (yM g e n) e n=cO g.fs (cO g.ts e,n):=by show cO (cQ g.fs (cO g.ts e,n)) (cO (cQ g.ts e) e,n)=_;rw[jk,jk]
theorem Gk{e:Sa}:GC (yM g e n) e n:=by refine⟨gO,?_⟩;rw[jk];exact gO
theorem zN(S:aK Φ){ll:Th}(h0:B[0]?=some (.ref 2))(hp:lH T (Φ (d+3)) false l B (mem g++τ)= .ok [.str kind,.tup ll] (mem g++τ))(hl:g.ts.length<800)(hf:g.fs.length<800):
  (∃ γ,aV T (Φ (d+3)) false (Cf 87 [J 0,.lit (.str mQ),.list l]) B (mem g++τ)= .ok (.tup [.str uU,bH (Cd (Fd g kind) kind (.tup ll))]) (mem (Fd g kind)++(τ++γ)))/\pZ (Fd g kind) kind:=by
 obtain⟨γ,e⟩:=Pz S h0 hp (λv m=>by
  rcases zb5 m with rfl|m
  .trivial
  .rcases zb5 m with rfl|m
   .trivial
   .cases m) (by show 2<100;decide) hl hf
 refine(jW ⟨γ,e.trans ?_⟩ (uX gO) Gk)
 have:Cd (Fd g kind) kind (.tup ll)=pH (cO g.fs (cO (cQ g.ts kind) mQ,2)) [vI (cO g.ts kind),.tup ll]:=by unfold Cd Fd;rw[Wm,Gj]
 rw[this];rfl
theorem zC(S:aK Φ)(h0:B[0]?=some (.ref 2))(hp:lH T (Φ (d+3)) false l B (mem g++τ)= .ok [.str kind] (mem g++τ))(hl:g.ts.length<800)(hf:g.fs.length<800):
  (∃ γ,aV T (Φ (d+3)) false (Cf 87 [J 0,.lit (.str uK),.list l]) B (mem g++τ)= .ok (.tup [.str uU,bH (EC (wc g kind) kind)]) (mem (wc g kind)++(τ++γ)))/\kx (wc g kind) kind:=by
 obtain⟨γ,e⟩:=Pz S h0 hp (λv m=>by
  rcases zb5 m with rfl|m
  .trivial
  .cases m) (by show 1<100;decide) hl hf
 refine(jW ⟨γ,e.trans ?_⟩ (uX gO) Gk)
 have:EC (wc g kind) kind=pH (cO g.fs (cO (cQ g.ts kind) uK,1)) [vI (cO g.ts kind)]:=by unfold EC wc;rw[Wm,Gj]
 rw[this];rfl
theorem ys(S:aK Φ)(h0:B[0]?=some (.ref 2))(hp:lH T (Φ (d+3)) false l B (mem g++τ)= .ok [.str kind] (mem g++τ))(hl:g.ts.length<800)(hf:g.fs.length<800):
  (∃ γ,aV T (Φ (d+3)) false (Cf 87 [J 0,.lit (.str uy),.list l]) B (mem g++τ)= .ok (.tup [.str uU,bH (vT (ib g kind) kind)]) (mem (ib g kind)++(τ++γ)))/\Xb (ib g kind) kind:=by
 obtain⟨γ,e⟩:=Pz S h0 hp (λv m=>by
  rcases zb5 m with rfl|m
  .trivial
  .cases m) (by show 1<100;decide) hl hf
 refine(jW ⟨γ,e.trans ?_⟩ (uX gO) Gk)
 have:vT (ib g kind) kind=pH (cO g.fs (cO (cQ g.ts kind) uy,1)) [vI (cO g.ts kind)]:=by unfold vT ib;rw[Wm,Gj]
 rw[this];rfl
theorem jv(S:aK Φ)(h0:B[0]?=some (.ref 2))(hl:g.ts.length<800)(hf:g.fs.length<800):
  (∃ γ,aV T (Φ (d+3)) false (Cf 87 [J 0,.lit (.str jT),.list []]) B (mem g++τ)= .ok (.tup [.str uU,bH (rb (jS g))]) (mem (jS g)++(τ++γ)))/\jT∈(jS g).ts:=by
 obtain⟨γ,e⟩:=Pz S h0 ak (λv m=>by cases m) Y hl hf;refine⟨⟨γ,e.trans ?_⟩,gO⟩
 have:rb (jS g)=vI (cO g.ts jT):=by show vI (cO (cQ g.ts jT) jT)=_;rw[jk]
 rw[this];rfl
abbrev P8:List S:=eE (Nq.drop 4)
abbrev CF:List S:=eE (Nq.drop 9)
noncomputable def rK:El->List Nat
 | .i _=>[105]
 | .a _=>[97]
 | .v _=>[118]
theorem Oj{Φ:iC}(h:B[j]?=some e.tm):aV T Φ hd (.idx (.B j) (D 0)) B σ= .ok (.str (rK e)) σ:=by
 refine bB (bG h e.zP) Z ?_
 cases e<;>rfl
theorem row_walk{Φ:iC}{l0 l1 l2 l3 l8 l9 jC:U}:∀(aO:List El) (N:Nat) (acc:List El),aO.length<N->acc.length+aO.length<1000->
  f9 (aV T Φ false (.both true [(.cmp .eq (.idx (J 5) (D 0)) (Ls [115])),(.cmp .eq (.idx (J 5) (D 1)) (D 0))])) (λB σ=>aN T Φ P8 false B σ) N [l0,l1,l2,l3,.ref (O.length+16),bQ tl aO,l6,l7,l8,l9,jC] (mem g++(O++[.list (acc.map El.tm)]))=
   .done .next [l0,l1,l2,l3,.ref (O.length+16),tl.tm,l6,l7,l8,l9,jC] (mem g++(O++[.list ((acc++aO).map El.tm)])):=by
 intro aO
 induction aO with
 |nil=>
  intro N acc hN hl;obtain⟨N,rfl⟩:=Js hN;rw[dH];refine cU (aF (bF ?_ Z));refine(aP (Oj Z) Z Z).trans ?_
  cases tl<;>rfl
 |cons e aO ih=>intro N acc hN hl;rw[dC] at hN hl;obtain⟨N,rfl⟩:=Js hN;have r:=ih N (acc++[e]) (gw hN) (by rw[bW];show acc.length+1+_<_;exact dq hl);rw[bw] at r;have pu:=mG (Φ:=Φ) (hd:=false) (σ:=mem g++O) (l:=acc.map El.tm) (v:=e.tm) (by rw[dN];unfold LL;exact ye (bj hl (dl Z)));rewrite[aX,aX,show acc.map El.tm++[e.tm]=(acc++[e]).map El.tm by rw[oO];rfl] at pu;refine cJ (aF (bA (cz Z) Z (aQ (cz Z)))) (gP ?_) r;refine cM (cP Z (cX gb Y) (C (bB (bB Z Z (jt Z)) Z (jt Z)) ak) pu)<|aH (bB (bB Z Z (jt Z)) Z (jt Z)) (bU Z)
theorem Dp:∀(l:List El),strsOf (l.map λe=>U.str (rK e))=some (l.map rK)
 |[]=>rfl
 |e::l=>by show(strsOf (l.map λe=>U.str (rK e))).map (rK e::·)=_;rw[Dp l];rfl
theorem HB:∀(l:List El),(l.map rK).contains [118]=l.any El.fr
 |[]=>rfl
 |e::l=>by
  rw[cH,rG,Hr,HB l]
  cases e<;>rfl
theorem a9{Φ:iC}{l0 l1 l2 l3 l8 l9:U}(hl:aO.length<300):∃γ,aV T Φ false (.cmp .isIn (Ls [118]) (.comp (.idx (J 10) (D 0)) 10 (.bin .add (J 4) (.list [(J 5)])))) [l0,l1,l2,l3,.ref (O.length+16),tl.tm,l6,l7,l8,l9,.L] (mem g++(O++[.list (aO.map El.tm)]))=
  .ok (.bool (dZ tl aO)) (mem g++(O++.list (aO.map El.tm)::γ)):=by
 have e1:aV T Φ false (.list [J 5]) [l0,l1,l2,l3,.ref (O.length+16),tl.tm,l6,l7,l8,l9,.L] (mem g++(O++[.list (aO.map El.tm)]))= .ok (.ref (O.length+1+16)) (mem g++(O++[.list (aO.map El.tm),.list [tl.tm]])):=(cG (C (bG Z tl.zP) ak)).trans (by
  rewrite[aX,bw];show Res.ok (U.ref ((O++[AO.list (aO.map El.tm)]).length+16)) _=_;rw[bW];rfl)
 have e2:binop .add (.ref (O.length+16)) (.ref (O.length+1+16)) (mem g++(O++[.list (aO.map El.tm),.list [tl.tm]]))= .ok (.ref (O.length+2+16)) (mem g++(O++[.list (aO.map El.tm),.list [tl.tm],.list ((aO++[tl]).map El.tm)])):=by
  refine(jE gb).trans ((jE de).trans ((d7 (dF ?_)).trans ?_))
  .rw[bW,dN];show aO.length+1<=LL;unfold LL;exact oW (bj hl (dl Z))
  rewrite[aX,bw,oO];show Res.ok (U.ref ((O++[AO.list (aO.map El.tm),.list [tl.tm]]).length+16)) _=_;rw[bW];rfl
 have X1:(mem g++(O++[.list (aO.map El.tm),.list [tl.tm],.list ((aO++[tl]).map El.tm)]))[O.length+2+16]?=some (.list ((aO++[tl]).map El.tm)):=Xf
 obtain⟨σ',ce,Bz⟩:=tG (B:=[l0,l1,l2,l3,.ref (O.length+16),tl.tm,l6,l7,l8,l9,.L]) (elt:=λB σ=>aV T Φ false (.idx (J 10) (D 0)) B σ) (slot:=10) (F:=λk=>match (aO++[tl])[k]? with|some e=>.str (rK e)|none=>.none)
  (λ_ σ=>σ=mem g++(O++[.list (aO.map El.tm),.list [tl.tm],.list ((aO++[tl]).map El.tm)])) (λk σ h=>by subst h;exact cD X1) (λk x σ hx h=>by
   rw[fG] at hx;obtain⟨e,he,rfl⟩:=zb3 hx;refine(aZ σ ?_ h);rw[he];exact Oj Z) (aO++[tl]).length NN 0 [] _ (by rw[dN,mz]) (by rw[bW];show aO.length+1<NN;unfold NN;exact oR (bj hl (dl Z))) Z
 subst Bz
 have rm:(List.range' 0 (aO++[tl]).length).map (λk=>match (aO++[tl])[k]? with|some e=>U.str (rK e)|none=>.none)=(aO++[tl]).map λe=>U.str (rK e):=by
  apply List.ext_getElem?;intro k;rw[fG,fG]
  by_cases hk:k<(aO++[tl]).length
  .rw[List.getElem?_range' hk,gM hk];show some (match (aO++[tl])[0+1*k]? with|some e=>U.str (rK e)|none=>.none)=_;rw[Nat.one_mul,mz,gM hk];rfl
  .rw[lL (iW hk),lL (by rw[List.length_range'];exact iW hk)];rfl
 rw[mW,rm] at ce;refine⟨[.list [tl.tm],.list ((aO++[tl]).map El.tm),.list ((aO++[tl]).map λe=>U.str (rK e))],?_⟩
 have ml:=wA (σ:=(mem g++(O++[.list (aO.map El.tm),.list [tl.tm],.list ((aO++[tl]).map El.tm)]))++[.list ((aO++[tl]).map λe=>U.str (rK e))]) (v:=.str [118]) (b:=dZ tl aO) bk (by
  show(strsOf ((aO++[tl]).map λe=>U.str (rK e))).map (λss=>ss.contains [118])=_;rw[Dp];show some (((aO++[tl]).map rK).contains [118])=_;rw[HB,List.any_append];unfold dZ;rw[Bool.or_comm];show some ((tl.fr||false)||_)=_;rw[Bool.or_false])
 refine(aP Z (lu (bZ Z e1 e2) Z ce) ml).trans ?_;rewrite[aX,bw];rfl
noncomputable def one:List Nat->Option Nat
 |[c]=>some c
 |_=>none
theorem Qp{t:Sa}(h:ts[k]?=some t):eV false ts (.a k)=one t:=by
 show(if false=true then none else match ts[k]? with|some [c]=>some c|_=>none)=_;rw[bh Y,h]
 cases t with
 |nil=>rfl
 |cons c t=>cases t<;>rfl
theorem Ek(S:aK Φ)(hl:g.ts.length<700)(hf:g.fs.length<700)(hi:τ[i]?=some (.list (aO.map El.tm)))(ha:∀e∈aO,e.mV g.ts){l1 l3 l4 l5 l7 l9 jC:U}:∀(au:Bool) (rest:List El) (k N:Nat) (acc:Sa) (x:U),aO.drop k=rest->rest.length<N->acc.length+rest.length<1000->
  match mO au g.ts rest with
  | .inr l=>∃x',forL (λB σ=>aN T (Φ (d+3)) CF false B σ) 6 (.ref (i+16)) N k [.ref 2,l1,.bool au,l3,l4,l5,x,l7,.str acc,l9,jC] (mem g++τ)= .done .next [.ref 2,l1,.bool au,l3,l4,l5,x',l7,.str (acc++l),l9,jC] (mem g++τ)
  | .inl e=>∃g' bx γ,Gx g g' 2/\XN au g' e/\forL (λB σ=>aN T (Φ (d+3)) CF false B σ) 6 (.ref (i+16)) N k [.ref 2,l1,.bool au,l3,l4,l5,x,l7,.str acc,l9,jC] (mem g++τ)= .done (.ret (.tup [.str uU,bH (Jz au g' e)])) bx (mem g'++(τ++γ))
 |au,[],k,N+1,acc,x,h,hN,hA=>by refine⟨x,(dW ?_).trans (by rw[dH])⟩;rw[cD hi,fG,show aO[k]?=([]:List El)[0]? by rw[<- h,iY,iu]];rfl
 |au,e::rest,k,N+1,acc,x,h,hN,hA=>by
  rw[dC] at hN hA;have me:=Ht (by rw[h];exact eQ);have it:dJ (.ref (i+16)) k (mem g++τ)=some (some e.tm):=by rw[cD hi,fG,show aO[k]?=(e::rest)[0]? by rw[<- h,iY,iu]];rfl
  have hd:aO.drop (k+1)=rest:=by rw[<- qX,h];rfl
  have go:∀(YG:Sa),YG.length<=acc.length+1->aN T (Φ (d+3)) CF false [.ref 2,l1,.bool au,l3,l4,l5,e.tm,l7,.str acc,l9,jC] (mem g++τ)= .done .next [.ref 2,l1,.bool au,l3,l4,l5,e.tm,l7,.str YG,l9,jC] (mem g++τ)->
    match mO au g.ts rest with
    | .inr l=>∃x',forL (λB σ=>aN T (Φ (d+3)) CF false B σ) 6 (.ref (i+16)) (N+1) k [.ref 2,l1,.bool au,l3,l4,l5,x,l7,.str acc,l9,jC] (mem g++τ)= .done .next [.ref 2,l1,.bool au,l3,l4,l5,x',l7,.str (YG++l),l9,jC] (mem g++τ)
    | .inl e=>∃g' bx γ,Gx g g' 2/\XN au g' e/\forL (λB σ=>aN T (Φ (d+3)) CF false B σ) 6 (.ref (i+16)) (N+1) k [.ref 2,l1,.bool au,l3,l4,l5,x,l7,.str acc,l9,jC] (mem g++τ)= .done (.ret (.tup [.str uU,bH (Jz au g' e)])) bx (mem g'++(τ++γ)):=λYG h2 bd=>by
   have ih:=Ek S hl hf hi ha (l1:=l1) (l3:=l3) (l4:=l4) (l5:=l5) (l7:=l7) (l9:=l9) (jC:=jC) au rest (k+1) N YG e.tm hd (gw hN) (fH h2 hA)
   cases hc:mO au g.ts rest with
   |inr l=>rw[hc] at ih;obtain⟨x',r⟩:=ih;exact⟨x',cV it bd r⟩
   |inl z=>rw[hc] at ih;refine uh ih λg' bx γ r1 r2 r=>?_;exact(pq g' bx γ r1 r2 (cV it bd r))
  cases e with
  |v n=>refine go acc (d9 _ _) (gP ?_);have st:∀{l:List E} {σ:St},aV T (Φ (d+3)) false (.both true ((.cmp .ne (.idx (J 6) (D 0)) (Ls [118]))::l)) [.ref 2,l1,.bool au,l3,l4,l5,(El.v n).tm,l7,.str acc,l9,jC] σ= .ok (.bool false) σ:=λ{l σ}=>aF (bF (gR Z) Z);refine aL st (aL st (aL st ?_));exact aL (gR Z) (bU Z)
  |i z=>
   have nv:∀{σ:St},aV T (Φ (d+3)) false (.cmp .ne (.idx (J 6) (D 0)) (Ls [118])) [.ref 2,l1,.bool au,l3,l4,l5,(El.i z).tm,l7,.str acc,l9,jC] σ= .ok (.bool true) σ:=λ{σ}=>jK Y
   cases au with
   |true=>
    have c1:aV T (Φ (d+3)) false (.both true [(.cmp .ne (.idx (J 6) (D 0)) (Ls [118])),(J 2),(.cmp .ne (.idx (J 6) (D 0)) (Ls [105]))]) [.ref 2,l1,.bool true,l3,l4,l5,(El.i z).tm,l7,.str acc,l9,jC] (mem g++τ)= .ok (.bool false) (mem g++τ):=aF (bA nv Z (bA Z Z (aQ (gR Z))))
    by_cases hb:0<=z/\z<=1114111
    .have et:eV true g.ts (.i z)=some z.toNat:=bz ⟨Z,hb⟩
     have ec:mO true g.ts (.i z::rest)=match mO true g.ts rest with| .inl x=>.inl x| .inr l=>.inr (z.toNat::l):=by show(match eV true g.ts (.i z) with|none=>Sum.inl (El.i z)|some c=>match mO true g.ts rest with| .inl x=>.inl x| .inr l=>.inr (c::l))=_;rw[et]
     have r:=go (acc++[z.toNat]) (by rw[bW];exact bR _) (gP (by
      refine aL c1<|aL (aF (bA nv Z (bA Z Z (aQ (aF (bA (bN (Dc hb.1)) Z (aQ (bN (Dc hb.2))))))))) ?_;refine aL (aF (bA nv Z (bF (cR (p:=true) Z) Z)))<|aW nv ?_;refine uw Z (fJ Z (bK (C Z ak) Z (Yb hb))) (QK (by rw[bW];show acc.length+1<=LL;unfold LL;exact dq hA)) (bU Z)))
     rw[ec]
     cases hc:mO true g.ts rest with
     |inr l=>rw[hc] at r;obtain⟨x',r⟩:=r;rw[bw] at r;exact⟨x',r⟩
     |inl y=>rw[hc] at r;exact r
    .have et:eV true g.ts (.i z)=none:=bh λq=>hb q.2
     have ec:mO true g.ts (.i z::rest)= .inl (.i z):=by show(match eV true g.ts (.i z) with|none=>Sum.inl (El.i z)|some c=>match mO true g.ts rest with| .inl x=>.inl x| .inr l=>.inr (c::l))=_;rw[et]
     rw[ec];obtain⟨⟨γ,ev⟩,hh⟩:=zC (B:=[.ref 2,l1,.bool true,l3,l4,l5,(El.i z).tm,l7,.str acc,l9,jC]) (l:=[.lit (.str PN)]) S Z (C Z ak) (bj hl (dl Z)) (by exact bj hf (dl Z));refine(pq (wc g PN) ([.ref 2,l1,.bool true,l3,l4,l5,(El.i z).tm,l7,.str acc,l9,jC]) γ (Gx.two ..) hh (qN (x:=(El.i z).tm) it (gP ?_)));refine aL c1 ?_
     have c2:aV T (Φ (d+3)) false (.both false [(.cmp .lt (.idx (J 6) (D 1)) (D 0)),(.cmp .gt (.idx (J 6) (D 1)) (D 1114111))]) [.ref 2,l1,.bool true,l3,l4,l5,(El.i z).tm,l7,.str acc,l9,jC] (mem g++τ)= .ok (.bool true) (mem g++τ):=by
      by_cases h0:z<0
      .exact aF (bF (cz (p:=z<0) h0) Z)
      .exact aF (bA (bN (p:=z<0) h0) Z (aQ (cz (p:=z>1114111) (by lia))))
     refine aW (aF (bA nv Z (bA (a:=J 2) (p:=true) Z Z (aQ c2))))<|aR ev Z
   |false=>
    have et:eV false g.ts (.i z)=none:=by show(if false=true/\0<=z/\z<=1114111 then some z.toNat else none)=none;exact bh λq=>absurd q.1 Y
    have ec:mO false g.ts (.i z::rest)= .inl (.i z):=by show(match eV false g.ts (.i z) with|none=>Sum.inl (El.i z)|some c=>match mO false g.ts rest with| .inl x=>.inl x| .inr l=>.inr (c::l))=_;rw[et]
    rw[ec]
    have st:∀{l:List E} {σ:St},aV T (Φ (d+3)) false (.both true ((.cmp .ne (.idx (J 6) (D 0)) (Ls [118]))::(J 2)::l)) [.ref 2,l1,.bool false,l3,l4,l5,(El.i z).tm,l7,.str acc,l9,jC] σ= .ok (.bool false) σ:=λ{l σ}=>aF (bA nv Z (by cases l with
     |nil=>exact aQ Z
     |cons _ _=>exact bF (p:=false) Z Z))
    obtain⟨⟨γ,ev⟩,hh⟩:=zN (d:=d) (g:=g) (τ:=τ) (kind:=jo) (B:=[.ref 2,l1,.bool false,l3,l4,l5,(El.i z).tm,l7,.str acc,l9,jC]) (l:=[.lit (.str jo),J 6]) S Z (C Z (C Z ak)) (by exact bj hl (dl Z)) (by exact bj hf (dl Z));refine(pq (Fd g jo) ([.ref 2,l1,.bool false,l3,l4,l5,(El.i z).tm,l7,.str acc,l9,jC]) γ (Gx.two ..) hh (qN (x:=(El.i z).tm) it (gP ?_)));refine aL st (aL st ?_);refine aW (aF (bA nv Z (bA (p:=true) (cR (a:=J 2) (p:=false) Z) Z (aQ (aF (bF (jK (p:=([105]:Sa)=[97]) Y) Z))))))<|aR ev Z
  |a z=>
   have nv:∀{σ:St},aV T (Φ (d+3)) false (.cmp .ne (.idx (J 6) (D 0)) (Ls [118])) [.ref 2,l1,.bool au,l3,l4,l5,(El.a z).tm,l7,.str acc,l9,jC] σ= .ok (.bool true) σ:=λ{σ}=>jK (p:=([97]:Sa)=[118]) Y
   cases au with
   |true=>have ec:mO true g.ts (.a z::rest)= .inl (.a z):=rfl;rw[ec];obtain⟨⟨γ,ev⟩,hh⟩:=zN (d:=d) (g:=g) (τ:=τ) (kind:=sX) (B:=[.ref 2,l1,.bool true,l3,l4,l5,(El.a z).tm,l7,.str acc,l9,jC]) (l:=[.lit (.str sX),J 6]) S Z (C Z (C Z ak)) (by exact bj hl (dl Z)) (by exact bj hf (dl Z));refine(pq (Fd g sX) ([.ref 2,l1,.bool true,l3,l4,l5,(El.a z).tm,l7,.str acc,l9,jC]) γ (Gx.two ..) hh (qN (x:=(El.a z).tm) it (gP ?_)));refine aW (aF (bA nv Z (bA (a:=J 2) (p:=true) Z Z (aQ (jK (p:=([97]:Sa)=[105]) Y)))))<|aR ev Z
   |false=>
    have st:∀{l:List E} {σ:St},aV T (Φ (d+3)) false (.both true ((.cmp .ne (.idx (J 6) (D 0)) (Ls [118]))::(J 2)::l)) [.ref 2,l1,.bool false,l3,l4,l5,(El.a z).tm,l7,.str acc,l9,jC] σ= .ok (.bool false) σ:=λ{l σ}=>aF (bA nv Z (by cases l with
     |nil=>exact aQ Z
     |cons _ _=>exact bF (p:=false) Z Z))
    obtain⟨t,ht⟩:∃t,g.ts[z]?=some t:=⟨_,gM (ha _ me)⟩;have tx:=Fg (d:=d+2) (hd:=false) (O:=τ) S ht;have ex:aV T (Φ (d+3)) false (.aG (J 0) 54 [(.idx (J 6) (D 1))]) [.ref 2,l1,.bool false,l3,l4,l5,(El.a z).tm,l7,.str acc,l9,jC] (mem g++τ)= .ok (.str t) (mem g++τ):=bJ Z Z (C Z ak) tx
    have OP:mO false g.ts (.a z::rest)=match one t with|none=>.inl (.a z)|some c=>match mO false g.ts rest with| .inl x=>.inl x| .inr l=>.inr (c::l):=by show(match eV false g.ts (.a z) with|none=>Sum.inl (El.a z)|some c=>match mO false g.ts rest with| .inl x=>.inl x| .inr l=>.inr (c::l))=_;rw[Qp ht]
    by_cases h1:t.length=1
    .obtain⟨c,rfl⟩:∃c,t=[c]:=List.length_eq_one_iff.mp h1
     have r:=go (acc++[c]) (by rw[bW];exact bR _) (gP (by
      refine aL st (aL st ?_);refine aL (aF (bA nv Z (bA (p:=true) (cR (a:=J 2) (p:=false) Z) Z (aQ (aF (bA (gR (p:=([97]:Sa)=[97]) Z) Z (aQ (aP (bK (C ex ak) Z Z) Z (gR (p:=(1:Int)=1) Z)))))))))<|aW nv ?_;refine uw (v:=.str (acc++[c])) Z (fK Z ex) (QK (by rw[bW];show acc.length+1<=LL;unfold LL;exact dq hA)) (bU Z)))
     have ec:=OP;rw[ec]
     cases hc:mO false g.ts rest with
     |inr l=>rw[hc] at r;obtain⟨x',r⟩:=r;rw[bw] at r;exact⟨x',r⟩
     |inl y=>rw[hc] at r;exact r
    .have ec:mO false g.ts (.a z::rest)= .inl (.a z):=by
      rw[OP]
      cases t with
      |nil=>rfl
      |cons c t=>cases t with
       |nil=>exact absurd Z h1
       |cons _ _=>rfl
     rw[ec];obtain⟨⟨γ,ev⟩,hh⟩:=zN (d:=d) (g:=g) (τ:=τ) (kind:=jo) (B:=[.ref 2,l1,.bool false,l3,l4,l5,(El.a z).tm,l7,.str acc,l9,jC]) (l:=[.lit (.str jo),J 6]) S Z (C Z (C Z ak)) (by exact bj hl (dl Z)) (by exact bj hf (dl Z));refine(pq (Fd g jo) ([.ref 2,l1,.bool false,l3,l4,l5,(El.a z).tm,l7,.str acc,l9,jC]) γ (Gx.two ..) hh (qN (x:=(El.a z).tm) it (gP ?_)));refine aL st (aL st ?_);refine aW (aF (bA nv Z (bA (p:=true) (cR (a:=J 2) (p:=false) Z) Z (aQ (aF (bA (gR (p:=([97]:Sa)=[97]) Z) Z (aQ (aP (bK (C ex ak) Z Z) Z (jK (p:=(t.length:Int)=1) (by exact qI h1))))))))))<|aR ev Z
noncomputable def jV:List Nat:=[104,111,108,100,115]
def Due(r:Res U)(g':GS)(O:We):Sum U (U×U)->Prop
 | .inl F=>∃γ,r= .ok (.tup [.str uU,bH F]) (mem g'++(O++γ))
 | .inr (a,b)=>∃γ j,r= .ok (.tup [.str jV,.ref (j+16)]) (mem g'++(O++γ))/\(O++γ)[j]?=some (.list [.tup [a,b]])
inductive uJ(au:Bool)(g':GS)(s:Sa)(ll:Th)(tl:El)(aO:List El):Sum U (U×U)->Prop where
 |num (h1:s≠[105]) (h2:s≠[118]) (h:pZ g' gj):uJ au g' s ll tl aO (.inl (Cd g' gj (.tup (.str s::ll))))
 |err (F:U) (h:s=[105]\/s=[118]) (hh:uI au (decide (s=[105])) g' tl aO) (ho:dR au (decide (s=[105])) g' tl aO (bQ tl aO)= .err F):uJ au g' s ll tl aO (.inl F)
 |part (n:Int) (h:s=[105]) (hl:ll=[.int n]) (hh:uI au true g' tl aO) (ho:dR au true g' tl aO (bQ tl aO)= .part) (hc:au=false->∀c∈cN n,[c]∈g'.ts):uJ au g' s ll tl aO (.inr (bQ tl aO,bQ (.a 0) ((cN n).map (fW au g'.ts))))
 |D9 (t:Sa) (h:s=[105]\/s=[118]) (hh:uI au (decide (s=[105])) g' tl aO) (ho:dR au (decide (s=[105])) g' tl aO (bQ tl aO)= .text t) (hn:cT t=none) (hs:Xb g' gV):uJ au g' s ll tl aO (.inl (vT g' gV))
 |val (t:Sa) (v:Int) (h:s=[105]\/s=[118]) (hh:uI au (decide (s=[105])) g' tl aO) (ho:dR au (decide (s=[105])) g' tl aO (bQ tl aO)= .text t) (hn:cT t=some v):uJ au g' s ll tl aO (.inr (.tup (.str s::ll),.tup [.str [105],.int v]))
variable{s:Sa}{ll:Th}
theorem S9(h:Gx g g' n)(ha:e.mV g.ts):eV au g'.ts e=eV au g.ts e:=by
 cases e with
 |i z=>rfl
 |v z=>rfl
 |a z=>show(if au=true then none else match g'.ts[z]? with|some [c]=>some c|_=>none)=(if au=true then none else match g.ts[z]? with|some [c]=>some c|_=>none);rw[FJ h.ts ha]
theorem wR(h:Gx g g' n):∀{aO:List El},(∀ e∈aO,e.mV g.ts)->mO au g'.ts aO=mO au g.ts aO
 |[],_=>rfl
 |e::aO,ha=>by
  have ih:=wR h λe m=>ha e (.tail _ m);have et:=S9 (au:=au) h (ha e eQ)
  cases e with
  |v z=>exact ih
  |i z=>show(match eV au g'.ts (.i z) with|none=>Sum.inl (El.i z)|some c=>match mO au g'.ts aO with| .inl x=>.inl x| .inr l=>.inr (c::l))=(match eV au g.ts (.i z) with|none=>Sum.inl (El.i z)|some c=>match mO au g.ts aO with| .inl x=>.inl x| .inr l=>.inr (c::l));rw[et,ih]
  |a z=>show(match eV au g'.ts (.a z) with|none=>Sum.inl (El.a z)|some c=>match mO au g'.ts aO with| .inl x=>.inl x| .inr l=>.inr (c::l))=(match eV au g.ts (.a z) with|none=>Sum.inl (El.a z)|some c=>match mO au g.ts aO with| .inl x=>.inl x| .inr l=>.inr (c::l));rw[et,ih]
theorem sR(S:aK Φ)(hl:g.ts.length<600)(hf:g.fs.length<600){si:Nat}(hi:O[si]?=some (.list [.tup (.str s::ll),bQ tl aO]))(hn:s=[105]->∃n:Int,ll=[.int n]/\n.natAbs<=10^30)(ha:∀e∈aO,e.mV g.ts)(YT:aO.length<=28):
  ∃g' o,Gx g g' 60/\Due (Φ (d+5) false 93 [.ref 2,.ref (si+16),.bool au] (mem g++O)) g' O o/\uJ au g' s ll tl aO o:=by
 have bind:ou ML [.ref 2,.ref (si+16),.bool au]=some [.ref 2,.ref (si+16),.bool au,.L,.L,.L,.L,.L,.L,.L,.L]:=rfl;have sd:∀{g:GS} {γ:We} {B:Loc} {k:Nat} {v:U},B[1]?=some (.ref (si+16))->([U.tup (.str s::ll),bQ tl aO]:Th)[k]?=some v->aV T (Φ (d+4)) false (.idx (J 1) (.lit (.int k))) B (mem g++(O++γ))= .ok v (mem g++(O++γ)):=λ{g γ B k v} h h2=>bB (bG h (λq=>nomatch q)) Z (fV (rB hi) h2);have s0:∀{γ:We} {B:Loc},B[1]?=some (.ref (si+16))->aV T (Φ (d+4)) false (.idx (.idx (J 1) (D 0)) (D 0)) B (mem g++(O++γ))= .ok (.str s) (mem g++(O++γ)):=λ{γ B} h=>bB (sd h Z) Z Z;have tz:mem g++O=mem g++(O++[]):=by rw[dH]
 have front:∀{Q:za1},X Q (aN T (Φ (d+4)) (Nq.drop 1) false [.ref 2,.ref (si+16),.bool au,.bool (decide (s=[105])),.L,.L,.L,.L,.L,.L,.L] (mem g++(O++[])))->X Q (aN T (Φ (d+4)) Nq false [.ref 2,.ref (si+16),.bool au,.L,.L,.L,.L,.L,.L,.L,.L] (mem g++(O++[]))):=λH=>aH (aP (s0 Z) Z Z) H;obtain⟨lt,rE⟩:=lD tl aO;have hLu:bQ tl aO≠.L:=by rw[rE];exact λq=>by cases q
 by_cases Bg:s≠[105]/\s≠[118]
 .
  obtain⟨⟨γ,ev⟩,hh⟩:=zN (B:=[.ref 2,.ref (si+16),.bool au,.bool (decide (s=[105])),.L,.L,.L,.L,.L,.L,.L]) (l:=[.lit (.str gj),.idx (J 1) (D 0)]) S Z (C Z (C (sd Z Z) ak)) (bj hl (dl Z)) (bj hf (dl Z));refine(gn (Fd g gj) _ ⟨(Gx.two ..).ts,(Gx.two ..).fs,by have:=(Gx.two g gj mQ 2).lt;show(Fd g gj).ts.length<=_;unfold Fd;exact dq this,by have:=(Gx.two g gj mQ 2).lf;show(Fd g gj).fs.length<=_;unfold Fd;exact dq this,Z⟩ ?_ (.num Bg.1 Bg.2 hh));refine⟨γ,?_⟩;rw[tz];refine ru S Z bind (front ?_);refine aW (aF (bA ((cR Z).trans (by rw[dY Bg.1];rfl)) Z (aQ ((aP (s0 Z) Z (r:=.ok (.bool (!decide (s=[118]))) _) Z).trans (by rw[dY Bg.2];rfl)))))<|aR ev ?_;show Res.ok _ _=Res.ok _ _;rw[dH]
 .have hs:s=[105]\/s=[118]:=by
   by_cases h1:s=[105]
   .exact .inl h1
   .by_cases h2:s=[118]
    .exact .inr h2
    .exact absurd ⟨h1,h2⟩ Bg
  generalize Sw:decide (s=[105])=known at front
  have c0:aV T (Φ (d+4)) false (.both true [(.not (J 3)),(.cmp .ne (.idx (.idx (J 1) (D 0)) (D 0)) (Ls [118]))]) [.ref 2,.ref (si+16),.bool au,.bool known,.L,.L,.L,.L,.L,.L,.L] (mem g++(O++[]))= .ok (.bool false) (mem g++(O++[])):=by
   rcases hs with h|h
   .rw[h,dF Z] at Sw;subst Sw;exact aF (bF ((cR Z).trans Z) Z)
   .have:known=false:=by rw[<- Sw,h];rfl
    subst this;exact aF (bA ((cR Z).trans Z) Z (aQ ((aP (s0 Z) Z (r:=.ok (.bool (!decide (s=[118]))) _) Z).trans (by rw[dF h];rfl))))
  have ME:=row_walk (Φ:=Φ (d+4)) (g:=g) (O:=O) (tl:=tl) (l0:=.ref 2) (l1:=.ref (si+16)) (l2:=.bool au) (l3:=.bool known) (l6:=.L) (l7:=.L) (l8:=.L) (l9:=.L) (jC:=.L) aO NN [] (by unfold NN;exact dD YT (dm Z)) (by show 0+_<_;exact dD (Tz YT (dl Z)) (dm Z));rw[mW] at ME
  have lR:∀{Q:za1},X Q (aN T (Φ (d+4)) (Nq.drop 5) false [.ref 2,.ref (si+16),.bool au,.bool known,.ref (O.length+16),tl.tm,.L,.L,.L,.L,.L] (mem g++(O++[.list (aO.map El.tm)])))->X Q (aN T (Φ (d+4)) Nq false [.ref 2,.ref (si+16),.bool au,.L,.L,.L,.L,.L,.L,.L,.L] (mem g++(O++[]))):=λH=>by refine front<|aL c0 ?_;refine aH (σ':=mem g++(O++[.list []])) ((cG ak).trans (by rw[dH,aX];rfl))<|aH (sd Z Z) ?_;exact fP ME H
  cases hb:dO tl with
  |true=>
   have c1:aV T (Φ (d+4)) false (.both true [(.cmp .ne (.idx (J 5) (D 0)) (Ls [118])),(.cmp .ne (J 5) (.tup [(Ls [97]),(D 0)]))]) [.ref 2,.ref (si+16),.bool au,.bool known,.ref (O.length+16),tl.tm,.L,.L,.L,.L,.L] (mem g++(O++[.list (aO.map El.tm)]))= .ok (.bool true) (mem g++(O++[.list (aO.map El.tm)])):=by
    cases tl with
    |v n=>cases hb
    |i n=>refine aF (bA (jK Y) Z (aQ ?_));have e1:∀{σ:St},eX .ne (El.i n).tm (.tup [.str [97],.int 0]) σ= .ok (.bool (!(decide (([105]:Sa)=[97])&&(decide (n=0)&&true)))) σ:=rfl;exact aP Z Z e1
    |a n=>
     have:n≠0:=by intro q;subst q;cases hb
     refine aF (bA (jK Y) Z (aQ ?_));have e1:∀{σ:St},eX .ne (El.a n).tm (.tup [.str [97],.int 0]) σ= .ok (.bool (!(decide (([97]:Sa)=[97])&&(decide ((n:Int)=0)&&true)))) σ:=rfl;exact aP Z Z (e1.trans (by rw[dY (show ¬((n:Int)=0) by exact qI this)];rfl))
   obtain⟨⟨γ,ev⟩,hh⟩:=zN (g:=g) (τ:=O++[.list (aO.map El.tm)]) (kind:=uC) (ll:=lt) (B:=[.ref 2,.ref (si+16),.bool au,.bool known,.ref (O.length+16),tl.tm,.L,.L,.L,.L,.L]) (l:=[.lit (.str uC),.idx (J 1) (D 1)]) S Z (by rw[<- rE];exact C Z (C (sd (k:=1) Z Z) ak)) (by exact bj hl (dl Z)) (by exact bj hf (dl Z));rw[<- rE] at ev;have gx:=Gx.two g uC mQ 2;refine(gn (Fd g uC) (.inl (Cd (Fd g uC) uC (bQ tl aO))) ⟨gx.ts,gx.fs,by have:=gx.lt;show(yM {g with ts:=cQ g.ts uC} mQ 2).ts.length<=_;exact dq this,by have:=gx.lf;show(yM {g with ts:=cQ g.ts uC} mQ 2).fs.length<=_;exact dq this,Z⟩ ⟨[.list (aO.map El.tm)]++γ,?_⟩ (.err _ hs ⟨λ_=>hh,λq=>(by rw[hb] at q;cases q),λq=>(by rw[hb] at q;cases q)⟩ (by unfold dR;rw[bz hb])));rw[tz];refine ru S Z bind (lR ?_);refine aW c1<|aR ev ?_;show Res.ok _ _=Res.ok _ _;rw[bw]
  |false=>
   have c1:aV T (Φ (d+4)) false (.both true [(.cmp .ne (.idx (J 5) (D 0)) (Ls [118])),(.cmp .ne (J 5) (.tup [(Ls [97]),(D 0)]))]) [.ref 2,.ref (si+16),.bool au,.bool known,.ref (O.length+16),tl.tm,.L,.L,.L,.L,.L] (mem g++(O++[.list (aO.map El.tm)]))= .ok (.bool false) (mem g++(O++[.list (aO.map El.tm)])):=by
    cases tl with
    |i n=>cases hb
    |v n=>exact aF (bF (gR (p:=([118]:Sa)=[118]) Z) Z)
    |a n=>
     have:n=0:=by have:(!decide (n=0))=false:=hb;rw[Bool.not_eq_false',fO] at this;exact this
     subst this;refine aF (bA (p:=true) (jK (p:=([97]:Sa)=[118]) Y) Z (aQ ?_));exact aP Z Z Z
   obtain⟨jG,lk⟩:=a9 (Φ:=Φ (d+4)) (g:=g) (O:=O) (tl:=tl) (aO:=aO) (l0:=.ref 2) (l1:=.ref (si+16)) (l2:=.bool au) (l3:=.bool known) (l6:=.L) (l7:=.L) (l8:=.L) (l9:=.L) (by exact dD YT (dm Z));generalize Qc:O++.list (aO.map El.tm)::jG=τ at lk;have HL:∃NQ,τ=O++NQ:=⟨_,Qc.symm⟩;have HM:τ[O.length]?=some (.list (aO.map El.tm)):=by rw[<- Qc];exact bk
   have pA:∀{Q:za1},X Q (aN T (Φ (d+4)) (Nq.drop 7) false [.ref 2,.ref (si+16),.bool au,.bool known,.ref (O.length+16),tl.tm,.L,.bool (dZ tl aO),.L,.L,.L] (mem g++τ))->X Q (aN T (Φ (d+4)) Nq false [.ref 2,.ref (si+16),.bool au,.L,.L,.L,.L,.L,.L,.L,.L] (mem g++(O++[]))):=λH=>by refine lR<|aL c1 ?_;exact aH lk H
   obtain⟨NQ,Cu⟩:=HL
   by_cases hL:dZ tl aO=true/\known=false
   .obtain⟨⟨γ,ev⟩,hh⟩:=jv (d:=d+1) (g:=g) (τ:=τ) (B:=[.ref 2,.ref (si+16),.bool au,.bool known,.ref (O.length+16),tl.tm,.L,.bool (dZ tl aO),.L,.L,.L]) S Z (by exact bj hl (dl Z)) (by exact bj hf (dl Z));have gx:=Gx.le g jT 0;refine(gn (jS g) (.inl (rb (jS g))) ⟨gx.ts,gx.fs,by have:=gx.lt;show(yM g jT 0).ts.length<=_;exact dq this,by have:=gx.lf;show(yM g jT 0).fs.length<=_;exact dq this,Z⟩ ⟨NQ++γ,?_⟩ (.err _ hs ⟨λq=>(by rw[hb] at q;cases q),λ_ _ _=>hh,λ_ q=>?_⟩ (by unfold dR;rw[bh (by rw[hb];decide),Sw,bz hL])))
    .rw[tz];refine ru S Z bind (pA ?_);refine aW (aF (bA (p:=true) (by rw[hL.1];rfl) Z (aQ (p:=true) ((cR (p:=known) Z).trans (by rw[hL.2];rfl)))))<|aR ev ?_;show Res.ok _ _=Res.ok _ _;rw[Cu,bw]
    .rw[Sw] at q;have:=q hL.1;rw[hL.2] at this;cases this
   .have c2:aV T (Φ (d+4)) false (.both true [(J 7),(.not (J 3))]) [.ref 2,.ref (si+16),.bool au,.bool known,.ref (O.length+16),tl.tm,.L,.bool (dZ tl aO),.L,.L,.L] (mem g++τ)= .ok (.bool false) (mem g++τ):=by
     cases hl:dZ tl aO with
     |false=>exact aF (bF (p:=false) Z Z)
     |true=>
      cases hk:known with
      |true=>exact aF (bA (p:=true) Z Z (aQ (p:=false) ((cR (p:=true) Z).trans Z)))
      |false=>exact absurd ⟨hl,hk⟩ hL
    have Xh:∀{Q:za1},X Q (aN T (Φ (d+4)) (Nq.drop 9) false [.ref 2,.ref (si+16),.bool au,.bool known,.ref (O.length+16),tl.tm,.L,.bool (dZ tl aO),.str [],.L,.L] (mem g++τ))->X Q (aN T (Φ (d+4)) Nq false [.ref 2,.ref (si+16),.bool au,.L,.L,.L,.L,.L,.L,.L,.L] (mem g++(O++[]))):=λH=>by refine pA<|aL c2 ?_;exact aH Z H
    have dc:=Ek (d:=d+1) (g:=g) (τ:=τ) (aO:=aO) (l1:=.ref (si+16)) (l3:=.bool known) (l4:=.ref (O.length+16)) (l5:=tl.tm) (l7:=.bool (dZ tl aO)) (l9:=.L) (jC:=.L) S (by exact bj hl (dl Z)) (by exact bj hf (dl Z)) HM ha au aO 0 NN [] .L Z (by unfold NN;exact dD YT (dm Z)) (by show 0+_<_;exact dD (Tz YT (dl Z)) (dm Z))
    cases hc:mO au g.ts aO with
    |inl e=>
     rw[hc] at dc;refine uh dc λg' bx γ gx hh q=>?_;have B7:Gx g g' 60:=⟨gx.ts,gx.fs,by have:=gx.lt;exact dq this,by have:=gx.lf;exact dq this,gx.same⟩;have hc':=(wR B7 ha).trans hc;refine(gn g' (.inl (Jz au g' e)) B7 ⟨NQ++γ,?_⟩ (.err _ hs ⟨λq=>(by rw[hb] at q;cases q),λ_ q1 q2=>absurd ⟨q1,by rw[<- Sw];exact q2⟩ hL,λ_ _ e' he'=>?_⟩ ?_))
     .rw[tz];refine ru S Z bind (Xh ?_);refine w6 Z Z q ?_;show Res.ok _ _=Res.ok _ _;rw[Cu,bw]
     .rw[hc'] at he';injection he' with he';rw[<- he'];exact hh
     .unfold dR;rw[bh (by rw[hb];decide),Sw,bh hL,hc']
    |inr lt'=>
     rw[hc] at dc;obtain⟨x',q⟩:=dc;rw[mW] at q;have XY:=zq hc;have Xg:∀{Q:za1},X Q (aN T (Φ (d+4)) (Nq.drop 10) false [.ref 2,.ref (si+16),.bool au,.bool known,.ref (O.length+16),tl.tm,x',.bool (dZ tl aO),.str lt',.L,.L] (mem g++τ))->X Q (aN T (Φ (d+4)) Nq false [.ref 2,.ref (si+16),.bool au,.L,.L,.L,.L,.L,.L,.L,.L] (mem g++(O++[]))):=λH=>Xh (jf Z Z q H)
     cases xa:dZ tl aO with
     |true=>
      have hk:known=true:=by
       cases h:known with
       |true=>rfl
       |false=>exact absurd ⟨xa,h⟩ hL
      have hs':s=[105]:=by rw[hk] at Sw;exact eY Sw
      refine bY (hn hs') λn BN w9=>?_;have dg:=vd (d:=d+3) (hd:=false) (σ:=mem g++τ) S w9
      have nl:(cN n).length<=40:=by
       have n1:=wy (n:=n.natAbs) (k:=30) (dD w9 Y);unfold cN;rw[bW];have:(if n<0 then[45] else[]:Sa).length<=1:=by split<;>simp
       exact fH n1 this
      have sp:=rM (d:=d+2) (g:=g) (O:=τ) (au:=au) S (t:=cN n) (by exact dD nl (dm Z)) (by exact bj hl (dl Z));have gx:=Gx.nr au g (cN n);have ro:=Vi (d:=d+3) (σ:=mem (nO au g (cN n))++(τ++[.list (((cN n).map (fW au (nO au g (cN n)).ts)).map El.tm)])) (i:=τ.length+16) (tl:=.a 0) (aO:=(cN n).map (fW au (nO au g (cN n)).ts)) S gb (by rw[dN];exact dD nl (dm Z));generalize Zp:(((cN n).map (fW au (nO au g (cN n)).ts)).map El.tm)=row at sp ro;obtain⟨lt2,ZU⟩:=lD (.a 0) ((cN n).map (fW au (nO au g (cN n)).ts));have B7:Gx g (nO au g (cN n)) 60:=⟨gx.ts,gx.fs,by have:=gx.lt;exact fH this nl,by have:=gx.lf;exact fH this nl,gx.same⟩;have hc':=(wR B7 ha).trans hc;have E5:∀{γ:We} {B:Loc},B[1]?=some (.ref (si+16))->aV T (Φ (d+4)) false (.idx (.idx (J 1) (D 0)) (D 1)) B (mem g++(O++γ))= .ok (.int n) (mem g++(O++γ)):=λ{γ B} h=>bB (sd (k:=0) h Z) Z (by rw[BN];rfl);have Kt:aV T (Φ (d+4)) false (.idx (.idx (J 1) (D 0)) (D 1)) [.ref 2,.ref (si+16),.bool au,.bool known,.ref (O.length+16),tl.tm,x',.bool true,.str lt',.L,.L] (mem g++τ)= .ok (.int n) (mem g++τ):=by rw[Cu];exact E5 Z
      have e1':aV T (Φ (d+4)) false (.idx (J 1) (D 1)) [.ref 2,.ref (si+16),.bool au,.bool known,.ref (O.length+16),tl.tm,x',.bool true,.str lt',.L,.L] (mem g++τ)= .ok (bQ tl aO) (mem g++τ):=by rw[Cu];exact sd (k:=1) Z Z
      refine(gn (nO au g (cN n)) (.inr (bQ tl aO,bQ (.a 0) ((cN n).map (fW au (nO au g (cN n)).ts)))) B7 (dK (NQ++[.list row,.list row.reverse,.list [.tup [bQ tl aO,bQ (.a 0) ((cN n).map (fW au (nO au g (cN n)).ts))]]]) (τ.length+2) ?_ ?_) (.part n hs' BN ⟨λq=>(by rw[hb] at q;cases q),λ_ _ q=>(by cases q),λ_ _ e' he'=>(by rw[hc'] at he';cases he')⟩ ?_ ?_))
      .rw[tz];refine ru S Z bind (Xg ?_);rw[xa];refine aW Z ?_
       have c89:aV T (Φ (d+4)) false (Cf 89 [(Cf 92 [(J 0),(Cf 91 [(.idx (.idx (J 1) (D 0)) (D 1))]),(J 2)]),(.tup [(Ls [97]),(D 0)])]) [.ref 2,.ref (si+16),.bool au,.bool known,.ref (O.length+16),tl.tm,x',.bool true,.str lt',.L,.L] (mem g++τ)= .ok (bQ (.a 0) ((cN n).map (fW au (nO au g (cN n)).ts))) (mem (nO au g (cN n))++(τ++[.list row,.list row.reverse])):=by refine(aD (C (aD (C Z (C (aD (C Kt ak) dg) (C Z ak))) sp) (C (x:=(El.a 0).tm) (bM (C Z (C Z ak))) ak)) ro).trans ?_;rewrite[aX,bw];rfl
       refine aR (v:=.tup [.str jV,.ref (τ.length+2+16)]) (σ':=mem (nO au g (cN n))++(τ++[.list row,.list row.reverse,.list [.tup [bQ tl aO,bQ (.a 0) ((cN n).map (fW au (nO au g (cN n)).ts))]]])) ?_ ?_
       .refine bM (C Z (C ((cG (C (bM (C e1' (C c89 ak))) ak)).trans ?_) ak));rewrite[aX,bw];show Res.ok (U.ref ((τ++[AO.list row,.list row.reverse]).length+16)) _=_;rw[bW];rfl
       .show Res.ok _ _=Res.ok _ _;rw[Cu,bw]
      .rw[<- bw,<-Cu,iz (by exact d9 _ _),jz];rfl
      .unfold dR;rw[bh (by rw[hb];decide),bh (λq=>by cases q.2),hc'];show(if dZ tl aO=true then xi.part else _)=_;rw[bz xa]
      .intro hcf c m;subst hcf;exact vU m
     |false=>
      obtain⟨lE,nm⟩:=rZ (d:=d+3) (σ:=mem g++τ) S (t:=lt') (by exact bO XY (bO YT (dl Z)));rw[aX] at nm
      have GK:∀{Q:za1},X Q (aN T (Φ (d+4)) (Nq.drop 12) false [.ref 2,.ref (si+16),.bool au,.bool known,.ref (O.length+16),tl.tm,x',.bool false,.str lt',iH (cT lt'),.L] (mem g++(τ++lE)))->X Q (aN T (Φ (d+4)) Nq false [.ref 2,.ref (si+16),.bool au,.L,.L,.L,.L,.L,.L,.L,.L] (mem g++(O++[]))):=λH=>by refine Xg ?_;rw[xa];refine aL Z<|aH (aD (C Z ak) nm) H
      have Nc:∀{g':GS},Gx g g' 60->dR au known g' tl aO (bQ tl aO)= .text lt':=λ{g'} gx=>by unfold dR;rw[bh (by rw[hb];decide),bh hL,(wR gx ha).trans hc];show(if dZ tl aO=true then xi.part else .text lt')=_;rw[xa];rfl
      have Nd:∀{g':GS},Gx g g' 60->uI au known g' tl aO:=λ{g'} gx=>⟨λq=>(by rw[hb] at q;cases q),λ_ q1 _=>(by rw[xa] at q1;cases q1),λ_ _ e' he'=>(by rw[(wR gx ha).trans hc] at he';cases he')⟩
      cases Mi:cT lt' with
      |none=>rw[Mi] at GK;obtain⟨⟨γ,ev⟩,hh⟩:=ys (d:=d+1) (g:=g) (τ:=τ++lE) (kind:=gV) (B:=[.ref 2,.ref (si+16),.bool au,.bool known,.ref (O.length+16),tl.tm,x',.bool false,.str lt',.none,.L]) (l:=[.lit (.str gV)]) S Z (C Z ak) (by exact bj hl (dl Z)) (by exact bj hf (dl Z));have EZ:=Gx.two g gV uy 1;have gx:Gx g (ib g gV) 60:=⟨EZ.ts,EZ.fs,by have:=EZ.lt;show(yM {g with ts:=cQ g.ts gV} uy 1).ts.length<=_;exact dq this,by have:=EZ.lf;show(yM {g with ts:=cQ g.ts gV} uy 1).fs.length<=_;exact dq this,Z⟩;refine(gn (ib g gV) (.inl (vT (ib g gV) gV)) gx ⟨NQ++(lE++γ),?_⟩ (.D9 lt' hs (by rw[Sw];exact Nd gx) (by rw[Sw];exact Nc gx) Mi hh));rw[tz];refine ru S Z bind (GK ?_);refine aW Z<|aR ev ?_;show Res.ok _ _=Res.ok _ _;rw[Cu,bw,bw]
      |some v=>
       rw[Mi] at GK;refine(gn g (.inr (.tup (.str s::ll),.tup [.str [105],.int v])) (Gx.refl g) (dK (NQ++(lE++[.list [.tup [.tup (.str s::ll),.tup [.str [105],.int v]]]])) ((τ++lE).length) ?_ ?_) (.val lt' v hs (by rw[Sw];exact Nd (Gx.refl g)) (by rw[Sw];exact Nc (Gx.refl g)) Mi))
       .rw[tz];refine ru S Z bind (GK ?_);refine aL Z ?_;have e0':aV T (Φ (d+4)) false (.idx (J 1) (D 0)) [.ref 2,.ref (si+16),.bool au,.bool known,.ref (O.length+16),tl.tm,x',.bool false,.str lt',.int v,.L] (mem g++(τ++lE))= .ok (.tup (.str s::ll)) (mem g++(τ++lE)):=by rw[Cu,bw];exact sd (k:=0) Z Z
        refine aR (v:=.tup [.str jV,.ref ((τ++lE).length+16)]) (σ':=mem g++(τ++(lE++[.list [.tup [.tup (.str s::ll),.tup [.str [105],.int v]]]]))) ?_ ?_
        .refine bM (C Z (C ((cG (C (bM (C e0' (C (bM (C Z (C Z ak))) ak))) ak)).trans ?_) ak));rewrite[aX,bw];rfl
        .have ea:∀z:List AO,τ++z=O++(NQ++z):=λz=>by rw[Cu,bw]
         show Res.ok _ (mem g++(τ++_))=Res.ok _ _;rw[ea (lE++_)]
       .rw[<- bw,<-Cu,<-bw];exact bk
inductive BV(g':GS)(A:El)(s:Sa)(ll:Th):Sum U (U×U)->Prop where
 |QL (z:Int) (h:A= .i z) (hh:pZ g' uD):BV g' A s ll (.inl (Cd g' uD A.tm))
 |num (h:∀z,A≠.i z) (h1:s≠[105]) (h2:s≠[118]) (hh:pZ g' gj):BV g' A s ll (.inl (Cd g' gj (.tup (.str s::ll))))
 |O6 (k:Nat) (t:Sa) (h:A= .a k) (ht:g'.ts[k]?=some t) (hs:s=[105]\/s=[118]) (hn:cT t=none):BV g' A s ll (.inr ((El.i 0).tm,(El.i 1).tm))
 |val (k:Nat) (t:Sa) (v:Int) (h:A= .a k) (ht:g'.ts[k]?=some t) (hs:s=[105]\/s=[118]) (hn:cT t=some v):BV g' A s ll (.inr (.tup (.str s::ll),(El.i v).tm))
 |inst (k:Nat) (h:A= .v k) (hs:s=[118]) (hh:jT∈g'.ts):BV g' A s ll (.inl (rb g'))
 |Oq (k:Nat) (n:Int) (h:A= .v k) (hs:s=[105]) (hl:ll=[.int n]) (hh:cN n∈g'.ts):BV g' A s ll (.inr (A.tm,vI (cO g'.ts (cN n))))
theorem DR{a b c:Sa}(h:σ[i]?=some (.list [.str a,.str b])):eX .kW (.str c) (.ref i) σ= .ok (.bool (!(decide (c=a)||decide (c=b)))) σ:=by
 refine xF h ?_;show some ([a,b].contains c)=_
 have:[a,b].contains c=(decide (c=a)||decide (c=b)):=by rw[qZ,zF,ur,fO,fO,pJ,pJ];exact⟨λh=>h.imp id λh=>h.resolve_right (λq=>nomatch q),λh=>h.imp id .inl⟩
 rw[this]
theorem Gx.aI(h:Gx g g' n)(hn:n<=60):Gx g g' 60:=⟨h.ts,h.fs,by have:=h.lt;exact fH this hn,by have:=h.lf;exact fH this hn,h.same⟩
theorem V9(S:aK Φ)(hl:g.ts.length<600)(hf:g.fs.length<600){si:Nat}{A:El}(hi:O[si]?=some (.list [A.tm,.tup (.str s::ll)]))(hn:s=[105]->∃n:Int,ll=[.int n]/\n.natAbs<=10^30)(ha:∀k,A= .a k->∃t,g.ts[k]?=some t/\t.length<=30):
  ∃g' o,Gx g g' 60/\Due (Φ (d+5) false 94 [.ref 2,.ref (si+16)] (mem g++O)) g' O o/\BV g' A s ll o:=by
 have bind:ou MI [.ref 2,.ref (si+16)]=some [.ref 2,.ref (si+16),.L]:=rfl;have sd:∀{g:GS} {γ:We} {B:Loc} {k:Nat} {v:U},B[1]?=some (.ref (si+16))->([A.tm,U.tup (.str s::ll)]:Th)[k]?=some v->aV T (Φ (d+4)) false (.idx (J 1) (.lit (.int k))) B (mem g++(O++γ))= .ok v (mem g++(O++γ)):=λ{g γ B k v} h h2=>bB (bG h (λq=>nomatch q)) Z (fV (rB hi) h2);have s0:∀{γ:We} {B:Loc},B[1]?=some (.ref (si+16))->aV T (Φ (d+4)) false (.idx (.idx (J 1) (D 0)) (D 0)) B (mem g++(O++γ))= .ok (.str (rK A)) (mem g++(O++γ)):=λ{γ B} h=>bB (sd h Z) Z (by cases A<;>rfl);have s1:∀{γ:We} {B:Loc},B[1]?=some (.ref (si+16))->aV T (Φ (d+4)) false (.idx (.idx (J 1) (D 1)) (D 0)) B (mem g++(O++γ))= .ok (.str s) (mem g++(O++γ)):=λ{γ B} h=>bB (sd h Z) Z Z;have tz:mem g++O=mem g++(O++[]):=by rw[dH]
 have two:∀(γ:We) (a b:Sa),aV T (Φ (d+4)) false (.list [(.lit (.str a)),(.lit (.str b))]) [.ref 2,.ref (si+16),.L] (mem g++(O++γ))= .ok (.ref ((O++γ).length+16)) (mem g++(O++(γ++[.list [.str a,.str b]]))):=λγ a b=>(cG (C Z (C Z ak))).trans (by rewrite[aX,bw];rfl)
 have q1:∀(γ:We) (o:AO),(mem g++(O++(γ++[o])))[(O++γ).length+16]?=some o:=λγ o=>by show(O++(γ++[o]))[(O++γ).length]?=_;rw[<- bw];exact bk
 have c1:=aP (s0 Z) (two [] [97] [118]) (DR (q1 [] _))
 by_cases hA:∃z,A= .i z
 .obtain⟨z,rfl⟩:=hA;obtain⟨⟨γ,ev⟩,hh⟩:=zN (B:=[.ref 2,.ref (si+16),.L]) (l:=[.lit (.str uD),.idx (J 1) (D 0)]) S Z (C Z (C (sd Z Z) ak)) (bj hl (dl Z)) (bj hf (dl Z));refine(gn (Fd g uD) (.inl (Cd (Fd g uD) uD (El.i z).tm)) (Gx.aI (Gx.two ..) Y) ⟨[.list [.str [97],.str [118]]]++γ,?_⟩ (.QL z Z hh));rw[tz];refine ru S Z bind<|aW c1 (aR ev ?_);rw[mW,bw];rfl
 .have hA':∀z,A≠.i z:=λz h=>hA ⟨z,h⟩
  have tA:(!(decide (rK A=[97])||decide (rK A=[118])))=false:=by
   cases A with
   |i z=>exact absurd Z (hA' z)
   |a z=>rfl
   |v z=>rfl
  rw[tA] at c1;have c2:=aP (s1 Z) (two ([]++[.list [.str [97],.str [118]]]) [105] [118]) (DR (q1 _ _));generalize hγ:(([]:We)++[.list [.str [97],.str [118]]])++[.list [.str [105],.str [118]]]=yP at c2;have front:∀{Q:za1},X Q (aN T (Φ (d+4)) (DF.drop 1) false [.ref 2,.ref (si+16),.L] (mem g++(O++([]++[.list [.str [97],.str [118]]]))))->X Q (aN T (Φ (d+4)) DF false [.ref 2,.ref (si+16),.L] (mem g++(O++[]))):=λH=>aL c1 H
  by_cases Bg:s≠[105]/\s≠[118]
  .obtain⟨⟨γ,ev⟩,hh⟩:=zN (B:=[.ref 2,.ref (si+16),.L]) (l:=[.lit (.str gj),.idx (J 1) (D 1)]) S Z (C Z (C (sd Z Z) ak)) (bj hl (dl Z)) (bj hf (dl Z));refine(gn (Fd g gj) (.inl (Cd (Fd g gj) gj (.tup (.str s::ll)))) (Gx.aI (Gx.two ..) Y) ⟨yP++γ,?_⟩ (.num hA' Bg.1 Bg.2 hh));rw[tz];refine ru S Z bind (front ?_);rw[dY Bg.1,dY Bg.2] at c2;refine aW c2 (aR ev ?_);show Res.ok _ _=Res.ok _ _;rw[bw]
  .have hs:s=[105]\/s=[118]:=by
    by_cases h1:s=[105]
    .exact .inl h1
    .by_cases h2:s=[118]
     .exact .inr h2
     .exact absurd ⟨h1,h2⟩ Bg
   have c2f:(!(decide (s=[105])||decide (s=[118])))=false:=by rcases hs with h|h<;>rw[h]<;>rfl
   rw[c2f] at c2;have lR:∀{Q:za1},X Q (aN T (Φ (d+4)) (DF.drop 2) false [.ref 2,.ref (si+16),.L] (mem g++(O++yP)))->X Q (aN T (Φ (d+4)) DF false [.ref 2,.ref (si+16),.L] (mem g++(O++[]))):=λH=>front (aL c2 H);have c3:=aP (o:=.eq) (s0 (γ:=yP) (B:=[.ref 2,.ref (si+16),.L]) Z) (b:=Ls [97]) Z Z
   cases A with
   |i z=>exact absurd Z (hA' z)
   |a k=>
    refine bY (ha k Z) λt ht tl=>?_;obtain⟨lE,nm⟩:=rZ S tl;rewrite[aX,bw] at nm;have tx:=Fg (d:=d+3) (hd:=false) (O:=O++yP) S ht;have E5:aV T (Φ (d+4)) false (.idx (.idx (J 1) (D 0)) (D 1)) [.ref 2,.ref (si+16),.L] (mem g++(O++yP))= .ok (.int k) (mem g++(O++yP)):=bB (sd (k:=0) Z Z) Z Z
    have fin:∀(a b:U) {Q:za1} {AD:List Mine.Internal.S},aV T (Φ (d+4)) false (.ite (.cmp .wC (J 2) (.lit .none)) (.tup [(.idx (J 1) (D 1)),(.tup [(Ls [105]),(J 2)])]) (.tup [(.tup [(Ls [105]),(D 0)]),(.tup [(Ls [105]),(D 1)])])) [.ref 2,.ref (si+16),iH (cT t)] (mem g++(O++(yP++lE)))= .ok (.tup [a,b]) (mem g++(O++(yP++lE)))->
      X Q (.done (.ret (.tup [.str jV,.ref ((O++(yP++lE)).length+16)])) [.ref 2,.ref (si+16),iH (cT t)] (mem g++(O++((yP++lE)++[.list [.tup [a,b]]]))))->
      X Q (aN T (Φ (d+4)) (.ret (.tup [(Ls [104,111,108,100,115]),(.list [(.ite (.cmp .wC (J 2) (.lit .none)) (.tup [(.idx (J 1) (D 1)),(.tup [(Ls [105]),(J 2)])]) (.tup [(.tup [(Ls [105]),(D 0)]),(.tup [(Ls [105]),(D 1)])]))])])::AD) false [.ref 2,.ref (si+16),iH (cT t)] (mem g++(O++(yP++lE)))):=λa b {_ _} h1 H=>by
     refine aR (bM (C Z (C ((cG (C h1 ak)).trans ?_) ak))) H;rewrite[aX,bw];rfl
    cases Mi:cT t with
    |none=>rw[Mi] at fin nm;refine(gn g (.inr ((El.i 0).tm,(El.i 1).tm)) (Gx.refl g) (dK ((yP++lE)++[.list [.tup [(El.i 0).tm,(El.i 1).tm]]]) ((O++(yP++lE)).length) ?_ (by rw[<- bw];exact bk)) (.O6 k t Z ht hs Mi));rw[tz];refine ru S Z bind (lR ?_);refine aW c3<|aH (aD (C (bJ Z Z (C E5 ak) tx) ak) nm) ?_;exact fin _ _ (fK Z (bM (C (bM (C Z (C Z ak))) (C (bM (C Z (C Z ak))) ak)))) Z
    |some v=>rw[Mi] at fin nm;refine(gn g (.inr (.tup (.str s::ll),(El.i v).tm)) (Gx.refl g) (dK ((yP++lE)++[.list [.tup [.tup (.str s::ll),(El.i v).tm]]]) ((O++(yP++lE)).length) ?_ (by rw[<- bw];exact bk)) (.val k t v Z ht hs Mi));rw[tz];refine ru S Z bind (lR ?_);refine aW c3<|aH (aD (C (bJ Z Z (C E5 ak) tx) ak) nm) ?_;exact fin _ _ (fJ Z (bM (C (sd (k:=1) Z Z) (C (bM (C Z (C Z ak))) ak)))) Z
   |v k=>
    have c4:=aP (o:=.eq) (s1 (γ:=yP) (B:=[.ref 2,.ref (si+16),.L]) Z) (b:=Ls [118]) Z (r:=.ok (.bool (decide (s=[118]))) _) Z
    by_cases h8:s=[118]
    .obtain⟨⟨γ,ev⟩,hh⟩:=jv (d:=d+1) (g:=g) (τ:=O++yP) (B:=[.ref 2,.ref (si+16),.L]) S Z (by exact bj hl (dl Z)) (by exact bj hf (dl Z));refine(gn (jS g) (.inl (rb (jS g))) (Gx.aI (Gx.le ..) Y) ⟨yP++γ,?_⟩ (.inst k Z h8 hh));rw[tz];refine ru S Z bind (lR ?_);refine aL c3 ?_;rw[dF h8] at c4;refine aW c4 (aR ev ?_);show Res.ok _ _=Res.ok _ _;rw[bw]
    .have hs':=hs.resolve_right h8;refine bY (hn hs') λn ES w9=>?_;have dg:=vd (d:=d+3) (hd:=false) (σ:=mem g++(O++yP)) S w9;have at_:=o8 (d:=d+3) (hd:=false) (g:=g) (O:=O++yP) (t:=cN n) S (by exact bj hl (dl Z));have e11:aV T (Φ (d+4)) false (.idx (.idx (J 1) (D 1)) (D 1)) [.ref 2,.ref (si+16),.L] (mem g++(O++yP))= .ok (.int n) (mem g++(O++yP)):=bB (sd (k:=1) Z Z) Z (by rw[ES];rfl);have gx:Gx g {g with ts:=cQ g.ts (cN n)} 1:=Gx.VB qT jQ;have nn:cO ({g with ts:=cQ g.ts (cN n)}:GS).ts (cN n)=cO g.ts (cN n):=jk;refine(gn ({g with ts:=cQ g.ts (cN n)}) (.inr ((El.v k).tm,vI (cO ({g with ts:=cQ g.ts (cN n)}:GS).ts (cN n)))) (gx.aI Y) (dK (yP++[.list [.tup [(El.v k).tm,vI (cO ({g with ts:=cQ g.ts (cN n)}:GS).ts (cN n))]]]) ((O++yP).length) ?_ (by rw[<- bw];exact bk)) (.Oq k n Z hs' ES gO));rw[nn,tz];refine ru S Z bind (lR ?_);refine aL c3 ?_;rw[dY h8] at c4;refine aL c4<|aR (bM (C Z (C ((cG (C (bM (C (sd (k:=0) Z Z) (C (bM (C Z (C (bJ Z Z (C (aD (C e11 ak) dg) ak) at_) ak))) ak))) ak)).trans ?_) ak))) Z;rewrite[aX,bw];rfl
theorem zr(tl:El):∀(es:List El) (p:Nat),(J0 tl p es).length=2*es.length
 |[],_=>rfl
 |[e],p=>rfl
 |e::e'::es,p=>by rw[qb];show(J0 tl (p+2) (e'::es)).length+1+1=2*((e'::es).length+1);rw[zr tl (e'::es)];exact Z
theorem BP(tl:El)(aO:List El)(p:Nat):(ie p tl aO).length<=2*aO.length+1:=by
 cases aO with
 |nil=>cases tl<;>first|exact gf _|exact bR _
 |cons e es=>show(J0 tl p (e::es)).length<=_;rw[zr];exact d9 _ _
theorem Lf.Ln{vc:Nat}{τ:Th}:∀(es:List El) (e:El) (A hp:Th),hp=A++(J0 tl A.length (e::es)++τ)->A.length+2*(es.length+1)<=vc->Lf hp tl vc A.length (cl 3 A.length) (e::es)
 |[],e,A,hp,h,hU=>by
  subst h;rw[G8];refine(Be A.length (tl.cell (A.length+1)) (bR _) (by rw[List.length_nil] at hU;exact hU) Z Bl GF ?_)
  cases tl with
  |v k=>exact(WR (A.length+1) (bR _) (by rw[List.length_nil] at hU;exact dw hU) Z GF)
  |i n=>rfl
  |a n=>rfl
 |e'::es,e,A,hp,h,hU=>by
  rw[dC] at hU
  have ih:=Lf.Ln (vc:=vc) es e' (A++[e.cell A.length,cl 3 ((A.length+2:Nat):Int)]) hp (by
   rw[h,qb,bW,bw];rfl) (by rw[bW];show A.length+2+_<=_;exact dq hU)
  rw[bW] at ih;subst h;rw[qb] at ih ⊢;exact(Be A.length (cl 3 ((A.length+2:Nat):Int)) (bR _) (dq hU) Z Bl GF ih)
theorem Lf.root{A τ:Th}(hU:A.length+(ie A.length tl aO).length<=vc):Lf (A++(ie A.length tl aO++τ)) tl vc A.length (pU A.length tl aO) aO:=by
 cases aO with
 |nil=>
  cases tl with
  |v k=>exact(WR A.length (d9 _ _) hU Z Bl)
  |i n=>rfl
  |a n=>rfl
 |cons e es=>exact Lf.Ln es e A _ Z (by
   have:(ie A.length tl (e::es)).length=2*(es.length+1):=zr tl (e::es) _;exact fH (dh this.symm) hU)
theorem Lf.rep:∀{aO:List El} {lo:Nat} {c:U},Lf hp tl vc lo c aO->
  ∃(xg:El) (iJ:List El),oN hp xg lo c iJ/\iJ.map El.norm=aO.map El.norm/\xg.norm=tl.norm/\(cL tl aO=[]->∀a0,xg.vG a0/\∀e∈iJ,e.vG a0)/\((cL tl aO).length<=1->∃a0,xg.vG a0/\∀e∈iJ,e.vG a0)
 |[],lo,c,h=>by
  cases tl with
  |v k=>refine Bu h λa h1 h2 h3 h4=>?_;refine(Mf (.v a) ([]) ?_ Z Z (λq=>(nomatch q)) (λ_=>(aZ a Z (λ_ m=>nomatch m))));subst h3;exact gJ.self h4
  |i n=>have h:=h;subst h;exact(Mf (.i n) ([]) (gJ.stop Y) Z Z (λ_ _=>⟨trivial,λ_ m=>nomatch m⟩) (λ_=>(aZ 0 trivial (λ_ m=>nomatch m))))
  |a n=>have h:=h;subst h;exact(Mf (.a n) ([]) (gJ.stop Y) Z Z (λ_ _=>⟨trivial,λ_ m=>nomatch m⟩) (λ_=>(aZ 0 trivial (λ_ m=>nomatch m))))
 |e::es,lo,c,⟨p,c2,h1,h2,h3,h4,h5,h6⟩=>by
  refine JC (Lf.rep h6) λxg es' k1 k2 k3 k4 k5=>?_;subst h3
  cases e with
  |v k=>
   refine(Mf xg (.v p::es') (Gw p _ c2 h1 (.stop Y) h4 (gJ.self h4) h5 k1) (by rw[cH,k2];rfl) k3 (λq=>(nomatch q)) (λq=>?_))
   have q':cL tl es=[]:=by have:(cL tl es).length+1<=1:=q;exact NT (zA (Nat.le_of_succ_le_succ this) (zz _ _))
   refine(aZ p ((k4 q' p).1) (λx m=>?_))
   rcases zb5 m with rfl|m
   .rfl
   .exact(k4 q' p).2 x m
  |i n=>
   refine(Mf xg (.i n::es') (Gw p _ c2 h1 (.stop Y) h4 (gJ.stop Y) h5 k1) (by rw[cH,k2];rfl) k3 (λq a0=>?_) (λq=>?_))
   .refine⟨(k4 q a0).1,λx m=>?_⟩
    rcases zb5 m with rfl|m
    .trivial
    .exact(k4 q a0).2 x m
   .refine bY (k5 q) λa0 u1 u2=>?_;refine(aZ a0 u1 (λx m=>?_))
    rcases zb5 m with rfl|m
    .trivial
    .exact u2 x m
  |a n=>
   refine(Mf xg (.a n::es') (Gw p _ c2 h1 (.stop Y) h4 (gJ.stop Y) h5 k1) (by rw[cH,k2];rfl) k3 (λq a0=>?_) (λq=>?_))
   .refine⟨(k4 q a0).1,λx m=>?_⟩
    rcases zb5 m with rfl|m
    .trivial
    .exact(k4 q a0).2 x m
   .refine bY (k5 q) λa0 u1 u2=>?_;refine(aZ a0 u1 (λx m=>?_))
    rcases zb5 m with rfl|m
    .trivial
    .exact u2 x m
theorem Lf.E6(h:Lf hp tl vc lo c aO):∃(t:Nat) (v:Int),c=cl t v/\t≠1/\gJ hp c c:=by
 cases aO with
 |nil=>
  cases tl with
  |v k=>refine Bu h λa h1 h2 h3 h4=>?_;subst h3;exact(gn 0 a Z Y (.self h4))
  |i n=>have h:=h;subst h;exact(gn 5 n Z Y (.stop Y))
  |a n=>have h:=h;subst h;exact(gn 4 n Z Y (.stop Y))
 |cons e es=>refine Bt h λp c2 h1 h2 h3 h4 h5 h6=>?_;subst h3;exact(gn 3 p Z Y (.stop Y))
theorem Pa(h:e'.norm=e.norm):e'.fr=e.fr:=by
 cases e<;>cases e'<;>first|rfl|cases h
theorem kY(h:e'.norm=e.norm):dO e'=dO e:=by
 cases e<;>cases e'<;>first|rfl|(cases h<;>rfl)
theorem Iw:∀{aO iJ:List El},iJ.map El.norm=aO.map El.norm->iJ.any El.fr=aO.any El.fr
 |[],[],_=>rfl
 |[],_::_,h=>nomatch h
 |_::_,[],h=>nomatch h
 |e::es,e'::es',h=>by rw[cH,cH] at h;injection h with h1 h2;rw[rG,rG,Pa h1,Iw h2]
theorem Am{au:Bool}{ts:za0}:∀{aO iJ:List El},iJ.map El.norm=aO.map El.norm->mO au ts iJ=mO au ts aO
 |[],[],_=>rfl
 |[],_::_,h=>nomatch h
 |_::_,[],h=>nomatch h
 |e::es,e'::es',h=>by
  rw[cH,cH] at h;injection h with h1 h2;have ih:=Am (au:=au) (ts:=ts) h2
  cases e with
  |v k=>
   cases e' with
   |v k'=>exact ih
   |i n=>cases h1
   |a n=>cases h1
  |i n=>
   cases e' with
   |v k'=>cases h1
   |i n'=>
    have:n'=n:=by injection h1
    subst this;show(match eV au ts (.i n') with|none=>Sum.inl (El.i n')|some c=>match mO au ts es' with| .inl x=>.inl x| .inr l=>.inr (c::l))=_;rw[ih];rfl
   |a n=>cases h1
  |a n=>
   cases e' with
   |v k'=>cases h1
   |i n'=>cases h1
   |a n'=>
    have:n'=n:=by injection h1
    subst this;show(match eV au ts (.a n') with|none=>Sum.inl (El.a n')|some c=>match mO au ts es' with| .inl x=>.inl x| .inr l=>.inr (c::l))=_;rw[ih];rfl
variable{iJ:List El}
theorem uR(h:iJ.map El.norm=aO.map El.norm)(ht:xg.norm=tl.norm):dZ xg iJ=dZ tl aO:=by unfold dZ;rw[Pa ht,Iw h]
theorem Z4(h:iJ.map El.norm=aO.map El.norm)(ht:xg.norm=tl.norm)(CE:U):dR au known g xg iJ CE=dR au known g tl aO CE:=by unfold dR;rw[kY ht,uR h ht,Am h]
theorem VL(h:iJ.map El.norm=aO.map El.norm)(ht:xg.norm=tl.norm)(H:uI au known g tl aO):uI au known g xg iJ:=
 ⟨λq=>H.tail (kY ht▸q),λq q2=>H.inst (kY ht▸q) (uR h ht▸q2),λq q2 e q3=>H.el (kY ht▸q) (uR h ht▸q2) e (Am h▸q3)⟩
theorem An:∀{aO iJ:List El},iJ.map El.norm=aO.map El.norm->(∀ e∈aO,e.mV ts)->∀e∈iJ,e.mV ts
 |[],[],_,_=>λ_ m=>nomatch m
 |[],_::_,h,_=>nomatch h
 |_::_,[],h,_=>nomatch h
 |e::es,e'::es',h,ha=>by
  rw[cH,cH] at h;injection h with h1 h2;intro x m
  rcases zb5 m with rfl|m
  .have:=ha e eQ
   cases e<;>cases x<;>first|trivial|cases h1
   exact this
  .exact An h2 (λy k=>ha y (.tail _ k)) x m
variable{u:U}{P:Res U->Prop}{e:E}
theorem iB{t:Nat}{v:Int}:cl t v≠.L:=λq=>nomatch q
theorem zp{Φ:iC}{t:Nat}{w:Int}(h:B[j]?=some (cl t w))(m:Nat):aV T Φ hd (.cmp .ne (.idx (.B j) (D 0)) (.lit (.int m))) B σ= .ok (.bool (!decide (t=m))) σ:=by
 have l1:aV T Φ hd (.B j) B σ= .ok (cl t w) σ:=bG h (λq=>nomatch q);refine(aP (bB l1 Z Z) Z (r:=.ok (.bool (!decide ((t:Int)=m))) σ) Z).trans ?_
 congr 3
 rw[qZ,fO,fO];exact Qa
theorem Z1(S:aK Φ)(G:NB g){t:Nat}{v:Int}(hx:g.xs=[u,cl t v,c2])(ht:2<=t)(h5:t≠5)(h:oN g.hp tl b (cl t v) aO)(wD:tl.vG a0)(hv:∀e∈aO,e.vG a0)(hn:aO.length<200)(hk:pZ g gj):
  dG (Φ (d+6) false 61 [.ref 8,.bool au] (mem g++O)) g O (bH (Cd g gj (bQ tl.norm (aO.map El.norm)))):=by
 have a1:=yd (d:=d+2) (hd:=false) (O:=O) S (show g.xs[1]?=some (cl t v) by rw[hx];rfl) (.stop ht) (dX (dw ht));have fr:=qM (d:=d+4) (hd:=false) (σ:=mem g++O) (t:=t) (w:=v) S;rw[dY (dX (dw (iw ht)):¬t=0),dY (dX (dw ht):¬t=1)] at fr;refine run S (λr=>dG r g O _) Z Z<|aH (bJ Z Z (C Z ak) a1) ?_;refine aH (cR (aD (C Z ak) fr))<|aW (aF (bA Z Z (aQ ((zp Z 5).trans (by rw[dY h5];rfl))))) ?_;exact je Z (qi S G hk (lD _ _) (wz S h (.stop ht) (dX (dw ht)) wD hv hn) Z Z iB) λγ=>gQ (eO γ _ Z)
theorem xx(S:aK Φ){t t2:Nat}{w w2:Int}(hx:g.xs=[u,cl t w,cl t2 w2])(D1:gJ g.hp (cl t w) (cl t w))(ht:t=5\/t=0)(D2:gJ g.hp (cl t2 w2) (cl t2 w2))(h2:t2≠1)(hr:Φ (d+6) false 60 [.ref 8,cl t2 w2,.bool au,.bool (decide (t=5))] (mem g++O)=r)
  (H1:∀j σ',r= .exc j σ'->(∃ fs,σ'[j]?=some (.up 0 fs))/\P (.exc j σ'))
  (H2:∀v σ',r= .ok v σ'->X (λs=>P (iZ s)) (aN T (Φ (d+6)) (Ll.drop 4) false [.ref 8,.bool au,cl t w,.bool (decide (t=5)),v,.L] σ')) (hb:r≠.bad):
  P (Φ (d+7) false 61 [.ref 8,.bool au] (mem g++O)):=by
 have a1:=yd (d:=d+3) (hd:=false) (O:=O) S (show g.xs[1]?=some (cl t w) by rw[hx];rfl) D1 (by lia);have a2:=yd (d:=d+3) (hd:=false) (O:=O) S (show g.xs[2]?=some (cl t2 w2) by rw[hx];rfl) D2 h2;have fr:=qM (d:=d+5) (hd:=false) (σ:=mem g++O) (t:=t) (w:=w) S;have kn:(!(decide (t=0)||decide (t=1)))=decide (t=5):=by rcases ht with rfl|rfl<;>rfl
 refine run S P Z Z<|aH (bJ Z Z (C Z ak) a1) ?_;refine aH ((cR (aD (C Z ak) fr)).trans (by rw[kn]))<|aL (aF (r:=.ok (.bool false) (mem g++O)) ?_) ?_
 .rcases ht with rfl|rfl
  .exact bA Z Z (aQ ((zp Z 5).trans Z))
  .exact bF Z Z
 .have ev:aV T (Φ (d+6)) false (Cf 60 [(J 0),(.aG (J 0) 57 [(D 2)]),(J 1),(J 3)]) [.ref 8,.bool au,cl t w,.bool (decide (t=5)),.L,.L] (mem g++O)=r:=
   aD (C Z (C (bJ Z Z (C Z ak) a2) (C Z (C Z ak)))) hr
  cases hq:r with
  |bad=>exact absurd hq hb
  |ok v σ'=>rw[hq] at ev;exact aH ev (H2 v σ' hq)
  |exc j σ'=>rw[hq] at ev;obtain⟨⟨fs,up⟩,p⟩:=H1 j σ' hq;exact tQ ev up p
theorem DN(n:Int):∃z zs,cN n=z::zs:=by
 cases h:cN n with
 |cons z zs=>exact(eO z zs Z)
 |nil=>exfalso;unfold cN at h;rw[List.append_eq_nil_iff] at h;exact V8 _ h.2
theorem Iu{n:Int}(h:n.natAbs<=10^30):(cN n).length<=32:=by
 unfold cN;rw[bW];have n1:=wy (k:=30) (dD h (dm Z));have:(if n<0 then[45] else([]:Sa)).length<=1:=by split<;>decide
 exact fH n1 this
variable{t t2:Nat}{w w2:Int}
structure yF(g:GS)(u:U)(t t2:Nat)(w w2:Int)(au:Bool)(tl:El)(aO:List El)(b a0:Nat):Prop where
 YX:NB g
 hx:g.xs=[u,cl t w,cl t2 w2]
 D1:gJ g.hp (cl t w) (cl t w)
 ht:t=5\/t=0
 D2:gJ g.hp (cl t2 w2) (cl t2 w2)
 h2:t2≠1
 rep:oN g.hp tl b (cl t2 w2) aO
 hv:dO tl=true->tl.vG a0/\∀e∈aO,e.vG a0
 ha:∀e∈aO,e.mV g.ts
 hn:aO.length<150
 has:uI au (decide (t=5)) g tl aO
theorem yF.nr(S:aK Φ)(N:yF g u t t2 w w2 au tl aO b a0):QW (dR au (decide (t=5)) g tl aO (bQ tl.norm (aO.map El.norm))) (Φ (d+6) false 60 [.ref 8,cl t2 w2,.bool au,.bool (decide (t=5))] (mem g++O)) g O:=
 KQ S N.YX N.rep N.D2 N.h2 N.hv N.ha N.hn N.has
theorem Z0(S:aK Φ)(N:yF g u t t2 w w2 au tl aO b a0){F:U}(ho:dR au (decide (t=5)) g tl aO (bQ tl.norm (aO.map El.norm))= .err F):
  dG (Φ (d+7) false 61 [.ref 8,.bool au] (mem g++O)) g O (bH F):=by
 have sp:=N.nr (d:=d) (O:=O) S;rw[ho] at sp;obtain⟨γ,sp⟩:=sp;refine xx (P:=λr=>dG r g O (bH F)) S N.hx N.D1 N.ht N.D2 N.h2 sp (λj σ' q=>?_) (λv σ' q=>nomatch q) (λq=>nomatch q);injection q with q1 q2;subst q1;subst q2;exact⟨⟨_,bk⟩,γ,Z⟩
theorem VF(S:aK Φ){n:Int}(N:yF g u t t2 n w2 au tl aO b a0)(h5:t=5)(hn:n.natAbs<=10^30)(hc:au=false->∀c∈cN n,[c]∈g.ts)(hh:g.hp.length<=15000)
  (ho:dR au (decide (t=5)) g tl aO (bQ tl.norm (aO.map El.norm))= .part)
  (hu:∀γ,∃v σ',Φ (d+6) false 79 [.ref 8,cl t2 w2,cl 3 g.hp.length] (mem {g with hp:=g.hp++J0 (.a 0) g.hp.length ((cN n).map (fW au g.ts))}++(O++γ))= .ok v σ'/\P (.ok v σ')):
  P (Φ (d+7) false 61 [.ref 8,.bool au] (mem g++O)):=by
 have sp:=N.nr (d:=d) (O:=O) S;rw[ho] at sp;obtain⟨γ,sp⟩:=sp;refine xx S N.hx N.D1 N.ht N.D2 N.h2 sp (λj σ' q=>nomatch q) (λv σ' q=>?_) (λq=>nomatch q);injection q with q1 q2;subst q1;subst q2;have a2:=yd (d:=d+3) (hd:=false) (O:=O++γ) S (show g.xs[2]?=some (cl t2 w2) by rw[N.hx];rfl) N.D2 N.h2;obtain⟨jG,nt⟩:=sr (d:=d+5) (σ:=mem g++(O++γ)) S hn;refine mK (DN n) λz zs hz=>?_;have zl:=Iu hn;rw[hz] at nt zl hc;rw[dC] at zl;obtain⟨lE,sc⟩:=yI (d:=d+2) S N.YX (dw (bO zl (dl Z))) hc hh;rw[<- hz] at sc nt;rw[show((O++γ)++jG)++lE=O++(γ++(jG++lE)) by rw[bw,bw]] at sc;rw[bw] at nt;refine gH (hu (γ++(jG++lE))) λv σ' hu hp=>?_;subst h5;refine aW Z<|aR (bJ Z Z (C (bJ Z Z (C Z ak) a2) (C (aD (C Z (C (aD (C Z ak) nt) (C Z ak))) sc) ak)) hu) hp
theorem Ir(S:aK Φ)(N:yF g u t t2 w w2 au tl aO b a0)(ho:dR au (decide (t=5)) g tl aO (bQ tl.norm (aO.map El.norm))= .text s)(hs:∀c∈s,jR c)(hl:s.length<=30)
  (H:∀γ,X (λs=>P (iZ s)) (aN T (Φ (d+6)) (Ll.drop 6) false [.ref 8,.bool au,cl t w,.bool (decide (t=5)),.str s,iH (cT s)] (mem g++(O++γ)))):
  P (Φ (d+7) false 61 [.ref 8,.bool au] (mem g++O)):=by
 have sp:=N.nr (d:=d) (O:=O) S;rw[ho] at sp;obtain⟨γ,sp⟩:=sp;refine xx S N.hx N.D1 N.ht N.D2 N.h2 sp (λj σ' q=>nomatch q) (λv σ' q=>?_) (λq=>nomatch q);injection q with q1 q2;subst q1;subst q2;have co:=JR (d:=d+5) (σ:=mem g++(O++γ)) S (dD hl (dm Z));obtain⟨jG,rd⟩:=OJ S bk hs hl;rw[Ih hs,show((O++γ)++[AO.list (s.map cInt)])++jG=O++(γ++([AO.list (s.map cInt)]++jG)) by rw[bw,bw]] at rd;rw[aX] at co;refine aL Z<|aH (aD (C (aD (C Z ak) co) ak) rd) (H _)
theorem ZZ(S:aK Φ)(N:yF g u t t2 w w2 au tl aO b a0)(ho:dR au (decide (t=5)) g tl aO (bQ tl.norm (aO.map El.norm))= .text s)(hs:∀c∈s,jR c)(hl:s.length<=30)(hq:cT s=none)(hk:Xb g gV):
  dG (Φ (d+7) false 61 [.ref 8,.bool au] (mem g++O)) g O (bH (vT g gV)):=by
 refine Ir (P:=λr=>dG r g O _) S N ho hs hl λγ=>?_;rw[hq];refine aW Z<|je (aD (C (bV Z Z) (C Z ak)) Z) (Rj S (by have:=N.YX.lt;exact bj this (dl Z)) (by have:=N.YX.lf;exact bj this (dl Z)) hk.1 hk.2) λcZ=>?_;exact dG.out (gQ (eO cZ _ Z))
theorem ZX(S:aK Φ)(N:yF g u t t2 w w2 au tl aO b a0)(ho:dR au (decide (t=5)) g tl aO (bQ tl.norm (aO.map El.norm))= .text s)(hs:∀c∈s,jR c)(hl:s.length<=30){x:Int}(hq:cT s=some x)
  (hu:∀γ,∃v σ',Φ (d+6) false 79 [.ref 8,cl t w,cl 5 x] (mem g++(O++γ))= .ok v σ'/\P (.ok v σ')):
  P (Φ (d+7) false 61 [.ref 8,.bool au] (mem g++O)):=by
 refine Ir S N ho hs hl λγ=>?_;rw[hq];refine gH (hu γ) λv σ' hu hp=>?_;refine aL Z ?_;exact aR (bJ Z Z (C Z (C Z ak)) hu) hp
variable{e:El}
structure BX(g:GS)(u:U)(e:El)(t2:Nat)(w2:Int):Prop where
 YX:NB g
 hx:g.xs=[u,e.val,cl t2 w2]
 D1:gJ g.hp e.val e.val
 D2:gJ g.hp (cl t2 w2) (cl t2 w2)
 h2:t2≠1
theorem Ep(S:aK Φ)(N:BX g u e t2 w2)(H:X (λs=>P (iZ s)) (aN T (Φ (d+6)) (E8.drop 2) false [.ref 8,e.val,cl t2 w2,.L] (mem g++O))):P (Φ (d+7) false 64 [.ref 8] (mem g++O)):=by refine oK e.Ey λtt tv rq t3 t1 t2'=>?_;have a1:=yd (d:=d+3) (hd:=false) (O:=O) (w:=tv) S (show g.xs[1]?=some e.val by rw[N.hx];rfl) (rq▸N.D1) t1;have a2:=yd (d:=d+3) (hd:=false) (O:=O) S (show g.xs[2]?=some (cl t2 w2) by rw[N.hx];rfl) N.D2 N.h2;rw[<- rq] at a1;refine run S P Z Z<|aH (bJ Z Z (C Z ak) a1) ?_;exact aH (bJ Z Z (C Z ak) a2) H
theorem Yr(S:aK Φ){z:Int}(N:BX g u (.i z) t2 w2)(hk:pZ g uD):dG (Φ (d+7) false 64 [.ref 8] (mem g++O)) g O (bH (Cd g uD (El.i z).tm)):=by obtain⟨γ,ck⟩:=JW S N.YX (.i z) (λ_=>hk);refine Ep (P:=λr=>dG r g O _) S N<|zJ (aD (C Z (C Z ak)) ck) bk (gQ (eO γ _ Z))
theorem J6(S:aK Φ)(N:BX g u e t2 w2)(hc:∀z,e≠.i z)(H:X (λs=>P (iZ s)) (aN T (Φ (d+6)) (E8.drop 3) false [.ref 8,e.val,cl t2 w2,.L] (mem g++O))):P (Φ (d+7) false 64 [.ref 8] (mem g++O)):=by
 refine Ep S N ?_;have ck:=JW (d:=d+1) (O:=O) S N.YX e (λ⟨n,q⟩=>absurd q (hc n))
 cases e with
 |i z=>exact absurd Z (hc z)
 |a k=>exact cM (aD (C Z (C Z ak)) ck) H
 |v k=>exact cM (aD (C Z (C Z ak)) ck) H
theorem zj(S:aK Φ){AM:Nat}{t:Nat}{v:Int}(h:2<=t):Φ (AM+1) hd 54 [cl t v] σ= .ok (.bool false) σ:=by have fr:=qM (d:=AM) (hd:=hd) (σ:=σ) (t:=t) (w:=v) S;rw[dY (dX (dw (iw h)):¬t=0),dY (dX (dw h):¬t=1)] at fr;exact fr
theorem wH(S:aK Φ){AM:Nat}{v:Int}:Φ (AM+1) hd 54 [cl 0 v] σ= .ok (.bool true) σ:=qM S
theorem va(S:aK Φ)(N:BX g u e t2 w2)(hc:∀z,e≠.i z)(ht:2<=t2)(h5:t2≠5)(h:oN g.hp tl b (cl t2 w2) aO)(wD:tl.vG a0)(hv:∀e∈aO,e.vG a0)(hn:aO.length<200)(hk:pZ g gj):
  dG (Φ (d+7) false 64 [.ref 8] (mem g++O)) g O (bH (Cd g gj (bQ tl.norm (aO.map El.norm)))):=by
 refine J6 (P:=λr=>dG r g O _) S N hc ?_
 have e1:aV T (Φ (d+6)) false (.both true [(.not (Cf 54 [(J 2)])),(.cmp .ne (.idx (J 2) (D 0)) (D 5))]) [.ref 8,e.val,cl t2 w2,.L] (mem g++O)= .ok (.bool true) (mem g++O):=
  aF (bA (cR (aD (C Z ak) (zj S ht))) Z (aQ ((zp Z 5).trans (by rw[dY h5];rfl))))
 refine aW e1<|je Z (qi S N.YX hk (lD _ _) (wz S h N.D2 N.h2 wD hv hn) Z Z iB) λγ=>gQ (eO γ _ Z)
theorem yc(S:aK Φ)(N:BX g u e t2 w2)(hc:∀z,e≠.i z)(ht:t2=5\/t2=0)(H:X (λs=>P (iZ s)) (aN T (Φ (d+6)) (E8.drop 4) false [.ref 8,e.val,cl t2 w2,.L] (mem g++O))):P (Φ (d+7) false 64 [.ref 8] (mem g++O)):=by
 refine J6 S N hc<|aL (aF ?_) H
 rcases ht with rfl|rfl
 .exact bA (cR (aD (C Z ak) (zj S Y))) Z (aQ ((zp Z 5).trans Z))
 .exact bF (cR (aD (C Z ak) (wH S))) Z
theorem QM(S:aK Φ)(N:BX g u (.a k) t2 w2)(ht:t2=5\/t2=0)(hk:g.ts[k]?=some s)(hs:∀c∈s,jR c)(hl:s.length<=30)
  (H:∀γ (AD:List Mine.Internal.S),X (λs=>P (iZ s)) (aN T (Φ (d+6)) (.ret (.both true [(.cmp .wC (J 3) (.lit .none)),(.aG (J 0) 58 [(J 2),(.tup [(D 5),(J 3)])])])::AD) false [.ref 8,cl 4 k,cl t2 w2,iH (cT s)] (mem g++(O++γ)))):P (Φ (d+7) false 64 [.ref 8] (mem g++O)):=by
 refine yc S N (λz q=>nomatch q) ht ?_;have tx:=Dm (d:=d+4) (hd:=false) (O:=O) S hk;have co:=JR (d:=d+5) (σ:=mem g++O) S (dD hl (dm Z));obtain⟨jG,rd⟩:=OJ (c:=O.length) S bk hs hl;rw[Ih hs,bw] at rd;rw[aX] at co;refine aW (cR (aD (C Z ak) (zj S Y)))<|aH (aD (C (aD (C (aD (C Z (C Z ak)) tx) ak) co) ak) rd) (H _ _)
theorem DI(S:aK Φ)(N:BX g u (.a k) t2 w2)(ht:t2=5\/t2=0)(hk:g.ts[k]?=some s)(hs:∀c∈s,jR c)(hl:s.length<=30)(hq:cT s=none):∃γ,Φ (d+7) false 64 [.ref 8] (mem g++O)= .ok (.bool false) (mem g++(O++γ)):=by refine QM (P:=λr=>∃γ,r= .ok (.bool false) (mem g++(O++γ))) S N ht hk hs hl λγ AD=>?_;rw[hq];exact aR (aF (bF Z Z)) ⟨γ,Z⟩
theorem uk(S:aK Φ)(N:BX g u (.a k) t2 w2)(ht:t2=5\/t2=0)(hk:g.ts[k]?=some s)(hs:∀c∈s,jR c)(hl:s.length<=30){x:Int}(hq:cT s=some x)
  (hu:∀γ,∃v σ',Φ (d+6) false 79 [.ref 8,cl t2 w2,cl 5 x] (mem g++(O++γ))= .ok (.bool v) σ'/\P (.ok (.bool v) σ')):P (Φ (d+7) false 64 [.ref 8] (mem g++O)):=by
 refine QM S N ht hk hs hl λγ AD=>?_;rw[hq];refine gH (hu γ) λv σ' hu hp=>?_;exact aR (aF (bA Z Z (aQ (bJ Z Z (C Z (C Z ak)) hu)))) hp
theorem gg(S:aK Φ)(N:BX g u (.v k) 0 w2)(hk:jT∈g.ts):dG (Φ (d+7) false 64 [.ref 8] (mem g++O)) g O (bH (rb g)):=by refine yc (P:=λr=>dG r g O _) S N (λz q=>nomatch q) (.inr Z)<|aL (cR (aD (C Z ak) (wH S))) ?_;refine aW (aD (C Z ak) (wH S))<|je (aD (C (bV Z Z) ak) Z) (Ba S (by have:=N.YX.lt;exact bj this (dl Z)) hk) λγ=>gQ (eO γ _ Z)
theorem Yp(S:aK Φ){z:Int}(N:BX g u (.v k) 5 z)(hz:z.natAbs<=10^30)(hk:cN z∈g.ts)
  (hu:∀γ,∃v σ',Φ (d+6) false 79 [.ref 8,cl 0 k,cl 4 (cO g.ts (cN z))] (mem g++(O++γ))= .ok v σ'/\P (.ok v σ')):P (Φ (d+7) false 64 [.ref 8] (mem g++O)):=by
 refine yc S N (λz q=>nomatch q) (.inl Z) ?_;obtain⟨γ,nt⟩:=sr S hz;have zl:=Iu hz;rw[bw] at nt;have ac:=Ha (d:=d+4) (O:=O++γ) S N.YX (dD zl (dm Z)) hk;refine gH (hu γ) λv σ' hu hp=>?_;refine aL (cR (aD (C Z ak) (wH S))) ?_;refine aL (aD (C Z ak) (zj S Y))<|aR (bJ Z Z (C Z (C (aD (C Z (C (aD (C Z ak) nt) ak)) ac) ak)) hu) hp
variable{x' y':U}
theorem Mt.mono(h:Mt k0 n x y):Mt k0 (n+1) x y:=by
 induction h with
 |a n k=>exact .a _ _
 |i n z=>exact .i _ _
 |v n=>exact .v _
 |s n f l l' h hl H ih=>exact .s _ f l l' h hl ih
theorem Mt.one(h:Mt k0 n x x'):Mt k0 (n+1) (pH f [x]) (pH f [x']):=.s _ f _ _ Z (by show 1<900;decide) λj a b h1 h2=>by
 cases j with
 |zero=>cases h1;cases h2;exact h
 |succ j=>cases h1
theorem Mt.two(h:Mt k0 n x x')(h':Mt k0 n y y'):Mt k0 (n+1) (pH f [x,y]) (pH f [x',y']):=.s _ f _ _ Z (by show 2<900;decide) λj a b h1 h2=>by
 match j with
 |0=>cases h1;cases h2;exact h
 |1=>cases h1;cases h2;exact h'
 |j+2=>cases h1
theorem Mt.el(h:e.vG k0):Mt k0 n e.tm e.norm.tm:=by
 cases e with
 |i z=>exact .i _ z
 |a k=>exact .a _ k
 |v k=>have h:=h;subst h;exact .v _
theorem Mt.list(ht:tl.vG k0):∀{aO:List El},(∀ e∈aO,e.vG k0)->Mt k0 aO.length (bQ tl aO) (bQ tl.norm (aO.map El.norm))
 |[],_=>.el ht
 |e::es,h=>.two (.el (h e eQ)) (.list ht λx m=>h x (.tail _ m))
theorem El.pW(h:e.con):e.vG k0:=by cases e<;>first|trivial|exact h.elim
theorem G7:∀{ds:List El},(∀ e∈ds,e.con)->ds.map El.norm=ds
 |[],_=>rfl
 |e::es,h=>by rw[cH,G7 λx m=>h x (.tail _ m),El.sO (h e eQ)]
theorem Mt.gr(ht:tl.con)(h:∀e∈ds,e.con):Mt k0 ds.length (bQ tl ds) (bQ tl ds):=by
 have:=Mt.list (El.pW ht) λe m=>El.pW (k0:=k0) (h e m)
 rwa [El.sO ht,G7 h] at this
theorem Mt.yD{F F':U}(h:Mt k0 n F F'):Mt k0 (n+1) (bH F) (bH F'):=.two h (.a _ _)
theorem Mt.ty(h:Mt k0 n x y):Mt k0 (n+1) (Cd g kind x) (Cd g kind y):=.two (.a _ _) h
theorem Kd(h1:O[i1]?=some (.dict []))(h2:O[i2]?=some (.dict [])):TQ O i1 i2 k0 false=O:=by show(O.set i1 (.dict [])).set i2 (.dict [])=O;rw[kE h1,kE h2]
theorem DS(h1:j≠i1)(h2:j≠i2):(TQ O i1 i2 k0 q)[j]?=O[j]?:=by unfold TQ;rw[jX (λh=>h2 h.symm),jX (λh=>h1 h.symm)]
theorem Zd(S:aK Φ){v:Int}(Bf:O[ti]?=some (.dict []))(h:oN g.hp tl b c ds)(hD:gJ g.hp c (cl t v))(WW:t≠1)(wD:tl.con)(hv:∀e∈ds,e.con)(hn:ds.length<200):
  ∃γ,Φ (d+3) false 53 [.ref 9,c,.ref (ti+16)] (mem g++O)= .ok (bQ tl ds) (mem g++(O++γ)):=by
 have lt:=(zb6 Bf).1;have T:=λa0=>Oh (d:=d) (a0:=a0) S Bf h hD WW (El.pW wD) (λe m=>El.pW (hv e m)) hn;refine mK (T 0) λq γ e=>?_;refine mK (T 1) λq' cZ e'=>?_;have ee:=e.symm.trans e';injection ee with _ e2;have e3:=congrArg (λl:St=>l[ti+16]?) e2;have at_:∀{a0:Nat} {q:Bool} {γ:We},(mem g++(O.set ti (.dict (tq a0 q))++γ))[ti+16]?=some (.dict (tq a0 q)):=λ{a0 q γ}=>rB (iy lt);have e4:=at_.symm.trans (e3.trans at_)
 have hq:q=false:=by
  cases q with
  |false=>rfl
  |true=>cases q'<;>cases e4
 subst hq;refine⟨γ,e.trans ?_⟩;rw[El.sO wD,G7 hv,show O.set ti (.dict (tq 0 false))=O from kE Bf]
def Fin(bd:TZ)(hp:Th)(x c:U):Prop:=∃(tl:El) (ds:List El) (b n t:Nat) (v:Int),tl.con/\(∀ e∈ds,e.con)/\ds.length<=40/\n<=43/\t≠1/\Fu bd n x (bQ tl ds)/\oN hp tl b c ds/\gJ hp c (cl t v)
noncomputable abbrev LA(f si pi bi ti i1 i2:Nat)(l3 l4 l6 l7 l9 He qE:U):Loc:=[.ref 8,.fn f,.ref (si+16),l3,l4,.ref (pi+16),l6,l7,.ref (bi+16),l9,.ref (ti+16),.ref (i1+16),.ref (i2+16),He,qE]
theorem Dt(S:aK Φ){si pi:Nat}{l3 l4 l9 qE:U}{xs cs:Th}(h1:i1<τ.length)(h2:i2<τ.length)(hs:τ[si]?=some (.list xs))(hp:τ[pi]?=some (.list cs))(hb:τ[bi]?=some (.dict (bD bd)))(ht:τ[ti]?=some (.dict []))
  (rE:si<i1/\pi<i1/\bi<i1/\ti<i1/\i1<i2) (hx:xs[k]?=some x) (hc:cs[k]?=some c) (F:Fin bd g.hp x c):
  ∃q' cZ,aV T (Φ (d+45)) false (.not (Cf 86 [(Cf 85 [(.idx (J 2) (J 13)),(J 8)]),(.aG (.attr (J 0) 52) 80 [(.idx (J 5) (J 13)),(J 10)]),(J 11),(J 12)])) (LA f si pi bi ti i1 i2 l3 l4 l6 l7 l9 (.int k) qE) (mem g++(TQ τ i1 i2 0 q++γ))= .ok (.bool false) (mem g++(TQ τ i1 i2 0 q'++(γ++cZ))):=by
 refine J' F λtl ds b n t v wD Ho hn Mi WW fu rp dr=>?_;have at_:∀{j:Nat} {q:Bool},j<i1->(TQ τ i1 i2 0 q)[j]?=τ[j]?:=λ{j q} h=>DS (iV h) (iV (fH h rE.2.2.2.2));obtain⟨jG,fl⟩:=dP S ((at_ rE.2.2.1).trans hb) n x (bQ tl ds) (d+(43 - n)) γ fu;rw[show d+(43 - n)+n+2=d+45 from congrArg (·+2) (KA Mi)] at fl;obtain⟨lE,tk⟩:=Zd S (dU ((at_ rE.2.2.2.1).trans ht)) rp dr WW wD Ho (dD hn (dm Z));rw[bw] at tk;refine mK (I7 (hd:=false) (g:=g) (k0:=0) S h1 h2 (iV (dq rE.2.2.2.2)) ds.length (bQ tl ds) (bQ tl ds) (d+(44 - ds.length)) q ((γ++jG)++lE) (Mt.gr wD Ho)) λq' T8 mt=>?_;rw[show d+(44 - ds.length)+ds.length+1=d+45 from congrArg (·+1) (KA (bO hn (dl Z)))] at mt;have es:aV T (Φ (d+45)) false (.idx (J 2) (J 13)) (LA f si pi bi ti i1 i2 l3 l4 l6 l7 l9 (.int k) qE) (mem g++(TQ τ i1 i2 0 q++γ))= .ok x (mem g++(TQ τ i1 i2 0 q++γ)):=bB Z Z (fV (rB ((at_ rE.1).trans hs)) hx);have ep:aV T (Φ (d+45)) false (.idx (J 5) (J 13)) (LA f si pi bi ti i1 i2 l3 l4 l6 l7 l9 (.int k) qE) (mem g++(TQ τ i1 i2 0 q++(γ++jG)))= .ok c (mem g++(TQ τ i1 i2 0 q++(γ++jG))):=bB Z Z (fV (rB ((at_ rE.2.1).trans hp)) hc);refine(eO q' (jG++(lE++T8)) ((cR (p:=true) ?_)));refine(aD (C (aD (C es (C Z ak)) fl) (C (bJ (bV Z Z) Z (C ep (C Z ak)) tk) (C Z (C Z ak)))) mt).trans ?_;rw[bw,bw]
def Met(Φ:Nat->iC)(a b:U)(β:Bool)(K:List (Nat×U)->Prop):Prop:=∀(AM:Nat) (g:GS) (O:We) (bi:Nat),O[bi]?=some (.dict [])->∃QJ cZ,Φ (AM+45) false 84 [a,b,.ref (bi+16)] (mem g++O)= .ok (.bool β) (mem g++Ca O bi QJ cZ)/\(β=true->K QJ)
def qg(Φ:Nat->iC)(G:GS)(τ:We)(x1 x2 c1 c2:U)(r:Res U):Sum U (U×U)->Prop
 | .inl F=>∃F' k0 n,n<=43/\dG r G τ (bH F')/\Mt k0 n (bH F) (bH F')
 | .inr (a,b)=>∃β hp' γ,r= .ok (.bool β) (mem {G with hp:=hp'}++(τ++γ))/\hp'.length<=G.hp.length+100/\Met Φ a b β λbd=>Fin bd hp' x1 c1/\Fin bd hp' x2 c2
def D4(AM:U)(O:We):Sum U (U×U)->Prop
 | .inl F=>AM= .tup [.str uU,bH F]
 | .inr (a,b)=>∃j,AM= .tup [.str jV,.ref (j+16)]/\O[j]?=some (.list [.tup [a,b]])
variable{x1 x2 AM:U}{si pi:Nat}
section
variable{G:GS}
theorem Hz(tl:El):∀(aO:List El),(cL tl aO).length<=aO.length+1
 |[]=>by cases tl<;>first|exact bR _|exact gf _
 |e::es=>by
  have ih:=Hz tl es;have:e.vars.length<=1:=by cases e<;>first|exact bR _|exact gf _
  show(e.vars++cL tl es).length<=es.length+1+1;rw[bW];exact fH this ih
theorem xJ{tl:El}{aO:List El}:bQ tl aO≠.L:=by obtain⟨l,h⟩:=lD tl aO;rw[h];exact λq=>nomatch q
theorem RJ(S:aK Φ){t1 t2:El}{e1 e2:List El}(hi:O[si]?=some (.list [bQ t1 e1,bQ t2 e2]))(qj:(cL t1 e1++cL t2 e2).Nodup)(xb:e1.length<=40)(IG:e2.length<=40)(hh:g.hp.length<=5000){l1 l3 l5 l6 l7 l8 l9 jC lY vD He:U}:
  ∃δ,aV T (Φ (d+4)) false (.comp (.aG (.attr (J 0) 52) 82 [(J 14),(J 4)]) 14 (J 2)) [.ref 8,l1,.ref (si+16),l3,.ref (O.length+16),l5,l6,l7,l8,l9,jC,lY,vD,He,.L] (mem g++(O++[.dict []]))=
   .ok (.ref ((O++δ).length+16)) (mem {g with hp:=(g.hp++ie g.hp.length t1 e1)++ie (g.hp++ie g.hp.length t1 e1).length t2 e2}++((O++δ)++[.list [pU g.hp.length t1 e1,pU (g.hp++ie g.hp.length t1 e1).length t2 e2]])):=by
 have l1':=BP t1 e1 g.hp.length;refine gH (Vo (d:=d) (O:=O++[.dict []]) S bk t1 e1 (by rw[vJ,mW];exact(List.nodup_append.mp qj).1) (by show 0+_<800;exact dD (Tz xb (dl Z)) (dm Z)) (nU hh xb xb)) λFK jG p1 k1=>?_;rw[o5,bw] at p1;have k1:FK.map (·.1)=cL t1 e1:=k1
 have RE:FK.length<=41:=by have:=congrArg List.length k1;rw[dN] at this;have q:=Hz t1 e1;exact nU q (dh this) xb
 refine gH (Vo (d:=d) (g:={g with hp:=g.hp++ie g.hp.length t1 e1}) (O:=O++.dict (lM FK)::jG) S bk t2 e2 (by rw[k1];exact qj) (dD (rH RE IG) (dm Z)) (by show(g.hp++ie g.hp.length t1 e1).length+_<=_;rw[bW];lia)) λvS lE p2 k2=>?_;rw[o5,show(O++.dict (lM vS)::jG)++lE=O++.dict (lM vS)::(jG++lE) from bw ..] at p2;refine⟨.dict (lM vS)::(jG++lE),?_⟩;have it:∀{g:GS} {γ:We} {k:Nat},dJ (.ref (si+16)) k (mem g++(O++γ))=some ([bQ t1 e1,bQ t2 e2][k]?):=λ{g γ k}=>cD (rB hi);refine(lu Z Z (vs:=[pU g.hp.length t1 e1,pU (g.hp++ie g.hp.length t1 e1).length t2 e2]) (bL:=mem {g with hp:=(g.hp++ie g.hp.length t1 e1)++ie (g.hp++ie g.hp.length t1 e1).length t2 e2}++(O++.dict (lM vS)::(jG++lE))) ?_).trans ?_
 .refine lz it (bJ (bV Z Z) Z (C (bG Z xJ) (C Z ak)) p1)<|lz it (bJ (bV Z Z) Z (C (bG Z xJ) (C Z ak)) p2) ?_;exact p7 (it)
 .rw[aX];rfl
theorem OD{p:Nat}{tl:El}{aO:List El}:Gs (pU p tl aO):=by
 cases aO with
 |nil=>cases tl<;>exact(eO _ _ Z)
 |cons e es=>exact(eO _ _ Z)
theorem Yo{F F':U}{v4 v5 v8 v9 v10 v11 Uj TY Kr:U}(S:aK Φ)(hr:dG (Φ (d+48) false f [.ref 8] (mem G++τ)) G τ (bH F'))(hn:n<=43)(hm:Mt k0 n (bH F) (bH F')):
  ∃γ,X (λs=>iZ s= .ok (.bool true) (mem G++(τ++γ))) (aN T (Φ (d+48)) (t9.drop 3) false [.ref 8,.fn f,.ref (si+16),.tup [.str uU,bH F],v4,v5,.L,.L,v8,v9,v10,v11,Uj,TY,Kr] (mem G++τ)):=by
 obtain⟨γ,hr⟩:=hr;have tq:=Kd (k0:=k0) (O:=(τ++γ)++[.up 0 [(6,bH F')],.dict [],.dict []]) (i1:=(τ++γ).length+1) (i2:=(τ++γ).length+2) (by rw[iz (d9 _ _)];rw[jz];rfl) (by rw[iz (d9 _ _)];rw[jz];rfl);refine mK (I7 (hd:=true) (g:=G) (O:=(τ++γ)++[.up 0 [(6,bH F')],.dict [],.dict []]) S (by rw[bW];show _<(τ++γ).length+3;exact rI (pI _)) (by rw[bW];show _<(τ++γ).length+3;exact j9 _) (by exact iV (j9 _)) n _ _ (d+(47 - n)) false [] hm) λq' cZ mt=>?_;rw[show d+(47 - n)+n+1=d+48 from congrArg (·+1) (KA (bO hn (dl Z))),dH,tq] at mt
 have pre:∃kU,TQ ((τ++γ)++[.up 0 [(6,bH F')],.dict [],.dict []]) ((τ++γ).length+1) ((τ++γ).length+2) k0 q'++([]++cZ)=τ++kU:=by unfold TQ;rw[mX _ _ (d9 _ _),mX _ _ (d9 _ _),bw,bw];exact⟨_,Z⟩
 obtain⟨kU,pre⟩:=pre;rw[pre] at mt;refine⟨kU,?_⟩;have up:(mem G++(τ++γ)++[AO.up 0 [(6,bH F')]])[(mem G++(τ++γ)).length]?=some (.up 0 [(6,bH F')]):=bk;refine Kp (nT:=[.ref 8,.fn f,.ref (si+16),.tup [.str uU,bH F],v4,v5,.L,.ref (mem G++(τ++γ)).length,v8,v9,v10,v11,Uj,TY,Kr]) (gP (tQ (Jt Z (C Z ak) hr) up Z)) up Z (gP ?_) (by decide:7<15) Z;refine aR (aF (bA (cz Z) Z (aQ ?_))) Z
 have d1:aV T (Φ (d+48)) true .lN [.ref 8,.fn f,.ref (si+16),.tup [.str uU,bH F],v4,v5,.L,.ref (mem G++(τ++γ)).length,v8,v9,v10,v11,Uj,TY,Kr] (mem G++(τ++γ)++[AO.up 0 [(6,bH F')]])= .ok (.ref ((τ++γ).length+1+16)) (mem G++((τ++γ)++[AO.up 0 [(6,bH F')],.dict []])):=by show Res.ok (U.ref (mem G++(τ++γ)++[AO.up 0 [(6,bH F')]]).length) (mem G++(τ++γ)++[AO.up 0 [(6,bH F')]]++[.dict []])=_;rw[aX,aX,bw (τ++γ)];show Res.ok (U.ref (((τ++γ)++[AO.up 0 [(6,bH F')]]).length+16)) _=_;rw[bW];rfl
 have d2:aV T (Φ (d+48)) true .lN [.ref 8,.fn f,.ref (si+16),.tup [.str uU,bH F],v4,v5,.L,.ref (mem G++(τ++γ)).length,v8,v9,v10,v11,Uj,TY,Kr] (mem G++((τ++γ)++[AO.up 0 [(6,bH F')],.dict []]))= .ok (.ref ((τ++γ).length+2+16)) (mem G++((τ++γ)++[AO.up 0 [(6,bH F')],.dict [],.dict []])):=by show Res.ok (U.ref (mem G++((τ++γ)++[AO.up 0 [(6,bH F')],.dict []])).length) ((mem G++((τ++γ)++[AO.up 0 [(6,bH F')],.dict []]))++[.dict []])=_;rw[aX,bw (τ++γ)];show Res.ok (U.ref (((τ++γ)++[AO.up 0 [(6,bH F')],.dict []]).length+16)) _=_;rw[bW];rfl
 exact aD (C (bB Z Z (jt Z)) (C (Mv Z up Z Z) (C d1 (C d2 ak)))) mt
theorem tE{Φ:iC}:aV T Φ hd .lN B (mem g++τ)= .ok (.ref (τ.length+16)) (mem g++(τ++[.dict []])):=by rw[aX];rfl
theorem Nk{j:Nat}{a b:U}{β:Bool}{hp':Th}{v4 v8 v9 v10 v11 Uj TY Kr:U}(S:aK Φ)(hj:τ[j]?=some (.list [.tup [a,b]]))(hs:τ[si]?=some (.list [x1,x2]))(Nw:τ[pi]?=some (.list [c1,c2]))(hr:Φ (d+48) false f [.ref 8] (mem G++τ)= .ok (.bool β) (mem {G with hp:=hp'}++(τ++γ)))(M:Met Φ a b β λbd=>Fin bd hp' x1 c1/\Fin bd hp' x2 c2):
  ∃γ,X (λs=>iZ s= .ok (.bool true) (mem {G with hp:=hp'}++(τ++γ))) (aN T (Φ (d+48)) (t9.drop 3) false [.ref 8,.fn f,.ref (si+16),.tup [.str jV,.ref (j+16)],v4,.ref (pi+16),.L,.L,v8,v9,v10,v11,Uj,TY,Kr] (mem G++τ)):=by
 refine gH (M (d+3) {G with hp:=hp'} ((τ++γ)++[.dict []]) (τ++γ).length bk) λbd jG mt K=>?_
 have tb:Ca ((τ++γ)++[.dict []]) (τ++γ).length bd jG=τ++(γ++(.dict (bD bd)::jG)):=by unfold Ca;rw[o5,bw,bw];rfl
 rw[tb] at mt;have it:∀{g:GS} {γ:We} {k:Nat},dJ (.ref (j+16)) k (mem g++(τ++γ))=some ([U.tup [a,b]][k]?):=λ{g γ k}=>cD (rB hj)
 have front:∀{Q:za1},X Q (aN T (Φ (d+48)) (t9.drop 6) false [.ref 8,.fn f,.ref (si+16),.tup [.str jV,.ref (j+16)],v4,.ref (pi+16),.bool β,.L,.ref ((τ++γ).length+16),v9,v10,v11,Uj,TY,Kr] (mem {G with hp:=hp'}++((τ++γ)++[.dict []])))->X Q (aN T (Φ (d+48)) (t9.drop 3) false [.ref 8,.fn f,.ref (si+16),.tup [.str jV,.ref (j+16)],v4,.ref (pi+16),.L,.L,v8,v9,v10,v11,Uj,TY,Kr] (mem G++τ)):=λH=>by refine Ud (gP (aH (Jt Z (C Z ak) hr) (bU Z))) ?_;refine aL (bN Y) ?_;exact aH tE H
 have me:∀{v9:U},aV T (Φ (d+48)) false (.not (Cf 84 [(.idx (J 9) (D 0)),(.idx (J 9) (D 1)),(J 8)])) [.ref 8,.fn f,.ref (si+16),.tup [.str jV,.ref (j+16)],v4,.ref (pi+16),.bool β,.L,.ref ((τ++γ).length+16),.tup [a,b],v10,v11,Uj,TY,Kr] (mem {G with hp:=hp'}++((τ++γ)++[.dict []]))= .ok (.bool (!β)) (mem {G with hp:=hp'}++(τ++(γ++(.dict (bD bd)::jG)))):=λ{v9}=>
  cR (aD (C (bB Z Z (jt Z)) (C (bB Z Z (jt Z)) (C Z ak))) mt)
 have MW:dJ (.ref (j+16)) 0 (mem {G with hp:=hp'}++((τ++γ)++[.dict []]))=some (some (.tup [a,b])):=by rw[bw];exact it
 cases β with
 |false=>refine⟨γ++(.dict (bD bd)::jG),front ?_⟩;refine w6 (bx:=[.ref 8,.fn f,.ref (si+16),.tup [.str jV,.ref (j+16)],v4,.ref (pi+16),.bool false,.L,.ref ((τ++γ).length+16),.tup [a,b],v10,v11,Uj,TY,Kr]) Z Z (qN MW (gP ?_)) Z;exact aW (me (v9:=v9)) (aR (cR Z) Z)
 |true=>
  obtain⟨F1,F2⟩:=K Z;generalize Ss:τ++(γ++(.dict (bD bd)::jG))=tO at me;have Pu:(τ++γ).length<tO.length:=by rw[<- Ss,<-bw,bW (as:=τ++γ)];show _<_+(jG.length+1);exact rI (d9 _ _)
  have MD:=(zb6 hs).1;have MG:=(zb6 Nw).1;have EG:τ.length<=(τ++γ).length:=by rw[bW];exact d9 _ _
  have s1:tO[si]?=some (.list [x1,x2]):=by rw[<- Ss];exact dU hs
  have p1:tO[pi]?=some (.list [c1,c2]):=by rw[<- Ss];exact dU Nw
  have b1:tO[(τ++γ).length]?=some (.dict (bD bd)):=by rw[<- Ss,<-bw];exact bk
  have l2:(tO++[AO.dict [],.dict [],.dict []]).length=tO.length+3:=by rw[bW];rfl
  have tq:=Kd (k0:=0) (O:=tO++[.dict [],.dict [],.dict []]) r8 Xf;refine mK (Dt (d:=d+3) (g:={G with hp:=hp'}) (γ:=[]) (i1:=tO.length+1) (k:=0) (q:=false) (f:=f) (l3:=.tup [.str jV,.ref (j+16)]) (l4:=v4) (l6:=.bool true) (l7:=.L) (l9:=.tup [a,b]) (qE:=Kr) S (by exact dq (dh l2.symm)) (by exact dw (dh (Eq.symm l2))) (dU s1) (dU p1) (dU b1) dA (by exact⟨nU EG MD Pu,⟨nU EG MG Pu,⟨dq Pu,⟨LC,LC⟩⟩⟩⟩) Z Z F1) λq1 Fs m1=>?_;rw[tq,dH] at m1;refine mK (Dt (d:=d+3) (g:={G with hp:=hp'}) (τ:=tO++[.dict [],.dict [],.dict []]) (γ:=[]++Fs) (si:=si) (pi:=pi) (bi:=(τ++γ).length) (ti:=tO.length) (i1:=tO.length+1) (i2:=tO.length+2) (k:=1) (bd:=bd) (q:=q1) (xs:=[x1,x2]) (cs:=[c1,c2]) (f:=f) (l3:=.tup [.str jV,.ref (j+16)]) (l4:=v4) (l6:=.bool true) (l7:=.L) (l9:=.tup [a,b]) (qE:=Kr) S (by exact dq (dh l2.symm)) (by exact dw (dh (Eq.symm l2))) (dU s1) (dU p1) (dU b1) dA (by exact⟨nU EG MD Pu,⟨nU EG MG Pu,⟨dq Pu,⟨LC,LC⟩⟩⟩⟩) Z Z F2) λq2 PZ m2=>?_
  have Md:∀q δ,∃ζ,TQ (tO++[.dict [],.dict [],.dict []]) (tO.length+1) (tO.length+2) 0 q++δ=τ++ζ:=λq δ=>by refine⟨(γ++(.dict (bD bd)::jG))++((([AO.dict [],.dict [],.dict []].set 1 (.dict (mq 0 0 q))).set 2 (.dict (mq 0 0 q)))++δ),?_⟩;unfold TQ;rw[mX _ _ (by exact d9 _ _),mX _ _ (by exact d9 _ _),jz,jz,bw,<-Ss,bw]
  obtain⟨ζ1,z1⟩:=Md q1 ([]++Fs);obtain⟨L5,z2⟩:=Md q2 (([]++Fs)++PZ);refine⟨L5,front ?_⟩;have HA:dJ (.ref (j+16)) 1 (mem {G with hp:=hp'}++tO)=some none:=by rw[<- Ss];exact it
  refine jf (bx:=[.ref 8,.fn f,.ref (si+16),.tup [.str jV,.ref (j+16)],v4,.ref (pi+16),.bool true,.L,.ref ((τ++γ).length+16),.tup [a,b],v10,v11,Uj,TY,Kr]) (σ':=mem {G with hp:=hp'}++tO) Z Z (cV (n:=999) MW (gP (aL (me (v9:=v9)) (bU Z))) (dW (n:=998) HA))<|aL (cR (p:=true) Z) ?_;refine aH tE<|aH tE ?_;refine aH tE ?_;rw[bw,bw];have e1:(tO++[AO.dict []]).length+16=tO.length+1+16:=by rw[bW];rfl
  have e2:(tO++([AO.dict []]++[AO.dict []])).length+16=tO.length+2+16:=by rw[bW];rfl
  rw[e1,e2]
  have ln:aV T (Φ (d+48)) false (Cb 1 [(Cb 0 [(J 2)])]) (LA f si pi (τ++γ).length tO.length (tO.length+1) (tO.length+2) (.tup [.str jV,.ref (j+16)]) v4 (.bool true) .L (.tup [a,b]) TY Kr) (mem {G with hp:=hp'}++(tO++[.dict [],.dict [],.dict []]))= .ok (.yK 0 (2:Nat) 1) (mem {G with hp:=hp'}++(tO++[.dict [],.dict [],.dict []])):=
   bK (C (bK (C Z ak) Z (dM (rB s1))) ak) Z (rW (n:=2) Y)
  refine jf (bx:=LA f si pi (τ++γ).length tO.length (tO.length+1) (tO.length+2) (.tup [.str jV,.ref (j+16)]) v4 (.bool true) .L (.tup [a,b]) (.int (1:Nat)) Kr) (σ':=mem {G with hp:=hp'}++(τ++L5)) ln Z (cV (n:=999) (x:=.int (0:Nat)) rR (gP (aL m1 (bU Z))) (cV (n:=998) (x:=.int (1:Nat)) rR (gP (aL m2 (bU ?_))) (dW (n:=997) rR))) ?_
  .rw[z2];rfl
  .exact aR Z Z
end
theorem Nj{t:U}:∀{bd:TZ},(bd.map (·.1)).Nodup->(k,t)∈bd->jN (bD bd) (.int k)=some t
 |[],_,m=>nomatch m
 |(j,u)::bd,h,m=>by
  rw[cH,List.nodup_cons] at h;show jN ((.int j,u)::bD bd) (.int k)=_;rw[jw]
  rcases zb5 m with q|m
  .cases q
   exact bz (dF Z)
  .have ne:(j:Int)≠k:=λq=>h.1 (List.mem_map.mpr (aZ _ m ((yL (Eq.symm q):k=j))));rw[bh (by show ¬decide ((j:Int)=k)=true;rw[dY ne];decide)];exact Nj h.2 m
theorem JX:∀{aO ds:List El},meets tl aO ds=true->(kM tl aO ds).map (·.1)=cL tl aO
 |[],_,_=>by cases tl<;>rfl
 |_::_,[],h=>nomatch h
 |e::es,d::ds,h=>by have h:((e.fr||pC e d)&&meets tl es ds)=true:=h;rw[jH] at h;show(Hi e d++kM tl es ds).map (·.1)=e.vars++cL tl es;rw[oO,Es,JX h.2]
theorem Qo{d:El}(h:pC e d=true):e=d:=by
 cases e<;>cases d<;>first|(cases h;done)|exact congrArg _ (eY h)
theorem Jm:∀{aO ds:List El},(∀ p∈kM tl aO ds,jN (bD bd) (.int p.1)=some p.2)->meets tl aO ds=true->(∀ e∈ds,e.con)->(tl= .a 0\/tl.fr=true)->Fu bd ds.length (bQ tl aO) (bQ (.a 0) ds)
 |[],ds,hb,hm,hc,ht=>by
  cases tl with
  |v k=>exact .b _ k _ _ (hb _ eQ) (Gr.qD (Gr.list hc)) (.Ae (Gr.list hc))
  |i z=>rcases ht with h|h<;>cases h
  |a z=>
   have:z=0:=by rcases ht with h|h<;>cases h<;>rfl
   subst this
   cases ds with
   |nil=>exact .con _ _ _ Y Y
   |cons d ds=>cases hm
 |_::_,[],_,h,_,_=>nomatch h
 |e::es,d::ds,hb,hm,hc,ht=>by
  have hm:((e.fr||pC e d)&&meets tl es ds)=true:=hm;rw[jH] at hm;have hb:=hb;refine .s ds.length 0 _ _ _ _ ?_ (Jm (λp m=>hb p (List.mem_append_right _ m)) hm.2 (λx m=>hc x (.tail _ m)) ht);have hd:=hc d eQ
  cases e with
  |v k=>exact .b _ k _ _ (hb (k,d.tm) (List.mem_append_left _ eQ)) (El.oZ hd) (.Ae (.con _ d hd))
  |i z=>have:=Qo hm.1;subst this;exact .Ae (.con _ _ hd)
  |a z=>have:=Qo hm.1;subst this;exact .Ae (.con _ _ hd)
theorem Lf.app{τ:Th}:∀{aO:List El} {lo:Nat} {c:U},Lf hp tl vc lo c aO->Lf (hp++τ) tl vc lo c aO
 |[],lo,c,h=>by
  cases tl with
  |v k=>refine Bu h λa h1 h2 h3 h4=>?_;exact(WR a h1 h2 h3 (by rw[oX (zb6 h4).1];exact h4))
  |i n=>exact h
  |a n=>exact h
 |e::es,lo,c,⟨p,c2,h1,h2,h3,h4,h5,h6⟩=>(Be p c2 h1 h2 h3 (by rw[oX (zb6 h4).1];exact h4) (by rw[oX (zb6 h5).1];exact h5) h6.app)
theorem Lf.gr:∀{aO:List El} {lo:Nat} {c:U},Lf hp (.a 0) vc lo c aO->(∀ e∈aO,e.con)->Rg hp lo c aO
 |[],lo,c,h,_=>h
 |e::es,lo,c,⟨p,c2,h1,h2,h3,h4,h5,h6⟩,hc=>by have he:=hc e eQ;refine(Be p c2 h1 h3 he ?_ h5 (h6.gr λx m=>hc x (.tail _ m)));rw[h4,(El.oh he p).1]
theorem Rg.E6(h:Rg hp b c ds):∃(t:Nat) (v:Int),t≠1/\gJ hp c (cl t v):=by refine gH h.Gs λt v e h3=>?_;subst e;exact(dK t v (dX (dw (iw h3))) (.stop (iw h3)))
theorem Fin.gr(h:Rg hp b c ds)(hc:∀e∈ds,e.con)(hl:ds.length<=40):Fin bd hp (bQ (.a 0) ds) c:=by refine gH h.E6 λt v h1 hD=>?_;exact(bP (.a 0) ds b ds.length t v trivial hc hl (bO hl (dl Z)) h1 (.Ae (Gr.list hc)) h.rep hD)
theorem Fin.con(h:e.con):Fin bd hp e.tm e.val:=by refine gH (t6 h) λt v h4 he=>?_;exact(bP e ([]) 0 0 t v h (λ_ m=>(nomatch m)) (gf _) (gf _) (dX (dw (BR h4))) (.Ae (.con 0 e h)) (by show gJ hp e.val e.val;rw[he];exact .stop (BR h4)) (by rw[he];exact .stop (BR h4)))
theorem X8{es:List El}(h:e.con):mO au ts (e::es)=match eV au ts e with
  |none=>.inl e
  |some c=>match mO au ts es with
   | .inl x=>.inl x
   | .inr l=>.inr (c::l):=by
 cases e with
 |v k=>exact h.elim
 |i n=>rfl
 |a n=>rfl
theorem JV:∀{aO:List El},(∀ e,mO au ts aO= .inl e->e.con)/\((∀ e∈aO,∀c,eV au ts e=some c->jR c)->∀l,mO au ts aO= .inr l->∀c∈l,jR c):=by
 intro aO
 induction aO with
 |nil=>exact⟨λe h=>(nomatch h),λ_ l h=>by cases h;exact λ_ m=>nomatch m⟩
 |cons e es ih=>
  have hc:e.con\/¬e.con:=Classical.em _
  rcases hc with hc|hc
  .rw[X8 hc]
   cases q:eV au ts e with
   |none=>exact⟨λx h=>by cases h;exact hc,λ_ l h=>nomatch h⟩
   |some c=>
    cases q2:mO au ts es with
    |inl x=>exact⟨λy h=>by cases h;exact ih.1 x q2,λ_ l h=>nomatch h⟩
    |inr l'=>
     refine⟨λy h=>(nomatch h),λha l h=>?_⟩
     cases h
     intro x m
     rcases zb5 m with rfl|m
     .exact ha e eQ x q
     .exact ih.2 (λe m=>ha e (.tail _ m)) l' q2 x m
  .cases e with
   |v k=>exact⟨ih.1,λha=>ih.2 λe m=>ha e (.tail _ m)⟩
   |i n=>exact absurd trivial hc
   |a n=>exact absurd trivial hc
theorem QC{l:Sa}(h:∀e∈aO,∀c,eV au ts e=some c->jR c)(h2:mO au ts aO= .inr l):∀c∈l,jR c:=JV.2 h l h2
theorem fA(h:mO au ts aO= .inl e):e.con:=JV.1 e h
theorem Ed(h:dO tl=false):tl= .a 0\/tl.fr=true:=by
 cases tl with
 |v k=>exact .inr Z
 |i n=>cases h
 |a k=>have h:(!decide (k=0))=false:=h;rw[Bool.not_eq_false',fO] at h;exact .inl (by rw[h])
variable{CE:U}
theorem Fi{t:Sa}(h:dR au known g tl aO CE= .text t):tl= .a 0/\(∀ e∈aO,e.con)/\mO au g.ts aO= .inr t:=by
 unfold dR at h
 cases hb:dO tl with
 |true=>rw[hb,bz Z] at h;cases h
 |false=>
  rw[hb,bh Y] at h
  by_cases hl:dZ tl aO=true/\known=false
  .rw[bz hl] at h;cases h
  .rw[bh hl] at h
   cases hc:mO au g.ts aO with
   |inl e=>rw[hc] at h;cases h
   |inr l=>
    rw[hc] at h;have h:(if dZ tl aO=true then xi.part else .text l)= .text t:=h
    cases hk:dZ tl aO with
    |true=>rw[hk,bz Z] at h;cases h
    |false=>
     rw[hk,bh Y] at h
     cases h
     unfold dZ at hk;rw[Bool.or_eq_false_iff] at hk;refine(jW ((Ed hb).resolve_right (by rw[hk.1];decide)) (λe m=>?_) Z);have:=(List.any_eq_false.mp hk.2) e m
     cases e with
     |v k=>exact absurd Z this
     |i n=>trivial
     |a n=>trivial
theorem Dz(h:dR au known g tl aO CE= .part):tl= .a 0\/tl.fr=true:=by
 unfold dR at h
 cases hb:dO tl with
 |true=>rw[hb,bz Z] at h;cases h
 |false=>exact Ed hb
theorem Xz{g:GS}{L' F:U}{n k0:Nat}(h:dR au known g tl aO CE= .err F)(hm:dO tl=true->Mt k0 n CE L')(hn:1<=n):∃F',dR au known g tl aO L'= .err F'/\Mt k0 (n+2) (bH F) (bH F'):=by
 unfold dR at h ⊢
 cases hb:dO tl with
 |true=>
  rw[hb,bz Z] at h
  cases h
  rw[bz Z];exact(aZ _ Z ((hm hb).ty.yD))
 |false=>
  rw[hb,bh Y] at h;rw[bh Y]
  by_cases hl:dZ tl aO=true/\known=false
  .rw[bz hl] at h ⊢
   cases h
   exact(aZ _ Z (.yD (.a _ _)))
  .rw[bh hl] at h ⊢
   cases hc:mO au g.ts aO with
   |inl e=>
    rw[hc] at h
    cases h
    have he:=fA hc
    have m:∀kind,Mt k0 (n+1) (Cd g kind e.tm) (Cd g kind e.tm):=λkind=>by
     have:=(Mt.el (k0:=k0) (n:=n) (El.pW he)).ty (g:=g) (kind:=kind)
     rwa [El.sO he] at this
    refine(aZ _ Z (.yD ?_));unfold Jz
    cases au with
    |false=>exact m _
    |true=>
     rw[bz Z]
     cases e with
     |i z=>exact .one (.a _ _)
     |a z=>exact m _
     |v z=>exact he.elim
   |inr l=>
    rw[hc] at h;have h:(if dZ tl aO=true then xi.part else .text l)= .err F:=h
    cases hk:dZ tl aO with
    |true=>rw[hk,bz Z] at h;cases h
    |false=>rw[hk,bh Y] at h;cases h
theorem wg:∀{aO:List El},(cL tl aO).length<=1->∃k0,tl.vG k0/\∀e∈aO,e.vG k0
 |[],_=>by
  cases tl with
  |v k=>exact(aZ k Z (λ_ m=>nomatch m))
  |i n=>exact(aZ 0 trivial (λ_ m=>nomatch m))
  |a n=>exact(aZ 0 trivial (λ_ m=>nomatch m))
 |e::es,h=>by
  have h:(e.vars++cL tl es).length<=1:=h;rw[bW] at h
  cases e with
  |v k=>
   have h0:(cL tl es)=[]:=NT (by have:(El.v k).vars.length=1:=rfl;exact zA (fH (dh this.symm) h) (LC));have:=VN (k0:=k) h0;refine(aZ k this.1 (λx m=>?_))
   rcases zb5 m with rfl|m
   .rfl
   .exact this.2 x m
  |i n=>
   refine bY (wg (BR h)) λk0 h1 h2=>?_;refine(aZ k0 h1 (λx m=>?_))
   rcases zb5 m with rfl|m
   .trivial
   .exact h2 x m
  |a n=>
   refine bY (wg (BR h)) λk0 h1 h2=>?_;refine(aZ k0 h1 (λx m=>?_))
   rcases zb5 m with rfl|m
   .trivial
   .exact h2 x m
where
 VN {tl:El} {k0:Nat}:∀{aO:List El},cL tl aO=[]->tl.vG k0/\∀e∈aO,e.vG k0
  |[],h=>by
   refine⟨?_,λ_ m=>nomatch m⟩
   cases tl with
   |v k=>cases h
   |i n=>trivial
   |a n=>trivial
  |e::es,h=>by
   have h:e.vars++cL tl es=[]:=h;rw[List.append_eq_nil_iff] at h;have ih:=VN (k0:=k0) h.2;refine⟨ih.1,λx m=>?_⟩
   rcases zb5 m with rfl|m
   .cases x with
    |v k=>cases h.1
    |i n=>trivial
    |a n=>trivial
   .exact ih.2 x m
variable{t1 t2:El}{e1 e2:List El}{lo1 Km:Nat}{o:Sum U (U×U)}
section
variable{G:GS}
theorem Lf.AX(h:Lf hp t1 vc lo c e1)(hs:bQ t1 e1= .tup (.str s::ll)):(∃ n,t1= .i n/\e1=[]/\s=[105]/\ll=[.int n]/\c=cl 5 n)\/(∃ k a,t1= .v k/\e1=[]/\s=[118]/\c=cl 0 (a:Nat)/\a<vc/\hp[a]?=some (cl 0 a))\/(s≠[105]/\s≠[118]/\∃(t:Nat) (v:Int),c=cl t v/\2<=t/\t≠5):=by
 cases e1 with
 |nil=>
  cases t1 with
  |i n=>cases hs;exact .inl (A9 n Z Z Z Z h)
  |v k=>
   cases hs
   refine Bu h λa h1 h2 h3 h4=>?_;exact .inr (.inl (Be k a Z Z Z h3 h2 h4))
  |a k=>cases hs;exact .inr (.inr ⟨by decide,by decide,4,k,h,by decide,by decide⟩)
 |cons e es=>
  refine Bt h λp c2 h1 h2 h3 h4 h5 h6=>?_
  cases hs
  exact .inr (.inr ⟨by decide,by decide,3,p,h3,by decide,by decide⟩)
theorem Lf.Jb{BC:Prop}(h:Lf hp t1 vc lo c e1)(hs:bQ t1 e1= .tup (.str s::ll))(k1:∀n,t1= .i n->e1=[]->s=[105]->ll=[.int n]->c=cl 5 n->BC)(k2:∀k (a:Nat),t1= .v k->e1=[]->s=[118]->c=cl 0 a->a<vc->hp[a]?=some (cl 0 a)->BC)(k3:s≠[105]->s≠[118]->∀(t:Nat) (v:Int),c=cl t v->2<=t->t≠5->BC):BC:=by
 rcases h.AX hs with⟨n,q1,q2,q3,q4,q5⟩|⟨k,a,q1,q2,q3,q4,q5,q6⟩|⟨q1,q2,t,v,q3,q4,q5⟩
 .exact k1 n q1 q2 q3 q4 q5
 .exact k2 k a q1 q2 q3 q4 q5 q6
 .exact k3 q1 q2 t v q3 q4 q5
theorem Ri{tl:El}(h:tl= .a 0\/tl.fr=true):dO tl=false:=by
 rcases h with rfl|h
 .rfl
 .cases tl<;>first|rfl|cases h
theorem Fj(h:O[i]?=some (.dict [])):Ca O i [] []=O:=by unfold Ca;rw[dH];exact kE h
theorem EY(S:aK Φ){w:El}(hw:w.con)(hc:(t1.con/\c1=t1.val)\/(∃ k a:Nat,t1= .v k/\c1=cl 0 a/\G.hp[a]?=some (cl 0 a))):∃β hp' γ,Φ (d+6) false 79 [.ref 8,c1,w.val] (mem G++τ)= .ok (.bool β) (mem {G with hp:=hp'}++(τ++γ))/\hp'.length=G.hp.length/\Met Φ t1.tm w.tm β (λbd=>Fin bd hp' t1.tm c1)/\(hp'=G.hp\/∃a:Nat,c1=cl 0 a/\hp'=G.hp.set a w.val):=by
 rcases hc with⟨h1,rfl⟩|⟨k,a,rfl,rfl,ha⟩
 .obtain⟨γ,h⟩:=Zb S h1 hw;refine(oG (pC t1 w) G.hp γ (Ge S t1.wQ w.wQ h (λr q=>(eO _ _ q))) Z (λAM g O bi hb=>(dK ([]) ([]) ?_ (λq=>?_))) (.inl Z))
  .rw[Fj hb];exact sW S h1 hw
  .exact .con h1
 .refine gH (t6 hw) λt v h4 hv=>?_;obtain⟨γ,h⟩:=Za S ha h4;rw[<- hv] at h;refine(oG true (G.hp.set a w.val) γ (Ge (P:=λr=>r=_) S (λq=>nomatch q) w.wQ h (λr q=>(eO _ _ q))) (fB ..) (λAM g O bi hb=>?_) (.inr (aZ a Z Z)));obtain⟨cZ,m⟩:=Pj (bd:=[]) S (zb6 hb).1 hw (λ_ _ m=>(nomatch m)) Y;rw[Fj hb] at m;refine(dK ([]++Hi (.v k) w) ([]++cZ) m (λ_=>(bP w ([]) 0 0 t v hw (λ_ m=>(nomatch m)) (gf _) (gf _) (dX (dw (BR h4))) ?_ ?_ ?_)))
  .exact .b 0 k w.tm _ (Nj (List.nodup_cons.mpr ⟨λm=>(nomatch m),qY⟩) eQ) (El.oZ hw) (.Ae (.con 0 w hw))
  .show gJ (G.hp.set a w.val) (cl 0 a) w.val;rw[hv];exact .step (by rw[iy (zb6 ha).1]) (BR h4)
  .rw[hv];exact .step (by rw[iy (zb6 ha).1]) (BR h4)
theorem Vr(S:aK Φ)(GO:NB G)(hx:G.xs=[u,c1,c2])(L1:Lf G.hp t1 Km lo1 c1 e1)(L2:Lf G.hp t2 G.hp.length Km c2 e2)(hs:bQ t1 e1= .tup (.str s::ll))(AM:uJ au G s ll t2 e2 o)(hn:s=[105]->∃n:Int,ll=[.int n]/\n.natAbs<=10^30/\(cN n).length<=28)(v1:(cL t1 e1).length<=1)(v2:dO t2=true->(cL t2 e2).length<=1)(nd:(cL t2 e2).Nodup)(ha:∀e∈e2,e.mV G.ts)(hA:∀e∈e2,∀c,eV au G.ts e=some c->jR c)(l1:e1.length<=12)(l2:e2.length<=12)(hh:G.hp.length<=10000):
  qg Φ G τ (bQ t1 e1) (bQ t2 e2) c1 c2 (Φ (d+7) false 61 [.ref 8,.bool au] (mem G++τ)) o:=by
 refine JC L2.rep λxg iJ rp nm nt z0 z1=>?_;refine gZ L2.E6 λq2 w2 SM IZ D2=>?_
 have G2:iJ.length=e2.length:=by
  have:=congrArg List.length nm
  rwa [dN,dN] at this
 have hv:∃a0,dO xg=true->xg.vG a0/\∀e∈iJ,e.vG a0:=by
  by_cases hb:dO t2=true
  .refine bY (z1 (v2 hb)) λa0 p q=>?_;exact⟨a0,λ_=>⟨p,q⟩⟩
  .exact⟨0,λq=>absurd (kY nt▸q) hb⟩
 obtain⟨a0,hv⟩:=hv
 have mk:∀{t:Nat} {w:Int},(t=5\/t=0)->c1=cl t w->gJ G.hp (cl t w) (cl t w)->uI au (decide (t=5)) G t2 e2->yF G u t q2 w w2 au xg iJ Km a0:=λ{t w} ht h1 hD H=>
  ⟨GO,by rw[hx,h1,SM],hD,ht,SM▸D2,IZ,SM▸rp,hv,An nm ha,by exact dD (dh G2) (dD l2 (dm Z)),VL nm nt H⟩
 have so:∀{kn:Bool} {CE:U},dR au kn G xg iJ CE=dR au kn G t2 e2 CE:=λ{kn CE}=>Z4 nm nt CE
 have err:∀{kn:Bool} {F:U},dR au kn G t2 e2 (bQ t2 e2)= .err F->∃F' k0,dR au kn G xg iJ (bQ xg.norm (iJ.map El.norm))= .err F'/\Mt k0 (e2.length+3) (bH F) (bH F'):=λ{kn F} h=>by
  rw[nm,nt]
  by_cases hb:dO t2=true
  .refine bY (wg (v2 hb)) λk0 p q=>?_;refine bY (Xz h (λ_=>(Mt.list p q).mono) (zz _ _)) λF' h1 h2=>?_;exact(dK F' k0 (so.trans h1) h2)
  .refine bY (Xz (k0:=0) (n:=e2.length+1) (L':=bQ t2.norm (e2.map El.norm)) h (λq=>absurd q hb) (zz _ _)) λF' h1 h2=>?_;exact(dK F' 0 (so.trans h1) h2)
 have MA:∀{kn:Bool} {CE L':U} {t:Sa},dR au kn G t2 e2 CE= .text t->dR au kn G xg iJ L'= .text t:=λ{kn CE L' t} h=>by
  rw[so];have hb:dO t2=false:=by rw[(Fi h).1];rfl
  unfold dR at h ⊢;rw[hb] at h ⊢;exact h
 have Sb:∀{kn:Bool} {CE L':U},dR au kn G t2 e2 CE= .part->dR au kn G xg iJ L'= .part:=λ{kn CE L'} h=>by rw[so];have hb:=Ri (Dz h);unfold dR at h ⊢;rw[hb] at h ⊢;exact h
 have side:s=[105]\/s=[118]->∃(t:Nat) (w:Int),(t=5\/t=0)/\c1=cl t w/\gJ G.hp (cl t w) (cl t w)/\decide (s=[105])=decide (t=5)/\e1=[]/\((t1.con/\c1=t1.val)\/∃k a:Nat,t1= .v k/\c1=cl 0 a/\G.hp[a]?=some (cl 0 a))/\∀a:Nat,c1=cl 0 a->a<Km:=λh=>by
  refine L1.Jb hs (λn q1 q2 q3 q4 q5=>?_) (λk a q1 q2 q3 q4 q5 q6=>?_) (λq1 q2 _ _ _ _ _=>?_)
  .exact(A7 5 n (.inl Z) q5 (.stop Y) (by rw[q3];rfl) q2 (.inl ⟨by rw[q1];trivial,by rw[q1,q5];rfl⟩) (λa h=>by rw[q5] at h;cases h))
  .refine(A7 0 a (.inr Z) q4 (.self q6) (by rw[q3];rfl) q2 (.inr (gn k a q1 q4 q6)) (λb h=>?_));rw[q4] at h;exact yL (jD h).2▸q5
  .exact absurd h (by rintro(h|h);exact q1 h;exact q2 h)
 cases AM with
 |num h1 h2 hk=>
  refine L1.Jb hs (λn _ _ q _ _=>?_) (λk a _ _ q _ _ _=>?_) (λ_ _ t v q1 q2 q3=>?_)
  .exact absurd q h1
  .exact absurd q h2
  .refine JC L1.rep λtm em rm n1 n2 _ iv=>?_;refine bY (iv v1) λa1 p1 p2=>?_;refine bY (wg v1) λk0 p q=>?_
   have lm:em.length=e1.length:=by
    have:=congrArg List.length n1
    rwa [dN,dN] at this
   have nb:=Z1 (d:=d+1) (au:=au) (O:=τ) S GO (by rw[hx,q1]) q2 q3 (q1▸rm) p1 p2 (dD (dh lm) (dD l1 (dm Z))) hk;rw[n1,n2] at nb;refine(pq _ k0 (e1.length+2) (oW (oR (dD l1 (dm Z)))) nb ?_);rw[<- hs];exact(Mt.list p q).ty.yD
 |err F h YS ho=>refine JC (side h) λt w a1 a2 a3 a4 _=>?_;rw[a4] at YS ho;refine gH (err ho) λF' k0 b1 b2=>?_;exact(pq F' k0 (e2.length+3) (dq l2) (Z0 S (mk a1 a2 a3 YS) b1) b2)
 |part n h hl YS ho hc=>
  refine Bt (side (.inl h)) λt w a1 a2 a3 a4 a5 a6=>?_;rw[h] at a4
  have t5:t=5:=by have:decide (t=5)=true:=a4.symm.trans Z;exact eY this
  subst t5;refine um (hn h) λn' hl' nb nl=>?_;rw[hl] at hl'
  cases hl'
  have hw:w=n/\t1= .i n:=by
   refine L1.Jb hs (λm q1 q2 q3 q4 q5=>?_) (λk a q1 q2 q3 _ _ _=>?_) (λq1 _ _ _ _ _ _=>?_)
   .rw[hl] at q4
    cases q4
    exact⟨(jD (a2.symm.trans q5)).2,q1⟩
   .exact absurd (h.symm.trans q3) Y
   .exact absurd h q1
  obtain⟨hw,WW⟩:=hw;subst hw;generalize Ho:(cN w).map (fW au G.ts)=ds at hc
  have YW:∀e∈ds,e.con:=λe m=>by rw[<- Ho] at m;obtain⟨c,_,rfl⟩:=List.mem_map.mp m;exact tH
  have W7:ds.length<=28:=by rw[<- Ho,dN];exact nl
  obtain⟨z,zs,hz⟩:∃z zs,ds=z::zs:=by refine mK (DN w) λz zs hz=>?_;rw[<- Ho,hz];exact(eO _ _ Z)
  have wD:=Dz ho
  have hR:Rg (G.hp++J0 (.a 0) G.hp.length ds) G.hp.length (cl 3 G.hp.length) ds:=by rw[hz] at YW ⊢;refine Lf.gr (Lf.Ln zs z G.hp _ (by rw[dH]) (bR _)) YW
  have bl:(J0 (.a 0) G.hp.length ds).length=2*ds.length:=zr _ _ _;refine VF (P:=λr=>qg Φ G τ _ _ c1 c2 r _) S (mk (.inl Z) a2 a3 YS) Z nb hc (bO hh (dl Z)) (Sb ho) λγ=>?_;rw[Ho,<-SM];have un:=Rb (d:=d) (g:={G with hp:=G.hp++J0 (.a 0) G.hp.length ds}) (O:=τ++γ) S wD (L2.app) hR (bR _) (by show _<=(G.hp++_).length;rw[bW];exact d9 _ _) (by show(G.hp++_).length<=_;rw[bW];exact Wl (dh bl) W7 W7 hh) (dD l2 (dm Z)) (dD W7 (dm Z)) (by rw[SM];exact iB) iB
  have mt:Met Φ (bQ t2 e2) (bQ (.a 0) ds) (meets t2 e2 ds) λbd=>meets t2 e2 ds=true->bd=kM t2 e2 ds:=λAM g O bi hb=>by refine gH (ae (g:=g) S (zb6 hb).1 wD e2 ds (AM+(42 - e2.length - ds.length)) [] [] YW (by rw[vJ,mW];exact nd) (by show 0+_<_;exact dD (Tz l2 (dl Z)) (dm Z)) (bO l2 (dl Z)) W7) λQJ cZ m1 m2=>?_;rw[show AM+(42 - e2.length - ds.length)+e2.length+ds.length+3=AM+45 from congrArg (·+3) (Kx (bO (rH l2 W7) (dl Z))),Fj hb] at m1;exact(dK QJ ([]++cZ) m1 (λq=>m2))
  cases hm:meets t2 e2 ds with
  |false=>
   rw[hm,bh Y] at un;refine gH un λhp' cZ hl' un=>?_;refine⟨.bool false,_,Ge S (by rw[SM];exact iB) iB un (λr q=>(eO _ _ q)),false,hp',γ++cZ,by rw[bw],?_,λAM g O bi hb=>?_⟩
   .have hl':=hl';rw[hl',bW];exact nU (dh bl) W7 W7
   .refine gH (mt AM g O bi hb) λQJ cZ m _=>?_;rw[hm] at m;exact(dK QJ cZ m (λq=>nomatch q))
  |true=>
   rw[hm,bz Z] at un;refine oK un λhp' cZ hl' _ F9 un=>?_;refine⟨.bool true,_,Ge S (by rw[SM];exact iB) iB un (λr q=>(eO _ _ q)),true,hp',γ++cZ,by rw[bw],?_,λAM g O bi hb=>?_⟩
   .have hl':=hl';rw[hl',bW];exact nU (dh bl) W7 W7
   .refine gH (mt AM g O bi hb) λQJ cZ m hb'=>?_;rw[hm] at m hb';refine(dK QJ cZ m (λ_=>⟨?_,?_⟩))
    .rw[a5,WW,a2];exact Fin.con trivial
    .have hb':=hb' Z Z;subst hb'
     obtain⟨p,x1,x2,y1,y2,y3⟩:∃(p:Nat) (x1 x2:U),Km<=p/\gJ hp' c2 (cl 3 p)/\True:=by rw[hz] at F9;refine uh F9 λp x1 x2 y1 y2 _=>?_;exact(pq p x1 x2 y1 y2 trivial)
     refine(bP (.a 0) ds Km ds.length 3 p trivial YW (bO W7 (dl Z)) (bO W7 (dl Z)) Y (Jm (λr m=>Nj (by rw[JX hm];exact nd) m) hm YW wD) F9 y2)
 |D9 t h YS ho hq hk=>refine JC (side h) λq w a1 a2 a3 a4 _=>?_;rw[a4] at YS ho;refine MN (Fi ho) λg1 g2 g3=>?_;have tl:=zq g3;exact(pq _ 0 2 (by exact dl Z) (ZZ S (mk a1 a2 a3 YS) (MA ho) (QC hA g3) (by exact bO tl (bO l2 (dl Z))) hq hk) (.yD (.one (.a _ _))))
 |val t v h YS ho hq=>
  refine Kk (side h) λq w a1 a2 a3 a4 a5 a6 a7=>?_;rw[a4] at YS ho;refine MN (Fi ho) λg1 g2 g3=>?_;have tl:=zq g3;refine ZX (P:=λr=>qg Φ G τ _ _ c1 c2 r _) S (mk a1 a2 a3 YS) (MA ho) (QC hA g3) (by exact bO tl (bO l2 (dl Z))) hq λγ=>?_;refine rC (EY (d:=d) (τ:=τ++γ) S (w:=.i v) trivial a6) λβ hp' cZ un hl mt ku=>?_;rw[<- a2];refine⟨_,_,un,β,hp',γ++cZ,by rw[bw],by exact vn (dh hl),λAM g O bi hb=>?_⟩;refine gH (mt AM g O bi hb) λbd lE m F=>?_;have BA:(U.tup (.str s::ll))=t1.tm:=by rw[<- hs,a5];rfl
  rw[BA];refine(dK bd lE m (λq=>⟨by rw[a5];exact F q,?_⟩));subst g1;have R:=L2.gr g2
  rcases ku with rfl|⟨a,h1,rfl⟩
  .exact .gr R g2 (by exact bO l2 (dl Z))
  .exact .gr (R.set (a7 a h1)) g2 (by exact bO l2 (dl Z))
end
variable{A:El}
section
variable{G:GS}
theorem uJ.to{t:El}{es:List El}{xs:Th}(AM:uJ au g' s ll t es o):uJ au {g' with hp:=hp,xs:=xs} s ll t es o:=by
 cases AM with
 |num h1 h2 h=>exact .num h1 h2 h
 |err F h hh ho=>exact .err F h ⟨hh.tail,hh.inst,hh.el⟩ ho
 |part n h hl hh ho hc=>exact .part n h hl ⟨hh.tail,hh.inst,hh.el⟩ ho hc
 |D9 t h hh ho hn hs=>exact .D9 t h ⟨hh.tail,hh.inst,hh.el⟩ ho hn hs
 |val t v h hh ho hn=>exact .val t v h ⟨hh.tail,hh.inst,hh.el⟩ ho hn
theorem BV.to{xs:Th}(AM:BV g' A s ll o):BV {g' with hp:=hp,xs:=xs} A s ll o:=by
 cases AM with
 |QL z h hh=>exact .QL z h hh
 |num h h1 h2 hh=>exact .num h h1 h2 hh
 |O6 k t h ht hs hn=>exact .O6 k t h ht hs hn
 |val k t v h ht hs hn=>exact .val k t v h ht hs hn
 |inst k h hs hh=>exact .inst k h hs hh
 |Oq k n h hs hl hh=>exact .Oq k n h hs hl hh
theorem RD(S:aK Φ)(GO:NB G)(hx:G.xs=[u,c1,c2])(L1:Lf G.hp A Km lo1 c1 [])(L2:Lf G.hp t2 G.hp.length Km c2 e2)(hs:bQ t2 e2= .tup (.str s::ll))(AM:BV G A s ll o)(hn:s=[105]->∃n:Int,ll=[.int n]/\n.natAbs<=10^30)(v2:(cL t2 e2).length<=1)(hA:∀k,A= .a k->∃t,G.ts[k]?=some t/\t.length<=30/\∀c∈t,jR c)(l2:e2.length<=12):
  qg Φ G τ A.tm (bQ t2 e2) c1 c2 (Φ (d+7) false 64 [.ref 8] (mem G++τ)) o:=by
 have EV:∃e:El,c1=e.val/\gJ G.hp e.val e.val/\((A.con/\e=A)\/∃k a:Nat,A= .v k/\e= .v a/\G.hp[a]?=some (cl 0 a)):=by
  cases A with
  |i z=>exact(oH (.i z) L1 (.stop Y) (.inl ⟨trivial,Z⟩))
  |a k=>exact(oH (.a k) L1 (.stop Y) (.inl ⟨trivial,Z⟩))
  |v k=>refine Bu L1 λa _ _ h3 h4=>?_;exact(oH (.v a) h3 (.self h4) (.inr (gn k a Z Z h4)))
 obtain⟨e,rfl,De,he⟩:=EV
 have GH:(∀ z,A≠.i z)->∀z,e≠.i z:=λh z q=>by
  rcases he with⟨_,h1⟩|⟨k,a,h1,h2,_⟩
  .exact h z (h1.symm.trans q)
  .rw[h2] at q;cases q
 have PD:∀{k:Nat},A= .a k->e= .a k:=λ{k} h=>by
  rcases he with⟨_,h1⟩|⟨j,a,h1,_⟩
  .exact h1.trans h
  .rw[h] at h1;cases h1
 have vk:∀{k:Nat},A= .v k->∃a:Nat,e= .v a/\G.hp[a]?=some (cl 0 a):=λ{k} h=>by
  rcases he with⟨h0,_⟩|⟨j,a,h1,h2,h3⟩
  .rw[h] at h0;exact h0.elim
  .exact(aZ a h2 h3)
 refine gZ L2.E6 λq2 w2 SM IZ D2=>?_;subst SM;have N:BX G u e q2 w2:=⟨GO,hx,De,D2,IZ⟩
 have side:s=[105]\/s=[118]->(q2=5\/q2=0)/\e2=[]/\((t2.con/\cl q2 w2=t2.val)\/∃k a:Nat,t2= .v k/\cl q2 w2=cl 0 a/\G.hp[a]?=some (cl 0 a))/\(s=[118]->q2=0)/\∀n:Int,ll=[.int n]->s=[105]->q2=5/\w2=n/\t2= .i n:=λh=>by
  refine L2.Jb hs (λn q1 zD q3 q4 q5=>?_) (λk a q1 zD q3 q4 q5 q6=>?_) (λq1 zD _ _ _ _ _=>?_)
  .obtain⟨e1,e3⟩:=jD q5;refine(Bi (.inl e1) zD (.inl ⟨by rw[q1];trivial,by rw[q1,q5];rfl⟩) (λh=>absurd (q3.symm.trans h) Y) (λm hm _=>?_));rw[q4] at hm
   cases hm
   exact(jW e1 e3 q1)
  .obtain⟨e1,e3⟩:=jD q4;exact(Bi (.inr e1) zD (.inr (gn k a q1 q4 q6)) (λ_=>e1) (λm _ h=>absurd (q3.symm.trans h) Y))
  .exact absurd h (by rintro(h|h);exact q1 h;exact zD h)
 cases AM with
 |QL z h hk=>
  have e1:e= .i z:=by
   rcases he with⟨_,h1⟩|⟨j,a,h1,_⟩
   .exact h1.trans h
   .rw[h] at h1;cases h1
  subst e1;refine(pq _ 0 2 Y (Yr S N hk) ?_);rw[h];exact(Mt.el (e:=.i z) trivial).ty.yD
 |num h h1 h2 hk=>
  refine L2.Jb hs (λn _ _ q _ _=>?_) (λk a _ _ q _ _ _=>?_) (λ_ _ t v q1 p2 p3=>?_)
  .exact absurd q h1
  .exact absurd q h2
  .obtain⟨e1,e3⟩:=jD q1;subst e1;refine JC L2.rep λtm em rm n1 n2 _ iv=>?_;refine bY (iv v2) λa1 p4 p5=>?_;refine bY (wg v2) λk0 p q=>?_
   have lm:em.length=e2.length:=by
    have:=congrArg List.length n1
    rwa [dN,dN] at this
   have nb:=va (d:=d) (O:=τ) S N (GH h) p2 p3 rm p4 p5 (dD (dh lm) (dD l2 (dm Z))) hk;rw[n1,n2] at nb;refine(pq _ k0 (e2.length+2) (oW (oR (dD l2 (dm Z)))) nb ?_);rw[<- hs];exact(Mt.list p q).ty.yD
 |O6 k t h ht YQ hq=>
  refine XQ (side YQ) λa1 a2 a3 _=>?_;refine um (hA k h) λt' ht' tl ta=>?_;rw[ht] at ht'
  cases ht'
  rw[PD h] at N ⊢;obtain⟨γ,r⟩:=DI S N a1 ht ta tl hq;refine(pq false G.hp γ r (d9 _ _) (λAM g O bi hb=>(dK ([]) ([]) ?_ (λq=>nomatch q))));rw[Fj hb];exact sW S trivial trivial
 |val k t v h ht YQ hq=>
  refine XQ (side YQ) λa1 a2 a3 _=>?_;refine um (hA k h) λt' ht' tl ta=>?_;rw[ht] at ht'
  cases ht'
  rw[PD h] at N ⊢;refine uk (P:=λr=>qg Φ G τ _ _ _ _ r _) S N a1 ht ta tl hq λγ=>?_;refine rC (EY (d:=d) (τ:=τ++γ) S (w:=.i v) trivial a3) λβ hp' cZ un hl mt ku=>?_;refine⟨_,_,un,β,hp',γ++cZ,by rw[bw],by exact vn (dh hl),λAM g O bi hb=>?_⟩;refine gH (mt AM g O bi hb) λbd lE m F=>?_;have BA:(U.tup (.str s::ll))=t2.tm:=by rw[<- hs,a2];rfl
  rw[BA];refine(dK bd lE m (λq=>⟨?_,by rw[a2];exact F q⟩));rw[h];exact Fin.con trivial
 |inst k h YQ hk=>refine C3 (side (.inr YQ)) λa1 a2 a3 a4 _=>?_;refine bY (vk h) λa e1 _=>?_;rw[a4 YQ,e1] at N;exact(pq _ 0 1 Y (gg S N hk) (.yD (.a _ _)))
 |Oq k n h YQ hl hk=>
  refine C3 (side (.inl YQ)) λa1 a2 a3 _ a5=>?_;refine MN (a5 n hl YQ) λa6 a7 a8=>?_;refine bY (hn YQ) λn' hl' nb=>?_;rw[hl] at hl'
  cases hl'
  refine bY (vk h) λa e1 e3=>?_;rw[a6,a7,e1] at N;rw[e1];refine Yp (P:=λr=>qg Φ G τ _ _ _ _ r _) S N nb hk λγ=>?_;refine rC (EY (d:=d) (τ:=τ++γ) S (w:=.a (cO G.ts (cN n))) trivial (.inr (gn k a Z Z e3))) λβ hp' cZ un hl mt ku=>?_;refine⟨_,_,un,β,hp',γ++cZ,by rw[bw],by exact vn (dh hl),λAM g O bi hb=>?_⟩;refine gH (mt AM g O bi hb) λbd lE m F=>?_;rw[h];refine(dK bd lE m (λq=>⟨F q,?_⟩));rw[a8,a2,a6,a7];exact Fin.con trivial
end
variable{h:Nat}
section
variable{G:GS}
theorem Er(S:aK Φ)(hi:O[si]?=some (.list [bQ t1 e1,bQ t2 e2]))(qj:(cL t1 e1++cL t2 e2).Nodup)(xb:e1.length<=12)(IG:e2.length<=12)(hh:g.hp.length<=5000)(hx:g.xs=[u]\/∃a b,g.xs=[u,a,b])(hD:D4 AM O o)
  (HP:∀(c1 c2:U) (hp:Th) (lo1 Km:Nat) (τ:We),Lf hp t1 Km lo1 c1 e1->Lf hp t2 hp.length Km c2 e2->hp.length<=g.hp.length+60->qg Φ {g with hp:=hp,xs:=[u,c1,c2]} τ (bQ t1 e1) (bQ t2 e2) c1 c2 (Φ (d+48) false f [.ref 8] (mem {g with hp:=hp,xs:=[u,c1,c2]}++τ)) o):
  ∃hp' c1 c2 γ,hp'.length<=g.hp.length+160/\Φ (d+49) false 88 [.ref 8,.fn f,.ref (si+16),AM] (mem g++O)= .ok (.bool true) (mem {g with hp:=hp',xs:=[u,c1,c2]}++(O++γ)):=by
 obtain⟨δ,pl⟩:=RJ S hi qj (bO xb (dl Z)) (bO IG (dl Z)) hh;have q1:=BP t1 e1 g.hp.length;have q2:=BP t2 e2 (g.hp++ie g.hp.length t1 e1).length
 have L1:Lf ((g.hp++ie g.hp.length t1 e1)++ie (g.hp++ie g.hp.length t1 e1).length t2 e2) t1 (g.hp++ie g.hp.length t1 e1).length g.hp.length (pU g.hp.length t1 e1) e1:=by rw[bw g.hp];exact Lf.root (by rw[bW];exact bR _)
 have L2:Lf ((g.hp++ie g.hp.length t1 e1)++ie (g.hp++ie g.hp.length t1 e1).length t2 e2) t2 ((g.hp++ie g.hp.length t1 e1)++ie (g.hp++ie g.hp.length t1 e1).length t2 e2).length (g.hp++ie g.hp.length t1 e1).length (pU (g.hp++ie g.hp.length t1 e1).length t2 e2) e2:=by
  have:=Lf.root (A:=g.hp++ie g.hp.length t1 e1) (τ:=[]) (vc:=((g.hp++ie g.hp.length t1 e1)++ie (g.hp++ie g.hp.length t1 e1).length t2 e2).length) (by rw[bW (as:=g.hp++_)];exact bR _)
  rwa [dH] at this
 have hl:((g.hp++ie g.hp.length t1 e1)++ie (g.hp++ie g.hp.length t1 e1).length t2 e2).length<=g.hp.length+60:=by
  rw[bW];have:=bW (as:=g.hp) (bs:=ie g.hp.length t1 e1)
  lia
 have R1:Gs (pU g.hp.length t1 e1):=OD;have R2:Gs (pU (g.hp++ie g.hp.length t1 e1).length t2 e2):=OD;generalize pU g.hp.length t1 e1=c1 at pl L1 R1;generalize pU (g.hp++ie g.hp.length t1 e1).length t2 e2=c2 at pl L2 R2;generalize(g.hp++ie g.hp.length t1 e1).length=Km at pl L1 L2 hl;generalize(g.hp++ie g.hp.length t1 e1)++ie Km t2 e2=hp at pl L1 L2 hl;generalize Qc:(O++δ)++[.list [c1,c2]]=τ at pl;have pi:τ[(O++δ).length]?=some (.list [c1,c2]):=by rw[<- Qc];exact bk
 have Sf:τ[si]?=some (.list [bQ t1 e1,bQ t2 e2]):=by rw[<- Qc,bw];exact dU hi
 have sa:=H9 (d:=d+46) (g:={g with hp:=hp}) S R1 R2 pi hx;have P:=HP c1 c2 hp g.hp.length Km τ L1 L2 hl;have out:∀γ:List AO,∃cZ,τ++γ=O++cZ:=λγ=>⟨δ++([.list [c1,c2]]++γ),by rw[<- Qc,bw,bw]⟩;have bind:ou MM [.ref 8,.fn f,.ref (si+16),AM]=some [.ref 8,.fn f,.ref (si+16),AM,.L,.L,.L,.L,.L,.L,.L,.L,.L,.L,.L]:=rfl
 have front:∀{Q:za1},X Q (aN T (Φ (d+48)) (t9.drop 3) false [.ref 8,.fn f,.ref (si+16),AM,.ref (O.length+16),.ref ((O++δ).length+16),.L,.L,.L,.L,.L,.L,.L,.L,.L] (mem {g with hp:=hp,xs:=[u,c1,c2]}++τ))->X Q (aN T (Φ (d+48)) t9 false [.ref 8,.fn f,.ref (si+16),AM,.L,.L,.L,.L,.L,.L,.L,.L,.L,.L,.L] (mem g++O)):=λH=>by refine aH tE<|aH pl ?_;exact cM (bJ Z Z (C Z ak) sa) H
 cases o with
 |inl F=>refine uh P λF' k0 n hn hr hm=>?_;have hD:=hD;subst hD;obtain⟨γ,b⟩:=Yo S hr hn hm;obtain⟨cZ,e⟩:=out γ;rw[e] at b;exact(WQ hp c1 c2 cZ (dq hl) (ru S Z bind (front b)))
 |inr ab=>obtain⟨a,b⟩:=ab;refine bY hD λj hD hj=>?_;refine uh P λβ hp' γ hr hl' M=>?_;subst hD;obtain⟨γ,b⟩:=Nk S (by rw[<- Qc,bw];exact dU hj) Sf pi hr M;obtain⟨cZ,e⟩:=out γ;rw[e] at b;have hl':=hl';exact(WQ hp' c1 c2 cZ (fH hl' hl) (ru S Z bind (front b)))
theorem qg.pass(h:qg Φ G τ x1 x2 c1 c2 r o):(∃ v σ',r= .ok v σ')\/∃i σ' fs,r= .exc i σ'/\σ'[i]?=some (.up 0 fs):=by
 cases o with
 |inl F=>obtain⟨F',k0,n,hn,⟨γ,hr⟩,hm⟩:=h;exact .inr (yN _ _ _ hr bk)
 |inr ab=>refine eW h λβ hp' γ hr _=>?_;exact .inl (eO _ _ hr)
theorem z9{A:List Mine.Internal.S}{B:Loc}{σ:St}{e:E}{Φ:iC}(h:aV T Φ false e B σ=r)(hr:(∃ v σ',r= .ok v σ')\/∃i σ' fs,r= .exc i σ'/\σ'[i]?=some (.up 0 fs)):X (λs=>iZ s=r) (aN T Φ (.ret e::A) false B σ):=by
 rcases hr with⟨v,σ',q⟩|⟨i,σ',fs,q,up⟩
 .rw[q] at h ⊢;exact aR h Z
 .rw[q] at h ⊢;exact Dj h up Z
theorem ZQ(S:aK Φ)(h:qg Φ G τ x1 x2 c1 c2 (Φ d false 61 [.ref 8,.bool false] (mem G++τ)) o):qg Φ G τ x1 x2 c1 c2 (Φ (d+1) false 62 [.ref 8] (mem G++τ)) o:=by have e:Φ (d+1) false 62 [.ref 8] (mem G++τ)=Φ d false 61 [.ref 8,.bool false] (mem G++τ):=ru S Z Z (z9 (aD (C Z (C Z ak)) Z) h.pass);rw[e];exact h
theorem ZP(S:aK Φ)(h:qg Φ G τ x1 x2 c1 c2 (Φ d false 61 [.ref 8,.bool true] (mem G++τ)) o):qg Φ G τ x1 x2 c1 c2 (Φ (d+2) false 95 [.ref 8] (mem G++τ)) o:=by have e:Φ (d+1) false 63 [.ref 8] (mem G++τ)=Φ d false 61 [.ref 8,.bool true] (mem G++τ):=ru S Z Z (z9 (aD (C Z (C Z ak)) Z) h.pass);have e2:Φ (d+2) false 95 [.ref 8] (mem G++τ)=Φ d false 61 [.ref 8,.bool true] (mem G++τ):=ru S Z Z (z9 (aD (C Z ak) e) h.pass);rw[e2];exact h
end
noncomputable def xE:List (List Nat):=[[91,93],[46],[123,125],[45],[43],[42],[47],[44],[124],[59],[45,62],[92,43],[58,45],[63,45],[45,45,62],[33],[116,114,117,101],[102,97,105,108],[102,97,108,115,101],[99,97,108,108],[61],[94],[101,114,114,111,114],[],[101,110,100,95,111,102,95,102,105,108,101],[115,121,115,116,101,109],[36,86,65,82],[99,97,116,99,104],[116,104,114,111,119]]
noncomputable def Cn:List (Nat×Nat):=[(1,2),(7,2),(9,2),(10,2),(11,1),(12,2),(12,1),(13,1),(14,2),(2,1),(20,2),(21,2),(3,1),(3,2),(4,2),(6,2),(22,2),(26,1),(27,3),(28,1),(15,0),(16,0),(17,0),(18,0),(19,1),(19,2),(19,3),(19,4),(19,5),(19,6),(19,7),(19,8)]
def F0(f:Nat):Option Fn:=Mq[f]?.join
theorem z5(a b:AO):lA T (BZ T F0 60) false 2 [] [a,b]= .ok (.ref 2) [a,b,.inst 2 [(11,.ref 3),(12,.ref 4),(13,.ref 5),(14,.ref 6)],.list (xE.map .str),.dict (uQ .str xE),.list (Cn.map T7),.dict (uQ T7 Cn)]:=by
 kernel_rfl
theorem zS(cells:za6)(oF:Int)(ts:za0)(fs:za5):lA T (BZ T F0 60) false 6 [.ref 2,.ref 7] ((mem ⟨cells,0,0,oF,ts,fs,[],[Dk]⟩).take 8)= .ok (.ref 8) (mem ⟨cells,0,0,oF,ts,fs,[],[Dk]⟩):=by
 kernel_rfl
structure Hd(g g':GS):Prop where
 ok:CW g'
 cells:g'.cells=g.cells
 ts:g'.ts=g.ts
 fs:g'.fs=g.fs
 hp:g'.hp=g.hp
 xs:g'.xs=g.xs
theorem Hd.refl(h:CW g):Hd g g:=⟨h,Z,Z,Z,Z,Z⟩
theorem Hd.trans(h:Hd g g')(h':Hd g' g''):Hd g g'':=⟨h'.ok,h'.cells.trans h.cells,h'.ts.trans h.ts,h'.fs.trans h.fs,h'.hp.trans h.hp,h'.xs.trans h.xs⟩
theorem pick(S:aK Φ)(H:CW g)(m:Nat)(hm:0<m)(BM:m<=10^30):∃(v:Nat) (g':GS),v<m/\Hd g g'/\∀(B:Loc) (e:E),B[2]?=some (.ref 1)->aV T (Φ (d+1)) false e B (mem g++O)= .ok (.int m) (mem g++O)->aV T (Φ (d+1)) false (Cf 81 [(J 2),e]) B (mem g++O)= .ok (.int v) (mem g'++O):=by refine eT (ZS (d:=d) (hd:=false) (O:=O) S H (Bc hm) (nG (xN BM) Y)) λv p r s h0 h1 h2 e=>?_;refine(gn v.toNat _ (by lia) ⟨h2,Z,Z,Z,Z,Z⟩ (λB x h hx=>?_));rw[show((v.toNat:Nat):Int)=v by exact Int.toNat_of_nonneg h0];exact aD (C (bG h (λq=>nomatch q)) (C hx ak)) e
theorem RX(S:aK Φ)(H:CW g)(hl:B[2]?=some (.ref 1)):∃(c:Nat) (g':GS),jR c/\Hd g g'/\aV T (Φ (d+1)) false (.ite (.cmp .eq (Cf 81 [(J 2),(D 8)]) (D 6)) (.idx (Ls [32,45,10,48,43,97,46,57]) (Cf 81 [(J 2),(D 8)])) (.idx (Ls [48,49,50,51,52,53,54,55,56,57]) (Cf 81 [(J 2),(D 10)]))) B (mem g++O)= .ok (cStr c) (mem g'++O):=by
 refine gZ (pick (d:=d) (O:=O) S H 8 Y Y) λv g1 hv h1 e1=>?_;have e1:=e1 B (D 8) hl Z
 by_cases q:v=6
 .refine gZ (pick (d:=d) (O:=O) S h1.ok 8 Y Y) λw g2 hw h2 e2=>?_;have e2:=e2 B (D 8) hl Z;have al:∀c∈[32,45,10,48,43,97,46,57],jR c:=by unfold jR;decide
  have sel:∃c,[32,45,10,48,43,97,46,57][w]?=some c/\jR c:=(aZ _ (gM hw) (al _ (Dd hw)));refine bY sel λc hc ac=>?_;exact(gn c g2 ac (h1.trans h2) (fJ (aP e1 Z (cz (sZ q))) (bB Z e2 (Gu hc))))
 .refine gZ (pick (d:=d) (O:=O) S h1.ok 10 Y Y) λw g2 hw h2 e2=>?_;have e2:=e2 B (D 10) hl Z;exact(gn (48+w) g2 (by unfold jR;lia) (h1.trans h2) (fK (aP e1 Z (bN (qI q))) (bB Z e2 (Gu (Qs w hw)))))
theorem Dn(S:aK Φ)(hl:B[2]?=some (.ref 1)):∀(m k N:Nat) (acc:Sa) (g:GS),k+m=n->m<N->CW g->∃(cs:Sa) (g':GS),cs.length=m/\(∀ c∈cs,jR c)/\Hd g g'/\
  jO (λB σ=>aV T (Φ (d+1)) false (.ite (.cmp .eq (Cf 81 [(J 2),(D 8)]) (D 6)) (.idx (Ls [32,45,10,48,43,97,46,57]) (Cf 81 [(J 2),(D 8)])) (.idx (Ls [48,49,50,51,52,53,54,55,56,57]) (Cf 81 [(J 2),(D 10)]))) B σ) 17 (.yK 0 n 1) B N k (acc.map cStr) (mem g++O)= .ok ((acc++cs).map cStr) (mem g'++O)
 |0,k,N+1,acc,g,hk,hN,H=>(rA ([]) g Z (λ_ m=>nomatch m) (.refl H) (by rw[dH];exact p7 (by rw[rR,bh (Nat.not_lt_of_le (dh (Eq.symm hk)))])))
 |m+1,k,N+1,acc,g,hk,hN,H=>by
  refine gZ (RX (d:=d) (O:=O) (B:=B.set 17 (.int k)) S H (by rw[jX Y];exact hl)) λc g1 ac h1 e1=>?_;refine oK (Dn S hl m (k+1) N (acc++[c]) g1 (Eq.trans (mC _ _ _) hk) (gw hN) h1.ok) λcs g2 l2 a2 h2 e2=>?_;refine(rA (c::cs) g2 (by rw[dC,l2]) (λx mm=>?_) (h1.trans h2) (lz ((rR).trans (congrArg some (bz (ye (dw (dh hk)))))) e1 ?_))
  .rcases zb5 mm with rfl|mm
   .exact ac
   .exact a2 x mm
  .rw[oO,bw] at e2;exact e2
structure Gy(g g':GS)(n:Nat):Prop where
 ok:CW g'
 ts:g.ts<+:g'.ts
 lt:g'.ts.length<=g.ts.length+n
 lf:g'.fs.length<=g.fs.length+n
 hp:g'.hp=g.hp
 xs:g'.xs=g.xs
theorem Gy.refl(h:CW g):Gy g g n:=⟨h,zE _,d9 _ _,d9 _ _,Z,Z⟩
theorem Gy.trans(h:Gy g g' n)(h':Gy g' g'' m):Gy g g'' (n+m):=⟨h'.ok,h.ts.trans h'.ts,fH h.lt h'.lt,fH h.lf h'.lf,h'.hp.trans h.hp,h'.xs.trans h.xs⟩
theorem Gy.le(h:Gy g g' n)(hm:n<=m):Gy g g' m:=⟨h.ok,h.ts,by have:=h.lt;exact fH this hm,by have:=h.lf;exact fH this hm,h.hp,h.xs⟩
theorem Hd.gy(h:Hd g g'):Gy g g' n:=⟨h.ok,by rw[h.ts];exact zE _,by rw[h.ts];exact d9 _ _,by rw[h.fs];exact d9 _ _,h.hp,h.xs⟩
theorem Gx.gy(h:Gx g g' n)(H:CW g):Gy g g' n:=by have e:=h.same;refine⟨?_,h.ts,h.lt,h.lf,by rw[e],by rw[e]⟩;rw[e];exact⟨H.Il,H.Ld,H.Dw,H.pQ,H.zW⟩
def Hk(au:Bool)(ts:za0)(e:El):Prop:=e.mV ts/\∀c,eV au ts e=some c->jR c
theorem Hk.pre{ts':za0}(h:Hk au ts e)(hp:ts<+:ts'):Hk au ts' e:=by
 cases e with
 |v k=>exact h
 |i n=>exact h
 |a k=>
  have hk:=h.1
  have e:eV au ts' (.a k)=eV au ts (.a k):=by
   show(if au=true then none else match ts'[k]? with|some [c]=>some c|_=>none)=if au=true then none else match ts[k]? with|some [c]=>some c|_=>none
   rw[FJ hp hk]
  exact⟨bj hk hp.length_le,λc q=>h.2 c (e▸q)⟩
theorem Hk.oi{n:Int}(h:0<=n/\n<=1114111->jR n.toNat):Hk au ts (.i n):=by
 refine⟨trivial,λc q=>?_⟩;have q:(if au=true/\0<=n/\n<=1114111 then some n.toNat else none)=some c:=q
 split at q
 .rename_i w
  cases q;exact h w.2
 .cases q
theorem Hk.oa{t:Sa}(h:ts[k]?=some t)(ht:∀c,t=[c]->jR c):Hk au ts (.a k):=by
 refine⟨(zb6 h).1,λc q=>?_⟩
 cases au with
 |true=>cases q
 |false=>
  rw[Qp h] at q
  match t,q,ht with
  |[x],q,ht=>cases q;exact ht _ Z
theorem Hk.ov:Hk au ts (.v k):=⟨trivial,λc q=>nomatch q⟩
theorem Hk.ch{c:Nat}(h:jR c)(hm:au=false->[c]∈ts):Hk au ts (fW au ts c):=by
 cases au with
 |true=>exact .oi λ_=>h
 |false=>exact .oa (Hb (hm Z)) λx q=>by cases q<;>exact h
theorem VG{n:Int}:∀c∈cN n,jR c:=by
 unfold cN;intro c m
 rcases List.mem_append.mp m with m|m
 .split at m
  .rcases zb5 m with rfl|m
   .unfold jR;exact Y
   .cases m
  .cases m
 .have:=Ph _ c m;unfold jR;lia
inductive uq:El->List El->Prop where
 |v:uq (.v 0) []
 |i (n:Int) (h:n.natAbs<=10^30) (hl:(cN n).length<=28):uq (.i n) []
 |a:uq (.a 0) []
 |s:uq (.i 2) [.v 1]
theorem uq.tag(h:uq t1 e1):∃s ll,bQ t1 e1= .tup (.str s::ll)/\(s=[105]->∃n:Int,ll=[.int n]/\n.natAbs<=10^30/\(cN n).length<=28)/\(cL t1 e1).length<=1/\e1.length<=1/\(cL t1 e1).Nodup/\∀k∈cL t1 e1,k<=1:=by
 have nd:∀k:Nat,[k].Nodup:=λk=>List.nodup_cons.mpr ⟨λm=>(nomatch m),qY⟩
 cases h with
 |v=>exact(Be ([118]) _ Z (λq=>(nomatch q)) (bR _) (gf _) (nd 0) (λk m=>by rcases zb5 m with rfl|m;exact gf _;cases m))
 |i n h hl=>exact(Be ([105]) _ Z (λ_=>(oH n Z h hl)) (gf _) (gf _) qY (λk m=>nomatch m))
 |a=>exact(Be ([97]) _ Z (λq=>(nomatch q)) (gf _) (gf _) qY (λk m=>nomatch m))
 |s=>exact(Be ([115]) _ Z (λq=>(nomatch q)) (bR _) (bR _) (nd 1) (λk m=>by rcases zb5 m with rfl|m;exact bR _;cases m))
theorem zK:∀{aO:List El},(∀ e∈aO,e.con)->cL tl aO=tl.vars
 |[],_=>rfl
 |e::es,h=>by
  have he:e.vars=[]:=by
   have:=h e eQ
   cases e<;>first|rfl|exact this.elim
  show e.vars++cL tl es=_;rw[he,zK λx m=>h x (.tail _ m)];rfl
theorem Hy{w:El}:∀{aO:List El} {j:Nat},(∀ e∈aO,e.con)->j<aO.length->cL tl (aO.set j w)=w.vars++tl.vars
 |e::es,0,h,_=>by show w.vars++cL tl es=_;rw[zK λx m=>h x (.tail _ m)]
 |e::es,j+1,h,hj=>by
  have he:e.vars=[]:=by
   have:=h e eQ
   cases e<;>first|rfl|exact this.elim
  show e.vars++cL tl (es.set j w)=_;rw[he,Hy (λx m=>h x (.tail _ m)) (gw hj)];rfl
def LH(aO:List El):Prop:=∃l:List Nat,(l=[]\/l=[3]\/l=[4])/\∀tl:El,cL tl aO=l++tl.vars
abbrev kA:List S:=eE (CT.drop 12)
variable{t:Sa}{w k nm a b e f h:U}
noncomputable abbrev yG(w k:U)(t:Sa)(v n nm:U)(au:Bool)(a b c e f h:U):Loc:=[.fn 1000,.ref 0,.ref 1,.ref 2,.ref 8,w,k,.str t,v,n,nm,.bool au,a,b,c,e,f,h]
theorem ne_nil{l:Th}(h1:σ[i]?=some (.list l))(h2:σ[j]?=some (.list [])):eX .ne (.ref i) (.ref j) σ= .ok (.bool (!decide (l=[]))) σ:=by
 refine congrArg (λr=>Hm (r.map Bool.not) σ) (XD h1 h2 ?_)
 cases l with
 |nil=>rfl
 |cons _ _=>rfl
theorem Vc{l:Th}(h:σ[i]?=some (.list l)):slice (.ref i) .none (.int (12:Nat)) σ= .ok (.ref σ.length) (σ++[.list (l.take 12)]):=jE h
theorem mw{Φ:iC}(N:uq t1 e1)(s:Sa)(hl:B[9]?=some (bQ t1 e1)):∃s0 ll,bQ t1 e1= .tup (.str s0::ll)/\aV T Φ false (.cmp .eq (.idx (J 9) (D 0)) (.lit (.str s))) B σ= .ok (.bool (decide (s0=s))) σ:=by refine gH N.tag λs0 ll e _=>?_;refine(dK s0 ll e (aP (bB (bG hl xJ) Z (by rw[e];rfl)) Z Z))
theorem Nu{r:Nat}:(O++γ)[O.length+r]?=γ[r]?:=by rw[iz (d9 _ _),jz]
theorem zt(S:aK Φ)(H:CW g)(WT:g.ts.length<500)(ht:t.length<=8)(hA:∀c∈t,jR c)(N:uq t1 e1):
  ∃(g':GS) (γ:We) (r:Nat) (aO:List El),Gy g g' 40/\γ[r]?=some (.list (aO.map El.tm))/\aO.length<=12/\(∀ e∈aO,e.con/\Hk au g'.ts e)/\
   ∀{Q:za1},X Q (aN T (Φ (d+50)) (kA.drop 2) false (yG w k t v (bQ t1 e1) nm au (.ref (O.length+r+16)) b c e f h) (mem g'++(O++γ)))->X Q (aN T (Φ (d+50)) kA false (yG w k t v (bQ t1 e1) nm au a b c e f h) (mem g++O)):=by
 have sp:=rM (d:=d+48) (O:=O) (au:=au) S (dD ht (dm Z)) (bj WT (dl Z));have y1:=(Gx.nr au g t).gy H;refine gH (mw (Φ:=Φ (d+50)) (σ:=mem (nO au g t)++(O++[.list ((t.map (fW au (nO au g t).ts)).map El.tm)])) (B:=yG w k t v (bQ t1 e1) nm au (.ref (O.length+16)) b c e f h) N [105] Z) λs0 ll es te=>?_
 have tj:∀e∈t.map (fW au (nO au g t).ts),e.con/\Hk au (nO au g t).ts e:=λe m=>by obtain⟨c,mc,rfl⟩:=List.mem_map.mp m;exact⟨tH,.ch (hA c mc) λq=>by subst q;exact vU mc⟩
 have one:∀{Q:za1},X Q (aN T (Φ (d+50)) (kA.drop 1) false (yG w k t v (bQ t1 e1) nm au (.ref (O.length+16)) b c e f h) (mem (nO au g t)++(O++[.list ((t.map (fW au (nO au g t).ts)).map El.tm)])))->X Q (aN T (Φ (d+50)) kA false (yG w k t v (bQ t1 e1) nm au a b c e f h) (mem g++O)):=λH=>aH (aD (C Z (C Z (C Z ak))) sp) H
 by_cases hs:s0=[105]
 .refine gZ (pick (d:=d+49) (O:=O++[.list ((t.map (fW au (nO au g t).ts)).map El.tm)]) S y1.ok 2 Y Y) λp g1 hp h1 e1'=>?_;have e1':=e1' (yG w k t v (bQ t1 e1) nm au (.ref (O.length+16)) b c e f h) (D 2) Z Z;rw[dF hs] at te
  by_cases hq:p=0
  .
   refine gZ N.tag λs1 ll1 OL q _=>?_;rw[es] at OL
   cases OL
   refine um (q hs) λn ES nb nl=>?_;subst ES;have dg:=vd (d:=d+49) (hd:=false) (σ:=mem g1++(O++[.list ((t.map (fW au (nO au g t).ts)).map El.tm)])) S nb;have l1:=y1.lt;have l2:g1.ts.length=(nO au g t).ts.length:=by rw[h1.ts]
   have R':=rM (d:=d+48) (g:=g1) (O:=O++[.list ((t.map (fW au (nO au g t).ts)).map El.tm)]) (au:=au) S (dD nl (dm Z)) (Wl (dh l2) l1 ht WT);have y2:=(Gx.nr au g1 (cN n)).gy h1.ok;refine(bS (nO au g1 (cN n)) ([.list ((t.map (fW au (nO au g t).ts)).map El.tm),.list (((cN n).map (fW au (nO au g1 (cN n)).ts)).map El.tm),.list ((((cN n).map (fW au (nO au g1 (cN n)).ts)).take 12).map El.tm)]) 2 (((cN n).map (fW au (nO au g1 (cN n)).ts)).take 12) (((y1.trans (h1.gy (n:=0))).trans y2).le (bO (rH ht nl) (dl Z))) Z (by rw[yh];exact Nat.min_le_left _ _) (λe m=>?_) (λ{Q} HQ=>one ?_))
   .obtain⟨c,mc,rfl⟩:=List.mem_map.mp (List.mem_of_mem_take m);exact⟨tH,.ch (VG c mc) λq=>by subst q;exact vU mc⟩
   .refine aW (aF (bA te Z (aQ (aP e1' Z (cz (sZ hq)))))) ?_;have e9:aV T (Φ (d+50)) false (.idx (J 9) (D 1)) (yG w k t v (bQ t1 e1) nm au (.ref (O.length+16)) b c e f h) (mem g1++(O++[.list ((t.map (fW au (nO au g t).ts)).map El.tm)]))= .ok (.int n) (mem g1++(O++[.list ((t.map (fW au (nO au g t).ts)).map El.tm)])):=bB (bG Z xJ) Z (by rw[es];rfl);refine aH (Mu (aD (C Z (C (aD (C e9 ak) dg) (C Z ak))) R') Z Z (Vc gb)) ?_;rewrite[aX,bw,bw,<-List.map_take]
    have:(mem (nO au g1 (cN n))++(O++([AO.list ((t.map (fW au (nO au g t).ts)).map El.tm)]++[AO.list (((cN n).map (fW au (nO au g1 (cN n)).ts)).map El.tm)]))).length=O.length+2+16:=by show(O++([AO.list ((t.map (fW au (nO au g t).ts)).map El.tm)]++[AO.list (((cN n).map (fW au (nO au g1 (cN n)).ts)).map El.tm)])).length+16=_;rw[bW];rfl
    rw[this];exact HQ
  .refine(bS g1 ([.list ((t.map (fW au (nO au g t).ts)).map El.tm)]) 0 (t.map (fW au (nO au g t).ts)) ((y1.trans (h1.gy (n:=0))).le (bO ht (dl Z))) Z (by rw[dN];exact bO ht (dl Z)) (λe m=>⟨(tj e m).1,by rw[h1.ts];exact(tj e m).2⟩) (λ{Q} HQ=>one ?_));exact aL (aF (bA te Z (aQ (aP e1' Z (bN (qI hq)))))) HQ
 .rw[dY hs] at te;exact(bS (nO au g t) ([.list ((t.map (fW au (nO au g t).ts)).map El.tm)]) 0 (t.map (fW au (nO au g t).ts)) (y1.le (bO ht (dl Z))) Z (by rw[dN];exact bO ht (dl Z)) tj (λ{Q} HQ=>one (aL (aF (bF te Z)) HQ)))
variable{n:U}{r:Nat}
theorem Zz{o:AO}:(O++γ).set (O.length+r) o=O++γ.set r o:=by rw[mX _ _ (d9 _ _),jz]
theorem wY{o:AO}:mem g++(O++γ)++[o]=mem g++(O++(γ++[o])):=by rw[aX,bw]
theorem zo(S:aK Φ)(H:CW g)(WT:g.ts.length<600)(hr:γ[r]?=some (.list (aO.map El.tm)))(hl:aO.length<=12)(hc:∀e∈aO,e.con/\Hk au g.ts e):
  ∃(g':GS) (cZ:We) (iJ:List El) (b':U),Gy g g' 5/\cZ[r]?=some (.list (iJ.map El.tm))/\iJ.length<=12/\(∀ e∈iJ,Hk au g'.ts e)/\LH iJ/\
   ∀{Q:za1},X Q (aN T (Φ (d+50)) (kA.drop 3) false (yG w k t v n nm au (.ref (O.length+r+16)) b' c e f h) (mem g'++(O++cZ)))->X Q (aN T (Φ (d+50)) (kA.drop 2) false (yG w k t v n nm au (.ref (O.length+r+16)) b c e f h) (mem g++(O++γ))):=by
 have v0:LH aO:=(aZ ([]) (.inl Z) (λtl=>zK λe m=>(hc e m).1));have r1:(O++(γ++[AO.list []]))[O.length+r]?=some (.list (aO.map El.tm)):=Nu.trans (dU hr)
 have ne:aV T (Φ (d+50)) false (.cmp .ne (J 12) (.list [])) (yG w k t v n nm au (.ref (O.length+r+16)) b c e f h) (mem g++(O++γ))= .ok (.bool (!decide (aO.map El.tm=[]))) (mem g++(O++(γ++[AO.list []]))):=by refine aP Z ((cG ak).trans (by rw[wY])) (ne_nil r1 ?_);show(O++(γ++[AO.list []]))[(O++γ).length]?=_;rw[<- bw];exact bk
 by_cases h0:aO.map El.tm=[]
 .rw[dF h0] at ne;refine(rj g (γ++[AO.list []]) aO b (.refl H) (dU hr) hl (λe m=>(hc e m).2) v0 (λ{Q} HQ=>?_));refine aL (aF (bF ne Z))<|HQ
 .rw[dY h0] at ne;refine gZ (pick (d:=d+49) (O:=O++(γ++[AO.list []])) S H 4 Y Y) λp g1 hp h1 e1=>?_;have e1:=e1 (yG w k t v n nm au (.ref (O.length+r+16)) b c e f h) (D 4) Z Z
  by_cases h3:p=3
  .have l1:g1.ts.length=g.ts.length:=by rw[h1.ts]
   have Lv:=o8 (d:=d+49) (hd:=false) (O:=O++(γ++[AO.list []])) (t:=[49]) S (dD (dh l1) (bj WT (dl Z)));have la:=jQ (ts:=g1.ts) (t:=([49]:Sa));have at2:=o8 (d:=d+49) (hd:=false) (g:={g1 with ts:=cQ g1.ts [49]}) (O:=O++(γ++[AO.list []])) (t:=[49,50]) S (by show(cQ g1.ts [49]).length<_;exact nU la (dh l1) WT);have X0:=jQ (ts:=cQ g1.ts [49]) (t:=([49,50]:Sa));have y2:Gy g {g1 with ts:=cQ (cQ g1.ts [49]) [49,50]} 2:=⟨⟨h1.ok.Il,h1.ok.Ld,h1.ok.Dw,h1.ok.pQ,h1.ok.zW⟩,by show g.ts<+:_;rw[<- h1.ts];exact qT.trans qT,by show(cQ (cQ g1.ts [49]) [49,50]).length<=_;exact nU X0 la (dh l1),by show g1.fs.length<=_;rw[h1.fs];exact d9 _ _,h1.hp,h1.xs⟩
   have n1:(cQ (cQ g1.ts [49]) [49,50])[cO g1.ts [49]]?=some [49]:=by
    have:=Hb (ts:=cQ (cQ g1.ts [49]) [49,50]) (uX gO)
    rwa [num_add gO,jk] at this
   have n2:(cQ (cQ g1.ts [49]) [49,50])[cO (cQ g1.ts [49]) [49,50]]?=some [49,50]:=by
    have:=Hb (ts:=cQ (cQ g1.ts [49]) [49,50]) gO
    rwa [jk] at this
   have ew:aV T (Φ (d+50)) false (.list [(.tup [(Ls [118]),(D 3)]),(.tup [(Ls [118]),(D 4)]),(.tup [(Ls [105]),(D 49)]),(.tup [(Ls [105]),(.neg (D 1))]),(.tup [(Ls [105]),(D 1114112)]),(.tup [(Ls [97]),(.aG (J 3) 15 [(Ls [49])])]),(.tup [(Ls [97]),(.aG (J 3) 15 [(Ls [49,50])])])]) (yG w k t v n nm au (.ref (O.length+r+16)) b c e f h) (mem g1++(O++(γ++[AO.list []])))=
     .ok (.ref ((O++(γ++[AO.list []])).length+16)) (mem {g1 with ts:=cQ (cQ g1.ts [49]) [49,50]}++(O++((γ++[AO.list []])++[AO.list ([El.v 3,.v 4,.i 49,.i (-1),.i 1114112,.a (cO g1.ts [49]),.a (cO (cQ g1.ts [49]) [49,50])].map El.tm)]))):=by
    refine(cG (C Z (C Z (C Z (C Z (C Z (C (bM (C Z (C (bJ Z Z (C Z ak) Lv) ak))) (C (bM (C Z (C (bJ Z Z (C Z ak) at2) ak))) ak)))))))).trans ?_;rw[wY];rfl
   generalize Na:[El.v 3,.v 4,.i 49,.i (-1),.i 1114112,.a (cO g1.ts [49]),.a (cO (cQ g1.ts [49]) [49,50])]=ws at ew
   have L8:∀x∈ws,Hk au (cQ (cQ g1.ts [49]) [49,50]) x/\(x.vars=[]\/x.vars=[3]\/x.vars=[4]):=λx m=>by
    rw[<- Na] at m
    rcases zb5 m with rfl|m
    .exact⟨.ov,.inr (.inl Z)⟩
    rcases zb5 m with rfl|m
    .exact⟨.ov,.inr (.inr Z)⟩
    rcases zb5 m with rfl|m
    .exact⟨.oi λ_=>by unfold jR;exact by decide,.inl Z⟩
    rcases zb5 m with rfl|m
    .exact⟨.oi λq=>by lia,.inl Z⟩
    rcases zb5 m with rfl|m
    .exact⟨.oi λq=>by exact J4 (j9 _) (AI q.2),.inl Z⟩
    rcases zb5 m with rfl|m
    .exact⟨.oa n1 λc q=>by cases q;unfold jR;exact by decide,.inl Z⟩
    rcases zb5 m with rfl|m
    .exact⟨.oa n2 λc q=>(nomatch q),.inl Z⟩
    .cases m
   have wl:ws.length=7:=by rw[<- Na];rfl
   refine gZ (pick (d:=d+49) (O:=O++((γ++[AO.list []])++[AO.list (ws.map El.tm)])) S y2.ok 7 Y Y) λq g3 hq h3' e3=>?_;have e3:=e3 (yG w k t v n nm au (.ref (O.length+r+16)) (.ref ((O++(γ++[AO.list []])).length+16)) c e f h) (D 7) Z Z;obtain⟨x,hx⟩:∃x,ws[q]?=some x:=⟨ws[q],gM (fH hq (dh wl.symm))⟩;have M':=gq hx;have lp:=List.length_pos_iff.mpr h0;have ll:(aO.map El.tm).length=aO.length:=dN ..;refine gZ (pick (d:=d+49) (O:=O++((γ++[AO.list []])++[AO.list (ws.map El.tm)])) S h3'.ok (aO.map El.tm).length lp (bO (dh ll) (bO hl (dl Z)))) λj g4 hj h4 e4=>?_;have r2:(O++((γ++[AO.list []])++[AO.list (ws.map El.tm)]))[O.length+r]?=some (.list (aO.map El.tm)):=Nu.trans (dU (dU hr));have w2:(O++((γ++[AO.list []])++[AO.list (ws.map El.tm)]))[(O++(γ++[AO.list []])).length]?=some (.list (ws.map El.tm)):=by rw[<- bw O];exact bk
   have e4:=e4 (yG w k t v n nm au (.ref (O.length+r+16)) (.ref ((O++(γ++[AO.list []])).length+16)) c e f h) (Cb 0 [(J 12)]) Z (bK (C Z ak) Z (dM r2));have rl:=(zb6 hr).1;refine(rj g4 (((γ++[AO.list []])++[AO.list (ws.map El.tm)]).set r (.list ((aO.set j x).map El.tm))) (aO.set j x) (.ref ((O++(γ++[AO.list []])).length+16)) (((y2.trans (h3'.gy (n:=0))).trans (h4.gy (n:=0))).le (by exact dl Z)) ?_ (by rw[fB];exact hl) (λy m=>?_) (aZ x.vars ((L8 x M').2) (λtl=>Hy (λe m=>(hc e m).1) (by exact bj hj (dh ll)))) (λ{Q} HQ=>?_))
   .rw[iy (by rw[bW,bW];exact oV (oV rl))]
   .have ht:=h4.ts.trans h3'.ts;rw[ht]
    rcases List.mem_or_eq_of_mem_set m with m|rfl
    .exact(hc y m).2.pre y2.ts
    .exact(L8 _ M').1
   .refine aW (aF (bA ne Z (aQ (aP e1 Z (cz (p:=(p:Int)=3) (by exact sZ h3))))))<|aH ew ?_;refine fQ (bB Z e3 (fV w2 (by rw[fG,hx];rfl))) Z e4 (yU r2 hj) ?_;rw[mem_set,Zz,<-List.map_set];exact HQ
  .refine(rj g1 (γ++[AO.list []]) aO b ((h1.gy (n:=0)).le (by exact dl Z)) (dU hr) hl (λe m=>by rw[h1.ts];exact(hc e m).2) v0 (λ{Q} HQ=>?_));refine aL (aF (bA ne Z (aQ (aP e1 Z (bN (p:=(p:Int)=3) (by exact qI h3))))))<|HQ
structure LI(g:GS)(n m:Nat):Prop where
 ok:CW g
 lt:g.ts.length<=n
 lf:g.fs.length<=n
 hp:g.hp.length<=m
 xs:∃u,g.xs=[u]\/∃a b,g.xs=[u,a,b]
theorem Gy.li{n k:Nat}(h:Gy g g' k)(CE:LI g n m):LI g' (n+k) m:=⟨h.ok,fH h.lt CE.lt,fH h.lf CE.lf,by rw[h.hp];exact CE.hp,by rw[h.xs];exact CE.xs⟩
theorem Due.val{r:Res U}(h:Due r g' O o):∃AM γ,r= .ok AM (mem g'++(O++γ))/\D4 AM (O++γ) o:=by
 cases o with
 |inl F=>obtain⟨γ,e⟩:=h;exact(dK _ γ e Z)
 |inr ab=>obtain⟨a,b⟩:=ab;refine gH h λγ j e hj=>?_;exact⟨_,γ,e,j,Z,hj⟩
theorem El.Y6(e:El):e.vars.Nodup:=by
 cases e with
 |v k=>exact List.nodup_cons.mpr ⟨λm=>(nomatch m),qY⟩
 |i n=>exact qY
 |a n=>exact qY
theorem zk(S:aK Φ)(CE:LI g 550 4000)(hr:γ[r]?=some (.list (aO.map El.tm)))(hl:aO.length<=12)(hc:∀e∈aO,Hk au g.ts e)(V:LH aO)(N:uq t1 e1):
  ∃(g':GS) (cZ:We) (c' e' f':U),CW g'/\g'.ts.length<=g.ts.length+60/\g'.fs.length<=g.fs.length+60/\g'.hp.length<=g.hp.length+160/\(∃ u,g'.xs=[u]\/∃a b,g'.xs=[u,a,b])/\
   aN T (Φ (d+50)) (kA.drop 3) false (yG w k t v (bQ t1 e1) nm au (.ref (O.length+r+16)) b c e f h) (mem g++(O++γ))= .done .next (yG w k t v (bQ t1 e1) nm au (.ref (O.length+r+16)) b c' e' f' h) (mem g'++(O++cZ)):=by
 have et:aV T (Φ (d+50)) false (.list [(.tup [(Ls [97]),(D 0)]),(.tup [(Ls [97]),(D 0)]),(.tup [(Ls [97]),(D 0)]),(.tup [(Ls [118]),(D 5)]),(.tup [(Ls [105]),(D 5)])]) (yG w k t v (bQ t1 e1) nm au (.ref (O.length+r+16)) b c e f h) (mem g++(O++γ))=
   .ok (.ref ((O++γ).length+16)) (mem g++(O++(γ++[AO.list ([El.a 0,.a 0,.a 0,.v 5,.i 5].map El.tm)]))):=by
  refine(cG (C Z (C Z (C Z (C Z (C Z ak)))))).trans ?_;rw[wY];rfl
 generalize WT:[El.a 0,.a 0,.a 0,.v 5,.i 5]=ts at et;refine gZ (pick (d:=d+49) (O:=O++(γ++[AO.list (ts.map El.tm)])) S CE.ok 5 Y Y) λq g1 hq h1 eq=>?_;have eq:=eq (yG w k t v (bQ t1 e1) nm au (.ref (O.length+r+16)) b c e f h) (D 5) Z Z
 obtain⟨tl,wD,tv⟩:∃tl,ts[q]?=some tl/\(tl.vars=[]\/(tl.vars=[5]/\dO tl=false)):=by
  have lq:q<ts.length:=by rw[<- WT];exact hq
  refine(aZ (ts[q]) (gM lq) ?_);have m:=Dd lq;generalize ts[q]=x at m;rw[<- WT] at m
  rcases zb5 m with rfl|m
  .exact .inl Z
  rcases zb5 m with rfl|m
  .exact .inl Z
  rcases zb5 m with rfl|m
  .exact .inl Z
  rcases zb5 m with rfl|m
  .exact .inr ⟨Z,Z⟩
  rcases zb5 m with rfl|m
  .exact .inl Z
  .cases m
 have w1:(O++(γ++[AO.list (ts.map El.tm)]))[(O++γ).length]?=some (.list (ts.map El.tm)):=by rw[<- bw O];exact bk
 have r1:(O++(γ++[AO.list (ts.map El.tm)]))[O.length+r]?=some (.list (aO.map El.tm)):=Nu.trans (dU hr);generalize YU:γ++[AO.list (ts.map El.tm)]=jG at et eq w1 r1;have ro:=Vi (d:=d+49) (σ:=mem g1++(O++jG)) (i:=O.length+r+16) (tl:=tl) S r1 (dD hl (dm Z));rw[wY] at ro
 have es:aV T (Φ (d+50)) false (.list [(J 9),(Cf 89 [(J 12),(J 14)])]) (yG w k t v (bQ t1 e1) nm au (.ref (O.length+r+16)) b tl.tm e f h) (mem g1++(O++jG))=
   .ok (.ref ((O++(jG++[AO.list (aO.map El.tm).reverse])).length+16)) (mem g1++(O++((jG++[AO.list (aO.map El.tm).reverse])++[AO.list [bQ t1 e1,bQ tl aO]]))):=by
  refine(cG (C (bG Z xJ) (C (aD (C Z (C (bG Z tl.zP) ak)) ro) ak))).trans ?_;rw[wY];rfl
 have s1:(O++((jG++[AO.list (aO.map El.tm).reverse])++[AO.list [bQ t1 e1,bQ tl aO]]))[(O++(jG++[AO.list (aO.map El.tm).reverse])).length]?=some (.list [bQ t1 e1,bQ tl aO]):=by rw[<- bw O];exact bk
 generalize(O++(jG++[AO.list (aO.map El.tm).reverse])).length=si at es s1;generalize(jG++[AO.list (aO.map El.tm).reverse])++[AO.list [bQ t1 e1,bQ tl aO]]=lE at es s1;refine Bt N.tag λs ll hs hn v1 l1 GI b1=>?_;have NU:∀e∈aO,Hk au g1.ts e:=λe m=>by rw[h1.ts];exact hc e m
 have Pu:g1.ts.length<=550:=by rw[h1.ts];exact CE.lt
 have MV:g1.fs.length<=550:=by rw[h1.fs];exact CE.lf
 refine gZ (sR (d:=d+45) (au:=au) S (dD Pu (dm Z)) (dD MV (dm Z)) (by rw[s1,hs]) (λq=>(let⟨n,p1,p2,_⟩:=hn q;(aZ n p1 p2))) (λe m=>(NU e m).1) (bO hl (dl Z))) λg2 o gx du di=>?_;refine gH du.val λAM T8 ed dv=>?_;have y2:=gx.gy h1.ok;have NR:∀e∈aO,Hk au g2.ts e:=λe m=>(NU e m).pre gx.ts;have GO:NB g2:=⟨by have:=gx.lt;exact fH this Pu,by have:=gx.lf;exact fH this MV⟩;have ku:g2.hp.length<=4000:=by rw[y2.hp,h1.hp];exact CE.hp
 refine bY V λlv IE V=>?_
 have v2:dO tl=true->(cL tl aO).length<=1:=λq=>by
  rcases tv with tv|⟨_,tv⟩
  .rw[V,tv,dH]
   rcases IE with rfl|rfl|rfl<;>decide
  .rw[q] at tv;cases tv
 have nd:(cL tl aO).Nodup:=by
  rw[V]
  rcases tv with tv|⟨tv,_⟩<;>rw[tv]<;>rcases IE with rfl|rfl|rfl<;>decide
 have ge:∀k∈cL tl aO,3<=k:=by
  rw[V]
  rcases tv with tv|⟨tv,_⟩<;>rw[tv]<;>rcases IE with rfl|rfl|rfl<;>decide
 have qj:=List.nodup_append.mpr (jW GI nd (λa ma b mb q=>by have:=b1 a ma;have:=ge b mb;lia));obtain⟨u,hx⟩:=CE.xs
 refine Tc (Er (f:=if au=true then 95 else 62) S (dU s1) qj (bO l1 (dl Z)) hl (bO ku (dl Z)) (by rw[y2.xs,h1.xs];exact hx) dv (λc1 c2 hp lo1 Km τ L1 L2 hl'=>by
  have P:=λAM=>Vr (d:=AM) (τ:=τ) (G:={g2 with hp:=hp,xs:=[u,c1,c2]}) S ⟨GO.lt,GO.lf⟩ Z L1 L2 hs di.to hn v1 v2 nd (λe m=>(NR e m).1) (λe m=>(NR e m).2) (bO l1 (dl Z)) hl (by show hp.length<=_;exact fH hl' ku)
  cases au with
  |true=>exact ZP S (P (d+40))
  |false=>exact ZQ S (P (d+41)))) λhp' c1 c2 vE IF ag=>?_
 have e16:∀{σ:St} {c e f:U},aV T (Φ (d+50)) false (.ite (J 11) (.lit (.fn 95)) (.lit (.fn 62))) (yG w k t v (bQ t1 e1) nm au (.ref (O.length+r+16)) b c e f h) σ= .ok (.fn (if au=true then 95 else 62)) σ:=λ{σ c e f}=>by
  cases au with
  |true=>exact fJ Z Z
  |false=>exact fK Z Z
 refine(A5 ({g2 with hp:=hp',xs:=[u,c1,c2]}) (lE++(T8++vE)) tl.tm (.ref (si+16)) (.fn (if au=true then 95 else 62)) ⟨y2.ok.Il,y2.ok.Ld,y2.ok.Dw,y2.ok.pQ,y2.ok.zW⟩ ?_ ?_ ?_ (⟨u,.inr (eO c1 c2 Z)⟩) (gP ?_))
 .show g2.ts.length<=_;rw[<- h1.ts];exact gx.lt
 .show g2.fs.length<=_;rw[<- h1.fs];exact gx.lf
 .show hp'.length<=_;rw[y2.hp,h1.hp] at IF;exact IF
 .refine aH (bB et eq (fV w1 (by rw[fG,wD];rfl))) ?_;refine aH es ?_;refine aH e16<|aL (cR (aD (C Z (C Z (C Z (C (aD (C Z (C Z (C Z ak))) ed) ak)))) ag)) ?_;rw[show((O++lE)++T8)++vE=O++(lE++(T8++vE)) by rw[bw,bw]];exact bU Z
theorem Fe(S:aK Φ){n:Nat}(CE:LI g n m)(hn:n<=450)(hm:m<=3000)(ht:t.length<=8)(hA:∀c∈t,jR c)(N:uq t1 e1):
  ∃(g':GS) (γ:We) (a' b' c' e' f':U),LI g' (n+105) (m+160)/\aN T (Φ (d+50)) kA false (yG w k t v (bQ t1 e1) nm au a b c e f h) (mem g++O)= .done .next (yG w k t v (bQ t1 e1) nm au a' b' c' e' f' h) (mem g'++(O++γ)):=by
 refine Kj (zt (d:=d) (O:=O) (au:=au) (w:=w) (k:=k) (v:=v) (nm:=nm) (a:=a) (b:=b) (c:=c) (e:=e) (f:=f) (h:=h) S CE.ok (by have:=CE.lt;exact dD this (dD hn (dm Z))) ht hA N) λg1 jG r aO y1 r1 l1 c1 go1=>?_;refine Ki (zo (d:=d) (O:=O) (w:=w) (k:=k) (v:=v) (n:=bQ t1 e1) (nm:=nm) (t:=t) (b:=b) (c:=c) (e:=e) (f:=f) (h:=h) S y1.ok (nU CE.lt y1.lt hn) r1 l1 c1) λg2 lE aae b' y2 r2 l2 c2 V go2=>?_;have L2:=y2.li (y1.li CE);refine Kb (zk (d:=d) (O:=O) (w:=w) (k:=k) (v:=v) (nm:=nm) (t:=t) (b:=b') (c:=c) (e:=e) (f:=f) (h:=h) S (g:=g2) ⟨L2.ok,by have:=L2.lt;exact fH this hn,by have:=L2.lf;exact fH this hn,by have:=L2.hp;exact bO this (bO hm (dl Z)),L2.xs⟩ r2 l2 c2 V N) λg3 T8 c' e' f' Sn XW XZ ZH P6 F7=>?_;exact(HG g3 T8 _ b' c' e' f' ⟨Sn,by have:=L2.lt;exact fH this XW,by have:=L2.lf;exact fH this XZ,by have:=L2.hp;exact bO ZH (rH this (dl Z)),P6⟩ (gP (go1 (go2 F7))))
theorem ZK(S:aK Φ)(CE:LI g 300 1000)(ht:t.length<=8)(hA:∀c∈t,jR c)(N:uq t1 e1){p:Nat}{cd:U}:
  ∃bx σ',aN T (Φ (d+50)) (CT.drop 13) false [.fn 1000,.ref 0,.ref 1,.ref 2,.ref 8,.int p,k,.str t,v,bQ t1 e1,nm,cd,a,b,c,e,f,h] (mem g++O)= .done (.ret (.bool true)) bx σ':=by
 by_cases hp:p=1
 .have el:aV T (Φ (d+50)) false (.ite (.cmp .eq (J 5) (D 1)) (.list [(.lit (.bool true)),(.lit (.bool false))]) (.list [(.lit (.bool false))])) [.fn 1000,.ref 0,.ref 1,.ref 2,.ref 8,.int p,k,.str t,v,bQ t1 e1,nm,cd,a,b,c,e,f,h] (mem g++O)= .ok (.ref (O.length+16)) (mem g++(O++[AO.list [.bool true,.bool false]])):=by have q:aV T (Φ (d+50)) false (.cmp .eq (J 5) (D 1)) [.fn 1000,.ref 0,.ref 1,.ref 2,.ref 8,.int p,k,.str t,v,bQ t1 e1,nm,cd,a,b,c,e,f,h] (mem g++O)= .ok (.bool true) (mem g++O):=cz (sZ hp);refine(fJ q (cG (C Z (C Z ak)))).trans ?_;rw[aX];rfl
  refine sQ (Fe (d:=d) (O:=O++[AO.list [.bool true,.bool false]]) (au:=true) (w:=.int p) (k:=k) (v:=v) (nm:=nm) (a:=a) (b:=b) (c:=c) (e:=e) (f:=f) (h:=h) S CE (dl Z) (dl Z) ht hA N) λg1 jG a1 b1 c1 e1' f1 L1 r1=>?_;refine sQ (Fe (d:=d) (O:=(O++[AO.list [.bool true,.bool false]])++jG) (au:=false) (w:=.int p) (k:=k) (v:=v) (nm:=nm) (a:=a1) (b:=b1) (c:=c1) (e:=e1') (f:=f1) (h:=h) S L1 (by exact dl Z) (by exact dl Z) ht hA N) λg2 lE a2 b2 c2 e2 f2 L2 r2=>?_;have it:∀{g:GS} {γ:We} {k:Nat},dJ (.ref (O.length+16)) k (mem g++((O++[AO.list [.bool true,.bool false]])++γ))=some ([U.bool true,.bool false][k]?):=λ{g γ k}=>cD (rB bk);refine(eO (yG (.int p) k t v (bQ t1 e1) nm false a2 b2 c2 e2 f2 h) (mem g2++(((O++[AO.list [.bool true,.bool false]])++jG)++lE)) (gP ?_));refine jf (bx:=yG (.int p) k t v (bQ t1 e1) nm false a2 b2 c2 e2 f2 h) (σ':=mem g2++(((O++[AO.list [.bool true,.bool false]])++jG)++lE)) el Z ?_ ?_
  .refine cV (n:=999) (x:=.bool true) (cD gb) r1<|cV (n:=998) (x:=.bool false) it r2 ?_;refine dW (n:=997) ?_;rw[bw (O++_)];exact it
  .exact aR Z Z
 .have el:aV T (Φ (d+50)) false (.ite (.cmp .eq (J 5) (D 1)) (.list [(.lit (.bool true)),(.lit (.bool false))]) (.list [(.lit (.bool false))])) [.fn 1000,.ref 0,.ref 1,.ref 2,.ref 8,.int p,k,.str t,v,bQ t1 e1,nm,cd,a,b,c,e,f,h] (mem g++O)= .ok (.ref (O.length+16)) (mem g++(O++[AO.list [.bool false]])):=by have q:aV T (Φ (d+50)) false (.cmp .eq (J 5) (D 1)) [.fn 1000,.ref 0,.ref 1,.ref 2,.ref 8,.int p,k,.str t,v,bQ t1 e1,nm,cd,a,b,c,e,f,h] (mem g++O)= .ok (.bool false) (mem g++O):=bN (p:=(p:Int)=1) (by exact qI hp);refine(fK q (cG (C Z ak))).trans ?_;rw[aX];rfl
  refine sQ (Fe (d:=d) (O:=O++[AO.list [.bool false]]) (au:=false) (w:=.int p) (k:=k) (v:=v) (nm:=nm) (a:=a) (b:=b) (c:=c) (e:=e) (f:=f) (h:=h) S CE (by exact dl Z) (by exact dl Z) ht hA N) λg1 jG a1 b1 c1 e1' f1 L1 r1=>?_;have it:dJ (.ref (O.length+16)) 1 (mem g1++((O++[AO.list [.bool false]])++jG))=some none:=cD (rB bk);refine(eO (yG (.int p) k t v (bQ t1 e1) nm false a1 b1 c1 e1' f1 h) (mem g1++((O++[AO.list [.bool false]])++jG)) (gP ?_));refine jf (bx:=yG (.int p) k t v (bQ t1 e1) nm false a1 b1 c1 e1' f1 h) (σ':=mem g1++((O++[AO.list [.bool false]])++jG)) el Z ?_ ?_
  .exact cV (n:=999) (x:=.bool false) (cD gb) r1 (dW (n:=998) it)
  .exact aR Z Z
theorem Z8(S:aK Φ)(CE:LI g 300 1000)(N:uq t1 e1)(hA:∀j,A= .a j->∃s,g.ts[j]?=some s/\s.length<=30/\∀c∈s,jR c)(hv:∀j,A= .v j->2<=j)(xe:B[10]?=some A.tm)(h9:B[9]?=some (bQ t1 e1))(h3:B[3]?=some (.ref 2))(h4:B[4]?=some (.ref 8)){AD:List Mine.Internal.S}:
  ∃bx σ',aN T (Φ (d+50)) (.ret (Cf 88 [(J 4),(.lit (.fn 64)),(.list [(J 10),(J 9)]),(Cf 94 [(J 3),(.list [(J 10),(J 9)])])])::AD) false B (mem g++O)= .done (.ret (.bool true)) bx σ':=by
 refine Bt N.tag λs ll hs hn v1 l1 GI b1=>?_
 have es:∀{τ:We},aV T (Φ (d+50)) false (.list [(J 10),(J 9)]) B (mem g++τ)= .ok (.ref (τ.length+16)) (mem g++(τ++[AO.list [A.tm,bQ t1 e1]])):=λ{τ}=>by refine(cG (C (bG xe A.zP) (C (bG h9 xJ) ak))).trans ?_;rw[aX];rfl
 have s1:(O++[AO.list [A.tm,bQ t1 e1]])[O.length]?=some (.list [A.tm,bQ t1 e1]):=bk;generalize Qc:O++[AO.list [A.tm,bQ t1 e1]]=tO at s1;have s2:(tO++[AO.list [A.tm,bQ t1 e1]])[tO.length]?=some (.list [A.tm,.tup (.str s::ll)]):=by rw[<- hs];exact bk
 have e2:=es (τ:=tO);generalize HT:tO++[AO.list [A.tm,bQ t1 e1]]=PO at s2 e2;have s3:PO[O.length]?=some (.list [A.tm,bQ t1 e1]):=by rw[<- HT];exact dU s1
 refine gZ (V9 (d:=d+45) S (by have:=CE.lt;exact dD this (dm Z)) (by have:=CE.lf;exact dD this (dm Z)) s2 (λq=>(let⟨n,p1,p2,_⟩:=hn q;(aZ n p1 p2))) (λj q=>(let⟨s,p1,p2,_⟩:=hA j q;(aZ s p1 p2)))) λg2 o gx du di=>?_;refine gH du.val λAM T8 ed dv=>?_;have y2:=gx.gy CE.ok;have GO:NB g2:=⟨fH gx.lt CE.lt,fH gx.lf CE.lf⟩;have ku:g2.hp.length<=1000:=by rw[y2.hp];exact CE.hp
 have qj:=List.nodup_append.mpr (jW A.Y6 GI (λx mx y my q=>by
  have:=b1 y my
  cases A with
  |v j=>
   rcases zb5 mx with rfl|m
   .have:=hv _ Z;lia
   .cases m
  |i z=>cases mx
  |a z=>cases mx))
 obtain⟨u,hx⟩:=CE.xs;refine Tc (Er (e1:=[]) S (dU s3) qj (by show 0<=12;exact dl Z) (bO l1 (dl Z)) (bO ku (dl Z)) (by rw[y2.xs];exact hx) dv (λc1 c2 hp lo1 Km τ L1 L2 hl'=>RD (d:=d+42) S ⟨GO.lt,GO.lf⟩ Z L1 L2 hs di.to (λq=>(let⟨n,p1,p2,_⟩:=hn q;(aZ n p1 p2))) v1 (λj q=>(let⟨s,p1,p2,p3⟩:=hA j q;(oH s ((FJ gx.ts (zb6 p1).1).trans p1) p2 p3))) (bO l1 (dl Z)))) λhp' c1 c2 vE IF ag=>?_;refine(eO _ _ (gP (aR (aD (C (bG h4 (λq=>nomatch q)) (C Z (C (es.trans (by rw[Qc])) (C (aD (C (bG h3 (λq=>nomatch q)) (C e2 ak)) ed) ak)))) ag) Z)))
theorem e5:∀(l:Sa) (v:Int),0<=v->0<=m5 v l/\m5 v l<(v+1)*10^l.length:=by
 intro l
 induction l with
 |nil=>intro v h;exact⟨h,xh h⟩
 |cons c r ih=>
  intro v h;show 0<=(if cg c=true then m5 (v*10+(c - 48)) r else v)/\(if cg c=true then m5 (v*10+(c - 48)) r else v)<(v+1)*10^(r.length+1)
  by_cases hd:cg c=true
  .rw[bz hd];obtain⟨v1,q⟩:=Qq h (iU.mp hd);obtain⟨i1,i2⟩:=ih _ v1;exact⟨i1,nH i2 q⟩
  .rw[bh hd];exact⟨h,xh h⟩
set_option tactic.hygienic true in
theorem R6{x:Int}(ht:t.length<=8)(h:cT t=some x):x.natAbs<10^8:=by
 unfold cT at h;have hl:(t.drop (runN xM t)).length<=8:=by rw[lK];exact y9 ht
 generalize t.drop (runN xM t)=r at h hl;unfold qG at h
 have hu:(kj r).length<=8:=by
  unfold kj
  split
  .rename_i q;rw[dC] at hl;exact iw hl
  .exact hl
 obtain⟨h0,h1⟩:=e5 (kj r) 0 Y
 have h2:((0:Int)+1)*10^(kj r).length<=10^8:=by
  rw[Int.zero_add,Int.one_mul];have:10^(kj r).length<=10^8:=Nat.pow_le_pow_right Y hu
  exact_mod_cast this
 generalize m5 0 (kj r)=z at h h0 h1
 split at h
 .split at h
  .cases h;rw[Int.natAbs_neg];exact Z9 (by rw[Int.natAbs_of_nonneg h0];exact nH h1 h2)
  .cases h;exact Z9 (by rw[Int.natAbs_of_nonneg h0];exact nH h1 h2)
 .cases h
theorem O4{n:Int}(h:n.natAbs<10^26):(cN n).length<=28:=by
 unfold cN;rw[bW];have n1:=wy (k:=26) (bj h (dl Z));have:(if n<0 then[45] else([]:Sa)).length<=1:=by split<;>decide
 exact fH n1 this
variable{x7:U}
noncomputable abbrev L6(w k x7 v n:U):Loc:=[.fn 1000,.ref 0,.ref 1,.ref 2,.ref 8,w,k,x7,v,n,.L,.L,.L,.L,.L,.L,.L,.L]
theorem mu(S:aK Φ)(H:CW g):∃(g':GS) (t:Sa) (γ:We),Hd g g'/\t.length<=6/\(∀ c∈t,jR c)/\∀{Q:za1},X Q (aN T (Φ (d+50)) (CT.drop 7) false (L6 w k (.str t) v n) (mem g'++(O++γ)))->X Q (aN T (Φ (d+50)) (CT.drop 6) false (L6 w k x7 v n) (mem g++O)):=by refine gZ (pick (d:=d+49) (O:=O) S H 7 Y Y) λm g1 hm h1 e1=>?_;have e1:=e1 (L6 w k x7 v n) (D 7) Z Z;refine oK (Dn (d:=d+49) (O:=O) (B:=L6 w k x7 v n) S Z m 0 NN [] g1 (rF _ _) (by unfold NN;exact bj hm (dl Z)) h1.ok) λcs g2 lc ac h2 e2=>?_;rw[mW] at e2;have j:=Gn (Φ:=Φ (d+50)) (hd:=false) (σ:=mem g2++(O++[AO.list (cs.map cStr)])) gb (strs_map cs) (by rw[p6];unfold LL;exact lJ (dD (dh lc) (bj hm (dl Z))));rw[p6] at j;have ec:=lu (bK (C e1 ak) Z (rW (bj hm (dl Z)))) Z e2;rw[aX] at ec;refine(oG g2 cs ([AO.list (cs.map cStr)]) (h1.trans h2) (bO (dh lc) (Nat.le_of_lt_succ hm)) ac (λ{Q} HQ=>?_));exact aH (cP Z Z (C ec ak) j) HQ
theorem mh(S:aK Φ)(H:CW g)(ht:t.length<=6)(hA:∀c∈t,jR c):∃(g':GS) (t':Sa) (γ:We),Hd g g'/\t'.length<=8/\(∀ c∈t',jR c)/\∀{Q:za1},X Q (aN T (Φ (d+50)) (CT.drop 8) false (L6 w k (.str t') v n) (mem g'++(O++γ)))->X Q (aN T (Φ (d+50)) (CT.drop 7) false (L6 w k (.str t) v n) (mem g++O)):=by
 refine gZ (pick (d:=d+49) (O:=O) S H 3 Y Y) λp g1 hp h1 e1=>?_;have e1:=e1 (L6 w k (.str t) v n) (D 3) Z Z
 by_cases h:p=1
 .have el:aV T (Φ (d+50)) false (.list [(Ls [32]),(Ls [45]),(Ls [32,45]),(Ls [10,10]),(Ls [45,32]),(Ls [43])]) (L6 w k (.str t) v n) (mem g1++O)= .ok (.ref (O.length+16)) (mem g1++(O++[AO.list [.str [32],.str [45],.str [32,45],.str [10,10],.str [45,32],.str [43]]])):=by refine(cG (C Z (C Z (C Z (C Z (C Z (C Z ak))))))).trans ?_;rw[aX];rfl
  refine gZ (pick (d:=d+49) (O:=O++[AO.list [.str [32],.str [45],.str [32,45],.str [10,10],.str [45,32],.str [43]]]) S h1.ok 6 Y Y) λq g2 hq h2 e2=>?_;have e2:=e2 (L6 w k (.str t) v n) (D 6) Z Z;have al:∀s∈[[32],[45],[32,45],[10,10],[45,32],[43]],s.length<=2/\∀c∈s,c=32\/c=10\/c=45\/c=43:=Y
  have sel:∃s:List Nat,([[32],[45],[32,45],[10,10],[45,32],[43]].map U.str)[q]?=some (.str s)/\s.length<=2/\∀c∈s,c=32\/c=10\/c=45\/c=43:=(aZ _ ((fG ..).trans (congrArg _ (gM hq))) (al _ (Dd hq)));refine um sel λs hs ls as=>?_;have lst:(s++t).length<=8:=by rw[bW];exact bO (rH ls ht) (dl Z)
  refine(oG g2 (s++t) ([AO.list [.str [32],.str [45],.str [32,45],.str [10,10],.str [45,32],.str [43]]]) (h1.trans h2) lst (λc m=>?_) (λ{Q} HQ=>?_))
  .rcases List.mem_append.mp m with m|m
   .have:=as c m;unfold jR;lia
   .exact hA c m
  .refine aW (aP e1 Z (cz (sZ h))) ?_;have ab:∀{σ:St},binop .add (.str s) (.str t) σ= .ok (.str (s++t)) σ:=λ{σ}=>add_str (by unfold LL;exact bO lst (dl Z));exact aH (bZ (bB el e2 (fV gb hs)) Z ab) HQ
 .refine(oG g1 t ([]) h1 (bO ht (dl Z)) hA (λ{Q} HQ=>?_));rw[dH] at HQ;refine aL (aP e1 Z (bN (qI h)))<|HQ
theorem AG(S:aK Φ)(H:CW g)(ht:t.length<=8){kk:Nat}:∃(g':GS) (t1:El) (e1:List El),Hd g g'/\uq t1 e1/\∀{Q:za1},X Q (aN T (Φ (d+50)) (CT.drop 11) false (L6 w (.int kk) (.str t) (iH (cT t)) (bQ t1 e1)) (mem g'++O))->X Q (aN T (Φ (d+50)) (CT.drop 9) false (L6 w (.int kk) (.str t) (iH (cT t)) n) (mem g++O)):=by
 have one:∀{Q:za1},X Q (aN T (Φ (d+50)) (CT.drop 10) false (L6 w (.int kk) (.str t) (iH (cT t)) (bQ (.v 0) [])) (mem g++O))->X Q (aN T (Φ (d+50)) (CT.drop 9) false (L6 w (.int kk) (.str t) (iH (cT t)) n) (mem g++O)):=λHQ=>aH Z HQ
 by_cases h2:kk>2
 .by_cases hv:∃x,cT t=some x/\kk=3
  .refine bY hv λx hx hk=>?_;have lx:=R6 ht hx;refine(pq g (.i x) ([]) (.refl H) (.i x (lJ (bj lx (dl Z))) (O4 (bj lx (dl Z)))) (λ{Q} HQ=>one ?_));rw[hx] at HQ ⊢;refine aW (cz (Bc h2))<|aH (bM (C Z (C (fJ (aF (bA Z Z (aQ (cz (sZ hk))))) Z) ak))) HQ
  .refine gZ (pick (d:=d+49) (O:=O) S H (10^25) Y Y) λp g1 hp h1 e1=>?_;have e1:=e1 (L6 w (.int kk) (.str t) (iH (cT t)) (bQ (.v 0) [])) (.bin .pow (D 10) (D 25)) Z Z;refine(pq g1 (.i ((p:Int) - 10^9)) ([]) h1 (.i _ (by lia) (O4 (by lia))) (λ{Q} HQ=>one ?_));refine aW (cz (Bc h2)) ?_
   have c:aV T (Φ (d+50)) false (.both true [(.cmp .wC (J 8) (.lit .none)),(.cmp .eq (J 6) (D 3))]) (L6 w (.int kk) (.str t) (iH (cT t)) (bQ (.v 0) [])) (mem g++O)= .ok (.bool false) (mem g++O):=by
    cases hx:cT t with
    |none=>exact aF (bF Z Z)
    |some x=>exact aF (bA Z Z (aQ (bN (λq=>hv (aZ x hx (yL q))))))
   exact aH (bM (C Z (C (fK c (bZ e1 Z Z)) ak))) HQ
 .exact(pq g (.v 0) ([]) (.refl H) .v (λ{Q} HQ=>one (aL (bN (Bb (iW h2))) HQ)))
theorem AF(S:aK Φ)(H:CW g){kk:Nat}(N:uq t1 e1):∃(g':GS) (Mn:El) (e1':List El) (γ:We),Hd g g'/\uq Mn e1'/\∀{Q:za1},X Q (aN T (Φ (d+50)) (CT.drop 12) false (L6 w (.int kk) x7 v (bQ Mn e1')) (mem g'++(O++γ)))->X Q (aN T (Φ (d+50)) (CT.drop 11) false (L6 w (.int kk) x7 v (bQ t1 e1)) (mem g++O)):=by
 by_cases h5:kk=5
 .refine gZ (pick (d:=d+49) (O:=O) S H 3 Y Y) λp g1 hp h1 e1'=>?_;have e1':=e1' (L6 w (.int kk) x7 v (bQ t1 e1)) (D 3) Z Z
  by_cases h0:p=0
  .have el:aV T (Φ (d+50)) false (.list [(.tup [(Ls [97]),(D 0)]),(.tup [(Ls [115]),(D 0),(.tup [(.tup [(Ls [118]),(D 1)]),(.tup [(Ls [105]),(D 2)])])])]) (L6 w (.int kk) x7 v (bQ t1 e1)) (mem g1++O)= .ok (.ref (O.length+16)) (mem g1++(O++[AO.list [bQ (.a 0) [],bQ (.i 2) [.v 1]]])):=by refine(cG (C Z (C Z ak))).trans ?_;rw[aX];rfl
   refine gZ (pick (d:=d+49) (O:=O++[AO.list [bQ (.a 0) [],bQ (.i 2) [.v 1]]]) S h1.ok 2 Y Y) λq g2 hq h2 e2=>?_;have e2:=e2 (L6 w (.int kk) x7 v (bQ t1 e1)) (D 2) Z Z
   have sel:∃tt ee,[bQ (.a 0) [],bQ (.i 2) [.v 1]][q]?=some (bQ tt ee)/\uq tt ee:=by
    match q,hq with
    |0,_=>exact(dK _ _ Z .a)
    |1,_=>exact(dK _ _ Z .s)
   refine gH sel λtt ee hs N'=>?_;refine(rk g2 tt ee ([AO.list [bQ (.a 0) [],bQ (.i 2) [.v 1]]]) (h1.trans h2) N' (λ{Q} HQ=>?_));refine aW (aF (bA (cz (sZ h5)) Z (aQ (aP e1' Z (cz (sZ h0))))))<|aH (bB el e2 (fV gb hs)) HQ
  .refine(rk g1 t1 e1 ([]) h1 N (λ{Q} HQ=>?_));rw[dH] at HQ;refine aL (aF (bA (cz (sZ h5)) Z (aQ (aP e1' Z (bN (qI h0))))))<|HQ
 .refine(rk g t1 e1 ([]) (.refl H) N (λ{Q} HQ=>?_));rw[dH] at HQ;refine aL (aF (bF (bN (qI h5)) Z))<|HQ
theorem ints_map:∀l:List Int,intsOf (l.map U.int)=some l
 |[]=>rfl
 |x::l=>by show(intsOf (l.map U.int)).map (x::·)=_;rw[ints_map l];rfl
theorem mP{l:za6}(h:σ[i]?=some (.list (l.map .int))):fj 11 [.ref i] σ= .ok (.int l.sum) σ:=(jE h).trans (rY (ints_map l))
noncomputable def pQ(l:za6):Int:=Int.fmod l.sum 100003*7
def B9(l:za6):GS:=⟨l,0,0,pQ l,xE,Cn,[],[Dk]⟩
theorem mS:aK λd=>BZ T F0 d:=λd f fn h hd as σ=>by
 have e:F0 f=some fn:=by unfold F0;rw[h];rfl
 exact rY e
theorem ZC(l:za6):0<=pQ l/\pQ l<=10^20:=by
 unfold pQ;have h0:0<=Int.fmod l.sum 100003:=Hu _ Y;have h1:Int.fmod l.sum 100003<100003:=Hq _ Y
 lia
theorem R5(l:za6)(HQ:X Q (aN T (BZ T F0 60) (CT.drop 4) false (L6 .L .L .L .L .L) (mem (B9 l)++[]))):
  X Q (aN T (BZ T F0 60) (CT.drop 1) false [.fn 1000,.ref 0,.L,.L,.L,.L,.L,.L,.L,.L,.L,.L,.L,.L,.L,.L,.L,.L] [.list (l.map .int)]):=by
 have md:∀{x:Int} {σ:St},binop .mod (.int x) (.int 100003) σ= .ok (.int (Int.fmod x 100003)) σ:=λ{x σ}=>rfl;have ml:∀{x:Int} {σ:St},0<=x->x<100003->binop .mul (.int x) (.int 7) σ= .ok (.int (x*7)) σ:=λ{x σ} h0 h1=>qF (by rw[eG (by lia) (qW (nH h1 Y))];rfl);have m2:=ml (σ:=[.list (l.map .int)]) (Hu l.sum (by decide:(0:Int)<100003)) (Hq l.sum Y);refine aH (cG (C Z (C Z (C Z (C (bZ (bZ (Xv (C Z ak) (mP Z)) Z md) Z m2) ak)))))<|aH (xT ak (z5 _ _)) ?_;refine aH (xT (C Z (C (cG ak) ak)) (zS l (pQ l) xE Cn)) ?_;rw[dH] at HQ;exact HQ
theorem R0(l:za6):∃B σ,aN T (BZ T F0 60) (CT.drop 1) false [.fn 1000,.ref 0,.L,.L,.L,.L,.L,.L,.L,.L,.L,.L,.L,.L,.L,.L,.L,.L] [.list (l.map .int)]= .done (.ret (.bool true)) B σ:=by
 have S:=mS;generalize YY:(λd=>BZ T F0 d)=Φ at S;have e60:BZ T F0 60=Φ 60:=by rw[<- YY]
 obtain⟨s0,s1⟩:=ZC l;have H0:CW (B9 l):=⟨Int.le_refl _,pL _,Int.le_refl _,s0,s1⟩;refine gZ (pick (d:=59) (O:=[]) S H0 3 Y Y) λp g1 hp h1 e1=>?_;have e1:=e1 (L6 .L .L .L .L .L) (D 3) Z Z;refine gZ (pick (d:=59) (O:=[]) S h1.ok 6 Y Y) λkk g2 hk h2 e2=>?_;have e2:=e2 (L6 (.int p) .L .L .L .L) (D 6) Z Z;refine rC (mu (d:=10) (O:=[]) (w:=.int p) (k:=.int kk) (v:=.L) (n:=.L) (x7:=.L) S h2.ok) λg3 t3 T8 h3 l3 a3 go3=>?_;refine rC (mh (d:=10) (O:=[]++T8) (w:=.int p) (k:=.int kk) (v:=.L) (n:=.L) S h3.ok l3 a3) λg4 t vE h4 lt at_ go4=>?_;obtain⟨P2,nm⟩:=rZ S (bO lt (dl Z));rw[aX] at nm;generalize(([]++T8)++vE)++P2=Fh at nm;refine uh (AG (d:=10) (O:=Fh) (w:=.int p) (n:=.L) (kk:=kk) S h4.ok lt) λg6 t1 e1' h6 N6 go6=>?_;refine CY (AF (d:=10) (O:=Fh) (w:=.int p) (kk:=kk) (x7:=.str t) (v:=iH (cT t)) S h6.ok N6) λg7 t7 e7 P1 h7 N NY=>?_;generalize Fh++P1=τ at NY;have hd:=((((h1.trans h2).trans h3).trans h4).trans h6).trans h7
 have front:∀{Q:za1},X Q (aN T (Φ 60) (CT.drop 12) false (L6 (.int p) (.int kk) (.str t) (iH (cT t)) (bQ t7 e7)) (mem g7++τ))->X Q (aN T (BZ T F0 60) (CT.drop 1) false [.fn 1000,.ref 0,.L,.L,.L,.L,.L,.L,.L,.L,.L,.L,.L,.L,.L,.L,.L,.L] [.list (l.map .int)]):=λHQ=>by refine R5 l ?_;rw[e60];refine aH e1 (aH e2 (go3 (go4 ?_)));exact aH (aD (C Z ak) nm) (go6 (NY HQ))
 have Lg:LI g7 250 900:=⟨hd.ok,by rw[hd.ts];show xE.length<=250;decide,by rw[hd.fs];show Cn.length<=250;decide,by rw[hd.hp];show 0<=900;decide,⟨Dk,.inl hd.xs⟩⟩
 by_cases h:p=2
 .
  refine gZ (pick (d:=59) (O:=τ) S hd.ok 4 Y Y) λq g8 hq h8 e8=>?_;have e8:=e8 (L6 (.int p) (.int kk) (.str t) (iH (cT t)) (bQ t7 e7)) (D 4) Z Z
  have qk:∃(g9:GS) (Fc:We) (A:El),LI g9 300 1000/\(∀ j,A= .a j->∃s,g9.ts[j]?=some s/\s.length<=30/\∀c∈s,jR c)/\(∀ j,A= .v j->2<=j)/\aV T (Φ 60) false (.ite (.cmp .lt (Cf 81 [(J 2),(D 4)]) (D 3)) (.tup [(Ls [97]),(.aG (J 3) 15 [(J 7)])]) (.idx (.list [(.tup [(Ls [118]),(D 2)]),(.tup [(Ls [105]),(D 7)])]) (Cf 81 [(J 2),(D 2)]))) (L6 (.int p) (.int kk) (.str t) (iH (cT t)) (bQ t7 e7)) (mem g7++τ)= .ok A.tm (mem g9++Fc):=by
   by_cases h3:q<3
   .have Lv:=o8 (d:=59) (hd:=false) (g:=g8) (O:=τ) (t:=t) S (by rw[h8.ts];have:=Lg.lt;exact dD this (dm Z));have la:=jQ (ts:=g8.ts) (t:=t);refine(oG ({g8 with ts:=cQ g8.ts t}) τ (.a (cO g8.ts t)) (⟨⟨h8.ok.Il,h8.ok.Ld,h8.ok.Dw,h8.ok.pQ,h8.ok.zW⟩,?_,?_,?_,?_⟩) (λj q=>?_) (λj q=>(nomatch q)) ?_)
    .show(cQ g8.ts t).length<=_;rw[h8.ts] at la ⊢;have:=Lg.lt;exact fH this la
    .show g8.fs.length<=_;rw[h8.fs];have:=Lg.lf;exact bO this (dl Z)
    .show g8.hp.length<=_;rw[h8.hp];have:=Lg.hp;exact bO this (dl Z)
    .show ∃u,g8.xs=[u]\/_;rw[h8.xs];exact Lg.xs
    .cases q
     refine(oH t ?_ (by exact bO lt (dl Z)) at_);have:=Hb (ts:=cQ g8.ts t) (t:=t) gO
     rwa [jk] at this
    .exact fJ (aP e8 Z (cz (p:=(q:Int)<3) (by exact Bc h3))) (bM (C Z (C (bJ Z Z (C Z ak) Lv) ak)))
   .have el:aV T (Φ 60) false (.list [(.tup [(Ls [118]),(D 2)]),(.tup [(Ls [105]),(D 7)])]) (L6 (.int p) (.int kk) (.str t) (iH (cT t)) (bQ t7 e7)) (mem g8++τ)= .ok (.ref (τ.length+16)) (mem g8++(τ++[AO.list [(El.v 2).tm,(El.i 7).tm]])):=by refine(cG (C Z (C Z ak))).trans ?_;rw[aX];rfl
    refine gZ (pick (d:=59) (O:=τ++[AO.list [(El.v 2).tm,(El.i 7).tm]]) S h8.ok 2 Y Y) λr g9 hr h9 e9=>?_;have e9:=e9 (L6 (.int p) (.int kk) (.str t) (iH (cT t)) (bQ t7 e7)) (D 2) Z Z
    have sel:∃A:El,[(El.v 2).tm,(El.i 7).tm][r]?=some A.tm/\(∀ j,A≠.a j)/\∀j,A= .v j->2<=j:=by
     match r,hr with
     |0,_=>exact(oH (.v 2) Z (λj q=>(nomatch q)) (λj q=>by cases q;exact bR _))
     |1,_=>exact(oH (.i 7) Z (λj q=>(nomatch q)) (λj q=>nomatch q))
    refine um sel λA hA na nv=>?_;have B6:=h8.trans h9;refine(oG g9 _ A ⟨B6.ok,by rw[B6.ts];have:=Lg.lt;exact bO this (dl Z),by rw[B6.fs];have:=Lg.lf;exact bO this (dl Z),by rw[B6.hp];have:=Lg.hp;exact bO this (dl Z),by rw[B6.xs];exact Lg.xs⟩ (λj q=>absurd q (na j)) nv (fK (aP e8 Z (bN (p:=(q:Int)<3) (by exact Bb (iW h3)))) (bB el e9 (fV gb hA))))
  refine rC qk λg9 Fc A L9 hA hv ev=>?_;refine mK (Z8 (d:=10) (O:=Fc) (A:=A) S L9 N hA hv (B:=(L6 (.int p) (.int kk) (.str t) (iH (cT t)) (bQ t7 e7)).set 10 A.tm) Z Z Z Z (AD:=CT.drop 13)) λbx σ' r=>?_;refine(eO bx σ' (gP (front ?_)));refine aW (cz (p:=(p:Int)=2) (by exact sZ h))<|aH ev r
 .refine mK (ZK (d:=10) (O:=τ) (p:=p) (k:=.int kk) (v:=iH (cT t)) (nm:=.L) (cd:=.L) (a:=.L) (b:=.L) (c:=.L) (e:=.L) (f:=.L) (h:=.L) S (g:=g7) ⟨Lg.ok,by have:=Lg.lt;exact bO this (dl Z),by have:=Lg.lf;exact bO this (dl Z),by have:=Lg.hp;exact bO this (dl Z),Lg.xs⟩ lt at_ N) λbx σ' r=>?_;refine(eO bx σ' (gP (front ?_)));refine aL (bN (p:=(p:Int)=2) (by exact qI h))<|r
end
noncomputable section
theorem CC(P:Params):FH P=F0:=funext λf=>CB P f
theorem Wq:(Aw.body.drop 1).map (cS G Nm 39 uB)=CT.drop 1:=by kernel_rfl
theorem aT:(LK 1000).set 1 (.ref 0)=[.fn 1000,.ref 0,.L,.L,.L,.L,.L,.L,.L,.L,.L,.L,.L,.L,.L,.L,.L,.L]:=by kernel_rfl
theorem Wo:Q6:=λw h u l ir hl=>by refine mK (R0 l) λB σ r=>?_;refine(eO B σ (λA k env CE s ρ Q E ok F a HP=>?_));have W:oA (XX w h u) G Nm (FH w.params):=Uh ir;refine K4 (W.yY (oA.BZ W 60) 39) _ A k env uB CE _ _ s ρ _ Q E ok F a ?_;rw[Wq,aT,CC];rw[show aN (XX w h u).T (BZ (XX w h u).T F0 60) (CT.drop 1) false [.fn 1000,.ref 0,.L,.L,.L,.L,.L,.L,.L,.L,.L,.L,.L,.L,.L,.L,.L,.L] [.list (l.map .int)]=_ from r];exact HP
theorem RC:L0.row.toRowW.promised:=(aZ ([.list []]) (by kernel_rfl) (by kernel_rfl))
theorem Tv:L0.Holds:=head RC (Wn Wo)
end
end Mine.Internal
theorem PySem.Challenge.cw_no0204_01_holds : PySem.Challenge.rw_no0204_01.Holds :=
 Mine.Internal.Tv
