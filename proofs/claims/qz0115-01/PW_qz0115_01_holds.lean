import PyProof.Rows.All
import PyProof.SliceMore
import Wide.All
import OpenK.AllK
import Lean
import PySem.Challenge.RW_qz0115_01
set_option maxRecDepth 100000
set_option tactic.hygienic false
set_option linter.unusedVariables false
set_option maxHeartbeats 0
set_option Elab.async false
set_option maxErrors 100000
set_option linter.all false
local macro_rules |`(∅)=>`(by kernel_rfl)
local macro_rules |`(#[])=>`(by decide)
noncomputable section
namespace Mine.Internal.RI
open PySem
section
open PySem.W
def P0:=@Option.some.inj
def P1:=@List.getElem?_eq_some_iff
def P2:=@Nat.le_of_eq
def P3:=@List.length_append
def P4:=@if_neg
def P5:=@Nat.le_refl
def P6:=@List.length_map
def P7:=@PySem.wpAny_pure
def P8:=@if_pos
def P9:=@Nat.le_trans
def P':=@Nat.lt_succ_self
def P_:=@PySem.Heap.get?_push_of_some
def PW:=@List.mem_of_getElem?
def PX:=@List.getElem?_eq_none_iff
def PY:=@List.mem_append
def PZ:=@List.mem_append_right
def Q0:=@Nat.le_antisymm
def Q1:=@List.append_nil
def Q2:=@PySem.Heap.size_push
def Q3:=@congrArg
def Q4:=@Nat.le_succ
def Q5:=@PySem.Heap.lt_size
def Q6:=@Nat.ne_of_lt
def Q7:=@List.getElem?_map
def Q8:=@Nat.not_lt_zero
def Q9:=@List.mem_append_left
def Q':=@PySem.Heap.get?_push_size
def Q_:=@Nat.le_add_right
def Qa:=@List.mem_map
def Qb:=@PySem.wpAny_holding
def Qc:=@List.drop_eq_getElem_cons
def Qd:=@trivial
def Qe:=@List.size_toArray
def Qf:=@List.append_assoc
def Qg:=@List.lookup_cons
def Qh:=@List.nodup_append
def Qi:=@List.mem_cons_self
def Qj:=@List.drop_eq_nil_of_le
def Qk:=@beq_eq_false_iff_ne
def Ql:=@List.contains_iff_mem
def Qm:=@Bool.and_eq_true
def Qn:=@Nat.lt_irrefl
def Qo:=@Nat.le_of_add_right_le
def Qp:=@Nat.zero_le
def Qq:=@List.drop_zero
def Qr:=@PySem.wpAny_standAt
def Qs:=@List.mem_cons_of_mem
def Qt:=@Bool.false_ne_true
def Qu:=@Nat.add_le_add_left
def Qv:=@PySem.Heap.SameBut.update
def Qw:=@Nat.le_of_lt_succ
def Qx:=@decide_eq_true_iff
def Qy:=@Ne.symm
def Qz:=@beq_self_eq_true
def QA:=@List.length_cons
def QB:=@List.map_congr_left
def QC:=@PySem.wpAny_mono
def QD:=@PySem.Heap.get?_update_self
def QE:=@Nat.le_succ_of_le
def QF:=@decide_eq_false_iff_not
def QG:=@PySem.sizeLine_eq
def QH:=@List.pairwise_cons
def QI:=@List.mem_of_mem_take
def QJ:=@List.dropLast_concat
def QK:=@PySem.wpAny_loadPart_at
def QL:=@PySem.wpAny_field
def QM:=@List.map_cons
def QN:=@Nat.ne_of_gt
def QO:=@PySem.Obj.data_mapFields
def QP:=@List.contains_cons
def QQ:=@Nat.succ_ne_zero
def QR:=@Nat.mul_le_mul_right
def QS:=@Nat.add_sub_cancel_left
def QT:=@Nat.add_le_add_right
def QU:=@List.all_eq_true
def QV:=@Option.map_eq_some_iff
def QW:=@List.getElem?_append_right
def QX:=@List.flatten_cons
def QY:=@Array.getElem?_setIfInBounds_ne
def QZ:=@Nat.succ_le_succ
def R':=@Nat.not_lt
def RA:=@List.getElem?_append_left
def RB:=@List.getElem?_eq_getElem
def RC:=@Nat.le_of_ble_eq_true
def RD:=@List.mem_cons
def R_:=@PySem.wpAny_bind
def Ra:=@Nat.lt_of_lt_of_le
def Rb:=@Nat.lt_succ_of_lt
def Rc:=@List.not_mem_nil
def Rd:=@List.map_append
def Re:=@List.mem_singleton
end
namespace H
open PySem.W PySem.Calls PyProof.Rows
theorem on(b:a=true)(k:g=true):(a&&g)=true:=by rw[b,k];rfl
theorem Gm:(sreFenced PySem.Challenge.rw_qz0115_01.row.prog.main&&((moduleNames PySem.Challenge.rw_qz0115_01.row.prog.main.body).isEmpty||lookedIntoSs (moduleNames PySem.Challenge.rw_qz0115_01.row.prog.main.body) PySem.Challenge.rw_qz0115_01.row.prog.main.body))=true:=∅
set_option maxHeartbeats 0 in
theorem Af:namesResolve PySem.Challenge.rw_qz0115_01.row.prog=true:=(congrFun PySem.W.Fast.te8377067652309620493 _).trans ∅
theorem zz:PySem.Challenge.rw_qz0115_01.row.prog.boundNames.all (λn=>!worldNames.contains n)=true:=∅
set_option maxHeartbeats 0 in
theorem jD:(["vars","dir","locals"]:List Str).filter (readsOut PySem.Challenge.rw_qz0115_01.row.prog PySem.Challenge.rw_qz0115_01.row.prog.main.body)=[]:=by rw[PySem.W.Fast.te13343964577679436407];kernel_rfl
set_option maxHeartbeats 0 in
theorem Mn:noRoadLSs {strict:=!(importedModules PySem.Challenge.rw_qz0115_01.row.prog.main.body).all cThrough.contains,foot:=none,bare:=(["vars","dir","locals"]:List Str).filter<|readsOut PySem.Challenge.rw_qz0115_01.row.prog PySem.Challenge.rw_qz0115_01.row.prog.main.body} PySem.Challenge.rw_qz0115_01.row.prog.main.body=true:=by rw[jD];exact(congrFun (congrFun PySem.W.Fast.te8326940854005059898 _) _).trans ∅
set_option maxHeartbeats 0 in
theorem Eh:namesMeet PySem.Challenge.rw_qz0115_01.row.prog PySem.Challenge.rw_qz0115_01.row.prog.main.body (λ_ n=>attrL n)=true:=(congrFun (congrFun (congrFun PySem.W.Fast.te17119622794617984870 _) _) _).trans ∅
theorem EY:looksOpen PySem.Challenge.rw_qz0115_01.row.prog=true:=by unfold looksOpen;exact on (on (on (on Gm Af) zz) Mn) Eh
theorem Ij:PySem.Challenge.rw_qz0115_01.row.wellSaid=true:=by unfold OpenRow.wellSaid OpenRow.partSaid;rw[EY];kernel_rfl
set_option maxHeartbeats 0 in
theorem Mt:PySem.Challenge.rw_qz0115_01.wellSaid=true:=by unfold OpenLaw.wellSaid;rw[Ij];kernel_rfl
end H
section
set_option tactic.hygienic true
set_option genCtorIdx false
theorem gU{a:Prop}(b:true=false):a:=Bool.noConfusion b
theorem gz{a:Prop}(b:false=true):a:=Bool.noConfusion b
theorem bm{c:Prop}(b:none=some a):c:=by cases b
theorem h2{c:Prop}(b:some a=none):c:=by cases b
@[elab_as_elim] theorem Z{a g:d}{c:d->Prop}(b:a=g)(x:c g):c a:=b▸x
@[elab_as_elim] theorem ad{a g:d}{c:d->Prop}(b:a=g)(x:c a):c g:=b▸x
@[elab_as_elim] theorem c2{c:d->Prop}(a:d)(b:∀x,c x):c a:=b a
theorem aZ{a:Prop}(b:∀c:Prop,(a->c)->c):a:=b a id
theorem bs{a:Prop}(b:P/\Q)(k:P->Q->a):a:=by obtain⟨c,d⟩:=b;exact k c d
theorem eN{a:Prop}(b:P/\Q/\R)(k:P->Q->R->a):a:=by obtain⟨c,d,e⟩:=b;exact k c d e
theorem lC{a:Prop}(b:P/\Q/\R/\S)(k:P->Q->R->S->a):a:=by obtain⟨c,d,e,f⟩:=b;exact k c d e f
theorem tq{a:Prop}(b:P/\Q/\R/\S/\T)(k:P->Q->R->S->T->a):a:=by obtain⟨c,d,e,f,g⟩:=b;exact k c d e f g
theorem fj{a:Prop}(b:P/\Q/\R/\S/\T/\c)(k:P->Q->R->S->T->c->a):a:=by obtain⟨d,e,f,g,h,i⟩:=b;exact k d e f g h i
theorem tx{a:Prop}(b:P/\Q/\R/\S/\T/\c/\d)(k:P->Q->R->S->T->c->d->a):a:=by obtain⟨e,f,g,h,i,j,l⟩:=b;exact k e f g h i j l
theorem bA{P:e->Prop}{c:Prop}(b:∃a,P a)(k:∀a,P a->c):c:=by obtain⟨a,d⟩:=b;exact k a d
theorem ah{P Q:f->Prop}{c:Prop}(b:∃a,P a/\Q a)(k:∀a,P a->Q a->c):c:=by obtain⟨a,d,e⟩:=b;exact k a d e
theorem cM{P Q R:g->Prop}{c:Prop}(b:∃a,P a/\Q a/\R a)(k:∀a,P a->Q a->R a->c):c:=by obtain⟨a,d,e,f⟩:=b;exact k a d e f
theorem nv{P Q R S:h->Prop}{c:Prop}(b:∃a,P a/\Q a/\R a/\S a)(k:∀a,P a->Q a->R a->S a->c):c:=by obtain⟨a,d,e,f,g⟩:=b;exact k a d e f g
theorem qg{P Q R S T:i->Prop}{c:Prop}(b:∃a,P a/\Q a/\R a/\S a/\T a)(k:∀a,P a->Q a->R a->S a->T a->c):c:=by obtain⟨a,d,e,f,g,h⟩:=b;exact k a d e f g h
theorem eU{P:e->f->Prop}{c:Prop}(b:∃a g,P a g)(k:∀a g,P a g->c):c:=by obtain⟨a,g,d⟩:=b;exact k a g d
theorem bZ{P Q:f->h->Prop}{c:Prop}(b:∃a g,P a g/\Q a g)(k:∀a g,P a g->Q a g->c):c:=by obtain⟨a,g,d,e⟩:=b;exact k a g d e
theorem c5{P Q R:h->i->Prop}{c:Prop}(b:∃a g,P a g/\Q a g/\R a g)(k:∀a g,P a g->Q a g->R a g->c):c:=by obtain⟨a,g,d,e,f⟩:=b;exact k a g d e f
theorem hU{P Q R S:i->j->Prop}{c:Prop}(b:∃a g,P a g/\Q a g/\R a g/\S a g)(k:∀a g,P a g->Q a g->R a g->S a g->c):c:=by obtain⟨a,g,d,e,f,h⟩:=b;exact k a g d e f h
theorem yq{P Q R S T:j->l->Prop}{c:Prop}(b:∃a g,P a g/\Q a g/\R a g/\S a g/\T a g)(k:∀a g,P a g->Q a g->R a g->S a g->T a g->c):c:=by obtain⟨a,g,d,e,f,h,i⟩:=b;exact k a g d e f h i
theorem mt{P Q R S T d:m->n->Prop}{c:Prop}(b:∃a g,P a g/\Q a g/\R a g/\S a g/\T a g/\d a g)(k:∀a g,P a g->Q a g->R a g->S a g->T a g->d a g->c):c:=by obtain⟨a,g,e,f,h,i,j,l⟩:=b;exact k a g e f h i j l
theorem jT{h i j:Sort _}{P Q:h->i->j->Prop}{d:Prop}(b:∃a g c,P a g c/\Q a g c)(k:∀a g c,P a g c->Q a g c->d):d:=by obtain⟨a,g,c,e,f⟩:=b;exact k a g c e f
theorem rt{i j l:Sort _}{P Q R:i->j->l->Prop}{d:Prop}(b:∃a g c,P a g c/\Q a g c/\R a g c)(k:∀a g c,P a g c->Q a g c->R a g c->d):d:=by obtain⟨a,g,c,e,f,h⟩:=b;exact k a g c e f h
theorem h'{j l m:Sort _}{P Q R S:j->l->m->Prop}{d:Prop}(b:∃a g c,P a g c/\Q a g c/\R a g c/\S a g c)(k:∀a g c,P a g c->Q a g c->R a g c->S a g c->d):d:=by obtain⟨a,g,c,e,f,h,i⟩:=b;exact k a g c e f h i
theorem MX{n o p:Sort _}{P Q R S T e:n->o->p->Prop}{d:Prop}(b:∃a g c,P a g c/\Q a g c/\R a g c/\S a g c/\T a g c/\e a g c)(k:∀a g c,P a g c->Q a g c->R a g c->S a g c->T a g c->e a g c->d):d:=by obtain⟨a,g,c,f,h,i,j,l,m⟩:=b;exact k a g c f h i j l m
theorem KC{i j l m:Sort _}{P Q:i->j->l->m->Prop}{e:Prop}(b:∃a g c d,P a g c d/\Q a g c d)(k:∀a g c d,P a g c d->Q a g c d->e):e:=by obtain⟨a,g,c,d,f,h⟩:=b;exact k a g c d f h
theorem mn{j l m n:Sort _}{P Q R:j->l->m->n->Prop}{e:Prop}(b:∃a g c d,P a g c d/\Q a g c d/\R a g c d)(k:∀a g c d,P a g c d->Q a g c d->R a g c d->e):e:=by obtain⟨a,g,c,d,f,h,i⟩:=b;exact k a g c d f h i
theorem yC{m n o p q:Sort _}{P Q R S:m->n->o->p->q->Prop}{f:Prop}(b:∃a g c d e,P a g c d e/\Q a g c d e/\R a g c d e/\S a g c d e)(k:∀a g c d e,P a g c d e->Q a g c d e->R a g c d e->S a g c d e->f):f:=by obtain⟨a,g,c,d,e,h,i,j,l⟩:=b;exact k a g c d e h i j l
theorem b9{P Q R:Prop}(a:P)(b:Q)(c:R):P/\Q/\R:=⟨a,b,c⟩
theorem iN{P Q R S:Prop}(a:P)(b:Q)(c:R)(d:S):P/\Q/\R/\S:=⟨a,b,c,d⟩
theorem pt{P Q R S T:Prop}(a:P)(b:Q)(c:R)(d:S)(e:T):P/\Q/\R/\S/\T:=⟨a,b,c,d,e⟩
theorem io{P Q R S T a:Prop}(b:P)(c:Q)(d:R)(e:S)(f:T)(g:a):P/\Q/\R/\S/\T/\a:=⟨b,c,d,e,f,g⟩
theorem FT{b:Sort _}{P:b->Prop}(a:b)(c:P a):∃a,P a:=⟨a,c⟩
theorem am{b:Sort _}{P Q:b->Prop}(a:b)(c:P a)(d:Q a):∃a,P a/\Q a:=⟨a,c,d⟩
theorem cp{b:Sort _}{P Q R:b->Prop}(a:b)(c:P a)(d:Q a)(e:R a):∃a,P a/\Q a/\R a:=⟨a,c,d,e⟩
theorem kc{b:Sort _}{P Q R S:b->Prop}(a:b)(c:P a)(d:Q a)(e:R a)(f:S a):∃a,P a/\Q a/\R a/\S a:=⟨a,c,d,e,f⟩
theorem jG{b:Sort _}{P Q R S T:b->Prop}(a:b)(c:P a)(d:Q a)(e:R a)(f:S a)(g:T a):∃a,P a/\Q a/\R a/\S a/\T a:=⟨a,c,d,e,f,g⟩
theorem t1{c:Sort _}{P Q R S T b:c->Prop}(a:c)(d:P a)(e:Q a)(f:R a)(g:S a)(h:T a)(i:b a):∃a,P a/\Q a/\R a/\S a/\T a/\b a:=⟨a,d,e,f,g,h,i⟩
theorem g'{b c:Sort _}{P:b->c->Prop}(a:b)(g:c)(d:P a g):∃a g,P a g:=⟨a,g,d⟩
theorem bq{b c:Sort _}{P Q:b->c->Prop}(a:b)(g:c)(d:P a g)(e:Q a g):∃a g,P a g/\Q a g:=⟨a,g,d,e⟩
theorem eb{b c:Sort _}{P Q R:b->c->Prop}(a:b)(g:c)(d:P a g)(e:Q a g)(f:R a g):∃a g,P a g/\Q a g/\R a g:=⟨a,g,d,e,f⟩
theorem jC{b c:Sort _}{P Q R S:b->c->Prop}(a:b)(g:c)(d:P a g)(e:Q a g)(f:R a g)(h:S a g):∃a g,P a g/\Q a g/\R a g/\S a g:=⟨a,g,d,e,f,h⟩
theorem p_{b c:Sort _}{P Q R S T:b->c->Prop}(a:b)(g:c)(d:P a g)(e:Q a g)(f:R a g)(h:S a g)(i:T a g):∃a g,P a g/\Q a g/\R a g/\S a g/\T a g:=⟨a,g,d,e,f,h,i⟩
theorem lO{c d:Sort _}{P Q R S T b:c->d->Prop}(a:c)(g:d)(e:P a g)(f:Q a g)(h:R a g)(i:S a g)(j:T a g)(k:b a g):∃a g,P a g/\Q a g/\R a g/\S a g/\T a g/\b a g:=⟨a,g,e,f,h,i,j,k⟩
theorem l0{b d e:Sort _}{P Q:b->d->e->Prop}(a:b)(g:d)(c:e)(f:P a g c)(h:Q a g c):∃a g c,P a g c/\Q a g c:=⟨a,g,c,f,h⟩
theorem DB{b d e:Sort _}{P Q R:b->d->e->Prop}(a:b)(g:d)(c:e)(f:P a g c)(h:Q a g c)(i:R a g c):∃a g c,P a g c/\Q a g c/\R a g c:=⟨a,g,c,f,h,i⟩
theorem kN{b d e:Sort _}{P Q R S:b->d->e->Prop}(a:b)(g:d)(c:e)(f:P a g c)(h:Q a g c)(i:R a g c)(j:S a g c):∃a g c,P a g c/\Q a g c/\R a g c/\S a g c:=⟨a,g,c,f,h,i,j⟩
theorem s3{d e f:Sort _}{P Q R S T b:d->e->f->Prop}(a:d)(g:e)(c:f)(h:P a g c)(i:Q a g c)(j:R a g c)(k:S a g c)(l:T a g c)(m:b a g c):∃a g c,P a g c/\Q a g c/\R a g c/\S a g c/\T a g c/\b a g c:=⟨a,g,c,h,i,j,k,l,m⟩
theorem Cu{d e f h:Sort _}{P Q:d->e->f->h->Prop}(a:d)(g:e)(c:f)(b:h)(i:P a g c b)(j:Q a g c b):∃a g c b,P a g c b/\Q a g c b:=⟨a,g,c,b,i,j⟩
theorem mx{d e f h:Sort _}{P Q R:d->e->f->h->Prop}(a:d)(g:e)(c:f)(b:h)(i:P a g c b)(j:Q a g c b)(k:R a g c b):∃a g c b,P a g c b/\Q a g c b/\R a g c b:=⟨a,g,c,b,i,j,k⟩
theorem pW{d e f h:Sort _}{P Q R S:d->e->f->h->Prop}(a:d)(g:e)(c:f)(b:h)(i:P a g c b)(j:Q a g c b)(k:R a g c b)(l:S a g c b):∃a g c b,P a g c b/\Q a g c b/\R a g c b/\S a g c b:=⟨a,g,c,b,i,j,k,l⟩
theorem w1{d e f h:Sort _}{P Q R S T:d->e->f->h->Prop}(a:d)(g:e)(c:f)(b:h)(i:P a g c b)(j:Q a g c b)(k:R a g c b)(l:S a g c b)(m:T a g c b):∃a g c b,P a g c b/\Q a g c b/\R a g c b/\S a g c b/\T a g c b:=⟨a,g,c,b,i,j,k,l,m⟩
theorem MY{d f h i j k:Sort _}{P Q R S T:d->f->h->i->j->k->Prop}(a:d)(g:f)(c:h)(b:i)(e:j)(l:k)(m:P a g c b e l)(n:Q a g c b e l)(o:R a g c b e l)(p:S a g c b e l)(q:T a g c b e l):∃a g c b e l,P a g c b e l/\Q a g c b e l/\R a g c b e l/\S a g c b e l/\T a g c b e l:=⟨a,g,c,b,e,l,m,n,o,p,q⟩
@[elab_as_elim] theorem NB{a:Nat->Prop}{k:Nat}(c:a 0)(d:a 1)(b:k<2):a k:=by induction k using Nat.casesOn with|zero=>exact c|succ k=>induction k using Nat.casesOn with|zero=>exact d|succ k=>exact absurd (Nat.lt_of_succ_lt_succ<|Nat.lt_of_succ_lt_succ b)<|Q8 _
@[elab_as_elim] theorem Nx{a:Nat->Prop}{k:Nat}(c:a 0)(d:a 1)(e:a 2)(b:k<3):a k:=by induction k using Nat.casesOn with|zero=>exact c|succ k=>exact NB (a:=λk=>a<|k+1) d e<|Nat.lt_of_succ_lt_succ b
theorem NL{d:Type}{f:List d}(b:f.length<=1)(n:f≠[]):∃c,f=[c]:=by induction f using List.casesOn with|nil=>exact absurd rfl n|cons a r=>exact FT a<|Q3 (List.cons a)<|List.eq_nil_of_length_eq_zero<|Nat.le_zero.1<|Nat.le_of_succ_le_succ b
theorem NJ{c:Type}{R:c->c->Prop}{f:List c}(b:f.length<=1):f.Pairwise R:=by induction f using List.casesOn with|nil=>exact .nil|cons a r=>exact Z (List.eq_nil_of_length_eq_zero<|Nat.le_zero.1<|Nat.le_of_succ_le_succ b)<|List.pairwise_singleton _ _
set_option genSizeOf false in
set_option genInjectivity false in
inductive hR|e(k:Nat)|b(a:Nat)|h(x t:hR)|hf(x:hR)(k:Nat)|x(k:Nat)(x:hR)
set_option genSizeOf false in
set_option genInjectivity false in
structure g0 where
 fn:Nat
 eZ:hR
 nT:hR
noncomputable def hR.e9(c:List Nat)(e:hR):Nat:=e.rec (λk=>k) (λb=>c.getD b 0) (λ_ _ a g=>a+g) (λ_ k a=>a*k) λk _ a=>k*a
noncomputable def iL:List Nat->List Nat->List Nat|[],t=>t|x,[]=>x|a::x,g::t=>(a+g)::iL x t
noncomputable def mT:Nat->List Nat|0=>[1]|a+1=>0::mT a
def hR.il(e:hR):List Nat:=e.rec (λk=>[k]) (λb=>0::mT b) (λ_ _ a g=>iL a g) (λ_ k a=>a.map (·*k)) λk _ a=>a.map (k*·)
noncomputable def p4:List Nat->List Nat->Bool|[],_=>true|a::x,[]=>Nat.ble a 0&&p4 x []|a::x,g::t=>Nat.ble a g&&p4 x t
noncomputable def eH(b:List Nat):List Nat->Nat|[]=>0|a::r=>a*b.headD 0+eH b.tail r
def l_(l:g0->hR)(a:List g0):List Nat:=a.rec [] λb _ s=>iL ((l b).il.map (b.fn*·)) s
def xJ(a:List g0)(x t:hR):Bool:=p4 (iL x.il<|l_ g0.nT a)<|iL t.il<|l_ g0.eZ a
def oB(a:List Nat)(c:Prop):List g0->Prop|[]=>c|b::r=>b.eZ.e9 a<=b.nT.e9 a->oB a c r
theorem rM(a:List Nat):eH a []=0:=rfl
theorem ky(x t b:List Nat):eH b (iL x t)=eH b x+eH b t:=by induction x generalizing t b with|nil=>exact(Nat.zero_add<|eH b t).symm|cons a x c=>induction t using List.casesOn with|nil=>exact rfl|cons g t=>show(a+g)*b.headD 0+eH b.tail (iL x t)=(a*b.headD 0+eH b.tail x)+(g*b.headD 0+eH b.tail t);rw[c t,Nat.add_mul];exact Nat.add_add_add_comm ..
theorem n7(k:Nat)(x b:List Nat):eH b (x.map (k*·))=k*eH b x:=by induction x generalizing b with|nil=>exact rfl|cons a x c=>show k*a*b.headD 0+eH b.tail (x.map (k*·))=k*(a*b.headD 0+eH b.tail x);rw[c,Nat.mul_add,Nat.mul_assoc]
theorem pR(x t c:List Nat)(b:p4 x t=true):eH c x<=eH c t:=by induction x generalizing t c with|nil=>exact Qp _|cons a x f=>induction t using List.casesOn with|nil=>obtain⟨d,e⟩:=Bool.and_eq_true_iff.1 b;have:=f [] c.tail e;rw[rM] at this;show a*_+eH _ x<=0;rw[Nat.le_zero.1 this,Nat.le_zero.1<|RC d,Nat.zero_mul];exact P5 _|cons g t=>obtain⟨d,e⟩:=Bool.and_eq_true_iff.1 b;exact Nat.add_le_add (QR _<|RC d)<|f t c.tail e
theorem qv(c:Nat)(b:List Nat):eH b (mT c)=b.getD c 0:=by induction c generalizing b with|zero=>(induction b using List.casesOn with|nil=>rfl|cons a b=>show 1*a+0=a;rw[Nat.one_mul];rfl)|succ c d=>induction b using List.casesOn with|nil=>show 0*0+eH [] (mT c)=0;rw[d];rfl|cons a b=>show 0*a+eH b (mT c)=_;rw[d,Nat.zero_mul,Nat.zero_add];rfl
theorem mW(c:List Nat)(e:hR):eH (1::c) e.il=e.e9 c:=by induction e with|e k=>show k*1+0=k;rw[Nat.mul_one];rfl|b d=>show 0*1+eH c (mT d)=_;rw[qv];exact Nat.zero_add _|h x t a f=>exact(ky x.il t.il _).trans (by rw[a,f];rfl)|hf x k a=>exact(show eH (1::c) (x.il.map (·*k))=x.e9 c*k by rw[show(x.il.map (·*k))=x.il.map (k*·) from QB λ_ _=>Nat.mul_comm ..,n7,a,Nat.mul_comm])|x k x a=>exact(n7 k x.il _).trans (by rw[a];rfl)
theorem sb(d:List Nat)(f:Prop)(c:List g0)(b:eH (1::d) (l_ g0.eZ c)<=eH (1::d) (l_ g0.nT c)->f):oB d f c:=by induction c with|nil=>exact b (P5 _)|cons a r h=>refine λe=>h λg=>b ?_;show eH _ (iL ((g0.eZ a).il.map (a.fn*·))<|l_ g0.eZ r)<=eH _ (iL ((g0.nT a).il.map (a.fn*·))<|l_ g0.nT r);rw[ky,ky,n7,n7,mW,mW];exact Nat.add_le_add (Nat.mul_le_mul_left _ e) g
theorem an(b:List g0)(x t:hR)(c:xJ b x t=true)(a:List Nat):oB a (x.e9 a<=t.e9 a) b:=sb a _ b λe=>by have:=pR _ _ (1::a) c;rw[ky,ky,mW,mW] at this;exact Nat.le_of_add_le_add_right<|P9 this<|Qu e _
theorem cV(a:List g0)(c:xJ a (.e 1) (.e 0)=true)(b:List Nat):oB b False a:=sb b _ a λe=>by have:=pR _ _ (1::b) c;rw[ky,ky,mW,mW] at this;exact Nat.not_succ_le_zero 0<|Nat.le_of_add_le_add_right<|P9 this<|Qu e _
end
section
set_option tactic.hygienic true
theorem aM{a c:Nat}(b:a<=g)(d:g<=c):a<=c:=P9 b d
theorem fp{a c:Nat}(b:a<=g)(d:g<c):a<c:=Nat.lt_of_le_of_lt b d
theorem gH{a c:Nat}(b:a<g)(d:g<=c):a<c:=Ra b d
theorem cv{a c:Nat}(b:a<=g):a<=c+g:=Nat.le_add_left_of_le b
theorem kk(b:a<=g):a<=g+1:=QE b
theorem gw{a:Nat}(b:a<g):a<=g:=Nat.le_of_lt b
theorem mo{a c:Nat}(b:a<=g):a<=g+c:=Nat.le_add_right_of_le b
theorem fw(a g:Nat):a<=a+g:=Q_ a g
theorem ix(a g:Nat):a<=g+a:=Nat.le_add_left a g
theorem lg{a g:Nat}(b:g<=a):a - g+g=a:=Nat.sub_add_cancel b
theorem gK{a g:Nat}(b:a<g):(a:Int)<g:=Int.ofNat_lt.2 b
theorem dw{a:Nat}(b:a=g):a<=g:=P2 b
theorem ff{a:Nat}(b:a<g):a≠g:=Q6 b
theorem fr{a g:Nat}(b:(a:Int)=g):a=g:=Int.ofNat.inj b
theorem iw(b:a<=g)(c:Nat):c+a<=c+g:=Qu b c
theorem o_(b:a<=g)(c:Nat):a+c<=g+c:=QT b c
theorem pZ{a c:Nat}(b:a<=g)(e:c<=d):a+c<=g+d:=Nat.add_le_add b e
theorem j_(b:a<=g):a+1<=g+1:=QZ b
theorem og(a:Nat):a<=a:=P5 a
theorem nD{a c:Nat}(b:a+g=a+c):g=c:=Nat.add_left_cancel b
theorem tp{a c:Nat}(b:a+g=c+g):a=c:=Nat.add_right_cancel b
theorem eP(b:a<=g):a<=g+1:=kk b
theorem hQ{a g k:Nat}(b:100000<=a)(c:g<=k)(y:Nat.ble (k+1) 100000=true):g - 0<a:=gH (Nat.lt_succ_of_le c)<|aM (RC y) b
theorem yK{a:Int}: -a<=(↑a.natAbs:Int):=ad (Int.natAbs_neg a)<|Int.le_natAbs (a:= -a)
theorem r0{a:Nat}: -1+(↑(a+1):Int)=(↑a:Int):=(Int.add_comm ..).trans<|Int.add_neg_cancel_right a 1
theorem iF(b:a<g+1)(c:¬a=g):a<g:=Nat.lt_of_le_of_ne (Qw b) c
theorem ga{a g c:Nat}(b:a - g<c+1)(d:g<a):a - (g+1)<c:=gH (Nat.sub_succ_lt_self a g d)<|Qw b
theorem pl{a g:Nat}(c:¬a<g):¬(↑a:Int)<(↑g:Int):=λb=>c<|Int.ofNat_lt.1 b
theorem wZ{a g:Nat}(b:a<=g):min (↑a:Int) (↑g:Int)=(↑a:Int):=Int.min_eq_left<|Int.ofNat_le.2 b
theorem un{a g:Nat}(b:a<=g):max 0 (min (↑a:Int) (↑g:Int))=(↑a:Int):=Z (wZ b)<|Int.max_eq_right<|Int.natCast_nonneg a
theorem pP{a g:Nat}(b:100000<=a)(c:g<3):1+g - 0<a:=hQ (k:=3) b (Z (Nat.add_comm 1 g) c) rfl
theorem sD{a g:Nat}(b:100000<=a)(c:g<64):g - 0<a:=hQ (k:=63) b (Qw c) rfl
theorem rH{a g c:Nat}(b:a+g=c):c - g=a:=ad b<|Nat.add_sub_cancel ..
theorem ve{a g:Nat}(b:a<g):g - a=g - (a+1)+1:=(Nat.succ_pred<|Nat.sub_ne_zero_of_lt b).symm
theorem vq{a g:Nat}(b:¬a<g):g - a=0:=Nat.sub_eq_zero_of_le<|R'.1 b
theorem sz{a g:Nat}(b:a<3)(c:g<=700):g+1+(a - 0)*3<=800:=an [⟨3,.h (.b 0)<|.e 1,.e 3⟩,⟨1,.b 1,.e 700⟩] (.h (.h (.b 1)<|.e 1)<|.hf (.b 0) 3) (.e 800) rfl [a,g] b c
theorem qP{a:Int}(b:a.natAbs<4611686018427387904): -2^62<a/\a<2^62:=⟨Int.neg_lt_of_neg_lt<|Int.lt_of_le_of_lt yK<|gK b,Int.lt_of_le_of_lt Int.le_natAbs<|gK b⟩
theorem tF{a:Nat}:max 0 (min (-1+(↑(a+1):Int)) (↑(a+1):Int))=(↑a:Int):=Z r0<|un<|Q4 a
theorem Dm:∀a:Nat,max 0 (min (-1+(↑a:Int)) (↑a:Int))=(↑(a - 1):Int)|0=>rfl|_+1=>tF
theorem EV{a g c k:Nat}(b:g<=a):a - g+c+k+g=a+k+c:=by obtain⟨d,rfl⟩:=Nat.le.dest b;rw[QS];exact Q0 (an [] (.h (.h (.h (.b 0)<|.b 1)<|.b 2)<|.b 3) (.h (.h (.h (.b 3)<|.b 0)<|.b 2)<|.b 1) rfl [d,c,k,g])<|an [] (.h (.h (.h (.b 3)<|.b 0)<|.b 2)<|.b 1) (.h (.h (.h (.b 0)<|.b 1)<|.b 2)<|.b 3) rfl [d,c,k,g]
theorem h3(b:a<3):a<=1000000:=aM (gw b) #[]
theorem jy(c:a<=g):¬a=g+1:=λb=>cV [⟨1,.b 0,.b 1⟩,⟨1,.h (.b 1)<|.e 1,.b 0⟩] rfl [a,g] c (P2 b.symm)
theorem jq{a c:Nat}(b:a<=g)(d:g<=c):a<=c:=aM b d
theorem kF{a g:Nat}(b:(↑a:Int)=(↑g:Int)):a=g:=fr b
theorem lA(b:a<=100000):a<=1000000:=cv b
theorem lp{a c:Nat}(b:a<=g):a<=g+c:=mo b
theorem m2(b:a<=1000):a<=1000000:=cv b
theorem mQ{a:Nat}(b:9<=a):a=a - 9+9:=(lg b).symm
theorem mi:¬6+a=4:=λb=>cV [⟨1,.h (.e 6)<|.b 0,.e 4⟩] rfl [a] (P2 b)
theorem mq(d:a<g)(e:c=g+1)(f:c<=b):a<b:=an [⟨1,.h (.b 0)<|.e 1,.b 1⟩,⟨1,.h (.b 1)<|.e 1,.b 2⟩,⟨1,.b 2,.b 3⟩] (.h (.b 0)<|.e 1) (.b 3) rfl [a,g,c,b] d (P2 e.symm) f
theorem pJ(b:0<a)(c:a=0):False:=cV [⟨1,.h (.e 0)<|.e 1,.b 0⟩,⟨1,.b 0,.e 0⟩] rfl [a] b (P2 c)
theorem m8(b:a<=1000000):a<=16777216:=cv b
theorem nN(b:a<=g):a<=g+2:=mo b
theorem nu:¬4=6+a:=λb=>cV [⟨1,.h (.e 6)<|.b 0,.e 4⟩] rfl [a] (P2 b.symm)
theorem nJ(b:a<=90000)(c:g<=a):g<=1000000:=aM (aM c b) #[]
theorem nC{a g:Nat}(b:¬a=g):¬(↑a:Int)=(↑g:Int):=λc=>b<|fr c
theorem ob:¬6+a=5:=λb=>cV [⟨1,.h (.e 6)<|.b 0,.e 5⟩] rfl [a] (P2 b)
theorem nr(d:a=g)(e:c<=g):¬c=a+1:=λb=>cV [⟨1,.b 1,.b 0⟩,⟨1,.b 2,.b 1⟩,⟨1,.h (.b 0)<|.e 1,.b 2⟩] rfl [a,g,c] (P2 d.symm) e (P2 b.symm)
theorem n9(b:a=g)(c:g<=2):a+1<=1000000:=an [⟨1,.b 0,.b 1⟩,⟨1,.b 1,.e 2⟩] (.h (.b 0)<|.e 1) (.e 1000000) rfl [a,g] (P2 b) c
theorem oE(b:a<=g):a+1<=g+1:=j_ b
theorem pb(b:a<=1000):a+1<=1000000:=fp b #[]
theorem oz{a:Nat}:¬(↑a:Int)<0:=Int.not_lt.2<|Int.natCast_nonneg a
theorem km{a:Nat}:¬-1=(↑a:Int):=nofun
theorem oH(b:a=g+1)(d:g<=c):a<=c+1:=an [⟨1,.b 0,.h (.b 1)<|.e 1⟩,⟨1,.b 1,.b 2⟩] (.b 0) (.h (.b 2)<|.e 1) rfl [a,g,c] (P2 b) d
theorem pi{a c:Nat}:a+(g+c)=a+c+g:=Q0 (an [] (.h (.b 0)<|.h (.b 1)<|.b 2) (.h (.h (.b 0)<|.b 2)<|.b 1) rfl [a,g,c])<|an [] (.h (.h (.b 0)<|.b 2)<|.b 1) (.h (.b 0)<|.h (.b 1)<|.b 2) rfl [a,g,c]
theorem sI{a:Nat}(b:100000<=a):a=a - 4+4:=(lg<|aM #[] b).symm
theorem oq(b:¬a=g):¬a+1=g+1:=λc=>b<|tp c
theorem o':a+1<=a+5:=iw #[] _
theorem op(b:a<=90000):a<=100000:=cv b
theorem pC(b:a<=90000):a<=1000000:=cv b
theorem p1(b:a<g)(d:c=g+1):a<c:=an [⟨1,.h (.b 0)<|.e 1,.b 1⟩,⟨1,.h (.b 1)<|.e 1,.b 2⟩] (.h (.b 0)<|.e 1) (.b 2) rfl [a,g,c] b (P2 d.symm)
theorem pA{a g:Nat}(b:100000<=a)(c:g<=2):g - 0<a:=hQ (k:=2) b c rfl
theorem pN(b:a<=2):a<=1000000:=cv b
theorem o8(b:a<=80000):a<=90000:=cv b
theorem oV{a:Nat}(b:¬a<g):g<=a:=Nat.le_of_not_lt b
theorem qT{a:Int}(b:a<2^62):a<2^63:=Int.lt_trans b #[]
theorem qo{a g:Nat}(b:(↑a:Int)= -1):a<g:=nomatch b
theorem rU(b:a<g+1)(c:¬a<g):a=g:=Q0 (an [⟨1,.h (.b 0)<|.e 1,.h (.b 1)<|.e 1⟩] (.b 0) (.b 1) rfl [a,g] b)<|an [⟨1,.b 1,.b 0⟩] (.b 1) (.b 0) rfl [a,g] (Nat.le_of_not_lt c)
theorem rC{a g:Nat}(b:100000<=a)(c:g<=3):g - 0<a:=hQ (k:=3) b c rfl
theorem r6:¬6+a=1:=λb=>cV [⟨1,.h (.e 6)<|.b 0,.e 1⟩] rfl [a] (P2 b)
theorem r_:¬6+a=3:=λb=>cV [⟨1,.h (.e 6)<|.b 0,.e 3⟩] rfl [a] (P2 b)
theorem qL:¬6+a=2:=λb=>cV [⟨1,.h (.e 6)<|.b 0,.e 2⟩] rfl [a] (P2 b)
theorem qZ(e:a<g)(f:c=g+1)(h:c<=d):¬d=a:=λb=>cV [⟨1,.h (.b 0)<|.e 1,.b 1⟩,⟨1,.h (.b 1)<|.e 1,.b 2⟩,⟨1,.b 2,.b 3⟩,⟨1,.b 3,.b 0⟩] rfl [a,g,c,d] e (P2 f.symm) h (P2 b)
theorem rs:¬2=6+a:=λb=>cV [⟨1,.h (.e 6)<|.b 0,.e 2⟩] rfl [a] (P2 b.symm)
theorem rP:¬3=6+a:=λb=>cV [⟨1,.h (.e 6)<|.b 0,.e 3⟩] rfl [a] (P2 b.symm)
theorem rm:¬5=6+a:=λb=>cV [⟨1,.h (.e 6)<|.b 0,.e 5⟩] rfl [a] (P2 b.symm)
theorem qi{a:Nat}(b:a<=1000000):(↑a:Int)<2^63:=Int.lt_of_le_of_lt (Int.ofNat_le.2 b) #[]
theorem rq(b:14<=a)(c:g<3):10+g<=a:=an [⟨1,.e 14,.b 0⟩,⟨1,.h (.b 1)<|.e 1,.e 3⟩] (.h (.e 10)<|.b 1) (.b 0) rfl [a,g] b c
theorem wf{a g:Nat}(b:100000<=a)(c:g<=5):g - 0<a:=hQ (k:=5) b c rfl
theorem w0(b:a=g)(c:g<=5):a<=1000000:=an [⟨1,.b 0,.b 1⟩,⟨1,.b 1,.e 5⟩] (.b 0) (.e 1000000) rfl [a,g] (P2 b) c
theorem uj{a:Nat}(c:0<a):¬(↑a:Int)=0:=λb=>QN c<|fr b
theorem xv(b:a<=900):a+1+1<=1000:=an [⟨1,.b 0,.e 900⟩] (.h (.h (.b 0)<|.e 1)<|.e 1) (.e 1000) rfl [a] b
theorem v4(b:a=13):14=a+1:=Q0 (an [⟨1,.e 13,.b 0⟩] (.e 14) (.h (.b 0)<|.e 1) rfl [a] (P2 b.symm))<|an [⟨1,.b 0,.e 13⟩] (.h (.b 0)<|.e 1) (.e 14) rfl [a] (P2 b)
theorem xK(b:a=g)(d:g<=c):a<=c+1:=an [⟨1,.b 0,.b 1⟩,⟨1,.b 1,.b 2⟩] (.b 0) (.h (.b 2)<|.e 1) rfl [a,g,c] (P2 b) d
theorem IC{a:Int}(b:¬0<=a):a<0:=Int.not_le.1 b
theorem vB{a:Int}(b: -2^62<a): -2^63<=a:=Int.le_of_lt<|Int.lt_trans #[] b
theorem wt{a g:Nat}(b:(↑(70+a):Int)=(↑(70+g):Int)):g=a:=(Nat.add_left_cancel<|fr b).symm
theorem yv(b:a+1+g<=9):a<=9:=an [⟨1,.h (.h (.b 0)<|.e 1)<|.b 1,.e 9⟩] (.b 0) (.e 9) rfl [a,g] b
theorem wo(b:a+2*g+10<=15000):a+2*g+1<=29000:=an [⟨1,.h (.h (.b 0)<|.x 2<|.b 1)<|.e 10,.e 15000⟩] (.h (.h (.b 0)<|.x 2<|.b 1)<|.e 1) (.e 29000) rfl [a,g] b
theorem vE(c:a<g):¬6+a=6+g:=λb=>cV [⟨1,.h (.b 0)<|.e 1,.b 1⟩,⟨1,.h (.e 6)<|.b 1,.h (.e 6)<|.b 0⟩] rfl [a,g] c (P2 b.symm)
theorem xa(b:a=g+1)(c:a<=g):False:=cV [⟨1,.h (.b 1)<|.e 1,.b 0⟩,⟨1,.b 0,.b 1⟩] rfl [a,g] (P2 b.symm) c
theorem xU{a:Nat}:(↑(a+1):Int) - 1=(↑a:Int):=Int.add_sub_cancel (a:Int) 1
theorem xl{a g:Nat}(c:¬a=g):¬(↑g:Int)=(↑a:Int):=λb=>c (fr b).symm
theorem vU(b:a+4*(g+1)<=90):a+4*g<=90:=an [⟨1,.h (.b 0)<|.x 4<|.h (.b 1)<|.e 1,.e 90⟩] (.h (.b 0)<|.x 4<|.b 1) (.e 90) rfl [a,g] b
theorem w4{a:Nat}:0<(↑(a+1):Int):=gK<|Nat.succ_pos a
theorem s1(b:34<=a)(c:a<=39):a=34\/a=35\/a=36\/a=37\/a=38\/a=39:=(#[]:∀a<40,34<=a->a=34\/a=35\/a=36\/a=37\/a=38\/a=39) a (Nat.lt_succ_of_le c) b
theorem wA(b:a+(g+1)<c):a<c:=an [⟨1,.h (.h (.b 0)<|.h (.b 1)<|.e 1)<|.e 1,.b 2⟩] (.h (.b 0)<|.e 1) (.b 2) rfl [a,g,c] b
theorem vn(b:a+(g+1)<c):a+1+g<c:=an [⟨1,.h (.h (.b 0)<|.h (.b 1)<|.e 1)<|.e 1,.b 2⟩] (.h (.h (.h (.b 0)<|.e 1)<|.b 1)<|.e 1) (.b 2) rfl [a,g,c] b
theorem va{a:Nat}:¬a+g<a:=λb=>cV [⟨1,.h (.h (.b 0)<|.b 1)<|.e 1,.b 0⟩] rfl [a,g] b
theorem xs{a g:Nat}(b:¬a<g):a=g+(a - g):=(Nat.add_sub_cancel'<|R'.1 b).symm
theorem wV(b:¬a<g)(c:¬a=g):g+1<=a:=Nat.lt_of_le_of_ne (R'.1 b)<|Qy c
theorem uE(b:a<3):1+a<=1000000:=an [⟨1,.h (.b 0)<|.e 1,.e 3⟩] (.h (.e 1)<|.b 0) (.e 1000000) rfl [a] b
theorem tu(b:a<3)(c:g=1+a):g<=1000000:=an [⟨1,.h (.b 0)<|.e 1,.e 3⟩,⟨1,.b 1,.h (.e 1)<|.b 0⟩] (.b 1) (.e 1000000) rfl [a,g] b (P2 c)
theorem ww{a:Nat}(b:0=1+a - 0):False:=absurd (b.trans<|Nat.add_comm 1 a) nofun
theorem yo(b:a<3)(c:g<=600):g+a*11<=700:=an [⟨11,.h (.b 0)<|.e 1,.e 3⟩,⟨1,.b 1,.e 600⟩] (.h (.b 1)<|.hf (.b 0) 11) (.e 700) rfl [a,g] b c
theorem vA(b:a<3)(d:g=a)(e:c=g):c<=3:=an [⟨1,.h (.b 0)<|.e 1,.e 3⟩,⟨1,.b 1,.b 0⟩,⟨1,.b 2,.b 1⟩] (.b 2) (.e 3) rfl [a,g,c] b (P2 d) (P2 e)
theorem tQ(b:a=3+2*g)(d:c=a):g+1<=c:=an [⟨1,.h (.e 3)<|.x 2<|.b 1,.b 0⟩,⟨1,.b 0,.b 2⟩] (.h (.b 1)<|.e 1) (.b 2) rfl [a,g,c] (P2 b.symm) (P2 d.symm)
theorem tV(c:a+1<=g):¬g+1=a+1:=λb=>cV [⟨1,.h (.b 0)<|.e 1,.b 1⟩,⟨1,.h (.b 1)<|.e 1,.h (.b 0)<|.e 1⟩] rfl [a,g] c (P2 b)
theorem xf:¬a+2=a+1:=λb=>cV [⟨1,.h (.b 0)<|.e 2,.h (.b 0)<|.e 1⟩] rfl [a] (P2 b)
theorem yj(b:a+g<=15000)(d:c<=a):c<=90000:=an [⟨1,.h (.b 0)<|.b 1,.e 15000⟩,⟨1,.b 2,.b 0⟩] (.b 2) (.e 90000) rfl [a,g,c] b d
theorem xw(b:a+(g+1)<=9):a+1+g<=9:=an [⟨1,.h (.b 0)<|.h (.b 1)<|.e 1,.e 9⟩] (.h (.h (.b 0)<|.e 1)<|.b 1) (.e 9) rfl [a,g] b
theorem t'(c:a=g+1):¬g+1=a+1:=λb=>cV [⟨1,.h (.b 1)<|.e 1,.b 0⟩,⟨1,.h (.b 0)<|.e 1,.h (.b 1)<|.e 1⟩] rfl [a,g] (P2 c.symm) (P2 b.symm)
theorem wn(b:a=g+1):g+2=a+1:=Q0 (an [⟨1,.h (.b 1)<|.e 1,.b 0⟩] (.h (.b 1)<|.e 2) (.h (.b 0)<|.e 1) rfl [a,g] (P2 b.symm))<|an [⟨1,.b 0,.h (.b 1)<|.e 1⟩] (.h (.b 0)<|.e 1) (.h (.b 1)<|.e 2) rfl [a,g] (P2 b)
theorem yz(d:a=g+1)(e:c<=g):¬c=a+1:=λb=>cV [⟨1,.h (.b 1)<|.e 1,.b 0⟩,⟨1,.b 2,.b 1⟩,⟨1,.h (.b 0)<|.e 1,.b 2⟩] rfl [a,g,c] (P2 d.symm) e (P2 b.symm)
theorem s2(b:a<=10)(c:g<=4*a):g<=1000000:=an [⟨4,.b 0,.e 10⟩,⟨1,.b 1,.x 4<|.b 0⟩] (.b 1) (.e 1000000) rfl [a,g] b c
theorem vf:¬1=6+a:=λb=>cV [⟨1,.h (.e 6)<|.b 0,.e 1⟩] rfl [a] (P2 b.symm)
theorem vm:¬a+2<=1:=λb=>cV [⟨1,.h (.b 0)<|.e 2,.e 1⟩] rfl [a] b
theorem xH(b:a=9+g):10+g=a+1:=Q0 (an [⟨1,.h (.e 9)<|.b 1,.b 0⟩] (.h (.e 10)<|.b 1) (.h (.b 0)<|.e 1) rfl [a,g] (P2 b.symm))<|an [⟨1,.b 0,.h (.e 9)<|.b 1⟩] (.h (.b 0)<|.e 1) (.h (.e 10)<|.b 1) rfl [a,g] (P2 b)
theorem w6:a+(g+1)=a+1+g:=Q0 (an [] (.h (.b 0)<|.h (.b 1)<|.e 1) (.h (.h (.b 0)<|.e 1)<|.b 1) rfl [a,g])<|an [] (.h (.h (.b 0)<|.e 1)<|.b 1) (.h (.b 0)<|.h (.b 1)<|.e 1) rfl [a,g]
theorem wb(b:a=g+1):4*g+1+3<=4*a:=an [⟨4,.h (.b 1)<|.e 1,.b 0⟩] (.h (.h (.x 4<|.b 1)<|.e 1)<|.e 3) (.x 4<|.b 0) rfl [a,g] (P2 b.symm)
theorem v6{a c:Nat}(b:a<g):c<=c+a/\c+a<c+g:=⟨fw _ _,Nat.add_lt_add_left b c⟩
theorem yD(b:a+200<=g):a<g:=an [⟨1,.h (.b 0)<|.e 200,.b 1⟩] (.h (.b 0)<|.e 1) (.b 1) rfl [a,g] b
theorem xb(b:a<=900)(c:g<=a+1):g<=16777216+1:=an [⟨1,.b 0,.e 900⟩,⟨1,.b 1,.h (.b 0)<|.e 1⟩] (.b 1) (.h (.e 16777216)<|.e 1) rfl [a,g] b c
theorem wG(b:a=g+1)(c:g<=50):a<=100:=an [⟨1,.b 0,.h (.b 1)<|.e 1⟩,⟨1,.b 1,.e 50⟩] (.b 0) (.e 100) rfl [a,g] (P2 b) c
theorem wX(b:a<=2*g):c+a+1<=c+2*g+1:=an [⟨1,.b 0,.x 2<|.b 1⟩] (.h (.h (.b 2)<|.b 0)<|.e 1) (.h (.h (.b 2)<|.x 2<|.b 1)<|.e 1) rfl [a,g,c] b
theorem Bx(b:a<g)(c:g<=1000):a<=1000000:=an [⟨1,.h (.b 0)<|.e 1,.b 1⟩,⟨1,.b 1,.e 1000⟩] (.b 0) (.e 1000000) rfl [a,g] b c
theorem MZ(b:3<=a+g)(d:g<=c):3<=a+c:=an [⟨1,.e 3,.h (.b 0)<|.b 1⟩,⟨1,.b 1,.b 2⟩] (.e 3) (.h (.b 0)<|.b 2) rfl [a,g,c] b d
theorem DZ(c:a<=12):¬a=14:=λb=>cV [⟨1,.b 0,.e 12⟩,⟨1,.e 14,.b 0⟩] rfl [a] c (P2 b.symm)
theorem Jq(b:a=14)(c:g<=12):g<=a:=an [⟨1,.e 14,.b 0⟩,⟨1,.b 1,.e 12⟩] (.b 1) (.b 0) rfl [a,g] (P2 b.symm) c
theorem Lm(b:a=13)(c:g<=12):g<=a:=an [⟨1,.e 13,.b 0⟩,⟨1,.b 1,.e 12⟩] (.b 1) (.b 0) rfl [a,g] (P2 b.symm) c
theorem Dv(b:a=12)(c:g=14):a<=g:=an [⟨1,.b 0,.e 12⟩,⟨1,.e 14,.b 1⟩] (.b 0) (.b 1) rfl [a,g] (P2 b) (P2 c.symm)
theorem y_{a c:Nat}(b:a+g=c):a<=c:=an [⟨1,.h (.b 0)<|.b 1,.b 2⟩] (.b 0) (.b 2) rfl [a,g,c] (P2 b)
theorem Il(c:a<6):¬a=6+g:=λb=>cV [⟨1,.h (.b 0)<|.e 1,.e 6⟩,⟨1,.h (.e 6)<|.b 1,.b 0⟩] rfl [a,g] c (P2 b.symm)
theorem AV(b:a=g+1):g<=a:=an [⟨1,.h (.b 1)<|.e 1,.b 0⟩] (.b 1) (.b 0) rfl [a,g] (P2 b.symm)
theorem DO(c:0<a):0<a↔0<a+g:=⟨λb=>gH b<|fw a g,λ_=>c⟩
theorem Dg{a:Nat}:0<=(↑a:Int):=Int.natCast_nonneg a
theorem B8(b:a=g)(c:g<=3):a<=1000000:=an [⟨1,.b 0,.b 1⟩,⟨1,.b 1,.e 3⟩] (.b 0) (.e 1000000) rfl [a,g] (P2 b) c
theorem Ks{a:Nat}(b: -1=(↑a:Int)):a∈[]:=nomatch b
theorem M2:10+a=9+(a+1):=Q0 (an [] (.h (.e 10)<|.b 0) (.h (.e 9)<|.h (.b 0)<|.e 1) rfl [a])<|an [] (.h (.e 9)<|.h (.b 0)<|.e 1) (.h (.e 10)<|.b 0) rfl [a]
theorem CU(b:a<=5*g):a+1<=1+5*g:=an [⟨1,.b 0,.x 5<|.b 1⟩] (.h (.b 0)<|.e 1) (.h (.e 1)<|.x 5<|.b 1) rfl [a,g] b
theorem MM{a:Nat}:max 0 (min (-1+(↑a:Int)) (↑a:Int))=(↑(a - 1):Int):=Dm a
theorem Bj{a:Nat}:max 0 (↑a:Int)=(↑a:Int):=rfl
theorem BZ(b:a<3)(d:g=3+2*a)(e:c=g):c<=90000:=an [⟨2,.h (.b 0)<|.e 1,.e 3⟩,⟨1,.b 1,.h (.e 3)<|.x 2<|.b 0⟩,⟨1,.b 2,.b 1⟩] (.b 2) (.e 90000) rfl [a,g,c] b (P2 d) (P2 e)
theorem Bb(b:a<3)(c:g=a):g<=90000:=an [⟨1,.h (.b 0)<|.e 1,.e 3⟩,⟨1,.b 1,.b 0⟩] (.b 1) (.e 90000) rfl [a,g] b (P2 c)
theorem y1(b:a=3+2*g)(d:c=a):c+2=3+2*(g+1):=Q0 (an [⟨1,.b 0,.h (.e 3)<|.x 2<|.b 1⟩,⟨1,.b 2,.b 0⟩] (.h (.b 2)<|.e 2) (.h (.e 3)<|.x 2<|.h (.b 1)<|.e 1) rfl [a,g,c] (P2 b) (P2 d))<|an [⟨1,.h (.e 3)<|.x 2<|.b 1,.b 0⟩,⟨1,.b 0,.b 2⟩] (.h (.e 3)<|.x 2<|.h (.b 1)<|.e 1) (.h (.b 2)<|.e 2) rfl [a,g,c] (P2 b.symm) (P2 d.symm)
theorem Jk(e:a<3)(f:g=3+2*c)(h:d=g):¬a+1=d+1:=λb=>cV [⟨1,.h (.b 0)<|.e 1,.e 3⟩,⟨1,.h (.e 3)<|.x 2<|.b 2,.b 1⟩,⟨1,.b 1,.b 3⟩,⟨1,.h (.b 3)<|.e 1,.h (.b 0)<|.e 1⟩] rfl [a,g,c,d] e (P2 f.symm) (P2 h.symm) (P2 b.symm)
theorem JR(d:a<3)(e:g=3+2*c)(f:b=g):a+1<=b:=an [⟨1,.h (.b 0)<|.e 1,.e 3⟩,⟨1,.h (.e 3)<|.x 2<|.b 2,.b 1⟩,⟨1,.b 1,.b 3⟩] (.h (.b 0)<|.e 1) (.b 3) rfl [a,g,c,b] d (P2 e.symm) (P2 f.symm)
theorem z'(e:a<g+1)(f:c=3+2*g)(h:d=c):¬a+1=d+1:=λb=>cV [⟨1,.h (.b 0)<|.e 1,.h (.b 1)<|.e 1⟩,⟨1,.h (.e 3)<|.x 2<|.b 1,.b 2⟩,⟨1,.b 2,.b 3⟩,⟨1,.h (.b 3)<|.e 1,.h (.b 0)<|.e 1⟩] rfl [a,g,c,d] e (P2 f.symm) (P2 h.symm) (P2 b.symm)
theorem LS(d:a<g+1)(e:c=3+2*g)(f:b=c):a+1<=b:=an [⟨1,.h (.b 0)<|.e 1,.h (.b 1)<|.e 1⟩,⟨1,.h (.e 3)<|.x 2<|.b 1,.b 2⟩,⟨1,.b 2,.b 3⟩] (.h (.b 0)<|.e 1) (.b 3) rfl [a,g,c,b] d (P2 e.symm) (P2 f.symm)
theorem JO(d:a=3+2*g)(e:c=a):¬c+1=g+1:=λb=>cV [⟨1,.h (.e 3)<|.x 2<|.b 1,.b 0⟩,⟨1,.b 0,.b 2⟩,⟨1,.h (.b 2)<|.e 1,.h (.b 1)<|.e 1⟩] rfl [a,g,c] (P2 d.symm) (P2 e.symm) (P2 b)
theorem Ja(d:a=3+2*g)(e:c=a):¬c+2=g+1:=λb=>cV [⟨1,.h (.e 3)<|.x 2<|.b 1,.b 0⟩,⟨1,.b 0,.b 2⟩,⟨1,.h (.b 2)<|.e 2,.h (.b 1)<|.e 1⟩] rfl [a,g,c] (P2 d.symm) (P2 e.symm) (P2 b)
theorem DF(b:a=g)(d:c<=g):c<a+1:=an [⟨1,.b 1,.b 0⟩,⟨1,.b 2,.b 1⟩] (.h (.b 2)<|.e 1) (.h (.b 0)<|.e 1) rfl [a,g,c] (P2 b.symm) d
theorem yL(b:a=g)(d:c<=g):c<=a+2:=an [⟨1,.b 1,.b 0⟩,⟨1,.b 2,.b 1⟩] (.b 2) (.h (.b 0)<|.e 2) rfl [a,g,c] (P2 b.symm) d
theorem F2{a g:Nat}(b:a<3)(c:g<=800):g+1+(1+a - 0)*2<=900:=an [⟨2,.h (.b 0)<|.e 1,.e 3⟩,⟨1,.b 1,.e 800⟩] (.h (.h (.b 1)<|.e 1)<|.hf (.h (.e 1)<|.b 0) 2) (.e 900) rfl [a,g] b c
theorem yW(b:a=g+1)(c:g<=90000):a<=100000:=an [⟨1,.b 0,.h (.b 1)<|.e 1⟩,⟨1,.b 1,.e 90000⟩] (.b 0) (.e 100000) rfl [a,g] (P2 b) c
theorem Ey(b:a=g+1):a+1=g+2:=Q0 (an [⟨1,.b 0,.h (.b 1)<|.e 1⟩] (.h (.b 0)<|.e 1) (.h (.b 1)<|.e 2) rfl [a,g] (P2 b))<|an [⟨1,.h (.b 1)<|.e 1,.b 0⟩] (.h (.b 1)<|.e 2) (.h (.b 0)<|.e 1) rfl [a,g] (P2 b.symm)
theorem Cv(b:a=g+2):g+1<=a:=an [⟨1,.h (.b 1)<|.e 2,.b 0⟩] (.h (.b 1)<|.e 1) (.b 0) rfl [a,g] (P2 b.symm)
theorem M4(d:a+200+20*(g+1)<=c)(e:b=1):a+b+200+20*g<=c:=an [⟨1,.h (.h (.b 0)<|.e 200)<|.x 20<|.h (.b 1)<|.e 1,.b 2⟩,⟨1,.b 3,.e 1⟩] (.h (.h (.h (.b 0)<|.b 3)<|.e 200)<|.x 20<|.b 1) (.b 2) rfl [a,g,c,b] d (P2 e)
theorem MW(d:a+(g+1)<c)(e:b=1):a+b+g<c:=an [⟨1,.h (.h (.b 0)<|.h (.b 1)<|.e 1)<|.e 1,.b 2⟩,⟨1,.b 3,.e 1⟩] (.h (.h (.h (.b 0)<|.b 3)<|.b 1)<|.e 1) (.b 2) rfl [a,g,c,b] d (P2 e)
theorem He(d:a+(g+1)<=c)(e:b<=1):a+b+g<=c:=an [⟨1,.h (.b 0)<|.h (.b 1)<|.e 1,.b 2⟩,⟨1,.b 3,.e 1⟩] (.h (.h (.b 0)<|.b 3)<|.b 1) (.b 2) rfl [a,g,c,b] d e
theorem y'(b:a<3)(c:g=9+a):g<=100000:=an [⟨1,.h (.b 0)<|.e 1,.e 3⟩,⟨1,.b 1,.h (.e 9)<|.b 0⟩] (.b 1) (.e 100000) rfl [a,g] b (P2 c)
theorem zW(d:a=9+g)(e:c<=a):¬c=10+g:=λb=>cV [⟨1,.b 0,.h (.e 9)<|.b 1⟩,⟨1,.b 2,.b 0⟩,⟨1,.h (.e 10)<|.b 1,.b 2⟩] rfl [a,g,c] (P2 d) e (P2 b.symm)
theorem MH(d:a=9+g)(e:c=9+g)(f:b<=a):b<=c:=an [⟨1,.b 0,.h (.e 9)<|.b 1⟩,⟨1,.h (.e 9)<|.b 1,.b 2⟩,⟨1,.b 3,.b 0⟩] (.b 3) (.b 2) rfl [a,g,c,b] (P2 d) (P2 e.symm) f
theorem CC(c:a<=5):¬a=6+g:=λb=>cV [⟨1,.b 0,.e 5⟩,⟨1,.h (.e 6)<|.b 1,.b 0⟩] rfl [a,g] c (P2 b.symm)
theorem I3(b:a+g=c)(d:g=c):a=0:=Q0 (an [⟨1,.h (.b 0)<|.b 1,.b 2⟩,⟨1,.b 2,.b 1⟩] (.b 0) (.e 0) rfl [a,g,c] (P2 b) (P2 d.symm))<|an [] (.e 0) (.b 0) rfl [a,g,c]
theorem AF{a b:Nat}(d:a+g=c+b)(e:a=c):g=b:=Q0 (an [⟨1,.h (.b 0)<|.b 1,.h (.b 2)<|.b 3⟩,⟨1,.b 2,.b 0⟩] (.b 1) (.b 3) rfl [a,g,c,b] (P2 d) (P2 e.symm))<|an [⟨1,.h (.b 2)<|.b 3,.h (.b 0)<|.b 1⟩,⟨1,.b 0,.b 2⟩] (.b 3) (.b 1) rfl [a,g,c,b] (P2 d.symm) (P2 e)
theorem JI(b:a+g=c)(d:a=0):g=c:=Q0 (an [⟨1,.h (.b 0)<|.b 1,.b 2⟩] (.b 1) (.b 2) rfl [a,g,c] (P2 b))<|an [⟨1,.b 2,.h (.b 0)<|.b 1⟩,⟨1,.b 0,.e 0⟩] (.b 2) (.b 1) rfl [a,g,c] (P2 b.symm) (P2 d)
theorem LI{a c:Nat}:a<=g+(c+a):=an [] (.b 0) (.h (.b 1)<|.h (.b 2)<|.b 0) rfl [a,g,c]
theorem Iw(d:14<=a)(e:g<3)(f:c=a):¬10+g=c+1:=λb=>cV [⟨1,.e 14,.b 0⟩,⟨1,.h (.b 1)<|.e 1,.e 3⟩,⟨1,.b 0,.b 2⟩,⟨1,.h (.b 2)<|.e 1,.h (.e 10)<|.b 1⟩] rfl [a,g,c] d e (P2 f.symm) (P2 b.symm)
theorem LL{a c:Nat}(b:a+g<a+c):g<c:=an [⟨1,.h (.h (.b 0)<|.b 1)<|.e 1,.h (.b 0)<|.b 2⟩] (.h (.b 1)<|.e 1) (.b 2) rfl [a,g,c] b
theorem J5{a:Nat}:(↑a:Int)+1=(↑(a+1):Int):=rfl
theorem zL{a g:Nat}(b:a<g):(↑(g - a):Int) - 1=(↑(g - (a+1)):Int):=(Int.ofNat_sub<|Nat.sub_pos_of_lt b).symm
theorem yZ(b:a=14):1<=a:=an [⟨1,.e 14,.b 0⟩] (.e 1) (.b 0) rfl [a] (P2 b.symm)
theorem FD(b:a=14):2<=a:=an [⟨1,.e 14,.b 0⟩] (.e 2) (.b 0) rfl [a] (P2 b.symm)
theorem Ip(b:a=14):3<=a:=an [⟨1,.e 14,.b 0⟩] (.e 3) (.b 0) rfl [a] (P2 b.symm)
end
section
set_option tactic.hygienic true
set_option genSizeOf false
set_option genInjectivity false
set_option genCtorIdx false
inductive Y where
 |s|b' (g:Bool)|c (b:Int)|l (s:Str)|b7 (n:String)|a' (d:String)
 |B (b q:Nat)|ay (b:Nat)|cO (k:Nat)|a (a:Nat)
noncomputable def Y.ctorIdx(v:Y):Nat:=v.casesOn 0 (λ_=>1) (λ_=>2) (λ_=>3) (λ_=>4) (λ_=>5) (λ_ _=>6) (λ_=>7) (λ_=>8) λ_=>9
noncomputable def Y.o6(v:Y):Unit ⊕ Bool ⊕ Int ⊕ Str ⊕ String ⊕ String ⊕ (Nat×Nat) ⊕ Nat ⊕ Nat ⊕ Nat:=v.casesOn (.inl ()) (λx=>.inr<|.inl x) (λx=>.inr<|.inr<|.inl x) (λx=>.inr<|.inr<|.inr<|.inl x) (λx=>.inr<|.inr<|.inr<|.inr<|.inl x) (λx=>.inr<|.inr<|.inr<|.inr<|.inr<|.inl x) (λx t=>.inr<|.inr<|.inr<|.inr<|.inr<|.inr<|.inl (x,t)) (λx=>.inr<|.inr<|.inr<|.inr<|.inr<|.inr<|.inr<|.inl x) (λx=>.inr<|.inr<|.inr<|.inr<|.inr<|.inr<|.inr<|.inr<|.inl x) λx=>.inr<|.inr<|.inr<|.inr<|.inr<|.inr<|.inr<|.inr<|.inr x
noncomputable def Y.ym:Unit ⊕ Bool ⊕ Int ⊕ Str ⊕ String ⊕ String ⊕ (Nat×Nat) ⊕ Nat ⊕ Nat ⊕ Nat->Y:=Sum.elim (λ_=>.s)<|Sum.elim .b'<|Sum.elim .c<|Sum.elim .l<|Sum.elim .b7<|Sum.elim .a'<|Sum.elim (λa=>.B a.1 a.2)<|Sum.elim .ay<|Sum.elim .cO .a
theorem Y.d2(a:Y):Y.ym a.o6=a:=by induction a using Y.casesOn<;>rfl
set_option synthInstance.maxHeartbeats 200000 in
set_option synthInstance.maxSize 2000 in
noncomputable instance:DecidableEq Y:=λa g=>decidable_of_iff (a.o6=g.o6) ⟨λb=>a.d2.symm.trans<|(Q3 Y.ym b).trans g.d2,Q3 Y.o6⟩
theorem Y.c.inj{a g:Int}(b:Y.c a=.c g):a=g:=by cases b;rfl
theorem Y.a.inj{a g:Nat}(b:Y.a a=.a g):a=g:=by cases b;rfl
structure ed where
 ka:List Str
 kj:FuncBody
 eg:Scope
 ck:Option Nat:=Option.none
inductive af where
 |aD (c:Nat) (a:List (Str×Y))
 |d (b:List Y)
 |A (b:List Y)
 |K (g:List (Y×Y))
 |cl (l:ed) (e:List (Str×Nat))
 |h1 (v:Option Y)
 |bd (c:Nat) (f:Option Nat)
 |hv (a:List (Str×Y))
noncomputable def af.ctorIdx(v:af):Nat:=v.casesOn (λ_ _=>0) (λ_=>1) (λ_=>2) (λ_=>3) (λ_ _=>4) (λ_=>5) (λ_ _=>6) λ_=>7
structure V where
 f:Nat
 r:Nat->Option af
 L:List (Nat×Nat):=[]
noncomputable def V.Q(b:V)(a:Nat)(o:af):V:={b with r:=λg=>if g=a then some o else b.r g}
noncomputable def V.z(a:V)(o:af):V:={a with f:=a.f+1,r:=λg=>if g=a.f then some o else a.r g}
abbrev aa:=V->Prop
def ae:aa:=λ_=>False
abbrev aB:Y->aa:=λ_=>ae
abbrev fh(a:Type):=V->a->V->Prop
def J(d:fh b)(h:b->aa):aa:=λe=>∃a c,d e a c/\h a c
structure ax where
 ct:List (Str×Y)
 dg:List (Str×Nat)
 ck:Option Nat:=Option.none
noncomputable def cN(x:Str)(v:Y):List (Str×Y)->List (Str×Y)|[]=>[(x,v)]|(t,w)::r=>if t=x then(t,v)::r else(t,w)::cN x v r
noncomputable def ki(x:Str)(f:List (Str×Y)):List (Str×Y):=f.filter λa=>!(a.1==x)
structure uF where
 mj:Str->Option Y
 cQ:Nat->Option af
 cl:Nat->Nat->Option (ed×List Y)
 ex:Nat->Str->Option Y
 au:Nat->Nat->Bool
 i4:Nat->Bool
 dV:Nat->Bool
 fC:Str->Bool
 hq:Nat->Bool
noncomputable def bl:Nat:=1000000
noncomputable def cB(x:Int):Bool:=Nat.blt x.natAbs 4611686018427387904
def g8(a:Int)(n:Nat):Option Nat:=if cB a then seqIndex? a n else Option.none
noncomputable def iD(a:List Y)(c b:Option Int):List Y:=(sliceRange (sliceBounds c b Option.none a.length).1 (sliceBounds c b Option.none a.length).2.1 (sliceBounds c b Option.none a.length).2.2).filterMap (a[·]?)
noncomputable abbrev ly(a:b)(l:Int->b)(v:Y):b:=v.casesOn a (λ_=>a) l (λ_=>a) (λ_=>a) (λ_=>a) (λ_ _=>a) (λ_=>a) (λ_=>a) λ_=>a
noncomputable abbrev yx(a:b)(l:Nat->b)(v:Y):b:=v.casesOn a (λ_=>a) (λ_=>a) (λ_=>a) (λ_=>a) (λ_=>a) (λ_ _=>a) (λ_=>a) (λ_=>a) l
noncomputable def gu(v:Y):Bool:=v.casesOn false (λ_=>false) (λ_=>true) (λ_=>true) (λ_=>false) (λ_=>false) (λ_ _=>false) (λ_=>false) (λ_=>false) λ_=>false
noncomputable def dn(k:Y):List (Y×Y)->Option Y|[]=>Option.none|(a,v)::r=>if a=k then some v else dn k r
noncomputable def e0(k v:Y):List (Y×Y)->List (Y×Y)|[]=>[(k,v)]|(a,w)::r=>if a=k then(a,v)::r else(a,w)::e0 k v r
def lo(R:Y->Y->Prop)(f:List Y):List Y->Prop:=f.rec (λa=>a.casesOn True λ_ _=>False) λx _ b a=>a.casesOn False λt c=>R x t/\b c
def gO(b:V):Nat->Y->Y->Prop|0,_,_=>False|n+1,a,g=>(∃x,a=.c x/\g=.c x)\/(∃x,a=.l x/\g=.l x)\/(∃c q d e,a=.a c/\g=.a q/\b.r c=some (.d d)/\b.r q=some (.d e)/\lo (gO b n) d e)\/∃c q d e,a=.a c/\g=.a q/\b.r c=some (.A d)/\b.r q=some (.A e)/\lo (gO b n) d e
noncomputable def mv(v:Y):List Y->Option Bool|[]=>some false|w::r=>ly Option.none (λx=>ly Option.none (λt=>(mv v r).map λg=>t==x||g) w) v
noncomputable def jp(x:Int):List Int->List Int|[]=>[x]|t::r=>if x<=t then x::t::r else t::jp x r
def lF(f:List Int):List Int:=f.foldr jp []
noncomputable def mV:List Y->Option (List Int)|[]=>some []|v::r=>ly Option.none (λa=>(mV r).map (a::·)) v
inductive bI where
 |d (v:Y)|A (v:Y)|cf (n:Nat)
noncomputable def bI.ctorIdx(v:bI):Nat:=v.casesOn (λ_=>0) (λ_=>1) λ_=>2
noncomputable def py(e:ax)(f:List (Str×NameKind)):List (Str×Nat)->Option (List<|Str×Nat):=f.rec some λa _ b d=>if a.2==.free then(e.dg.lookup a.1).casesOn Option.none (λc=>b<|(a.1,c)::d) else b d
def jz(b:Scope)(a:ax):Option (List<|Str×Nat):=py a b.names []
noncomputable def kn(a:Arguments):Bool:=a.posonlyargs.isEmpty&&a.vararg.isNone&&a.kwonlyargs.isEmpty&&a.kw_defaults.isEmpty&&a.kwarg.isNone&&a.defaults.isEmpty&&a.args.all λx=>x.annotation.isNone
noncomputable def kS(a:Arguments)(g:FuncBody)(b:Scope):ed:={ka:=a.args.map (·.arg),kj:=g,eg:=b}
inductive ai where
 |f (a:ax)|b0 (v:Y) (a:ax)|bd (e:Y) (a:ax)
noncomputable def ai.ctorIdx(v:ai):Nat:=v.casesOn (λ_=>0) (λ_ _=>1) λ_ _=>2
noncomputable abbrev hL(b:d)(l:Str->d)(o:List Expr->d)(h:Expr->Str->Pos->d)(m:Expr->Expr->d)(i:Expr->List Expr->List Keyword->Pos->d)(j:Const->d)(n:Option Expr->Option Expr->Option Expr->d)(e:Expr):d:=e.casesOn (λ_ _ _=>b) (λ_ _ _=>b) (λ_ _ _ _=>b) (λ_ _ _=>b) (λ_ _ _ _=>b) (λ_ _ _ _=>b) (λ_ _ _=>b) (λ_ _ _=>b) (λ_ _ _ _=>b) (λ_ _ _ _=>b) (λ_ _ _ _ _=>b) (λ_ _ _ _=>b) (λ_ _=>b) (λ_ _=>b) (λ_ _=>b) (λ_ _ _ _=>b) i (λ_ _ _ _=>b) (λ_ _=>b) (λc _ _=>j c) h (λv k _=>m v k) (λ_ _=>b) (λx _=>l x) (λ_ _=>b) (λf _ _=>o f) λa g c _=>n a g c
abbrev lz(a:b)(l:Str->b):Expr->b:=hL a l (λ_=>a) (λ_ _ _=>a) (λ_ _=>a) (λ_ _ _ _=>a) (λ_=>a) λ_ _ _=>a
abbrev zM(a:b)(l:List Expr->b):Expr->b:=hL a (λ_=>a) l (λ_ _ _=>a) (λ_ _=>a) (λ_ _ _ _=>a) (λ_=>a) λ_ _ _=>a
abbrev sr(a:b)(l:Expr->List Expr->List Keyword->Pos->b):Expr->b:=hL a (λ_=>a) (λ_=>a) (λ_ _ _=>a) (λ_ _=>a) l (λ_=>a) λ_ _ _=>a
abbrev qH(a:b)(l:Const->b):Expr->b:=hL a (λ_=>a) (λ_=>a) (λ_ _ _=>a) (λ_ _=>a) (λ_ _ _ _=>a) l λ_ _ _=>a
def pj:Expr->Bool:=lz false (·==("range":Str))
def Hz(l:Expr)(f:List Expr):Option Expr:=f.casesOn Option.none λe r=>r.casesOn (if pj l then some e else Option.none) λ_ _=>Option.none
def oP:Expr->Option Expr:=sr Option.none λl a b _=>if b.isEmpty then Hz l a else Option.none
noncomputable def oD(e:Expr):Bool:=e.ctorIdx.beq 22
def gd(a:List Expr):Bool:=a.all λe=>!oD e
def pk:Expr->Bool:=sr false λl a b _=>l.ctorIdx.beq 23&&a.isEmpty&&b.isEmpty
noncomputable def ro(a:Scope):Bool:=a.kind==.function&&a.names.all λx=>x.2 !=.cell&&(x.2 !=.local||a.names.lookup x.1==some .local)
def sx(a:Expr)(f:List (Str×Y)):Bool:=hL false (λx=>(f.lookup x).isNone) (λb=>b.all<|lz false λx=>(f.lookup x).isNone) (λ_ _ _=>false) (λ_ _=>false) (λ_ _ _ _=>false) (λ_=>false) (λ_ _ _=>false) a
noncomputable def q1(o:af):Bool:=o.casesOn (λ_ _=>false) (λ_=>false) (λ_=>false) (λ_=>false) (λ_ _=>false) (λ_=>false) (λ_ _=>true) λ_=>false
def oT(e:Y)(b:V):Bool:=yx false (λa=>(b.r a).casesOn false q1) e
noncomputable def qJ(e:Expr):Bool:=Nat.ble 8 e.ctorIdx&&Nat.ble e.ctorIdx 10
def sQ(a:Scope)(b e:Expr):Bool:=hL true (λ_=>false) (λc=>zM false (λ_=>!(c.any<|lz false λx=>a.names.lookup x==some .cell)) e) (λ_ _ _=>false) (λ_ _=>false) (λ_ _ _ _=>true) (λ_=>true) (λ_ _ _=>true) b
noncomputable abbrev lr(c:d)(m:Expr->List Stmt->List Stmt->d)(r:Expr->List Stmt->d)(k:Expr->Expr->List Stmt->d)(q:List Stmt->List ExceptHandler->List Stmt->d)(j:Str->Arguments->List Stmt->Scope->Pos->d)(i:Str->List Stmt->Pos->d)(p:List Expr->Expr->d)(s:Stmt):d:=s.casesOn (λn a g _ _ _ o _ _ h=>j n a g o h) (λ_ _ _ _ _ _ _ _ _ _=>c) (λn _ _ g _ _ _ _ _ _ h=>i n g h) (λ_ _=>c) (λ_ _=>c) (λf e _=>p f e) (λ_ _ _ _ _ _ _=>c) (λ_ _ _ _=>c) (λ_ _ _ _ _=>c) (λf l a _ _=>k f l a) (λ_ _ _ _ _=>c) (λf a _ _=>r f a) (λf a g _=>m f a g) (λ_ _ _=>c) (λ_ _ _=>c) (λ_ _ _=>c) (λ_ _ _=>c) (λa b _ g _=>q a b g) (λ_ _ _ _ _=>c) (λ_ _ _=>c) (λ_ _=>c) (λ_ _ _ _=>c) (λ_ _=>c) (λ_ _=>c) (λ_ _=>c) (λ_=>c) (λ_=>c) λ_=>c
noncomputable def mC:Nat:=60
noncomputable def xi(l:ed):Bool:=l.eg.kind==.function&&!l.eg.isCoroutine&&!l.eg.isGenerator&&decide l.ka.Nodup
end
section
set_option tactic.hygienic true
noncomputable def jP:List Stmt:=PySem.Challenge.pw_qz0115_01.main.body
abbrev wH(b:c)(l:Arguments->List Stmt->Scope->c)(d:List Stmt->c):Stmt->c:=lr b (λ_ _ _=>b) (λ_ _=>b) (λ_ _ _=>b) (λ_ _ _=>b) (λ_ a g e _=>l a g e) (λ_ g _=>d g) λ_ _=>b
def pc(b q:Nat):Option (ed×List Y):=(jP[b]?).casesOn Option.none<|wH Option.none (λa g c=>q.casesOn (some ({kS a (.stmts g) c with ck:=if b=107 then some 0 else if b=108 then some 1 else Option.none},[])) λ_=>Option.none) λg=>q.casesOn Option.none λq=>(g[q]?).casesOn Option.none<|wH Option.none (λa g c=>some (kS a (.stmts g) c,if b=96 then[.c 64,.c 50,.c 1000000,.c 100000,.c 10000] else if b=8 then[.b' false] else[])) λ_=>Option.none
noncomputable def vH:List (Str×Nat):=[(("value_of":Str),11),(("let_go_of":Str),19),(("undo_array":Str),21),(("leave":Str),32),(("evaluate":Str),46),(("tree_weights":Str),59),(("code_weights":Str),60),(("weights_seen":Str),61),(("piled_behind":Str),62),(("check_pile":Str),63),(("called_frame":Str),64),(("blank_value":Str),69),(("with_line":Str),70),(("count_step":Str),71),(("statement_value":Str),72),(("run_statement":Str),73),(("run_body":Str),74),(("do_expr_stmt":Str),75),(("scalar_for":Str),76),(("kept_value":Str),78),(("copied_result":Str),81),(("call_args":Str),82),(("lay_args":Str),83),(("entered_value":Str),84),(("check_call":Str),85),(("call_with":Str),86),(("call_code":Str),87),(("kept_behind":Str),90),(("held_by":Str),91),(("empty_out":Str),92),(("in_order":Str),93),(("_law_dip":Str),101),(("_law_deed":Str),102),(("_law_subs":Str),103),(("_law_asked":Str),104),(("_law_made":Str),105),(("_law_seen":Str),106),(("_law_handlers":Str),107),(("_law_package":Str),108),(("_law_own_call":Str),109),(("_law_own_statement":Str),110),(("law":Str),111)]
noncomputable def EW:List (Str×Nat):=[(("Thing":Str),2),(("Scalar":Str),3),(("Array":Str),4),(("Hash":Str),5),(("Code":Str),6),(("Glob":Str),7),(("Ref":Str),8),(("Heap":Str),9),(("PerlError":Str),34),(("Die":Str),35),(("SubReturn":Str),36),(("BadPattern":Str),37),(("BadTemplate":Str),38),(("TooLong":Str),39),(("Frame":Str),44),(("Run":Str),45),(("WeighedCode":Str),49),(("CallFrame":Str),58),(("Tie":Str),89),(("Counter":Str),94),(("Limits":Str),96),(("Stash":Str),98)]
noncomputable def AP:List (Str×Int):=[(("VOID":Str),0),(("SCALAR":Str),1),(("LIST":Str),2),(("MOST_PILED":Str),880),(("CALL_COST":Str),4),(("LEAF_COST":Str),10),(("OTHER_WEIGHT":Str),4)]
def mO:List (Str×Y):=vH.map (λa=>(a.1,.B a.2 0))++(EW.map (λa=>(a.1,.ay a.2))++(AP.map (λa=>(a.1,.c a.2))++[(("ARGS_NAME":Str),.l "main::_"),(("UNDOERS":Str),.cO 0),(("WEIGHTS":Str),.cO 1),(("CALLING":Str),.cO 2),(("UNTOLD":Str),.cO 3),(("_law_rest":Str),.cO 4),(("len":Str),.a' "len"),(("isinstance":Str),.a' "isinstance"),(("max":Str),.a' "max"),(("sorted":Str),.a' "sorted"),(("list":Str),.b7 "list"),(("tuple":Str),.b7 "tuple"),(("str":Str),.b7 "str"),(("Exception":Str),.b7 "Exception")]))
def w_(x:Str):Option Y:=mO.lookup x
noncomputable def Cs:List (Nat×List Nat):=[(2,[1]),(3,[1]),(4,[1]),(6,[1]),(7,[1]),(8,[1]),(9,[1,2,3,4,6,7]),(94,[1,2,3,4,5,6,7,8,9,10,11,12]),(98,[1,2,4]),(34,[1]),(36,[1]),(44,[1]),(45,[1]),(58,[1]),(96,[1])]
def iZ:List (Nat×Nat):=(vH.map λa=>(a.2,0))++Cs.flatMap λa=>a.2.map λq=>(a.1,q)
def p6(a q:Nat):Option (ed×List Y):=if iZ.contains (a,q) then pc a q else Option.none
noncomputable def xz(f:List (Str×Int)):af:=.K<|f.map λa=>(.l a.1,.c a.2)
def k6(b:List Int)(k:Nat):Option af:=([.K<|(([(("scalar":Str),20),(("array":Str),21),(("hash":Str),22),(("code":Str),23),(("elem":Str),24),(("helem":Str),25),(("pad":Str),27),(("slot":Str),28),(("match":Str),29),(("package":Str),30),(("tiedelem":Str),26),(("tiedkey":Str),26)]:List (Str×Nat))).map λa=>(.l a.1,.B a.2 0),xz [(("block":Str),2),(("expr":Str),3),(("if":Str),4),(("while":Str),5),(("dowhile":Str),5),(("cfor":Str),5),(("foreach":Str),5),(("bare":Str),3),(("return":Str),2),(("num":Str),2),(("str":Str),2),(("pads":Str),2),(("mys":Str),2),(("globs":Str),2),(("bin":Str),3),(("un":Str),3),(("and":Str),3),(("or":Str),3),(("dor":Str),3),(("xor":Str),3),(("cond":Str),3),(("list":Str),3),(("range":Str),3),(("repeat":Str),3),(("interp":Str),3),(("stringify":Str),3),(("call":Str),4),(("method":Str),4),(("assign":Str),3),(("doblock":Str),2),(("map":Str),4),(("grep":Str),4),(("sort":Str),9),(("func":Str),6),(("match":Str),6),(("subst":Str),8),(("trans":Str),6),(("local":Str),6),(("aassign":Str),5),(("refgen":Str),5)],xz [(("call":Str),2),(("method":Str),2),(("sort":Str),7),(("evalstr":Str),4)],.A [.c 0,.c 0],.A<|([0,0,0,0,1,0,0,0,0,1,0,0,1,0,0,1,1,0,2,1,1]:List Int).map .c,.d<|b.map .c]:List af)[k]?
noncomputable def rY:List (Nat×List (Str×Nat)):=[(9,[(("next_number":Str),1),(("new_scalar":Str),2),(("new_array":Str),3),(("new_code":Str),5),(("new_glob":Str),6)]),(94,[(("hold":Str),1),(("let_go":Str),2),(("note":Str),3),(("take":Str),4),(("put_off":Str),5),(("store":Str),6),(("fresh":Str),7),(("drop":Str),8),(("settle":Str),9),(("finish":Str),10),(("free":Str),11)]),(98,[(("glob_of":Str),1),(("array_of":Str),3)])]
noncomputable def lL:List Nat:=[3,4,6,7,8,9,36,44,45,58,94,96,98]
def nM(c:Nat)(x:Str):Option Y:=if x=("__init__":Str) then(if c==2||c==34||lL.contains c then some (.B c 1) else Option.none) else(rY.lookup c).casesOn Option.none λf=>(f.lookup x).map λq=>.B c<|q+1
noncomputable def rh(n:Nat):List Nat:=if 3<=n&&n<=7 then[n,2] else if 35<=n&&n<=39 then[n,34] else if n=49 then[49,48] else if n=58 then[58,44] else[n]
noncomputable def yn:List Str:=[("heap":Str),("counter":Str),("count":Str),("zero":Str),("number":Str),("array":Str),("value":Str),("frames":Str),("target":Str),("saves":Str),("items":Str),("sub":Str),("steps":Str),("magic":Str),("known":Str),("line":Str),("code":Str),("weights":Str),("weak":Str),("table":Str),("stash":Str),("scalar":Str),("limits":Str),("is_freed":Str),("hash":Str),("globs":Str),("captures":Str),("statements":Str),("piled":Str),("nodes":Str),("last":Str),("tied":Str),("places":Str),("package":Str),("is_weak":Str),("is_destroyed":Str),("holder":Str),("empties":Str),("blessed":Str),("at":Str),("want":Str),("text":Str),("destroy":Str),("depth":Str),("builtin":Str),("args":Str),("width":Str),("patterns":Str),("pad":Str),("out":Str),("operators":Str),("name":Str),("methods":Str),("match":Str),("lvs":Str),("generation":Str),("funcs":Str),("err":Str),("compile_text":Str),("call_code":Str)]
def Ek(b:List Int):uF where
 mj:=w_
 cQ:=k6 b
 cl:=p6
 ex:=nM
 au c a:=(rh c).contains a
 i4 c:=lL.contains c
 dV c:=34<=c&&c<=39
 fC x:=yn.contains x
 hq c:=[2,3,4,5,6,7,8,44,49,58,89].contains c
end
namespace H
open PySem.W
set_option genCtorIdx false
set_option genSizeOf false
set_option genInjectivity false
structure ie where
 e7:List Obj
 e:Nat
 ft:Nat
 i5:List (Str×Nat×Value)
 ck:List (Nat×Nat×Nat)
 fx:Value
noncomputable def r':Str:="/claim/cut.py"
noncomputable def dt(a:Nat):Value:=.int a 0
noncomputable def hz(f:List Value):Obj:={cls:=.type "tuple",data:=.seq f.toArray}
noncomputable def pp(f:List Str)(a:Nat):List Value:=match f with
 |[]=>[]
 |x::r=>.str x a::pp r (a+1)
noncomputable def DD(k:NameKind):Bool:=k==.local
noncomputable def Lq(k:NameKind):Bool:=k==.cell
def z8(b:Arguments)(c:Scope):List Str:=b.args.map (·.arg)++(c.names.filter λx=>DD x.2&&!(b.args.any λa=>a.arg==x.1)).map (·.1)
def Jm(a:Scope):List Str:=(a.names.filter λx=>Lq x.2).map (·.1)
def j2(i qual:Str)(b e f:Nat)(g:Bool)(A h:Nat)(v c r:Value)(a d:Nat):Obj:={cls:=.type "code",data:=.fields #[.str i a,.str qual<|a+1,.str r'<|a+2,dt b,dt e,dt 0,dt 0,dt f,.ref A,.bool g,dt 181,.ref h,.none,v,c,r,dt d,dt b,.str r'<|d+1]}
noncomputable def ph(d qual:Str)(e:Arguments)(g:List Stmt)(f:Scope)(c:Nat)(b fx a:Value):Data:=.func {name:=d,qualname:=qual,params:=e,body:=.stmts g,scope:=f,globals:=c,closure:=[],defaults:=b,kwdefaults:=.none,pyModule:=fx,code:=a}
def vL(nc:Bool)(c qual:Str)(b:Arguments)(g:List Stmt)(d:Scope)(f:Nat)(fx e:Value)(n a:Nat):List Obj×Nat×Nat:=
 if nc then([hz [],{cls:=.none,data:=.fields ([].toArray)},{cls:=.none,data:=ph c qual b g d 0 .none .none .none},j2 c qual f b.args.length 3 true n (n+1) .none .none (.ref (n+2)) a (a+3),
  {cls:=.type "function",data:=ph c qual b g d 3 e fx (.ref (n+3))}],n+4,a+5)
 else
  let vs:=z8 b d
  let cs:=Jm d
  let k:=vs.length+cs.length
  ([hz [],{cls:=.none,data:=.fields ([].toArray)},hz (pp vs (a+3)),hz (pp cs (a+3+vs.length)),{cls:=.none,data:=ph c qual b g d 0 .none .none .none},
   j2 c qual f b.args.length 3 true n (n+1) (.ref (n+2)) (.ref (n+3)) (.ref (n+4)) a (a+3+k),{cls:=.type "function",data:=ph c qual b g d 3 e fx (.ref (n+5))}],n+6,a+5+k)
section
variable(P:Params)
noncomputable def gD(k:Str)(a:Nat)(v:Value):DictEntry:={hash:=PyData.keyHash P k,key:=.str k a,val:=v}
noncomputable def uk(pre:Str)(fx:Value)(i:List Value)(j:Nat):List Stmt->Nat->Nat->List Obj×List DictEntry×List (Nat×Nat×Nat)×Nat×Nat
 |.FunctionDef b c g _ _ _ t _ _ e::r,n,d=>
  let s:Str:=⟨pre.cps++#[46]++b.cps⟩
  let h:List Obj:=if c.defaults.isEmpty then[] else[hz i]
  let v:=if c.defaults.isEmpty then d else d+j
  let m:=if c.defaults.isEmpty then Value.none else .ref n
  let k:=n+h.length
  let(f,a,l):=vL (b=="put_off") b s c g t e.line fx m k v
  let(q,o,w,p,u):=uk pre fx i j r (k+f.length) (l+1)
  (h++f++q,gD P b l (.ref a)::o,(e.line,e.col,a - 1)::w,p,u)
 |_,n,d=>([],[],[],n,d)
def vr(f:List (Nat×Nat×Nat)):List Value:=f.flatMap λ(a,g,c)=>[dt a,dt g,.ref c]
structure md where
 kI:List Value
 iP:List Value
 lI:List Nat
 hp:List Str
 ih:Nat
 sj:String:="object.__new__"
 q8:List Value:=[]
 t9:Nat:=0
 m:Nat:=0
def EN(c:md)(d:Str)(p:List Stmt)(l:Nat)(fx:Value)(n b:Nat):List Obj×Nat×Nat×Nat:=
 let(v,k,x,g,m):=uk P d fx c.q8 c.t9 p (n+7) (b+12)
 let hp:=pp c.hp m
 let e:=m+c.hp.length
 let a:=g+2
 let i:=gD P "__module__" (b+7) fx
 let r:=gD P "__qualname__" (b+9) (.str d<|b+8)
 let h:=gD P "__firstlineno__" (b+11) (.int l<|b+10)
 let j:=gD P "__static_attributes__" e (.ref g)
 let q:=if c.ih=2 then[gD P "__dict__" (e+2)<|.ref<|a+1] else[]
 let f:=if c.ih=2 then e+2 else e
 let w:=if c.ih=2 then a+2 else a+1
 let s:=if c.ih=0 then[] else[gD P "__weakref__" (f+2)<|.ref w]
 let o:=if c.ih=0 then f else f+2
 let exec:=i::r::h::(k++[j])
 let bf:=i::h::(k++[j])++q++s++[gD P "__doc__" (o+1) .none]
 let t:List Obj:=if c.ih=2 then[{cls:=.type "getset_descriptor",data:=.fields #[.str "__dict__"<|e+1,.ref a,.builtin "function.__dict__",.builtin "function.__dict__#set"]}] else[]
 let u:List Obj:=if c.ih=0 then[] else[{cls:=.type "getset_descriptor",data:=.fields #[.str "__weakref__"<|f+1,.ref a,.builtin "ExceptionGroup.__weakref__",.none]}]
 ([hz c.kI,{cls:=.type "builtin_function_or_method",data:=.fields #[.builtin "type.__prepare__",.type "type"]},{cls:=.type "dict",data:=.dict exec.toArray exec.length},hz [],
  {cls:=.none,data:=.fields (vr x).toArray},j2 d d l 0 0 false (n+3) (n+4) .none .none .none (b+2)<|b+5,
  {cls:=.type "frame",slots:=#[some (.ref (n+5)),some (.ref 3),some (.ref (n+2)),none,some fx,none,some (.ref 0)]}]++v++
  [hz hp,{cls:=.type "dict",data:=.dict bf.toArray (2+c.ih)},
   {cls:=.type "type",data:=.cls {name:=d,bases:=if c.kI.isEmpty then[.type "object"] else c.kI,mro:=.ref a::c.iP,ns:=g+1,qualname:=d,subclasses:=c.lI.map .ref},
    slots:=#[if c.kI.isEmpty then none else some (.ref n),none,some (.str d b),some (.str d (b+8)),some (.builtin c.sj),some (.bool true)]}]++t++u++
  [{cls:=.type "super",data:=.fields #[.ref a,.ref a,.ref a]},{cls:=.type "builtin_function_or_method",data:=.fields #[.builtin "object.__init_subclass__",.ref a]}],a,o+3+c.m,n+5)
end
end H
namespace H
open PySem.W
noncomputable def i_(lI:List Nat)(hp:List Str):md:={kI:=[],iP:=[.type "object"],lI:=lI,hp:=hp,ih:=2}
noncomputable def below(a:Nat)(hp:List Str):md:={kI:=[.ref a],iP:=[.ref a,.type "object"],lI:=[],hp:=hp,ih:=0}
noncomputable def v0:List Value:=[.type "Exception",.type "BaseException",.type "object"]
def nR(hp:List Str):md:={kI:=[.ref 360],iP:=.ref 360::v0,lI:=[],hp:=hp,ih:=0,sj:="Exception.__new__"}
def lQ(k a:Nat):md:=(([(2,i_ [59,78,97,116,135] ["blessed","count","is_destroyed","is_freed","number","weak"]),(3,below 38 ["magic","value"]),(4,below 38 ["items","tied"]),(5,below 38 ["at","table","tied"]),(6,below 38 ["builtin","captures","package","sub"]),(7,below 38 ["array","code","hash","name","scalar"]),(8,{i_ [] ["is_weak","target"] with q8:=[.bool false]}),(9,i_ [] ["last","limits","zero"]),(34,{kI:=[.type "Exception"],iP:=v0,lI:=[380,399,418,430,449],hp:=["text"],ih:=1,sj:="Exception.__new__",m:=2}),(35,nR ["value"]),(36,nR ["value"]),(37,nR ["at"]),(38,nR []),(39,nR ["steps"]),(44,i_ (if k<=58 then[] else[562]) ["args","code","line","package","pad","want"]),(45,i_ [] ["call_code","compile_text","counter","err","frames","funcs","heap","limits","lvs","match","methods","nodes","operators","out","patterns","saves","stash","statements","steps"]),(48,i_ [538] ["captures","name","pad_size","rows","subs"]),(49,below 517 ["weights"]),(58,below 468 ["known","piled","weights"]),(89,i_ [] ["line"]),(94,i_ [] ["destroy","empties","heap","places"]),(96,{i_ [] ["depth","items","steps","text","width"] with q8:=[.int 64 1595,.int 50 1596,.int 1000000 1599,.int 100000 1602,.int 10000 1605],t9:=11})]:List (Nat×md)).lookup a).getD<|i_ [] ["generation","globs","heap"]
noncomputable def J0:List Nat:=[59,81,91,93,103,104,106,108,109,110,111]
noncomputable def pE(a:b)(l:Int->b)(d:Str->b)(c:Const):b:=c.casesOn a (λ_=>a) l (λ_=>a) (λ_ _=>a) d (λ_=>a) a
def Es(f:List PySem.Expr):Nat->List Value:=f.rec (λ_=>[]) λe _ b a=>qH [] (pE [] (λc=>.int c a::b (a+1)) λs=>.str s a::b (a+1)) e
def vI(a:b)(l:Str->b)(e:Option PySem.Expr):b:=e.casesOn a<|qH a<|pE a (λ_=>a) l
section
variable(P:Params)
def BE(k:Nat)(f:List (Option PySem.Expr)):List PySem.Expr->Nat->List DictEntry:=f.rec (λ_ _ _=>[]) (λe _ c k d a=>d.casesOn [] λv vs=>vI [] (λs=>qH [] (pE [] (λb=>gD P s a (.int b<|a+1)::c (k - 1) vs (if k=0 then a+2 else a+3)) λ_=>[]) v) e) k
def zv(f:List (Option PySem.Expr)):List Nat->Nat->List DictEntry:=f.rec (λ_ _=>[]) λe _ d g b=>g.casesOn [] λa c=>vI [] (λs=>gD P s b (.ref a)::d c (b+1)) e
noncomputable def jV(f:List DictEntry):Obj:={cls:=.type "dict",data:=.dict f.toArray f.length}
noncomputable def ko(g:ie)(f:List Obj)(x:Str)(a:Nat)(v:Value)(b:List (Nat×Nat×Nat)):ie:={g with e7:=g.e7++f,e:=g.e+f.length,ft:=a+1,i5:=g.i5++[(x,a,v)],ck:=g.ck++b}
def Dt(a:Nat)(g:ie)(x:Str)(e:PySem.Expr):ie:=e.casesOn (λ_ _ _=>g) (λ_ _ _=>g) (λ_ _ _ _=>g) (λ_ _ _=>g) (λ_ _ _ _=>g) (λ_ _ _ _=>g) (λb vs _=>if a=31 then ko g [jV (zv P b [265,272,279,286,293,300,314,321,328,335,307,307] g.ft)] x (g.ft+24) (.ref g.e) []
 else let f:=BE P (if a=54 then 34 else 0) b vs g.ft
 if a=54 then ko g [jV f,jV ((f.drop 17).take 17),jV (f.drop 34)] x (g.ft+120) (.ref g.e) [] else ko g [jV f] x (g.ft+12) (.ref g.e) []) (λ_ _ _=>g) (λ_ _ _ _=>g) (λ_ _ _ _=>g) (λ_ _ _ _ _=>g) (λ_ _ _ _=>g) (λ_ _=>g) (λ_ _=>g) (λ_ _=>g) (λ_ _ _ _=>g) (λ_ _ _ _=>g) (λ_ _ _ _=>g) (λ_ _=>g) (λ_ _ _=>g) (λ_ _ _=>g) (λ_ _ _=>g) (λ_ _=>g) (λ_ _=>g) (λ_ _=>g) (λ_ _ _=>g) (λ_ _ _ _=>g)
def BG(k d:Nat)(g:ie):Stmt->ie:=lr g (λ_ _ _=>g) (λ_ _=>g) (λ_ _ _=>g) (λ_ _ _=>g)
 (λb h c i a=>let r:=vL (J0.contains d) b b h c i a.line g.fx .none g.e g.ft
  ko g r.1 b r.2.2 (.ref r.2.1) [(a.line,a.col,r.2.1 - 1)])
 (λb c a=>let r:=EN P (lQ k d) b c a.line g.fx g.e g.ft
  ko g r.1 b r.2.2.1 (.ref r.2.1) [(a.line,a.col,r.2.2.2)])
 λl e=>l.casesOn g λj _=>lz g (λx=>hL (Dt P d g x e) (λ_=>g) (λf=>ko g [hz (Es f g.ft)] x (g.ft+f.length) (.ref g.e) []) (λ_ _ _=>g) (λ_ _=>g) (λ_ _ _ _=>g)
  (pE g (λk=>ko g [] x (g.ft+1) (.int k g.ft) []) λs=>if x="__name__" then{g with ft:=g.ft+2,fx:=.str s g.ft} else ko g [] x (g.ft+1) (.str s g.ft) []) (λ_ _ _=>g) e) j
def L_(k:Nat)(f:List Stmt):Nat->ie->ie:=f.rec (λ_ g=>g) λs _ b a g=>b (a+1)<|BG P k a g s
noncomputable def Az:ie:={e7:=[],e:=15,ft:=187,i5:=[],ck:=[],fx:=.str "__main__" 164}
def C1(k:Nat):ie:=L_ P k (jP.take k) 0 Az
def E_(g:ie):List DictEntry:=g.i5.map λx=>gD P x.1 x.2.1 x.2.2
noncomputable def DV:List DictEntry:=match(boot_o_3 P).data with
 |.dict a _=>a.toList.drop 1
 |_=>[]
def DY(k:Nat)(g:ie):List Obj:=[boot_o_0 P,boot_o_1 P,if k<=34 then boot_o_2 P else{cls:=.none,data:=.dict #[gD P "type.__subclasses__.Exception.0" 694<|dt 360,gD P "type.__subclasses__.Exception.n" 695<|dt 1] 2},jV<|gD P "__name__" 165 g.fx::(DV P++E_ P g),boot_o_4 P,boot_o_5 P,boot_o_6 P,boot_o_7 P,boot_o_8 P,boot_o_9 P,boot_o_10 P,hz [],{cls:=.none,data:=.fields (vr g.ck).toArray},j2 "<module>" "<module>" 1 0 0 false 11 12 .none .none .none 182 185,{cls:=.type "frame",slots:=#[some<|.ref 13,some<|.ref 3,some<|.ref 3,none,some<|.str "__main__" 164,none,some<|.ref 0]}]
def sH(k:Nat):List Obj:=let g:=C1 P k;DY P k g++g.e7
noncomputable def uA:List Obj->List Obj×List Obj
 |[]=>([],[])
 |[a]=>([a],[])
 |a::g::r=>let(x,t):=uA r;(a::x,g::t)
noncomputable def oR:Nat->List Obj->BT
 |0,_=>.nil
 |_+1,[]=>.nil
 |a+1,o::r=>let(x,t):=uA r;.node o (oR a x)<|oR a t
def gF(k n ft:Nat)(f:OsState):SharedT:=⟨oR 12<|sH P k,n,{},([].toArray),boot_drawn,ft,f⟩
end
noncomputable abbrev hb:Program:=PySem.Challenge.pw_qz0115_01
def pQ:Env:={scope:=hb.main.scope,locals:=3,globals:=3,cells:=[],code:=.ref 13,frame:=some 14}
abbrev ha:Code:=.body jP pQ
noncomputable abbrev kr:Pos:=⟨0,0,0,0⟩
abbrev ar(w:World)(n:Nat)(s:SharedT)(f:List Stmt)(a:Pos):Option (Flow×SharedT×Code×Pos):=Fast.tw10110043849684766642 treeTable hb w 11 (some<|.ref 6) 1 n s<|piecesOf f pQ ha a [topFrame kr]
def hE(a g:Nat):List Stmt:=(jP.drop a).take<|g - a
set_option maxHeartbeats 0 in
theorem Dn(w:World)(f:OsState):ar w 2689 (gF w.params 0 15 187 f) (hE 0 31) kr=some (.next,gF w.params 31 336 633 f,ha,⟨170,0,171,29⟩):=∅
set_option maxHeartbeats 0 in
theorem C4(w:World):∀f:OsState,ar w 203 (gF w.params 31 336 633 f) (hE 31 32) ⟨170,0,171,29⟩=some (.next,gF w.params 32 337 658 f,ha,⟨172,0,172,7⟩):=byRow2 "special-get-raises" (P:=λw=>∀f:OsState,ar w 203 (gF w.params 31 336 633 f) (hE 31 32) ⟨170,0,171,29⟩=some (.next,gF w.params 32 337 658 f,ha,⟨172,0,172,7⟩)) (λw f=>∅) (λw f=>∅) w
set_option maxHeartbeats 0 in
theorem At(w:World)(f:OsState):ar w 2530 (gF w.params 32 337 658 f) (hE 32 54) ⟨172,0,172,7⟩=some (.next,gF w.params 54 541 998 f,ha,⟨261,0,261,9⟩):=∅
set_option maxHeartbeats 0 in
theorem Le(w:World):∀f:OsState,ar w 842 (gF w.params 54 541 998 f) (hE 54 57) ⟨261,0,261,9⟩=some (.next,gF w.params 57 545 1134 f,ha,⟨264,0,264,7⟩):=byRow2 "special-get-raises" (P:=λw=>∀f:OsState,ar w 842 (gF w.params 54 541 998 f) (hE 54 57) ⟨261,0,261,9⟩=some (.next,gF w.params 57 545 1134 f,ha,⟨264,0,264,7⟩)) (λw f=>∅) (λw f=>∅) w
set_option maxHeartbeats 0 in
theorem Ml(w:World)(f:OsState):ar w 3009 (gF w.params 57 545 1134 f) (hE 57 112) ⟨264,0,264,7⟩=some (.next,gF w.params 112 1012 1829 f,ha,⟨714,0,722,64⟩):=∅
end H
namespace H
open PySem.W PyProof.Rows
def mK:Program:={hb with main:={hb.main with body:=jP.drop 111}}
def db(P:Params):Heap:=absHeap (oR 12<|sH P 112) 1012 {}
theorem oc(b:ar w n s f a=some (.next,d,ha,c)):segRun treeTable hb w 11 (some<|.ref 6) 1 n s.abs (piecesOf f pQ ha a [topFrame kr])=some (.next,d.abs,ha,c):=by exact segRun_of<|Z Fast.te10110043849684766642 b
theorem fL(w:World)(f:OsState):topGo treeTable hb w 11 (some<|.ref 6) 12 ⟨boot_heap w.params,([].toArray),boot_drawn,boot_toks,f⟩ (topStub hb)=some ((gF w.params 0 15 187 f).abs,⟨denote treeTable ha,ha,kr,[topFrame kr]⟩):=∅
theorem HD(w:World)(f:OsState):segRun treeTable hb w 11 (some<|.ref 6) 1 1 (gF w.params 0 15 187 f).abs (blockOf jP pQ ha kr [topFrame kr])=some (.next,(gF w.params 0 15 187 f).abs,ha,kr):=∅
theorem rT:jP=hE 0 31++(hE 31 32++(hE 32 54++(hE 54 57++(hE 57 112++[])))):=∅
theorem bV(w:World)(f:OsState):topRun treeTable hb w 11 (some<|.ref 6) (12+(1+(2689+(203+(2530+(842+(3009+2))))))) ⟨boot_heap w.params,([].toArray),boot_drawn,boot_toks,f⟩ (topStub hb)=some ⟨db w.params,([].toArray),boot_drawn,1829,f⟩:=by refine go_top (fL w f)<|piece_block (HD w f)<|Z rT<|piece_app (oc<|Dn w f)<|piece_app (oc<|C4 w f)<|piece_app (oc<|At w f)<|piece_app (oc<|Le w f)<|piece_app (oc<|Ml w f)<|piece_nil ?_;kernel_rfl
theorem FQ:∀w:World,(fencedOpening treeTable hb w 20000).map (λs=>(s.heap,s.gens,s.drawn,s.toks))=some (boot_heap w.params,Array.mk [],boot_drawn,boot_toks):=boot_open ∅ (rfl) λs=>∅
theorem A5(w:World):(((boot_heap w.params).isNs mainGlobals&&(Array.mk []:Array GenState).size==0,(boot_heap w.params).objs.size,(boot_heap w.params).nsMap mainGlobals "__annotations__"):Bool×Nat×Option Value)=(true,11,some<|.ref 6):=∅
noncomputable def zx:Stmt->List Str|.FunctionDef n _ _ _ _ _ _ _ _ _=>[n]|.ClassDef n _ _ _ _ _ _ _ _ _ _=>[n]|.Assign [.Name x _] _ _=>if x="__name__" then[] else[x]|_=>[]
def pG:List Str:=(jP.take 111).flatMap zx
theorem xo(b:a=c)(k:g=d):(a,g)=(c,d):=Z b<|Z k rfl
section
variable(w:World)(f:OsState)
abbrev ue:Shared:=⟨db w.params,([].toArray),boot_drawn,1829,f⟩
set_option maxHeartbeats 0 in
theorem Ee:(staticsOk (importedModules hb.main.body) (boot_heap w.params) (db w.params)&&namesBound hb (db w.params)&&gensDone (ue w f)&&laidKept (boot_heap w.params) (db w.params))=true:=∅
end
section
variable(w:World)(f:OsState)
noncomputable abbrev qw:Shared->Bool:=λ_=>true
set_option maxHeartbeats 0 in
theorem Bm:openSeen mK pG (importedModules hb.main.body) qw true (ue w f)=openGood mK pG:=∅
end
theorem Bn:LeftO hb mK pG qw (λs=>s.heap) (λw=>db w.params) 20000 true:=LeftO.of_pieces (gs₀:=([].toArray)) FQ A5 bV (rfl) λw=>funext λf=>xo (Ee w f)<|xo (Bm w f) rfl
end H
namespace H
open PySem.W PySem.Calls PyProof.Rows
set_option tactic.hygienic true
set_option genCtorIdx false
set_option genSizeOf false
set_option genInjectivity false
noncomputable def Ab:List (Nat×Nat):=[(0,21),(11,229),(13,236),(15,243),(16,250),(19,258),(20,265),(21,272),(22,279),(23,286),(24,293),(25,300),(26,307),(27,314),(28,321),(29,328),(30,335),(32,343),(46,500),(59,569),(60,576),(61,583),(62,590),(63,597),(64,604),(67,611),(69,618),(70,625),(71,632),(72,639),(73,646),(74,653),(75,660),(76,667),(78,674),(81,679),(82,686),(83,693),(84,700),(85,707),(86,714),(87,721),(90,749),(91,754),(92,761),(93,766),(101,955),(102,962),(103,967),(104,972),(105,979),(106,984),(107,991),(108,996),(109,1001),(110,1006),(111,1011)]
noncomputable def r5:List (Nat×Nat×Nat):=[(2,38,35),(3,59,56),(4,78,75),(5,97,94),(6,116,113),(7,135,132),(8,155,152),(9,218,173),(34,360,357),(35,380,377),(36,399,396),(37,418,415),(38,430,0),(39,449,446),(44,468,465),(45,489,486),(48,517,514),(49,538,535),(58,562,559),(89,738,735),(94,858,780),(96,880,877),(98,943,898)]
def dX(a:Nat):Nat->Nat|0=>(Ab.lookup a).getD 0|q+1=>((r5.lookup a).getD (0,0)).2+7*q - (if a=94/\5<=q then 2 else 0)
def cm(a:Nat):Nat:=((r5.lookup a).getD (0,0)).1
noncomputable def eV:Nat->Nat|0=>336|1=>541|2=>544|3=>545|4=>948|_=>1012
def oi:List Nat:=2::r5.flatMap λa=>[a.2.1,a.2.1 - 1]++(List.range<|if a.1=94 then 12 else if a.1=9\/a.1=98 then 7 else if a.1=38 then 0 else 1).map λq=>dX a.1<|q+1
def cQ(P:Params)(a:Nat):Obj:=((sH P 112)[a]?).getD default
def gQ(P:Params):Frag:=oi.map λa=>(a,cQ P a)
end H
namespace R
open PySem.W PySem.Calls PyProof.Rows
set_option tactic.hygienic true
noncomputable abbrev aI:Program:=PySem.Challenge.pw_qz0115_01
structure Cg where
 cl:Nat->Nat->Addr
 ay:Nat->Addr
 cO:Nat->Addr
def cb:Cg:=⟨H.dX,H.cm,H.eV⟩
noncomputable def f0:List (Addr×Addr):=[(990,986),(995,993)]
structure cz where
 x:World
 dH:Frag
 co:Heap
 hn:Str->Option Value
 lS:Str->Option Value
def sk(w:World)(b:Heap):cz:=⟨w,H.gQ w.params,hideAll b [986,993],(H.db w.params).nsMap 3,(H.db w.params).nsMap 0⟩
inductive nL(c:cz)(f:List Int):Prop
 |mk (w:World) (s:Shared) (vs:List Value) (n:Nat) (Q i:Value->Shared->Prop):c=sk w s.heap->(∀g o,(H.db w.params).get? g=some o->s.heap.get? g=some o)->(H.db w.params).objs.size<=s.heap.objs.size->
  s.heap.get? 1012=some (listOf vs.toArray n)->IntsAre vs f->f.length<=63->(∀a,OldK s.heap a.heap->a.os=s.os->a.gens=s.gens->Q (.bool true) a)->¬wpAny (model aI w) callerA (PySem.call (.ref 1011) [.ref 1012]) Q i s->nL c f
open Classical in
def oO:cz×List Int:=if b:∃x:cz×List Int,nL x.1 x.2 then b.choose else(sk ⟨λ_ _=>0,{strHash:=λ_=>0,shareClass:=λ_=>0,mergeTok:=id,idOf:=λ_=>0,idOfShared:=λ_ _=>0,followText:=λ_=>false,idOfImm:=λ_=>0}⟩ {},[])
@[irreducible] def aj:cz:=oO.1
end R
section
set_option tactic.hygienic true
@[irreducible] def dI:List Int:=R.oO.2
theorem R.vQ(b:∃x:R.cz×List Int,R.nL x.1 x.2):R.nL R.aj dI:=by unfold R.aj dI R.oO;rw[dif_pos b];exact b.choose_spec
theorem Lb:dI.length<=63:=by by_cases b:∃x:R.cz×List Int,R.nL x.1 x.2;obtain⟨_,_,_,_,_,_,_,_,_,_,_,a,_⟩:=R.vQ b;exact a;unfold dI R.oO;rw[dif_neg b];decide
abbrev ba:uF:=Ek dI
theorem pu:∃n,99995<=n/\n<999996:=⟨99995,#[]⟩
noncomputable def fP:Nat:=Classical.choose pu
@[irreducible] def aJ:Nat:=fP+5
theorem n3:aJ=fP+5:=by unfold aJ;rfl
theorem oG:100000<=fP+5:=QT (Classical.choose_spec pu).1 5
theorem dL:100000<=aJ:=n3▸oG
theorem mf:aJ<=bl:=n3▸QT (Qw (Classical.choose_spec pu).2) 5
end
section
set_option tactic.hygienic true
set_option genCtorIdx false
set_option genSizeOf false
set_option genInjectivity false
section
def d5(b:V):Y->Option af|.a a=>b.r a|.cO k=>ba.cQ k|_=>Option.none
def dz(v:Y):fh af:=λa o b=>b=a/\d5 a v=some o
def a4(o:af):fh Y:=λa r b=>r=.a a.f/\b=a.z o
def d3:fh Nat:=λa r b=>r=a.f/\b=a.z (.h1 Option.none)
def b6(a:Nat):fh Y:=λb v c=>c=b/\b.r a=some (.h1<|some v)
def gi(a:Nat)(v:Y):fh Unit:=λb _ c=>c=b.Q a (.h1<|some v)/\∃w,b.r a=some (.h1 w)
def dD(v:Y):fh Bool:=λa g b=>b=a/\v=.b' g
noncomputable def ks(x:Str):Bool:=x==("value":Str)||x==("text":Str)
inductive ee(v:Y)(x:Str):fh Y
 |aD {a c b w}:d5 a v=some (.aD c b)->b.lookup x=some w->ee v x a w a
 |bd {a c d b w}:ks x=true->d5 a v=some (.bd c<|some d)->a.r d=some (.hv b)->b.lookup x=some w->ee v x a w a
inductive fN:Y->Str->Y->fh Unit
 |aD {b:V} {a c d x w}:b.r a=some (.aD c d)->Nat.blt d.length 100=true->fN (.a a) x w b () (b.Q a<|.aD c<|cN x w d)
 |wz {b:V} {a c x w}:ks x=true->b.r a=some (.bd c Option.none)->fN (.a a) x w b () ((b.z<|.hv [(x,w)]).Q a<|.bd c<|some b.f)
 |bd {b:V} {a c e d x w}:ks x=true->b.r a=some (.bd c<|some e)->b.r e=some (.hv d)->Nat.blt d.length 100=true->fN (.a a) x w b () (b.Q e<|.hv<|cN x w d)
inductive ce(v:Y):Y->fh Y
 |d {a e b w}:d5 a v=some (.d e)->(g8 b e.length).bind (λf=>e[f]?)=some w->ce v (.c b) a w a
 |A {a e b w}:d5 a v=some (.A e)->(g8 b e.length).bind (λf=>e[f]?)=some w->ce v (.c b) a w a
 |K {a g k w}:d5 a v=some (.K g)->gu k=true->dn k g=some w->ce v k a w a
 |l {a s b c}:v=.l s->(g8 b s.cps.size).bind (λf=>s.cps[f]?)=some c->ce v (.c b) a (.l ⟨#[c]⟩) a
def nm(v k:Y):fh Y:=λb w c=>c=b/\gu k=true/\∃a,d5 b v=some (.K a)/\dn k a=some w
inductive jL:Y->Y->Y->fh Unit
 |d {b:V} {a f} {c:Int} {w}:b.r a=some (.d f)->(0<=c/\c<f.length/\cB c=true)->jL (.a a) (.c c) w b () (b.Q a<|.d<|f.set c.toNat w)
 |K {b:V} {a e k w}:b.r a=some (.K e)->gu k=true->Nat.ble e.length bl=true->jL (.a a) k w b () (b.Q a<|.K<|e0 k w e)
def gW(v:Y)(d c:Option Int):fh Y:=λb r e=>∃a,d5 b v=some (.d a)/\Nat.ble a.length bl=true/\a4 (.d<|iD a d c) b r e
inductive fg:Operator->Y->Y->fh Y
 |rO {a x t}:cB x=true->cB t=true->fg .Add (.c x) (.c t) a (.c<|x+t) a
 |au {a x t}:cB x=true->cB t=true->fg .Sub (.c x) (.c t) a (.c<|x - t) a
inductive bW:Operator->Y->Y->fh Y
 |c {b f a g r}:fg f a g b r b->bW f a g b r b
 |fx {b x t}:0<t->bW .Mod (.c x) (.c t) b (.c<|x % t) b
 |uo {b}:bW .Pow (.c 10) (.c 9) b (.c 1000000000) b
 |pO {b x t}:Nat.ble x.cps.size 100=true->Nat.ble t.cps.size 100=true->bW .Add (.l x) (.l t) b (.l ⟨x.cps++t.cps⟩) b
 |cj {b a g d e}:d5 b a=some (.d d)->d5 b g=some (.d e)->Nat.ble (d.length+e.length) bl=true->bW .Add a g b (.a b.f) (b.z<|.d<|d++e)
 |yG {b a d}:d5 b a=some (.d d)->bW .Mult a (.c 0) b (.a b.f) (b.z<|.d [])
inductive gT(b:V):CmpOp->Y->Y->Bool->Prop
 |oy:gT b .Is .s .s true
 |wE {a}:a≠.s->gT b .Is a .s false
 |wh:gT b .IsNot .s .s false
 |yr {a}:a≠.s->gT b .IsNot a .s true
 |f8 {x t}:gT b .Lt (.c x) (.c t) (decide (x<t))
 |jN {x t}:gT b .Gt (.c x) (.c t) (decide (t<x))
 |eW {x t}:gT b .NotEq (.c x) (.c t) (x !=t)
 |tS {e q d}:b.r e=some (.d d)->b.r q=some (.d [])->gT b .NotEq (.a e) (.a q) (!d.isEmpty)
 |yp {x t}:gT b .Eq (.c x) (.c t) (x==t)
 |u' {x t}:gT b .Eq (.l x) (.l t) (x==t)
 |fH {a g}:gO b 40 a g->gT b .Eq a g true
 |xe {k v c}:d5 b v=some (.K c)->gu k=true->gT b .In k v (dn k c).isSome
 |tE {k v c}:d5 b v=some (.K c)->gu k=true->gT b .NotIn k v (dn k c).isNone
 |x4 {k v d g}:d5 b v=some (.d d)->mv k d=some g->gT b .NotIn k v (!g)
def cW(d:CmpOp)(a g:Y):fh Y:=λc r e=>e=c/\∃b,r=.b' b/\gT c d a g b
noncomputable def j3(n:String):Bool:=n=="str"||n=="list"||n=="tuple"
noncomputable def Co:af->Option String|.d _=>some "list"|.A _=>some "tuple"|_=>Option.none
inductive kh(b:V):Y->String->Prop
 |c {d}:kh b (.c d) "int"
 |l {s}:kh b (.l s) "str"
 |s:kh b .s "NoneType"
 |kB {a o n}:b.r a=some o->Co o=some n->kh b (.a a) n
inductive ja(b:V):Y->Y->Bool->Prop
 |b7 {v k n}:j3 n=true->kh b v k->ja b v (.b7 n) (k==n)
 |ay {v k c}:ba.hq c=true->kh b v k->ja b v (.ay c) false
 |aD {a k c d}:ba.hq c=true->b.r a=some (.aD k d)->ba.hq k=true->ja b (.a a) (.ay c) (ba.au k c)
 |xq {a k n d}:j3 n=true->b.r a=some (.aD k d)->ba.hq k=true->ja b (.a a) (.b7 n) false
 |nq {v f e n k}:d5 b f=some (.A [.b7 e,.b7 n])->j3 e=true->j3 n=true->kh b v k->ja b v f (k==e||k==n)
noncomputable def qk:af->Option Nat|.d a=>some a.length|.A a=>some a.length|.K b=>some b.length|_=>Option.none
inductive lE(p:Bool):String->List Y->fh Y
 |a5 {b v o n}:d5 b v=some o->qk o=some n->Nat.ble n bl=true->lE p "len" [v] b (.c n) b
 |x7 {b v c g}:ja b v c g->lE p "isinstance" [v,c] b (.b' g) b
 |wB {b a g}:p=false->lE p "max" [.c a,.c g] b (.c<|if a<g then g else a) b
 |hW {b v d f}:p=false->d5 b v=some (.K d)->mV (d.map (·.1))=some f->Nat.blt f.length 64=true->lE p "sorted" [v] b (.a b.f) (b.z<|.d<|(lF f).map .c)
noncomputable def pK(x:Str):Bool:=x==("append":Str)||x==("pop":Str)||x==("extend":Str)
noncomputable def pB(x:Str):Bool:=x==("get":Str)||x==("pop":Str)
inductive h5:Y->Str->List Y->fh Y
 |jI {b:V} {a c v}:b.r a=some (.d c)->Nat.ble c.length bl=true->h5 (.a a) "append" [v] b .s (b.Q a<|.d<|c++[v])
 |lv {b:V} {a c v}:b.r a=some (.d<|c++[v])->Nat.ble (c++[v]).length bl=true->h5 (.a a) "pop" [] b v (b.Q a<|.d c)
 |xg {b:V} {a g c d}:b.r a=some (.d c)->b.r g=some (.d d)->g≠a->Nat.ble (c.length+d.length) bl=true->h5 (.a a) "extend" [.a g] b .s (b.Q a<|.d<|c++d)
inductive jO:Y->Str->List Y->fh Y
 |r {a v c k b}:d5 a v=some (.K c)->gu k=true->jO v "get" [k,b] a ((dn k c).getD b) a
 |lv {a v c k b}:d5 a v=some (.K c)->gu k=true->dn k c=Option.none->jO v "pop" [k,b] a b a
inductive dv:bI->Nat->fh (Option Y)
 |d {a v c b}:d5 a v=some (.d c)->dv (.d v) b a c[b]? a
 |A {a v c b}:d5 a v=some (.A c)->dv (.A v) b a c[b]? a
 |cf {a n b}:dv (.cf n) b a (if b<n then some (.c b) else Option.none) a
end
def n5:Y->Bool|.ay k=>ba.dV k|_=>false
def nS(c:Nat):Y->Bool|.ay k=>ba.au c k|_=>false
def mY(c:Nat)(a:List Y):Option Bool:=if a.all n5 then some (a.any<|nS c) else Option.none
end
section
noncomputable def pS(e:Expr):Bool:=e.ctorIdx.beq 23
def lf(b:Expr)(c:List Expr)(f:List Comprehension):Bool:=f.casesOn true λa r=>r.isEmpty&&c.isEmpty&&a.ifs.isEmpty&&pS b&&pS a.iter&&pS a.target
abbrev I:=Y->List Y->(Y->aa)->(Y->aa)->aa
def jA(o:Option a)(h:a->aa):aa:=o.casesOn ae h
abbrev uW(a:aa)(e b c d:aa)(o:Option NameKind):aa:=o.casesOn a λk=>k.casesOn e b c a d
def f4(c:Scope)(b:ax)(x:Str)(v:Y)(h:ax->aa):aa:=uW ae (h {b with ct:=cN x v b.ct}) (jA (b.dg.lookup x) λa=>J (gi a v) λ_=>h b) ae ae<|c.names.lookup x
def mm(f:List (Str×NameKind)):List (Str×Nat)->(List (Str×Nat)->aa)->aa:=f.rec (λd h=>h d) λc _ b d h=>c.2.casesOn (b d h) (J d3 λa=>b ((c.1,a)::d) h) (b d h) (b d h)<|b d h
def jl(vs:List Y)(a:aa):aa:=vs.casesOn a λ_ _=>ae
def e_(vs:List Y)(k:Y->List Y->aa):aa:=vs.casesOn ae k
def hl(b:Scope):List Expr->List Y->ax->(ax->aa)->aa|[],vs,a,h=>jl vs (h a)|c::d,vs,a,h=>lz ae (λx=>e_ vs λv vs=>f4 b a x v λa=>hl b d vs a h) c
def nA(c:Scope):List (Str×Y)->ax->(ax->aa)->aa|[],a,h=>h a|b::r,a,h=>f4 c a b.1 b.2 λa=>nA c r a h
def iW(z:af)(h:List Y->aa):aa:=z.casesOn (λ_ _=>ae) (λ_=>ae) h (λ_=>ae) (λ_ _=>ae) (λ_=>ae) (λ_ _=>ae) λ_=>ae
def sl(z:af)(h:Nat->aa):aa:=z.casesOn (λ_ _=>ae) (λ_=>ae) (λ_=>ae) (λ_=>ae) (λ_ _=>ae) (λ_=>ae) (λc _=>h c) λ_=>ae
def iU(z:af)(a:aa):aa:=sl z λ_=>a
def bY(v:Y)(h:bI->aa):aa:=J (dz v) λz=>z.casesOn (λ_ _=>ae) (λ_=>h<|.d v) (λ_=>h<|.A v) (λ_=>ae) (λ_ _=>ae) (λ_=>ae) (λ_ _=>ae) λ_=>ae
section
def jU(b:Scope)(c:Expr)(v:Y)(a:ax)(h:ax->aa):aa:=hL ae (λx=>f4 b a x v h) (λd=>J (dz v) λz=>iW z λe=>hl b d e a h) (λ_ _ _=>ae) (λ_ _=>ae) (λ_ _ _ _=>ae) (λ_=>ae) (λ_ _ _=>ae) c
abbrev pL(a:aa)(l:Y->aa)(o:Option Y):aa:=o.casesOn a l
abbrev mZ(l:ax->aa)(h:ai->aa)(r:ai):aa:=r.casesOn l (λv a=>h<|.b0 v a) λe a=>h<|.bd e a
def ci(s:bI)(b:ax->Y->(ai->aa)->aa):Nat->Nat->ax->(ai->aa)->aa|0,_,_,_=>ae|n+1,c,a,h=>J (dv s c)<|pL (h<|.f a) λx=>b a x<|mZ (λa=>ci s b n (c+1) a h) h
def iy(c:ax->(Bool->aa)->aa)(b:ax->(ai->aa)->aa):Nat->ax->(ai->aa)->aa|0,_,_=>ae|n+1,a,h=>c a λg=>if g then b a (mZ (λa=>iy c b n a h) h) else h<|.f a
def bo(s:bI)(b:Y->(List Y->aa)->(Y->aa)->aa):Nat->Nat->(List Y->aa)->(Y->aa)->aa|0,_,_,_=>ae|n+1,c,h,i=>J (dv s c)<|pL (h []) λx=>b x (λa=>bo s b n (c+1) (λg=>h<|a++g) i) i
def g9(c:Scope)(b:ax)(x:Str)(h:Y->aa):aa:=if x==("__debug__":Str)||x==("__classdict__":Str) then ae else uW ae (jA (b.ct.lookup x) h) (jA (b.dg.lookup x) λa=>J (b6 a) h) (jA (b.dg.lookup x) λa=>J (b6 a) h) (jA (ba.mj x) h)<|c.names.lookup x
def qq(b:Scope)(a:ax):List Expr->(List Y->aa)->aa|[],h=>h []|e::r,h=>lz ae (λx=>g9 b a x λv=>qq b a r λvs=>h<|v::vs) e
def sp(c:Scope)(a:ax)(e:Expr)(h:List Y->aa):aa:=hL ae (λx=>g9 c a x λv=>h [v]) (λd=>qq c a d λb=>if Nat.ble b.length 1000 then h b else ae) (λ_ _ _=>ae) (λ_ _=>ae) (λ_ _ _ _=>ae) (λ_=>ae) (λ_ _ _=>ae) e
def s4(v:Y)(h:Y->aa):aa:=ly ae (λa=>h<|.c<|-a) v
def kZ(v:Y)(h:Option Int->aa):aa:=ly ae (λa=>h<|some a) v
def fB(v:Y)(h:bI->aa):aa:=ly ae (λn=>if Nat.ble n.natAbs bl then h (.cf n.toNat) else ae) v
variable(m:I)
abbrev o3(c:Y)(x:Str)(b:(List Y->aa)->aa)(h i:Y->aa)(a g:Option Y):aa:=a.casesOn (g.casesOn ae λl=>b λb=>m l (c::b) h i) λl=>g.casesOn (if ba.fC x then b (λb=>m l b h i) else ae) λ_=>ae
abbrev j4(b:Y)(x:Str)(a:(List Y->aa)->aa)(h i:Y->aa)(z:af):aa:=z.casesOn (λc d=>o3 m b x a h i (d.lookup x)<|ba.ex c x) (λ_=>if pK x then a (λa=>J (h5 b x a) h) else ae) (λ_=>ae) (λ_=>if pB x then a (λa=>J (jO b x a) h) else ae) (λ_ _=>ae) (λ_=>ae) (λ_ _=>ae) λ_=>ae
abbrev wM(c:List Y)(b:Nat->aa):aa:=c.casesOn ae λa r=>yx ae (λa=>r.casesOn ae λg r=>r.casesOn (g.casesOn ae (λ_=>ae) (λ_=>ae) (λ_=>b a) (λ_=>ae) (λ_=>ae) (λ_ _=>ae) (λ_=>ae) (λ_=>ae) λ_=>ae) λ_ _=>ae) a
abbrev uT(h:Y->aa)(b:List Y):aa:=wM b λa=>J (dz<|.a a) λz=>iU z<|h .s
def aQ(a:Y)(x:Str)(b:(List Y->aa)->aa)(h i:Y->aa):aa:=a.casesOn (J (dz a)<|j4 m a x b h i) (λ_=>J (dz a)<|j4 m a x b h i) (λ_=>J (dz a)<|j4 m a x b h i) (λ_=>J (dz a)<|j4 m a x b h i) (λn=>if n="Exception"/\x=("__init__":Str) then b (uT h) else ae) (λ_=>J (dz a)<|j4 m a x b h i) (λ_ _=>J (dz a)<|j4 m a x b h i) (λk=>(ba.ex k x).casesOn ae λl=>b λb=>m l b h i) (λ_=>J (dz a)<|j4 m a x b h i) λ_=>J (dz a)<|j4 m a x b h i
def hd(f c:Nat)(b:Bool)(l:ed)(d:List (Str×Nat))(h:Y->aa):aa:=λa=>if(a.L.contains (f,c)||b)=true then False else J (a4<|.cl l d) h {a with L:=(f,c)::a.L}
def dc(b:BoolOp)(a:Bool)(h:Bool->aa)(R:aa):aa:=b.casesOn (if a then R else h false)<|if a then h true else R
abbrev qc(a:aa)(l:aa->aa):aa:=l a
mutual
def cw:Nat->Scope->ax->Expr->(Y->aa)->(Y->aa)->aa|0,_,_,_,_,_=>ae|d+1,j,b,e,h,i=>e.casesOn (λ_ _ _=>ae) (λ_ _ _=>ae) (λf P r _=>cw d j b f (λa=>cw d j b r (λg=>J (bW P a g) h) i) i) (λo x _=>o.casesOn ae ae ae<|cw d j b x (λv=>s4 v h) i) (λa g H p=>(jz H b).casesOn ae λy=>b.ck.casesOn ae λ_=>hd p.line p.col (!kn a) (kS a (.expr g) H) y h) (λV a g _=>h8 d j b V (λc=>if c then cw d j b a h i else cw d j b g h i) i) (λq vs _=>if !(q.length==vs.length&&q.all (·.isSome)&&Nat.ble q.length 15) then ae else oZ d j b q vs (λK=>if K.all (λp=>gu p.1) then J (a4<|.K<|K.foldl (λf p=>e0 p.1 p.2 f) []) h else ae) i) (λ_ _ _=>ae) (λF R z _=>R.casesOn ae λu B=>if !(ro z&&u.is_async==0&&B.all (·.is_async==0)&&lf F u.ifs B) then ae else(jz z b).casesOn ae λy=>kb d j b u.iter (λX=>bo X (λx h i=>iv d z u.target u.ifs B F x {ct:=[],dg:=y} h i) aJ 0 (λL=>if Nat.ble L.length bl then J (a4<|.d L) h else ae) aB) i) (λ_ _ _ _=>ae) (λ_ _ _ _ _=>ae) (λ_ _ _ _=>ae) (λ_ _=>ae) (λ_ _=>ae) (λ_ _=>ae) (λf C D _=>C.casesOn ae λE C=>C.casesOn (D.casesOn ae λr D=>D.casesOn (if behindInMarks E r then ae else cw d j b f (λa=>cw d j b r (λg=>J (cW E a g) h) i) i) λ_ _=>ae) λ_ _=>ae) (λl args q p=>q.casesOn (qc (if !gd args then ae else cw d j b l (λQ=>hr d j b args (λO=>m Q O h i) i) i) λn=>hL n (λ_=>n) (λ_=>n) (λo x M=>if pk o||!(M.endLine==p.line)||!gd args||Nat.ble 30 args.length then ae else cw d j b o (λW=>aQ m W x (λA=>hr d j b args A i) h i) i) (λ_ _=>n) (λ_ _ _ _=>n) (λ_=>n) (λ_ _ _=>n) l) λ_ _=>ae) (λ_ _ _ _=>ae) (λ_ _=>ae) (λc _ _=>c.casesOn (h .s) (λg=>h<|.b' g) (λw=>h<|.c w) (λ_=>ae) (λ_ _=>ae) (λs=>h<|.l s) (λ_=>ae) ae) (λv x _=>if pk v||!ba.fC x then ae else cw d j b v (λv=>J (ee v x) h) i) (λv w _=>qc (cw d j b v (λo=>cw d j b w (λk=>J (ce o k) h) i) i) λn=>hL n (λ_=>n) (λ_=>n) (λ_ _ _=>n) (λ_ _=>n) (λ_ _ _ _=>n) (λ_=>n) (λT S Z=>Z.casesOn (cw d j b v (λo=>o0 d j b T (λa=>o0 d j b S (λg=>J (gW o a g) h) i) i) i) λ_=>n) w) (λ_ _=>ae) (λx _=>g9 j b x h) (λt _=>if !gd t then ae else hr d j b t (λvs=>if Nat.ble vs.length 1000 then J (a4<|.d vs) h else ae) i) (λt _ _=>if !gd t then ae else hr d j b t (λvs=>if Nat.ble vs.length 1000 then J (a4<|.A vs) h else ae) i) λ_ _ _ _=>ae
def hr:Nat->Scope->ax->List Expr->(List Y->aa)->(Y->aa)->aa|0,_,_,_,_,_=>ae|a+1,c,b,f,h,i=>f.casesOn (h []) λe d=>cw a c b e (λv=>hr a c b d (λvs=>h<|v::vs) i) i
def oZ:Nat->Scope->ax->List (Option Expr)->List Expr->(List (Y×Y)->aa)->(Y->aa)->aa|0,_,_,_,_,_,_=>ae|b+1,d,c,f,e,h,i=>f.casesOn (e.casesOn (h []) λ_ _=>ae) λk j=>k.casesOn ae λk=>e.casesOn ae λv vs=>cw b d c k (λa=>cw b d c v (λg=>oZ b d c j vs (λr=>h<|(a,g)::r) i) i) i
def o0:Nat->Scope->ax->Option Expr->(Option Int->aa)->(Y->aa)->aa|0,_,_,_,_,_=>ae|a+1,c,b,e,h,i=>e.casesOn (h Option.none) λe=>cw a c b e (λv=>kZ v h) i
def kb:Nat->Scope->ax->Expr->(bI->aa)->(Y->aa)->aa|0,_,_,_,_,_=>ae|b+1,a,c,d,h,i=>(oP d).casesOn (cw b a c d (λv=>bY v h) i) λe=>if a.names.lookup ("range":Str)==some .globalImplicit then cw b a c e (λv=>fB v h) i else ae
def iv:Nat->Scope->Expr->List Expr->List Comprehension->Expr->Y->ax->(List Y->aa)->(Y->aa)->aa|0,_,_,_,_,_,_,_,_,_=>ae|c+1,b,f,l,j,e,x,a,h,i=>if !sx f a.ct then ae else jU b f x a λa=>nW c b a l (λg=>if g then j.casesOn (cw c b a e (λv=>h [v]) i) λd k=>kb c b a d.iter (λm=>bo m (λt h i=>iv c b d.target d.ifs k e t a h i) aJ 0 h i) i else h []) i
def nW:Nat->Scope->ax->List Expr->(Bool->aa)->(Y->aa)->aa|0,_,_,_,_,_=>ae|a+1,c,b,f,h,i=>f.casesOn (h true) λe d=>h8 a c b e (λg=>if g then nW a c b d h i else h false) i
def h8:Nat->Scope->ax->Expr->(Bool->aa)->(Y->aa)->aa|0,_,_,_,_,_=>ae|b+1,d,c,e,h,i=>qc (cw b d c e (λv=>J (dD v) h) i) λa=>e.casesOn (λf j _=>oA b d c f j h i) (λ_ _ _=>a) (λ_ _ _ _=>a) (λo x _=>o.casesOn a (h8 b d c x (λg=>h<|!g) i) a a) (λ_ _ _ _=>a) (λ_ _ _ _=>ae) (λ_ _ _=>a) (λ_ _ _=>a) (λ_ _ _ _=>a) (λ_ _ _ _=>a) (λ_ _ _ _ _=>a) (λ_ _ _ _=>a) (λ_ _=>a) (λ_ _=>a) (λ_ _=>a) (λ_ _ _ _=>a) (λ_ _ _ _=>a) (λ_ _ _ _=>a) (λ_ _=>a) (λ_ _ _=>a) (λ_ _ _=>a) (λ_ _ _=>a) (λ_ _=>a) (λ_ _=>a) (λ_ _=>a) (λ_ _ _=>a) λ_ _ _ _=>a
def oA:Nat->Scope->ax->BoolOp->List Expr->(Bool->aa)->(Y->aa)->aa|0,_,_,_,_,_,_=>ae|b+1,d,c,a,f,h,i=>f.casesOn (h<|a==.And) λe g=>h8 b d c e (λj=>dc a j h<|oA b d c a g h i) i
end
def bb(b:ax)(h:ai->aa):Y->aa:=λe a=>oT e a=true/\h (.bd e b) a
def vV(c:Nat)(b:Scope)(g:Expr)(v:Y)(a:ax)(h:ai->aa):aa:=hL ae (λx=>f4 b a x v λa=>h<|.f a) (λi=>J (dz v) λz=>iW z λj=>hl b i j a λa=>h<|.f a) (λo x _=>if !ba.fC x then ae else cw m c b a o (λo=>J (fN o x v) λ_=>h<|.f a) aB) (λo d=>cw m c b a o (λf=>cw m c b a d (λe=>J (jL f e v) λ_=>h<|.f a) aB) aB) (λ_ _ _ _=>ae) (λ_=>ae) (λ_ _ _=>ae) g
variable(u:I)
abbrev ni(l:ax->aa)(a:Y->ax->aa)(r:ai):aa:=r.casesOn l a λ_ _=>ae
abbrev q7(bf:List Stmt)(bV:List Stmt->ax->(ai->aa)->aa)(h:ai->aa)(r:ai):aa:=bf.casesOn (h r) λb c=>ni (λa=>bV (b::c) a h) (λv a=>bV (b::c) a<|ni (λa=>h<|.b0 v a) λ_ _=>ae) r
abbrev uw(b:Y->ax->Nat->aa)(h:ai->aa)(r:ai):aa:=r.casesOn (λa=>h<|.f a) (λv a=>h<|.b0 v a) λe a=>J (dz e) λz=>sl z<|b e a
mutual
def lm:I->Bool->Nat->Scope->ax->Stmt->(ai->aa)->aa|_,_,0,_,_,_,_=>ae|m,p,f+1,d,b,s,h=>s.casesOn (λx a g C F K u n bind A=>C.casesOn (F.casesOn (K.casesOn (n.casesOn ((jz u b).casesOn ae λB=>b.ck.casesOn ae λ_=>hd A.line A.col (x !=bind||!kn a) (kS a (.stmts g) u) B λl=>f4 d b bind l λb=>h<|.f b) λ_=>ae) λ_ _=>ae) λ_=>ae) λ_ _=>ae) (λ_ _ _ _ _ _ _ _ _ _=>ae) (λ_ _ _ _ _ _ _ _ _ _ _=>ae) (λe _=>e.casesOn (h<|.b0 .s b) λe=>cw m f d b e (λv=>h<|.b0 v b)<|bb b h) (λ_ _=>ae) (λn e _=>n.casesOn ae λi n=>n.casesOn (if sQ d i e then ae else cw m f d b e (λv=>vV m f d i v b h)<|bb b h) λ_ _=>ae) (λ_ _ _ _ _ _ _=>ae) (λi q e _=>hL ae (λx=>g9 d b x λa=>cw m f d b e (λg=>J (fg q a g) λr=>f4 d b x r λb=>h<|.f b) aB) (λ_=>ae) (λo x _=>if !ba.fC x then ae else cw m f d b o (λk=>J (ee k x) λa=>cw m f d b e (λg=>J (fg q a g) λr=>J (fN k x r) λ_=>h<|.f b) aB) aB) (λo D=>cw m f d b o (λk=>cw m f d b D (λy=>J (nm k y) λa=>cw m f d b e (λg=>J (fg q a g) λr=>J (jL k y r) λ_=>h<|.f b) aB) aB) aB) (λ_ _ _ _=>ae) (λ_=>ae) (λ_ _ _=>ae) i) (λ_ _ _ _ _=>ae) (λi E g j _=>j.casesOn (kb m f d b E (λH=>ci H (λb x h=>jU d i x b λb=>br m p f d b g h) aJ 0 b h) aB) λ_ _=>ae) (λ_ _ _ _ _=>ae) (λi g j _=>j.casesOn (iy (λb h=>h8 m f d b i h aB) (λb h=>br m p f d b g h) aJ b h) λ_ _=>ae) (λi a g _=>h8 m f d b i (λc=>if c then br m p f d b a h else br m p f d b g h) aB) (λ_ _ _=>ae) (λ_ _ _=>ae) (λ_ _ _=>ae) (λe cs _=>e.casesOn ae λe=>cs.casesOn (if p then ae else cw m f d b e (λv=>J (dz v) λz=>iU z<|h<|.bd v b)<|bb b h) λ_=>ae) (λg w j bf _=>j.casesOn (if w.isEmpty&&bf.isEmpty then ae else br m p f d b g<|uw (λe b c=>jB m p f d b e c w<|q7 bf (λt b h=>br m p f d b t h) h)<|q7 bf (λt b h=>br m p f d b t h) h) λ_ _=>ae) (λ_ _ _ _ _=>ae) (λ_ _ _=>ae) (λ_ _=>ae) (λ_ _ _ _=>ae) (λ_ _=>ae) (λ_ _=>ae) (λe _=>if qJ e then ae else cw m f d b e (λ_=>h<|.f b)<|bb b h) (λ_=>ae) (λ_=>ae) λ_=>ae
def br:I->Bool->Nat->Scope->ax->List Stmt->(ai->aa)->aa|_,_,0,_,_,_,_=>ae|m,p,b+1,c,a,f,h=>f.casesOn (h<|.f a) λs d=>lm m p b c a s<|mZ (λa=>br m p b c a d h) h
def jB:I->Bool->Nat->Scope->ax->Y->Nat->List ExceptHandler->(ai->aa)->aa|_,_,0,_,_,_,_,_,_=>ae|m,p,j+1,d,a,e,c,f,h=>f.casesOn (h<|.bd e a) λb k=>b.casesOn λi n g _=>i.casesOn ae λi=>n.casesOn ae λn=>sp d a i λl=>if !(d.names.lookup n==some .local) then ae else jA (mY c l) λt=>if t then f4 d a n e λa=>br u true j d a g (ni (λa=>h<|.f {a with ct:=ki n a.ct}) λv a=>h<|.b0 v {a with ct:=ki n a.ct}) else jB m p j d a e c k h
end
end
section
def de(h i:Y->aa)(r:ai):aa:=r.casesOn (λ_=>h .s) (λv _=>h v) λe _=>i e
def e'(m u:I)(p:Bool)(l:ed)(c:List (Str×Nat))(a args:List Y)(h:Y->aa)(i:Y->aa):aa:=if !(xi l&&args.length+a.length==l.ka.length) then ae else mm l.eg.names c λdg=>nA l.eg (l.ka.zip<|args++a) {ct:=[],dg:=dg,ck:=l.ck} λb=>l.kj.casesOn (λg=>br u m p mC l.eg b g<|de h i) λe=>cw m mC l.eg b e h aB
abbrev m_(a:aa)(r:Y):aa:=r.casesOn a (λ_=>ae) (λ_=>ae) (λ_=>ae) (λ_=>ae) (λ_=>ae) (λ_ _=>ae) (λ_=>ae) (λ_=>ae) λ_=>ae
abbrev rN(o:af)(l:ed->List (Str×Nat)->Prop):Prop:=o.casesOn (λ_ _=>False) (λ_=>False) (λ_=>False) (λ_=>False) l (λ_=>False) (λ_ _=>False) λ_=>False
def ag:Nat->Bool->I|0,_,_,_,_,_=>ae|n+1,p,l,args,h,i=>l.casesOn ae (λ_=>ae) (λ_=>ae) (λ_=>ae) (λ_=>ae) (λg=>J (lE p g args) h) (λb q=>(ba.cl b q).casesOn ae λd=>e' (ag n p) (ag n true) p d.1 [] d.2 args h i) (λb=>if !(Nat.ble args.length 1000&&ba.i4 b) then ae else J (a4<|if ba.dV b then .bd b Option.none else .aD b []) λself=>(ba.ex b ("__init__":Str)).casesOn ae λl=>ag n p l (self::args) (m_<|h self) i) (λ_=>ae) λa e=>(e.r a).casesOn False λo=>rN o λc f=>if c.ck.isSome then False else e' (ag n p) (ag n true) p c f [] args h i e
end
end
def aS(i:Y->aa):Y->aa:=λe a=>oT e a=true/\i e a
def cU(k:a->aa)(l:(a->aa)->aa):aa:=l k
section
variable(u m:I)(p:Bool)
def cF(a:Nat)(c:Scope)(d:List Stmt)(h:ai->aa):ai->aa:=mZ (λb=>br u m p a c b d h) h
def bg(c:Nat)(b:Scope)(d:Expr)(g:List Stmt):ax->Y->(ai->aa)->aa:=λa x h=>jU b d x a λa=>br u m p c b a g h
def fU(a:Nat)(c:Scope)(d:Expr):ax->(Bool->aa)->aa:=λb h=>h8 m a c b d h aB
def hc(a:Nat)(c:Scope)(g:List Stmt):ax->(ai->aa)->aa:=λb h=>br u m p a c b g h
end
section
variable(u m:I)(p:Bool)
def li(a:Nat)(c:Scope)(bf:List Stmt)(h:ai->aa):ai->aa:=q7 bf (λd b h=>br u m p a c b d h) h
def iG(a:Nat)(b:Scope)(f:List ExceptHandler)(bf:List Stmt)(h:ai->aa):ai->aa:=uw (λe d c=>jB u m p a b d e c f<|li u m p a b bf h)<|li u m p a b bf h
end
noncomputable def cP:ed:=⟨[],.stmts [],default,Option.none⟩
def lJ(a q:Nat):ed:=(pc a q).casesOn cP Prod.fst
noncomputable def hK(l:ed):List Stmt:=l.kj.casesOn id λ_=>[]
def ab(a q:Nat):List Stmt:=hK<|lJ a q
def as(a q:Nat):Scope:=(lJ a q).eg
def au(f:List Stmt)(k g:Nat):List Stmt:=(f[k]?).casesOn []<|lr [] (λ_ x t=>g.casesOn x λ_=>t) (λ_ x=>x) (λ_ _ x=>x) (λx _ t=>g.casesOn x λ_=>t) (λ_ _ _ _ _=>[]) (λ_ _ _=>[]) λ_ _=>[]
def h0(f:List Stmt)(k:Nat):List ExceptHandler:=(f[k]?).casesOn []<|lr [] (λ_ _ _=>[]) (λ_ _=>[]) (λ_ _ _=>[]) (λ_ b _=>b) (λ_ _ _ _ _=>[]) (λ_ _ _=>[]) λ_ _=>[]
noncomputable def x1(f:List ExceptHandler)(k:Nat):List Stmt:=(f[k]?).casesOn [] λb=>b.casesOn λ_ _ g _=>g
noncomputable def l1:Expr:=.Constant .none 0 default
def bv(f:List Stmt)(k:Nat):Expr:=(f[k]?).casesOn l1<|lr l1 (λ_ _ _=>l1) (λa _=>a) (λa _ _=>a) (λ_ _ _=>l1) (λ_ _ _ _ _=>l1) (λ_ _ _=>l1) λ_ _=>l1
def cD(f:List Stmt)(k:Nat):ed:=(f[k]?).casesOn cP<|lr cP (λ_ _ _=>cP) (λ_ _=>cP) (λ_ _ _=>cP) (λ_ _ _=>cP) (λ_ a g b _=>kS a (.stmts g) b) (λ_ _ _=>cP) λ_ _=>cP
def xG(l:Expr->ed):Expr->ed:=sr cP λ_ a _ _=>(a[1]?).casesOn cP l
def lq:ed:=((ab 108 0)[2]?).casesOn cP<|lr cP (λ_ _ _=>cP) (λ_ _=>cP) (λ_ _ _=>cP) (λ_ _ _=>cP) (λ_ _ _ _ _=>cP) (λ_ _ _=>cP) λ_ e=>xG (xG λe=>e.casesOn (λ_ _ _=>cP) (λ_ _ _=>cP) (λ_ _ _ _=>cP) (λ_ _ _=>cP) (λa g b _=>kS a (.expr g) b) (λ_ _ _ _=>cP) (λ_ _ _=>cP) (λ_ _ _=>cP) (λ_ _ _ _=>cP) (λ_ _ _ _=>cP) (λ_ _ _ _ _=>cP) (λ_ _ _ _=>cP) (λ_ _=>cP) (λ_ _=>cP) (λ_ _=>cP) (λ_ _ _ _=>cP) (λ_ _ _ _=>cP) (λ_ _ _ _=>cP) (λ_ _=>cP) (λ_ _ _=>cP) (λ_ _ _=>cP) (λ_ _ _=>cP) (λ_ _=>cP) (λ_ _=>cP) (λ_ _=>cP) (λ_ _ _=>cP) λ_ _ _ _=>cP) e
section
variable(p:Bool)(m u:I)(h i:Y->aa)
abbrev aq(v:Y)(x:Str)(h:Y->aa):aa:=J (ee v x) h
abbrev aT(v:Y)(x:Str)(w:Y)(h:Unit->aa):aa:=J (fN v x w) h
abbrev aO(v a:Y)(h:Y->aa):aa:=J (ce v a) h
abbrev jr(v a w:Y)(h:Unit->aa):aa:=J (jL v a w) h
abbrev bL(b:CmpOp)(a g:Y)(h:Y->aa):aa:=J (cW b a g) h
abbrev a1(v:Y)(h:Bool->aa):aa:=J (dD v) h
abbrev fX(o:af)(h:Y->aa):aa:=J (a4 o) h
abbrev cJ(f:List Y)(h:Y->aa):aa:=J (a4<|.d f) h
abbrev dK(f:List Y)(h:Y->aa):aa:=J (a4<|.A f) h
abbrev aN(a:Nat)(h:Y->aa):aa:=J (b6 a) h
abbrev fm(a:Nat)(v:Y)(h:Unit->aa):aa:=J (gi a v) h
abbrev M3(v:Y)(x:Str)(a:List Y)(h i:Y->aa):aa:=aQ m v x (λA=>A a) h i
abbrev bQ(c q:Nat)(b a:List Y):aa:=e' m u p (lJ c q) [] b a h i
end
section
variable(c B j C z A m u D h e:Y)(a s E r:Nat)
noncomputable abbrev kQ:ax:=⟨[("self",c),("start",B),("dying",j),("thing",C)],[],none⟩
noncomputable abbrev nd:ax:=⟨[("run",c),("frame",B),("block",j),("want",C),("mark",z)],[],none⟩
noncomputable abbrev JM:ax:=⟨[("subs",c),("rows",B),("codes",j),("run",C),("holders",z),("holder",A),("at",m),("block",u)],[("marks",a),("log",s),("heap",E)],some 1⟩
noncomputable abbrev M6:ax:=⟨[("subs",c),("rows",B),("codes",j),("run",C),("holders",z),("holder",A)],[("marks",a),("log",s),("heap",E)],some 1⟩
noncomputable abbrev M7:ax:=⟨[("subs",c),("rows",B),("word",j)],[("me",a),("pail",s)],none⟩
noncomputable abbrev M8:ax:=⟨[("block",c),("about",B),("whole",j),("todo",C),("part",z)],[("high",a)],none⟩
noncomputable abbrev Na:ax:=⟨[("things",c),("thing",B)],[("found",a)],none⟩
noncomputable abbrev M_:ax:=⟨[("self",c),("start",B)],[],none⟩
noncomputable abbrev Nb:ax:=⟨[("node",c),("want",B),("found",j),("one",C)],[("run",a),("marks",s),("log",E),("codes",r)],none⟩
noncomputable abbrev M9:ax:=⟨[("row",c),("around",B),("mark",j)],[("subs",a),("own",s)],none⟩
noncomputable abbrev M':ax:=⟨[("row",c),("new",B),("around",j),("mark",C)],[("subs",a),("own",s)],none⟩
noncomputable abbrev Nc:ax:=⟨[("subs",c),("rows",B),("codes",j),("run",C),("holders",z),("holder",A),("at",m),("block",u),("row",D)],[("marks",a),("log",s),("heap",E)],some 1⟩
noncomputable abbrev Nd:ax:=⟨[("run",c),("block",B),("want",j),("value",C),("last",z),("at",A)],[],none⟩
noncomputable abbrev Ng:ax:=⟨[("subs",c),("which",B),("want",j),("row",C)],[("own",a)],none⟩
noncomputable abbrev Nf:ax:=⟨[("run",c),("code",B),("args",j),("want",C),("word",z),("name",A),("block",m),("size",u),("captures",D),("pad",h),("frame",e)],[],none⟩
noncomputable abbrev Nh:ax:=⟨[("run",c),("mark",B),("save",j)],[],none⟩
noncomputable abbrev Ni:ax:=⟨[("script",c),("subs",B),("rows",j),("own",C),("row",z)],[("pail",a)],none⟩
noncomputable abbrev No:ax:=⟨[("run",c),("frame",B),("block",j),("want",C),("mark",z),("back",A)],[],none⟩
noncomputable abbrev Nk:ax:=⟨[("subs",c)],[("me",a),("pail",s)],none⟩
noncomputable abbrev Nm:ax:=⟨[("row",c),("new",B),("around",j)],[("subs",a),("own",s)],none⟩
noncomputable abbrev Nj:ax:=⟨[("subs",c),("which",B),("want",j)],[("own",a)],none⟩
noncomputable abbrev Nn:ax:=⟨[("self",c),("thing",B)],[],none⟩
noncomputable abbrev Nl:ax:=⟨[("self",c),("thing",B),("gone",j)],[],none⟩
noncomputable abbrev Nu:ax:=⟨[("block",c),("about",B),("whole",j),("todo",C)],[("high",a)],none⟩
noncomputable abbrev Nt:ax:=⟨[("run",c),("block",B),("want",j),("value",C),("last",z)],[],none⟩
noncomputable abbrev Nw:ax:=⟨[("subs",c),("rows",B),("codes",j),("run",C),("holders",z)],[("marks",a),("log",s),("heap",E)],some 1⟩
noncomputable abbrev Np:ax:=⟨[("run",c),("mark",B)],[],none⟩
noncomputable abbrev Nr:ax:=⟨[("run",c),("stmt",B),("want",j)],[],none⟩
noncomputable abbrev Nv:ax:=⟨[("self",c),("thing",B),("old",j),("gone",C)],[],none⟩
noncomputable abbrev Nq:ax:=⟨[("self",c),("thing",B),("gone",j),("one",C)],[],none⟩
noncomputable abbrev ND:ax:=⟨[("node",c),("want",B),("found",j)],[("run",a),("marks",s),("log",E),("codes",r)],none⟩
noncomputable abbrev NA:ax:=⟨[("row",c),("around",B)],[("subs",a),("own",s)],none⟩
noncomputable abbrev Ny:ax:=⟨[("run",c),("members",B),("args",j)],[],none⟩
noncomputable abbrev NC:ax:=⟨[("run",c),("code",B),("args",j),("want",C),("word",z),("name",A),("block",m),("size",u),("captures",D),("pad",h)],[],none⟩
noncomputable abbrev NE:ax:=⟨[("script",c),("subs",B),("rows",j),("own",C)],[("pail",a)],none⟩
noncomputable abbrev NF:ax:=⟨[("things",c)],[("found",a)],none⟩
noncomputable abbrev NH:ax:=⟨[("self",c),("thing",B),("old",j)],[],none⟩
noncomputable abbrev NI:ax:=⟨[("self",c),("start",B),("dying",j)],[],none⟩
noncomputable abbrev NG:ax:=⟨[("script",c),("subs",B),("rows",j),("own",C),("row",z),("held",A)],[("pail",a)],none⟩
end
namespace R
open PySem.W PySem.Calls PyProof.Rows
set_option genSizeOf false
set_option genInjectivity false
inductive aR{b c:Type}(R:b->c->Prop):List b->List c->Prop
 |aP:aR R [] []
 |aY {a g f p}:R a g->aR R f p->aR R (a::f) (g::p)
noncomputable def q9(n:String):Bool:=n=="len"||n=="isinstance"||n=="max"||n=="sorted"
abbrev ak:=List<|Addr×Addr
def aw(f:ak)(v:Y)(b:Value):Prop:=v.casesOn (b=.none) (λg=>b=.bool g) (λc=>∃d,b=.int c d) (λx=>∃d,b=.str x d) (λn=>b=.type n) (λn=>q9 n=true/\b=.builtin n) (λc q=>b=.ref (cb.cl c q)) (λc=>b=.ref (cb.ay c)) (λk=>b=.ref (cb.cO k)) λa=>∃e,f[a]?=some e/\b=.ref e.1
noncomputable def p'(k:Y)(v:Value):Bool:=k.casesOn false (λ_=>false) (λa=>v.isInt a) (λx=>v.isStrOf x) (λ_=>false) (λ_=>false) (λ_ _=>false) (λ_=>false) (λ_=>false) λ_=>false
noncomputable def zb(w:World)(k:Y):Int:=k.casesOn 0 (λ_=>0) hashInt (hashStr w) (λ_=>0) (λ_=>0) (λ_ _=>0) (λ_=>0) (λ_=>0) λ_=>0
theorem jQ(b:p' k v=true):(∃x a,k=.l x/\v=.str x a)\/∃e a,k=.c e/\v=.int e a:=by induction k using Y.casesOn with|l x=>exact bA (Value.isStrOf_shape b) λa d=>.inl (bq x a rfl d)|c x=>exact bA (Value.isInt_shape b) λa d=>.inr (bq x a rfl d)|_=>exact gz b
@[elab_as_elim] theorem NM{P:Y->Value->Prop}(b:p' k v=true)(s:∀x a,P (.l x)<|.str x a)(c:∀x a,P (.c x)<|.int x a):P k v:=by
 rcases jQ b with⟨x,a,rfl,rfl⟩|⟨x,a,rfl,rfl⟩
 exact s x a;exact c x a
def kx(prog:Program)(w:World):PySem.KeyKind prog w Y where
  is:=p'
  hash:=zb w
  inj v a g h e:=by
    rcases jQ h with⟨x,c,rfl,rfl⟩|⟨x,c,rfl,rfl⟩<;>rcases jQ e with⟨t,f,rfl,b⟩|⟨t,f,rfl,b⟩<;>cases b<;>rfl
  byValue k v b:=NM b (λ_ _=>rfl) λ_ _=>rfl
  pyHash {A i s k v Q} m b:=by
    revert b
    exact NM m (λx c b=>wpAny_pyHash_str b) λx c b=>wpAny_pyHash_int b
  eqBool {A i s a g f v Q} h e b:=by
    revert b
    refine NM h (λx c=>?_) λx c=>?_
    · exact NM e (λt d b=>wpAny_eqBool_str<|Z (decide_eq_decide.2 ⟨Q3 Y.l,λb=>by cases b;rfl⟩:decide (x=t)=decide (Y.l x=Y.l t)) b) λt d b=>SeqAt.EqAt.str_int x c t d prog w i Q (ad (decide_eq_false (by intro j;cases j):decide (Y.l x=Y.c t)=false) b)
    · exact NM e (λt d b=>SeqAt.EqAt.int_str x c t d prog w i Q<|ad (decide_eq_false (by intro j;cases j):decide (Y.c x=Y.l t)=false) b) λt d b=>wpAny_eqBool_int (show Q (decide (x=t)) _ from Z (decide_eq_decide.2 ⟨Q3 Y.c,Y.c.inj⟩:decide (x=t)=decide (Y.c x=Y.c t)) b)
  «strs» k x c v b:=by
    rcases jQ b with⟨t,f,rfl,l⟩|⟨t,f,rfl,l⟩<;>cases l
    cases v<;>rfl
def jh(w:World)(c:ak)(l:Str×Y)(e:DictEntry):Prop:=∃b a,e=⟨PyData.keyHash w.params l.1,.str l.1 b,a⟩/\aw c l.2 a
def gv(b:ak)(e:Y×Y)(a:Y×Value):Prop:=e.1=a.1/\aw b e.2 a.2
def fa(c:ak)(a:Str×Nat)(g:Str×Addr):Prop:=a.1=g.1/\∃b,c[a.2]?=some b/\g.2=b.1
def ec(c:ak)(a:Addr):Prop:=∀b∈c,a≠b.1/\a≠b.2
def l'(o:Obj):Prop:=o.cls=.type "traceback"/\∃vs,o.data=.fields vs
def g3(b:Heap)(T:Addr):Prop:=∃a c,b.get? T=some a/\a.cls=.type "traceback"/\a.data=.fields c/\3<c.size
def tG(a:ak)(b:Heap)(v:Option Value):Prop:=v=some .none\/∃T,v=some (.ref T)/\g3 b T/\ec a T/\aj.co.objs.size<=T
noncomputable abbrev mh(a:Array Value)(n:Nat):Obj:={cls:=.type "tuple",data:=.seq a n}
def vx(a:ak)(v:Option Y)(w:Option Value):Prop:=v.casesOn (w.casesOn True λ_=>False) λx=>w.casesOn False λt=>aw a x t
inductive sR(e:ak)(b:Heap)(k:Nat)(d:List (Str×Y))(a:Addr×Addr):Prop
 |mk (f:ba.i4 k=true/\ba.dV k=false) (c:List DictEntry) (n:Nat):b.get? a.1=some (instObj (cb.ay k) a.2)->b.get? a.2=some (dictOf c n)->aR (jh aj.x e) d c->sR e b k d a
inductive vu(f:ak)(b:Heap)(l:ed)(d:List (Str×Nat))(a:Addr×Addr):Prop
 |mk (z:Obj) (name qual:Str) (c:Arguments) (i j:Value) (g:Option Addr) (h:Value) (e:List (Str×Addr)):b.get? a.1=some z->z.cls=.type "function"->
  z.data=.func ⟨name,qual,c,l.kj,l.eg,mainGlobals,e,.none,.none,i,j,g,.ref a.2,h,builtinsNs⟩->kn c=true->l.ka=c.args.map (·.arg)->b.CodeRec (.ref a.2) qual->aR (fa f) d e->vu f b l d a
inductive vO(c:ak)(b:Heap)(k:Nat)(d:Option Nat)(e:Addr×Addr):Prop
 |mk (a:ba.i4 k=true/\ba.dV k=true) (z:Obj) (vs:Array Value):b.get? e.1=some z->z.cls=.ref (cb.ay k)->z.data=.fields vs->vs.size=6->vs[2]?=some .none->tG c b vs[1]?->
  (match d with|Option.none=>z.dict=Option.none|some f=>∃a,c[f]?=some a/\z.dict=some a.1)->vO c b k d e
inductive wy(e:ak)(b:Heap)(c:List (Str×Y))(d:Addr×Addr):Prop
 |mk (a:List DictEntry) (n:Nat):b.get? d.1=some (dictOf a n)->aR (jh aj.x e) c a->wy e b c d
def f'(c:ak)(b:Heap)(o:af)(a:Addr×Addr):Prop:=o.casesOn (λk d=>sR c b k d a) (λe=>∃(vs:List Value) (n:Nat),b.get? a.1=some (listOf vs.toArray n)/\aR (aw c) e vs) (λe=>∃(vs:List Value),b.get? a.1=some (mh vs.toArray 0)/\aR (aw c) e vs) (λj=>∃f,b.DictOf (kx aI aj.x) a.1 f/\aR (gv c) j f) (λl h=>vu c b l h a) (λv=>∃g,b.IsCell a.1 g/\vx c v g) (λk i=>vO c b k i a) λd=>wy c b d a
theorem aR.bD(b:∀a g,R a g->c a g)(x:aR R f p):aR c f p:=by induction x with|aP=>exact .aP|aY a _ h=>exact .aY (b _ _ a) h
theorem aR.fV(b:aR R (a::f) p):∃g c,p=g::c/\R a g/\aR R f c:=by cases b with|aY r c=>exact eb _ _ rfl r c
theorem aR.hX(b:aR R [] p):p=[]:=by cases b;rfl
theorem aR.d6:∀{f:List a} {p:List b},aR R f p->f.length=p.length:=by intro _ _ d;induction d with|aP=>exact rfl|@aY _ _ _ _ _ g c=>simp[c]
theorem aR.r{R:d->h->Prop}{f:List d}{p:List h}(x:aR R f p):∀{c:Nat} {a:d},f[c]?=some a->∃g,p[c]?=some g/\R a g:=by induction x with|aP=>exact λb=>bm b|@aY a g f p r _ i=>intro c j e;induction c using Nat.casesOn with|zero=>exact am g rfl (P0 e▸r)|succ c=>exact i e
theorem aR.jI{d e:Type}{R:d->e->Prop}:∀{f b:List d} {p c:List e},aR R f p->aR R b c->aR R (f++b) (p++c):=by intro _ _ _ _ i;induction i with|aP=>intro k;exact k|@aY _ _ _ _ a g h=>intro k;exact .aY a<|h k
theorem jF{d e:ak}{a:Nat}(b:d[a]?=some c):(d++e)[a]?=some c:=by refine Z (RA (P1.1 b).1) ?_;exact b
theorem aw.cj(e:ak)(b:aw d v c):aw (d++e) v c:=by induction v using Y.casesOn with|a _=>exact ah b λf a g=>am f (jF a) g|_=>exact b
theorem jh.cj(e:ak)(b:jh w c l x):jh w (c++e) l x:=bZ b λd v a g=>bq d v a<|g.cj e
theorem gv.cj(e:ak)(b:gv a l x):gv (a++e) l x:=⟨b.1,b.2.cj e⟩
theorem fa.cj(e:ak)(b:fa a l x):fa (a++e) l x:=⟨b.1,ah b.2 λd g c=>am d (jF g) c⟩
theorem pY.JU.Jy[DecidableEq h]{knd:PySem.KeyKind prog w h}{b c:Heap}{d:List (h×Value)}(x:b.DictOf knd a d)(k:∀o,b.get? a=some o->c.get? a=some o):c.DictOf knd a d:=jT x λo g f e r=>l0 o g f (k o e) r
theorem f'.q3(x:f' m b o f)(e:ak)(c:∀z,b.get? f.1=some z->j.get? f.1=some z)(D:∀z,b.get? f.2=some z->j.get? f.2=some z)(E:∀T,g3 b T->ec m T->g3 j T/\ec (m++e) T):f' (m++e) j o f:=by induction o with|aD k Z=>obtain⟨y,i,n,a,g,r⟩:=x;exact⟨y,i,n,c _ a,D _ g,r.bD λ_ _=>.cj e⟩|d NN=>obtain⟨vs,n,a,r⟩:=x;exact bq vs n (c _ a) (r.bD λ_ _=>.cj e)|A NN=>obtain⟨vs,a,r⟩:=x;exact am vs (c _ a) (r.bD λ_ _=>.cj e)|K i=>obtain⟨U,a,r⟩:=x;exact am U (pY.JU.Jy a c) (r.bD λ_ _=>.cj e)|cl l NQ=>refine aZ λNS NO=>?_;obtain⟨z,name,qual,I,R,N,H,P,O,p,q,s,t,u,⟨NP,J,vs,G,S,W,X⟩,h⟩:=x;refine NO ?_;cases S;exact⟨z,name,qual,I,R,N,H,P,O,c _ p,q,s,t,u,mx _ J vs G rfl (D _ W) X,h.bD λ_ _=>.cj e⟩|h1 v=>obtain⟨F,⟨o,a,g⟩,r⟩:=x;refine am F (am o (c _ a) g) ?_;(cases v<;>cases F<;>first|exact r|exact aw.cj e r)|bd k Q=>obtain⟨y,z,vs,p,q,s,t,u,w,h⟩:=x;refine⟨y,z,vs,c _ p,q,s,t,u,?_,?_⟩;(rcases w with w|⟨T,L,B,C,M⟩);exact .inl w;exact .inr<|kc T L ((E T B C).1) ((E T B C).2) M;(induction Q with|none=>exact h|some NR=>obtain⟨r,Y,V⟩:=h;exact⟨r,jF Y,V⟩)|hv Z=>obtain⟨i,n,a,r⟩:=x;exact⟨i,n,c _ a,r.bD λ_ _=>.cj e⟩
end R
namespace R
open PySem.W PySem.Calls PyProof.Rows
set_option tactic.hygienic true
noncomputable def Jr:af->Bool|.bd _ _=>true|_=>false
theorem kp(b:Jr o=false){a:Prop}(e:o=.bd k l):a:=by subst e;exact gU b
theorem l4{a n:Nat}(b:x<n)(c:n<=a):a≠x:=(ff<|gH b c).symm
theorem kO{a n:Nat}(b:n<=x)(c:a<n):a≠x:=ff<|gH c b
structure aC(A:Around)(d:ak)(h:V)(b:Heap):Prop where
 bn:∀a o,aj.co.get? a=some o->b.get? a=some o
 d0:aj.co.objs.size<=b.objs.size
 cq:d.length=h.f
 al:∀c∈d,aj.co.objs.size<=c.1/\aj.co.objs.size<=c.2/\c.1<b.objs.size/\c.2<b.objs.size
 gs:∀(e q:Nat) (c f:Addr×Addr),d[e]?=some c->d[q]?=some f->e≠q->c.1≠f.1/\c.1≠f.2/\c.2≠f.1/\c.2≠f.2
 cQ:∀(e:Nat) (o:af),h.r e=some o->∃c,d[e]?=some c/\f' d b o c
 hk:∀i∈f0,i.2<aj.co.objs.size/\aj.co.get? i.2=none/\∃n,b.get? i.2=some (tabObj n)/\TriplesOk n.toList/\∀m:Pos,(m.line,m.col)∉h.L->codeAmong m n.toList=none
 cH:∀p,A.frames=some p->∀j∈p,j.scope.kind=.function/\∃g s,j.frame=some g/\aj.co.objs.size<=g/\b.Ns g s/\ec d g
 dU:∀r,A.handled=some r->∃a k l c,r=.ref c.1/\d[a]?=some c/\h.r a=some (.bd k l)
def gg(A:Around)(a:Addr):Prop:=∀b,A.frames=some b->∀j∈b,j.frame≠some a
structure ao(A:Around)(f:Addr->Prop)(d:ak)(p:V)(s:Shared)(h:ak)(i:V)(b:Shared):Prop where
 aH:aC A h i b.heap
 m:∃e,h=d++e/\∀g∈e,s.heap.objs.size<=g.1/\s.heap.objs.size<=g.2
 S:∀a o,ec d a->(∀c∈f0,a≠c.2)->¬f a->¬l' o->s.heap.get? a=some o->∃n,b.heap.get? a=some {o with slots:=n}
 er:∀a o,gg A a->ec d a->(∀c∈f0,a≠c.2)->¬f a->¬l' o->s.heap.get? a=some o->b.heap.get? a=some o
 cq:s.heap.objs.size<=b.heap.objs.size
 go:b.gens=s.gens
 e7:b.os=s.os
 gr:∀a k l,p.r a=some (.bd k l)->∃j,i.r a=some (.bd k j)
abbrev a8:Addr->Prop:=λ_=>False
theorem aC.bH(R:aC A f g b)(e:b.objs.size<=a):ec f a:=λd c=>⟨l4 ((λd c=>(R.al d c).2.2) d c).1 e,l4 ((λd c=>(R.al d c).2.2) d c).2 e⟩
theorem ec.cj(b:ec g a)(h:∀d∈e,n<=d.1/\n<=d.2)(f:a<n):ec (g++e) a:=λd c=>by refine Or.elim (PY.1 c) (λc=>?_) λc=>?_;exact b d c;have:=h d c;exact⟨kO this.1 f,kO this.2 f⟩
theorem eB{c:ak}{d:Nat}(b:c[d]?=some a):a∈c:=PW b
section
theorem ao.q{A:Around}{t:Addr->Prop}{z C B:ak}{D F E:V}{s y w:Shared}(a:ao A t z D s C F y)(g:ao A t C F y B E w):ao A t z D s B E w where
  aH:=g.aH
  m:=by
    refine ah a.m λe c h=>?_
    subst c
    refine ah g.m λH c r=>(Z c<|am (e++H) (Z (Qf ..) rfl) λu d=>Or.elim (PY.1 d) (λd=>?_) λd=>?_)
    · exact h u d
    · exact⟨P9 a.cq (r u d).1,P9 a.cq (r u d).2⟩
  S:=λf o i p q j n=>by
    refine ah a.m λe c h=>?_
    subst c
    obtain⟨M,r⟩:=a.S f o i p q j n
    exact g.S f {o with slots:=M} (i.cj h<|Q5 n) p q j r
  er:=λf o v i p q j n=>by
    refine ah a.m λe c h=>?_
    subst c
    exact g.er f o v (i.cj h<|Q5 n) p q j (a.er f o v i p q j n)
  cq:=P9 a.cq g.cq
  go:=g.go.trans a.go
  e7:=g.e7.trans a.e7
  gr:=λx k l b=>bA (a.gr x k l b) λK L=>g.gr x k K L
theorem ao.b4{m:ak}{q:V}(a:ao A j m p s n q l)(b:∀a,j a->k a):ao A k m p s n q l:={a with S:=λc o d g h e f=>a.S c o d g (λi=>h<|b _ i) e f,er:=λc o r d g h e f=>a.er c o r d g (λi=>h<|b _ i) e f}
theorem ao.iH{A:Around}{e:Addr->Prop}{c:ak}{d:V}{s:Shared}(R:aC A c d s.heap)(f:Nat):ao A e c d s c d {s with toks:=f} where
 aH:=R
 m:=am [] (by simp) (by simp)
 S:=λa o _ _ _ _ b=>⟨o.slots,b⟩
 er:=λa o _ _ _ _ _ b=>b
 cq:=P5 _
 go:=rfl
 e7:=rfl
 gr:=λa k l b=>⟨l,b⟩
theorem ao.cj{d:ak}(a:ao A f c h s d i g):∃e,d=c++e:=let⟨e,b,_⟩:=a.m;⟨e,b⟩
theorem ao.c_{d:ak}(a:ao A g d j s f k h)(b:aw d v c):aw f v c:=bA a.cj λe i=>Z i<|b.cj e
theorem ao.q'{d:ak}(a:ao A f d h s e i g)(b:aR (aw d) v c):aR (aw e) v c:=b.bD λ_ _=>a.c_
theorem ao.bH{d:ak}{m:V}(a:ao A g d l s f m j)(b:ec d c)(i:c<s.heap.objs.size):ec f c:=ah a.m λe k h=>Z k<|b.cj h i
theorem ao.r(a:ao A h f k s g l i){c:Nat}{d:Addr×Addr}(b:f[c]?=some d):g[c]?=some d:=bA a.cj λe j=>Z j<|jF b
end
structure fA(d:ak)(b:Heap)(a:Addr):Prop where
 bH:ec d a
 ck:∀c∈f0,a≠c.2
 f8:a<b.objs.size
theorem ao.bX{d:ak}(x:ao A f d g s e h c)(b:fA d s.heap a):fA e c.heap a:=⟨x.bH b.bH b.f8,b.ck,Ra b.f8 x.cq⟩
theorem aC.bX(R:aC A e i b)(d:b.objs.size<=a)(h:a<c.objs.size):fA e c a:=⟨R.bH d,λf g=>l4 (R.hk f g).1<|P9 R.d0 d,h⟩
section
theorem aC.tk{A:Around}{h:ak}{B C:V}{b r:Heap}(R:aC A h B b)(S:Addr->Prop)(e:ak)(Y:e.length<=1)(w:∀c∈e,b.objs.size<=c.1/\b.objs.size<=c.2/\c.1<r.objs.size/\c.2<r.objs.size)
    (H:∀g o,¬S g->b.get? g=some o->r.get? g=some o) (G:∀g,S g->aj.co.get? g=none) (hsz:b.objs.size<=r.objs.size) (NR:C.f=B.f+e.length)
    (NS:∀f o,C.r f=some o->(B.r f=some o/\∀c,h[f]?=some c->¬S c.1/\¬S c.2)\/∃c,(h++e)[f]?=some c/\f' (h++e) r o c)
    (NU:∀x∈f0,∀y,TriplesOk y.toList->(∀v:Pos,(v.line,v.col)∉B.L->codeAmong v y.toList=none)->b.get? x.2=some (tabObj y)->
      ∃M,r.get? x.2=some (tabObj M)/\TriplesOk M.toList/\∀v:Pos,(v.line,v.col)∉C.L->codeAmong v M.toList=none)
    (NO:∀s K,¬gg A s->aj.co.objs.size<=s->ec h s->b.Ns s K->∃L,r.Ns s L) (NV:∀T,g3 b T->ec h T->g3 r T)
    (NN:∀a k l,B.r a=some (.bd k l)->∃F,C.r a=some (.bd k F)):aC A (h++e) C r where
  bn a o E:=H a o (λd=>by have:=G a d;rw[E] at this;exact h2 this) (R.bn a o E)
  d0:=P9 R.d0 hsz
  cq:=Z P3 (Z R.cq<|Z NR rfl)
  al c i:=by
    rcases PY.1 i with i|i
    · exact lC (R.al c i) λa g n l=>(⟨a,g,Ra n hsz,Ra l hsz⟩)
    · exact lC (w c i) λa g n l=>(⟨P9 R.d0 a,P9 R.d0 g,n,l⟩)
  gs f q c d t u U:=by
    have J:∀(f q:Nat) (c d:Addr×Addr),(h++e)[f]?=some c->(h++e)[q]?=some d->f<h.length->h.length<=q->c.1≠d.1/\c.1≠d.2/\c.2≠d.1/\c.2≠d.2:=λf q c d t u m p=>by
      rw[RA m] at t
      rw[QW p] at u
      have a:=R.al c (eB t)
      have g:=w d (eB u)
      exact iN (Qy<|l4 a.2.2.1 g.1) (Qy<|l4 a.2.2.1 g.2.1) (Qy<|l4 a.2.2.2 g.1) (Qy<|l4 a.2.2.2 g.2.1)
    by_cases m:f<h.length<;>by_cases p:q<h.length
    · rw[RA m] at t
      rw[RA p] at u
      exact R.gs f q c d t u U
    · exact J f q c d t u m (oV p)
    · exact lC (J q f d c u t p<|oV m) λa g n l=>(iN (Qy a) (Qy n) (Qy g)<|Qy l)
    · have a:=(P1.1 t).1
      have g:=(P1.1 u).1
      rw[P3] at a g
      exact absurd (Q0 (aM (Qw<|gH a<|iw Y<|List.length h)<|R'.1 p)<|aM (Qw<|gH g<|iw Y<|List.length h)<|R'.1 m) U
  cQ f o E:=by
    rcases NS f o E with⟨m,p⟩|m
    · refine ah (R.cQ f o m) λc i NT=>?_
      obtain⟨NX,NY⟩:=p c i
      exact⟨c,jF i,NT.q3 e (λz d=>H _ _ NX d) (λz d=>H _ _ NY d) λT d l=>⟨NV T d l,l.cj (λc i=>⟨(w c i).1,(w c i).2.1⟩)<|bZ d λ_ _ d _=>Q5 d⟩⟩
    · exact m
  hk x Q:=by
    refine aZ λNZ O=>?_
    obtain⟨a,g,y,n,l,D⟩:=R.hk x Q
    exact O (b9 a g<|NU x Q y l D n)
  cH P X j W:=by
    refine aZ λNZ O=>?_
    obtain⟨a,s,K,g,n,l,D⟩:=R.cH P X j W
    obtain⟨L,NQ⟩:=NO s K (λd=>d P X j W g) n D l
    exact O (⟨a,s,L,g,n,NQ,D.cj (λc i=>⟨(w c i).1,(w c i).2.1⟩) l.lt⟩)
  dU NW NP:=by
    exact mn (R.dU NW NP) λa k l c m p N=>bA (NN a k l N) λF I=>mx a k F c m (jF p) I
theorem aC.m'(R:aC A h j b)(S:Addr->Prop)(e:ak)(y:e.length<=1)(v:∀c∈e,b.objs.size<=c.1/\b.objs.size<=c.2/\c.1<d.objs.size/\c.2<d.objs.size)(E:∀g o,¬S g->b.get? g=some o->d.get? g=some o)(t:∀g,S g->aj.co.objs.size<=g)(hsz:b.objs.size<=d.objs.size)(z:m.f=j.f+e.length)(B:∀n o,m.r n=some o->(j.r n=some o/\∀c,h[n]?=some c->¬S c.1/\¬S c.2)\/∃c,(h++e)[n]?=some c/\f' (h++e) d o c)(C:∀r∈f0,∀p,TriplesOk p.toList->(∀f:Pos,(f.line,f.col)∉j.L->codeAmong f p.toList=none)->b.get? r.2=some (tabObj p)->∃q,d.get? r.2=some (tabObj q)/\TriplesOk q.toList/\∀f:Pos,(f.line,f.col)∉m.L->codeAmong f q.toList=none)(x:∀i F,¬gg A i->aj.co.objs.size<=i->ec h i->b.Ns i F->∃H,d.Ns i H)(D:∀T,g3 b T->ec h T->g3 d T)(w:∀a k l,j.r a=some (.bd k l)->∃s,m.r a=some (.bd k s)):aC A (h++e) m d:=R.tk S e y v E (λg u=>Heap.get?_none_of_le<|t g u) hsz z B C x D w
theorem aC.rW(R:aC A q s b)(S:Addr->Prop)(m:∀g o,¬S g->b.get? g=some o->f.get? g=some o)(h:∀g,S g->aj.co.objs.size<=g/\ec q g/\¬g3 b g)(hsz:b.objs.size<=f.objs.size)(E:∀d n,S d->¬gg A d->b.Ns d n->∃H,f.Ns d H):aC A q s f:=by have:=R.m' (m:=s) (d:=f) S [] (by simp) (by simp) m (λg C=>(h g C).1) hsz (by simp) (λL o F=>.inl ⟨F,λv t=>⟨λc=>((h _ c).2.1 v<|eB t).1 rfl,λc=>((h _ c).2.1 v<|eB t).2 rfl⟩⟩) (λx D K i p j=>cp K (m _ _ (λc=>Qn _<|Ra (R.hk x D).1 (h _ c).1) j) i p) (λd n B i p j=>by by_cases c:S d;exact E d n c B j;exact jT j λo z y e r=>⟨n,o,z,y,m _ _ c e,r⟩) (λT i p=>bZ i λu w e r=>⟨u,w,m _ _ (λc=>(h _ c).2.2 ⟨u,w,e,r⟩) e,r⟩) λa k l b=>⟨l,b⟩;simpa using this
theorem aC.Q(R:aC A v w b)(j:v[m]?=some c)(S:w.r m=some o)(t:∀g z,g≠c.1->g≠c.2->b.get? g=some z->h.get? g=some z)(hsz:b.objs.size<=h.objs.size)(Q:f' v h u c)(O:∀k l,o=.bd k l->∃x,u=.bd k x):aC A v (w.Q m u) h:=by have s:=R.al c<|eB j;have:=R.m' (m:=w.Q m u) (d:=h) (λg=>g=c.1\/g=c.2) [] (by simp) (by simp) (λg z d e=>t g z (λf=>d<|.inl f) (λf=>d<|.inr f) e) (λg M=>by rcases M with rfl|rfl;exact s.1;exact s.2.1) hsz (by simp[V.Q]) (λq I p=>by simp only[V.Q] at p;split at p;rename_i d;refine Z d ?_;obtain rfl:=P0 p;exact .inr ⟨c,by simpa using j,by simpa using Q⟩;rename_i d;exact .inl ⟨p,λr W=>lC (R.gs q m r c W j d) λD E F H=>⟨λf=>f.elim D E,λf=>f.elim F H⟩⟩) (λB C U n i y=>cp U (t _ _ (kO s.1 (R.hk B C).1) (kO s.2.1 (R.hk B C).1) y) n i) (λN X _ n i y=>bs (i c<|eB j) λa g=>jT y λo L K e r=>⟨X,o,L,K,t _ _ a g e,r⟩) (λT n i=>bs (i c<|eB j) λa g=>bZ n λY J e r=>⟨Y,J,t _ _ a g e,r⟩) (λa k l b=>by simp only[V.Q];split;rename_i d;subst d;rw[S] at b;obtain rfl:=P0 b;obtain⟨x,P⟩:=O k l rfl;exact⟨x,Z P rfl⟩;exact⟨l,b⟩);simpa using this
theorem aC.z(R:aC A p s b)(j:∀g z,b.get? g=some z->d.get? g=some z)(f:b.objs.size<=c.1)(m:b.objs.size<=c.2)(h:c.1<d.objs.size)(t:c.2<d.objs.size)(v:f' (p++[c]) d o c):aC A (p++[c]) (s.z o) d:=by refine R.m' (m:=s.z o) (d:=d) (λ_=>False) [c] (by simp) (by simp[f,m,h,t]) (λg z _ e=>j g z e) (λg u=>u.elim) (P9 f<|Nat.le_of_lt h) (by simp[V.z]) (λq H i=>?_) (λE F B f m h=>⟨B,j _ _ h,f,m⟩) (λD x _ _ _ h=>⟨x,h.keeps j⟩) (λT f _=>let⟨y,C,e,r⟩:=f;⟨y,C,j _ _ e,r⟩) λa k l b=>?_;simp only[V.z] at i;split at i;rename_i n;subst n;obtain rfl:=P0 i;exact .inr<|am c (by refine ad R.cq ?_;simp) v;exact .inl ⟨i,λ_ _=>⟨id,id⟩⟩;simp only[V.z];split;rename_i n;subst n;refine ah (R.cQ _ _ b) λr w _=>?_;exact(ff (P1.1 w).1 R.cq.symm).elim;exact⟨l,b⟩
end
section
theorem ao.ls{A:Around}{u:Addr->Prop}{f:ak}{i:V}{s:Shared}(R:aC A f i s.heap){n:Nat}{c:Addr×Addr}{o q:af}{h:Heap}{x:Nat}(e:f[n]?=some c)(t:i.r n=some o)(p:∀g z,g≠c.1->g≠c.2->s.heap.get? g=some z->h.get? g=some z)
    (hsz:s.heap.objs.size<=h.objs.size) (v:f' f h q c) (r:∀k l,o=.bd k l->∃j,q=.bd k j):ao A u f i s f (i.Q n q) {s with heap:=h,toks:=x} where
  aH:=R.Q e t p hsz v r
  m:=am [] (by simp) (by simp)
  S:=λa z d _ _ _ b=>⟨z.slots,p a z (d c<|eB e).1 (d c<|eB e).2 b⟩
  er:=λa z _ d _ _ _ b=>p a z (d c<|eB e).1 (d c<|eB e).2 b
  cq:=hsz
  go:=rfl
  e7:=rfl
  gr:=λa k l b=>by
    simp only[V.Q]
    split
    · rename_i w;subst w;rw[t] at b;obtain rfl:=P0 b;obtain⟨j,d⟩:=r k l rfl;exact⟨j,Z d rfl⟩
    · exact⟨l,b⟩
theorem ao.o7{A:Around}{p:Addr->Prop}{e:ak}{i:V}{s:Shared}(R:aC A e i s.heap){c:Addr×Addr}{o:af}{d:Heap}{w:Nat}(h:∀g z,s.heap.get? g=some z->d.get? g=some z)(f:s.heap.objs.size<=c.1)(j:s.heap.objs.size<=c.2)(n:c.1<d.objs.size)(q:c.2<d.objs.size)
    (t:f' (e++[c]) d o c):ao A p e i s (e++[c]) (i.z o) {s with heap:=d,toks:=w} where
  aH:=R.z h f j n q t
  m:=am [c] rfl (by simp[f,j])
  S:=λa z _ _ _ _ b=>⟨z.slots,h a z b⟩
  er:=λa z _ _ _ _ _ b=>h a z b
  cq:=P9 f (Nat.le_of_lt n)
  go:=rfl
  e7:=rfl
  gr:=λa k l b=>by
    simp only[V.z]
    split
    · rename_i v
      subst v
      refine ah (R.cQ _ _ b) λr u _=>?_
      exact(ff (P1.1 u).1 R.cq.symm).elim
    · exact⟨l,b⟩
theorem ao.h4{A:Around}{i:Addr->Prop}{f:ak}{h:V}{s:Shared}(R:aC A f h s.heap){c:Heap}{p:Nat}(d:∀g z,s.heap.get? g=some z->c.get? g=some z)(hsz:s.heap.objs.size<=c.objs.size):ao A i f h s f h {s with heap:=c,toks:=p} where
 aH:=R.rW a8 (λg o _ e=>d g o e) (λg j=>j.elim) hsz (λq r n=>n.elim)
 m:=am [] (by simp) (by simp)
 S:=λa z _ _ _ _ b=>⟨z.slots,d a z b⟩
 er:=λa z _ _ _ _ _ b=>d a z b
 cq:=hsz
 go:=rfl
 e7:=rfl
 gr:=λa k l b=>⟨l,b⟩
theorem ao.kE{A:Around}{d:ak}{n:V}{s:Shared}(R:aC A d n s.heap){a:Addr}{c:Heap}{w:Nat}(v:fA d s.heap a)(p:aj.co.objs.size<=a)(t:¬g3 s.heap a)(h:∀g z,g≠a->s.heap.get? g=some z->c.get? g=some z)(hsz:s.heap.objs.size<=c.objs.size)
  (r:∀i,¬gg A a->s.heap.Ns a i->∃u,c.Ns a u):ao A (·=a) d n s d n {s with heap:=c,toks:=w} where
 aH:=R.rW (·=a) (λg o j e=>h g o j e) (λg q=>Z q<|b9 p v.bH t) hsz (λx i j=>Z j<|r i)
 m:=am [] (by simp) (by simp)
 S:=λg z _ _ f _ b=>⟨z.slots,h g z f b⟩
 er:=λg z _ _ _ f _ b=>h g z f b
 cq:=hsz
 go:=rfl
 e7:=rfl
 gr:=λa k l b=>⟨l,b⟩
end
theorem aC.eD(R:aC A i k b)(d:b.objs.size<=a):gg A a:=λc f j e h=>by obtain⟨_,m,p,g,n,l,o⟩:=R.cH c f j e;rw[h] at g;obtain rfl:=P0 g;exact Qn _<|Ra l.lt d
theorem ao.ms{NP:Addr->Prop}{s:Shared}(R:aC A h x s.heap)(NR:Nat)(w:fA h s.heap a)(D:aj.co.objs.size<=a)(W:gg A a)(X:s.heap.get? a=some z)(N:¬l' z)(Y:f' (h++[(a,a)]) s.heap o (a,a)):aC A (h++[(a,a)]) (x.z o) s.heap/\aw (h++[(a,a)]) (.a x.f) (.ref a):=by
 have NO:∀T,g3 s.heap T->T≠a:=λT r e=>by subst e;refine hU r λNQ NS m n v _=>?_;rw[X] at m;obtain rfl:=P0 m;exact N ⟨n,_,v⟩
 have B:∀T,ec h T->T≠a->ec (h++[(a,a)]) T:=λT r e b c=>by(rcases PY.1 c with c|c);exact r b c;simp at c;exact Z c ⟨e,e⟩
 refine⟨⟨R.bn,R.d0,by simp[V.z,R.cq],λb c=>?_,λi q b d f p H=>?_,λi NN f=>?_,R.hk,λC F j E=>?_,λI S=>?_⟩,am (a,a) (by refine ad R.cq ?_;simp) rfl⟩;rcases PY.1 c with c|c
 exact R.al b c;simp at c;exact Z c<|iN D D w.f8 w.f8;have K:∀(i q:Nat) (b d:Addr×Addr),(h++[(a,a)])[i]?=some b->(h++[(a,a)])[q]?=some d->i<h.length->h.length<=q->b.1≠d.1/\b.1≠d.2/\b.2≠d.1/\b.2≠d.2:=λi q b d f p m n=>by rw[RA m] at f;rw[QW n] at p;(have U:d=(a,a):=by have:=PW p;simpa using this);refine Z U ?_;have:=w.bH b<|eB f;exact iN (Qy this.1) (Qy this.1) (Qy this.2)<|Qy this.2
 by_cases m:i<h.length<;>by_cases n:q<h.length;rw[RA m] at f;rw[RA n] at p;exact R.gs i q b d f p H;exact K i q b d f p m<|oV n;exact lC (K q i d b p f n<|oV m) λt u M O=>(iN (Qy t) (Qy M) (Qy u)<|Qy O);have t:=(P1.1 f).1;have u:=(P1.1 p).1;rw[P3] at t u;simp at t u;exact absurd (Q0 (aM (Qw t)<|R'.1 n)<|aM (Qw u)<|R'.1 m) H;simp only[V.z] at f;split at f;rename_i d;refine Z d ?_;obtain rfl:=P0 f;exact am (a,a) (by refine ad R.cq ?_;simp) Y;exact ah (R.cQ i NN f) λb c J=>(am b (jF c)<|J.q3 _ (λ_ e=>e) (λ_ e=>e) λT r Q=>⟨r,B T Q<|NO T r⟩);obtain⟨k,y,G,g,L,l,P⟩:=R.cH C F j E;exact⟨k,y,G,g,L,l,B y P λe=>W C F j E<|e▸g⟩;refine mn (R.dU I S) λi k l b m n v=>(mx i k l b m (jF n) ?_);simp only[V.z];refine Z (P4 λd=>ff (P1.1 n).1<|d.trans R.cq.symm) ?_;exact v
end R
namespace R
open PySem.W PySem.Calls PyProof.Rows
set_option genSizeOf false
set_option genInjectivity false
structure vY(h:Frag)(a:Addr)(x:Str):Prop where
 aq:findIn h (.ref a) "__getattribute__"=some (some<|.builtin "object.__getattribute__")
 jN:findIn h (.ref a) "__getattr__"=some none
 aT:findIn h (.ref a) "__setattr__"=some (some<|.builtin "object.__setattr__")
 lb:hasDictIn h a=true
 mS:plainOver h a=true
 bO:findIn h (.ref a) x=some none
noncomputable def sB:Value->Bool|.ref _=>true|_=>false
noncomputable def kf:List Value->Bool|[]=>false|v::r=>if sB v then kf r else v::r==[.type "Exception",.type "BaseException",.type "object"]
structure m6(h:Frag)(a:Addr)(x:Str):Prop where
 aq:findIn h (.ref a) "__getattribute__"=some (some<|.builtin "BaseException.__getattribute__")
 jN:findIn h (.ref a) "__getattr__"=some none
 aT:findIn h (.ref a) "__setattr__"=some (some<|.builtin "object.__setattr__")
 lb:hasDictIn h a=true
 mS:(W.clsIn h a).any (λb=>kf b.mro)=true
 bO:findIn h (.ref a) x=some none
structure Aj(h:Frag)(b:Addr)(x:Str)(a:Addr):Prop where
 sg:findIn h (.ref b) x=some (some<|.ref a)
 b7:typeIn h (.ref a)=some (.type "function")
 aq:specialIn h (.ref b) "__getattribute__"=some (some<|.builtin "type.__getattribute__")
 Em:readsIn h b (.type "type")=true
 ay:findCls h (.ref b) (.type "type") x=some (.val<|.ref a)
structure yY(h:Frag)(a:Addr):Prop where
 nQ:(W.clsIn h a).isSome=true
 b7:typeIn h (.ref a)=some (.type "type")
 Ll:instIn h (.ref a) (.type "type")=some true
 aq:findIn h (.ref a) "__getattribute__"=some (some<|.builtin "object.__getattribute__")
 jN:findIn h (.ref a) "__getattr__"=some none
 ay:findIn h (.ref a) "__class__"=some (some<|.builtin "object.__class__")
 r:specialIn h (.builtin "object.__class__") "__get__"=some (some<|.builtin "getset_descriptor.__get__")
 xh:takesIn h (.builtin "object.__class__")=some true
 cQ:subIn h (.ref a) (.type "object")=some true
 gM:subIn h (.ref a) (.type "str")=some false/\subIn h (.ref a) (.type "list")=some false/\subIn h (.ref a) (.type "tuple")=some false
 nO:isNotIn h "int" a=true/\isNotIn h "str" a=true/\isNotIn h "NoneType" a=true/\isNotIn h "list" a=true/\isNotIn h "tuple" a=true
inductive rB(k:Nat):Prop
 |mk (o p:Str) (c:Addr) (e a:List Value) (h:Bool) (q:List Str) (au:List Value) (d:Bool) (f:Option Bool) (g:Option Addr) (i j l m n:Option Value):aj.co.get? (cb.ay k)=some (excClassObj o p (cb.ay k) c e a h q au d f g i j l m n "Exception.__new__")->a.contains (.type "BaseException")=true->a.contains (.type "Exception")=true->a.contains (.type "AttributeError")=false->a.contains (.type "NameError")=false->(∀b,ba.dV b=true->(Value.ref (cb.ay k)::a).contains (.ref<|cb.ay b)=ba.au k b)->rB k
inductive oL(i:ak)(b:Heap)(a:Addr)(d:ed)(j:List (Str×Nat))(h:List Y):Prop
 |mk (z:Obj) (name qual:Str) (c:Arguments) (g q r:Value) (p:Option Addr) (f:Addr) (e:Value) (l:List (Str×Addr)):b.get? a=some z->z.cls=.type "function"->z.data=.func ⟨name,qual,c,d.kj,d.eg,mainGlobals,l,g,.none,q,r,p,.ref f,e,builtinsNs⟩->(c.posonlyargs=[]/\c.kwonlyargs=[]/\c.vararg=none/\c.kwarg=none)->d.ka=c.args.map (·.arg)->b.CodeRec (.ref f) qual->aR (fa i) j l->((g=.none/\h=[])\/∃T o m n,g=.ref T/\b.get? T=some o/\o.data=.seq (List.toArray m) n/\aR (aw i) h m)->(∀k,d.ck=some k->∃e,f0[k]?=some e/\f=e.1)->oL i b a d j h
structure cy:Prop where
 dH:aj.dH.In aj.co
 fS:aj.co.Ns mainGlobals aj.hn
 jc:aj.co.Ns builtinsNs aj.lS
 fC:∀k x,ba.i4 k=true->ba.fC x=true->ba.dV k=false->vY aj.dH (cb.ay k) x
 oY:∀k x,ba.i4 k=true->ba.fC x=true->ba.dV k=true->ks x=true->m6 aj.dH (cb.ay k) x
 yw:sysModules<aj.co.objs.size
 ex:∀k x l,ba.ex k x=some l->∃c q,l=.B c q/\Aj aj.dH (cb.ay k) x (cb.cl c q)
 uC:∀k x l,ba.ex k x=some l->ba.dV k=false->findIn aj.dH (.ref<|cb.ay k) "__getattribute__"=some (some<|.builtin "object.__getattribute__")/\findIn aj.dH (.ref<|cb.ay k) "__getattr__"=some none
 n0:∀k,ba.hq k=true->yY aj.dH (cb.ay k)
 tW:∀k b,ba.hq k=true->ba.hq b=true->ba.au k b=true->isIn aj.dH (.ref<|cb.ay k) (cb.ay b)=true
 uy:∀k b,ba.hq k=true->ba.hq b=true->ba.au k b=false->subIn aj.dH (.ref<|cb.ay k) (.ref<|cb.ay b)=some false/\cb.ay k≠cb.ay b
 cO:∀k o,ba.cQ k=some o->∃h,f' [] aj.co o (cb.cO k,h)/\cb.cO k≠sysModules/\(∀a l,o≠.bd a l)
 mj:∀x v,ba.mj x=some v->∃e,aw [] v e/\(aj.hn x=some e\/(aj.hn x=none/\aj.lS x=some e))
 kz:∀k,ba.dV k=true->rB k
 cl:∀c q g f,ba.cl c q=some (g,f)->oL [] aj.co (cb.cl c q) g [] f
 k2:aj.co.NoLimit
 re:∀k l,ba.ex k ("__init__":Str)=some l->ba.dV k=false->makesIn aj.dH (cb.ay k)=true
 wS:∀d∈f0,CodeHd aj.co d.1 d.2/\aj.co.BuiltinsAt aj.hn d.2
 cf:aj.hn ("range":Str)=none/\aj.lS ("range":Str)=some (.type "range")
structure i1(A:Around):Prop where
 cH:∃a,A.frames=some a
 n4:A.units+200<=cLine
def bc(A:Around)(i:Addr->Prop)(j:ak)(k:V)(s:Shared)(c6:ak->b->c->Prop)(h:b->aa)(Q:c->Shared->Prop):Prop:=∀(a:b) (g:V) (f:ak) (e:Shared) (d:c),ao A i j k s f g e->c6 f a d->h a g->Q d e
section
theorem bc.b0(k:bc A j c d s c6 h Q)(R:aC A c d s.heap)(b:h a d)(r:c6 c a e)(i:Nat):Q e {s with toks:=i}:=k a d c _ e (ao.iH R i) r b
theorem bc.g4(k:bc A i c d s c6 h Q)(R:aC A c d s.heap)(b:h a d)(r:c6 c a e):Q e s:=k a d c s e (by exact ao.iH R s.toks) r b
theorem bc.a7(k:bc A c f i s c6 h Q)(x:ao A a8 f i s g j d):bc A c g j d c6 h Q:=λa q p o m t r b=>k a q p o m ((x.b4 λ_ n=>n.elim).q t) r b
end
def sO(a:Scope)(j:Env):Prop:=∀x k,a.names.lookup x=some k->j.kindOf x=some k\/(k=.free/\j.kindOf x=some .cell)
structure bB(c:ak)(g:Scope)(a:ax)(j:Env)(b:Heap):Prop where
 gq:j.scope.kind=.function
 i':sO g j
 nZ:j.globals=mainGlobals
 qI:j.builtins=builtinsNs
 ck:∀k,a.ck=some k->∃d,f0[k]?=some d/\j.code=.ref d.1
 k8:aR (fa c) a.dg j.cells
 ct:∃e,b.Ns j.locals e/\∀x v,a.ct.lookup x=some v->∃f,e x=some f/\aw c v f
 bX:fA c b j.locals
 d0:aj.co.objs.size<=j.locals
theorem pY.jZ.oX{b d:Heap}(x:b.Ns a g)(k:∀o,b.get? a=some o->¬l' o->∃h,d.get? a=some {o with slots:=h}):d.Ns a g:=by refine rt x λo j i e f r=>?_;obtain⟨h,l⟩:=k o e (λc=>by obtain⟨_,vs,c⟩:=c;replace c:=f▸c;cases c);exact DB _ j i l f r
theorem ao.bm(x:ao A b f k s j l e)(d:fA f s.heap a)(i:¬b a)(n:s.heap.Ns a c):e.heap.Ns a c:=pY.jZ.oX n λo h g=>x.S a o d.bH d.ck i g h
theorem bB.dm(b:bB i h d j s.heap)(x:ao A c i u s k w f)(n:¬c j.locals):bB k h d j f.heap:=by refine bA x.cj λe r=>?_;subst r;exact ah b.ct λp l m=>{b with k8:=b.k8.bD λ_ _=>fa.cj e,ct:=am p (x.bm b.bX n l) (λt v o=>let⟨q,a,g⟩:=m t v o;(am q a<|g.cj e)),bX:=x.bX b.bX}
theorem bB.a7(f:bB d c a j s.heap)(x:ao A a8 d g s e h b):bB e c a j b.heap:=f.dm x id
theorem AX{a:c}{f:List (Str×c)}:((t,a)::f).lookup x=if x=t then some a else f.lookup x:=by refine Z Qg ?_;by_cases b:x=t;refine Z (P8 b ..)<|Z (b ..)<|Z (Qz ..) ?_;rfl;refine Z (P4 b)<|Z (Qk.2 b) ?_;rfl
theorem aR.xA(s:aR (fa k) f p):f.lookup x=some i->∃c,k[i]?=some c/\p.lookup x=some c.1:=by induction s with|aP=>exact λb=>bm b|@aY a g f p r _ q=>intro b;obtain⟨h,t⟩:=a;obtain⟨l,m⟩:=g;refine bs r λd n=>ah n λc o e=>?_;replace d:h=l:=d;replace e:m=c.1:=e;subst d e;rw[AX] at b⊢;by_cases j:x=h;rw[P8 j] at b⊢;obtain rfl:=P0 b;exact am c o rfl;rw[P4 j] at b⊢;exact q b
section
theorem uB{s:Shared}(R:aC A c h s.heap)(i:bB c p e j s.heap)(k:e.dg.lookup x=some d)(l:h.r d=some (.h1 w)):∃(a:Addr×Addr) (b:Option Value),c[d]?=some a/\j.cells.lookup x=some a.1/\s.heap.IsCell a.1 b/\vx c w b:=by refine aZ λt q=>(ah (aR.xA i.k8 k) λa f n=>?_);obtain⟨r,g,b,m,o⟩:=R.cQ _ _ l;refine q ?_;rw[f] at g;obtain rfl:=P0 g;exact jC a b f n m o
theorem iY(b:jA o h d):∃a,o=some a/\h a d:=by induction o with|none=>exact b.elim|some a=>exact am a rfl b
theorem v_{s:Shared}(R:aC A e f s.heap)(k:bB e q g j s.heap)(b:jA (g.dg.lookup x) (λa=>J (b6 a) h) f):∃(v:Y) (d:Addr) (c:Value),h v f/\j.cells.lookup x=some d/\s.heap.IsCell d (some c)/\aw e v c:=by refine aZ λu r=>?_;obtain⟨t,l,v,w,⟨rfl,m⟩,n⟩:=iY b;refine hU (uB R k l m) λd c _ o p i=>(r ?_);cases c with|none=>exact i.elim|some c=>exact kN v _ c n o p i
theorem nV(n:cy)(R:aC A m u s.heap)(a:bB m t w j s.heap)(b:g9 t w x h u)(k:∀v g,aw m v g->h v u->Q g s):wpAny (model aI aj.x) A (loadName j x) Q i s:=by
 delta g9 at b;by_cases p:(x==("__debug__":Str)||x==("__classdict__":Str))=true;rw[P8 p] at b;exact b.elim;rw[P4 p] at b;have B:(x==("__classdict__":Str))=false:=by cases r:x==("__classdict__":Str) with|false=>rfl|true=>exact(p<|Z r<|Bool.or_true _).elim
 cases y:t.names.lookup x with|none=>rw[y] at b;exact b.elim|some q=>rw[y] at b;have e:q≠.free->j.kindOf x=some q:=λr=>(a.i' x _ y).resolve_right λF=>r F.1;induction q with|«local»=>exact ah (iY b) λv o b=>(ah a.ct λH D C=>ah (C x v o) λg d c=>wpAny_loadName_local a.gq (e #[]) D d<|k _ _ c b)|cell=>exact h' (v_ R a b) λv E g d c f l=>(wpAny_loadName_cell a.gq (e #[]) c f<|k _ _ l d)|free=>refine h' (v_ R a b) λv E g d c f l=>?_;(rcases a.i' x _ y with e|⟨_,e⟩);exact wpAny_loadName_free a.gq e c f (k _ _ l d) B;exact wpAny_loadName_cell a.gq e c f (k _ _ l d)|globalExplicit=>exact b.elim|globalImplicit=>refine ah (iY b) λv o b=>(ah (n.mj x _ o) λg d c=>?_);have z:=a.nZ▸n.fS.keeps R.bn;have bf:=k _ _ (by have:=d.cj m;exact this) b;refine Z (loadName_read a.gq<|e #[]) ?_;(rcases c with c|⟨c,f⟩);exact loadGlobal_global z c bf;exact loadGlobal_builtin z c (a.qI▸n.jc.keeps R.bn) f bf
theorem MS(f:cy)(R:aC A a c s.heap)(g:bB a e d j s.heap)(b:g9 e d x h c)(k:bc A l a c s aw h Q):wpAny (model aI aj.x) A (loadName j x) Q i s:=nV f R g b λ_ _ r m=>k.g4 R m r
end
end R
namespace R
open PySem.W PySem.Calls PyProof.Rows Builtin Builtin.ObjectAttr
set_option tactic.hygienic true
theorem r9(z:aR (jh w l) i h):i.lookup x=some v->∃d,getL x h=some (some d)/\aw l v d:=by induction z with|aP=>exact λb=>bm b|@aY a _ f p r B o=>intro b;obtain⟨t,C⟩:=a;refine bZ r λk d A n=>(Z A ?_);rw[Qg] at b;unfold getL;refine Z List.find?_cons ?_;by_cases g:x=t;subst g;simp only[beq_self_eq_true] at b;obtain rfl:=P0 b;refine am d ?_ n;simp[Value.isStr];(have q:(x==t)=false:=by simpa using g);(have s:(t==x)=false:=by simpa using λe:t=x=>g e.symm);rw[q] at b;refine ah (o b) λy c m=>(am y (?_:(match(match(Value.str t k).isStr x with|true=>some _|false=>List.find? _ p) with|some e=>some (some e.val)|none=>_)=_) m);(have u:(Value.str t k).isStr x=false:=by simp[Value.isStr,s]);refine Z u ?_;unfold getL at c;split at c;rename_i e j;exact Z j c;rename_i j;split at c<;>cases c
theorem DC:∀{h:List (Str×Y)} {g:List DictEntry},aR (jh w q) h g->h.lookup x=none->getL x g=some none:=by intro _ _ n;induction n with|aP=>intro _;exact rfl|@aY a _ f p r u c=>intro b;obtain⟨t,v⟩:=a;refine bZ r λi m o s=>(Z o ?_);rw[Qg] at b;by_cases d:x=t;subst d;simp at b;(have j:(x==t)=false:=by simpa using d);(have k:(t==x)=false:=by simpa using λe:t=x=>d e.symm);rw[j] at b;have c:=c b;(have l:(Value.str t i).isStr x=false:=by simp[Value.isStr,k]);unfold getL at c⊢;refine Z List.find?_cons ?_;refine Z List.any_cons ?_;simp only[l];exact Z ((rfl:(⟨PyData.keyHash w.params t,.str t i,m⟩:DictEntry).refKey=false) ..)<|Z (Bool.false_or ..) c
theorem uQ(i:aw e v b):∀{h:List (Str×Y)} {g:List DictEntry},aR (jh w e) h g->aR (jh w e) (cN x v h) (putL x (PyData.keyHash w.params x) (.str x j) b g):=by intro _ _ q;induction q with|aP=>exact .aY (bq j b rfl i) .aP|@aY a _ f p r n l=>obtain⟨t,u⟩:=a;refine bZ r λd o s k=>(Z s ?_);unfold cN putL;by_cases c:t=x;refine ad c ?_;simp only[if_true,Value.isStr,beq_self_eq_true];exact .aY (bq d b rfl i) n;(have m:(Value.str t d).isStr x=false:=by simp[Value.isStr,c]);simp only[if_neg c,m,Bool.false_eq_true,if_false];exact .aY (bq d o rfl k) l
theorem vl(x:Str)(b:Int)(k v:Value):∀a:List DictEntry,(putL x b k v a).length<=a.length+1:=by intro d;induction d with|nil=>simp[putL]|cons e r c=>have:=c;unfold putL;split<;>simp;exact this
theorem ye:∀{b:List (Str×Y)} {a:List DictEntry},aR (jh w f) b a->a.any (·.refKey)=false:=by intro _ _ d;induction d with|aP=>exact rfl|@aY _ _ _ _ r g c=>exact bZ r λ_ _ e _=>Z e<|Z List.any_cons<|Z c rfl
theorem rF(b:aw g v f):handedIn f=true:=by induction v with|a' n=>obtain⟨b,rfl⟩:=b;simp only[q9,Bool.or_eq_true,beq_iff_eq] at b;(rcases b with((rfl|rfl)|rfl)|rfl<;>decide+kernel)|c d=>obtain⟨e,rfl⟩:=b;rfl|l d=>obtain⟨e,rfl⟩:=b;rfl|a d=>obtain⟨e,_,rfl⟩:=b;rfl|_=>cases b;rfl
section
theorem MC(k:h.In s.heap)(f:vY h e name)(q:s.heap.get? x=some (instObj e d))(j:s.heap.get? d=some (dictOf a n))(y:a.any (·.refKey)=false)(B:a.length<=900)(b:∀l,l.get? d=some (dictOf (putL name (PyData.keyHash w.params name) (.str name<|s.toks+1) v a)<|putN name a n)->Heap.SameBut d s.heap l->Q () {s with heap:=l,toks:=s.toks+2}):wpAny (model prog w) A (setAttr (.ref x) name v) Q i s:=by
 have o:InstAt s.heap x (instObj e d) e (some<|dictOf a n):=⟨q,rfl,rfl,j⟩;have z:takerIn h e name=some none:=by unfold takerIn;exact Z f.bO rfl
 refine set_plain k o f.aT<|osa_open k o f.mS z λg=>(ah (any_some f.lb) λC r t=>?_);have p:Obj.putName name (PyData.keyHash w.params name) (.str name<|s.toks+1) v (dictOf a n)=dictOf (putL name (PyData.keyHash w.params name) (.str name<|s.toks+1) v a) (putN name a n):=putName_dict ..;have m:(s.heap.update d<|Obj.putName name (PyData.keyHash w.params name) (.str name<|s.toks+1) v).get? d=some (dictOf (putL name (PyData.keyHash w.params name) (.str name<|s.toks+1) v a)<|putN name a n):=by exact ad p<|QD _ j<|Z p rfl
 refine R_<|P7<|R_<|R_<|wpAny_loadPart q<|R_<|Looks.here (looks_clsIn k r)<|Z t<|P7<|R_<|P7<|R_<|R_<|R_<|wpAny_askSetting<|P7<|R_<|wpAny_mkText<|R_<|wpAny_loadPart j ?_;have c:(!a.toArray.any (·.key.isStr name)&&a.toArray.any (·.refKey))=false:=by exact ad Array.any_toList<|ad Array.any_toList (Z (y ..)<|Z (Bool.and_false ..) rfl:(!_&&a.any (·.refKey))=false)
 dsimp only;refine Z (aRefKeyMayBeTheName_at ..)<|Z (c ..)<|wpAny_updatePart j ?_;have u:=vl name (PyData.keyHash w.params name) (.str name<|s.toks+1) v a;exact R_<|wpAny_lookBehind m (pastItsLine_dict<|Z Qe<|Z QG<|xb B u)<|P7<|b _ m<|Qv ..
end
section
theorem aC.aU(R:aC A d h b)(k:aw d (.a a) g)(i:h.r a=some o):∃c,g=.ref c.1/\d[a]?=some c/\f' d b o c:=by refine ah (R.cQ a o i) λc e j=>(ah k λm f l=>Z l ?_);rw[e] at f;obtain rfl:=P0 f;exact cp c rfl e j
structure so(e:ak)(b:Heap)(v:Y)(d:Value)(o:af)(c:Addr×Addr):Prop where
 d1:d=.ref c.1
 c6:f' e b o c
 mu:c.1≠sysModules
 al:(∃a,v=.a a)\/∀a l,o≠.bd a l
theorem eJ(f:cy)(R:aC A d l b)(i:aw d v j)(e:d5 l v=some o):∃c,so d b v j o c:=by induction v with|a a=>exact cM (R.aU i e) λc m n p=>⟨c,m,p,λy=>absurd y<|QN<|Ra f.yw (R.al c<|eB n).1,.inl ⟨a,rfl⟩⟩|cO k=>refine cM (f.cO k o e) λr t s w=>?_;have u:=t.q3 d (j:=b) (λz e=>R.bn _ _ e) (λz e=>R.bn _ _ e) (λT q _=>by exact bZ q λx C e B=>⟨bq x C (R.bn _ _ e) B,by exact(have g:=Q5 e;λc h=>⟨kO (R.al c h).1 g,kO (R.al c h).2.1 g⟩)⟩);exact⟨(cb.cO k,r),i,by exact u,s,.inr w⟩|_=>cases e
end
end R
namespace R
open PySem.W PySem.Calls PyProof.Rows Builtin Builtin.ObjectAttr
theorem zQ(b:sB v=true):∃c,v=.ref c:=by induction v with|ref c=>exact⟨c,rfl⟩|_=>exact gz b
theorem yl{P:List Value->Prop}(d:P [.type "Exception",.type "BaseException",.type "object"])(e:∀c r,kf r=true->P r->P (.ref c::r)):∀{f:List Value},kf f=true->P f:=by intro f;induction f with|nil=>exact gz|cons v r g=>intro b;unfold kf at b;cases a:sB v with|true=>refine bA (zQ a) λc h=>(Z h ?_);rw[P8 a] at b;exact e c r b (g b)|false=>rw[a] at b;exact eq_of_beq b▸d
theorem GB(self:Value)(b:kf f=true):refuseLoop self "__setattr__" f=pure ():=yl (P:=λf=>refuseLoop self "__setattr__" f=pure ()) (PySem.F.store_Exception.passes self) (λ_ _ _ a=>(refuseLoop_ref ..).trans a) b
theorem t4(b:kf f=true):f.contains (.type "object")=true/\f.contains (.type "BaseException")=true/\f.isEmpty=false:=yl (P:=λf=>f.contains (.type "object")=true/\f.contains (.type "BaseException")=true/\f.isEmpty=false) (by simp) (λc r _ a=>b9 (by refine Z (QP ..)<|Z (a.1 ..)<|Z (Bool.or_true ..) ?_;rfl) (by refine Z (QP ..)<|Z (a.2.1 ..)<|Z (Bool.or_true ..) ?_;rfl) rfl) b
section
theorem u9{prog:Program}{w:World}{A:Around}{s:Shared}{h:Frag}{c x:Addr}{name:Str}{v:Value}{R:Result->Shared->Prop}{u:Obj}{t:Option Obj}{f:Tok}(j:h.In s.heap)(k:m6 h c name)(i:InstAt s.heap x u c t)(b:∀g,wpAny (model prog w) A.in1 (storeInOwnDict (.ref x) (.ref c) (.str name f) name v g) (λbf d=>match bf with|.done l=>R (.ok l) d|.again m=>m.quiet=true/\codeAny (model prog w) A m R d) (λe d=>R (.error e) d) s):codeAny (model prog w) A (.call (.builtin "object.__setattr__") ⟨[.ref x,.str name f,v],[]⟩) R s:=by refine aZ λz y=>?_;have a:=PySem.F.store_object;refine ah (any_some k.mS) λp n o=>(eN (t4 o) λq _ r=>y<|codeAny_call_builtin a.slot.plain a.entry<|@check_slot (model prog w) _ _ s "object.__setattr__" "object" "__setattr__" (.ref x) [.str name f,v] [] _ a.kind a.split (i.type.andThen<|looks_mroIn j (by unfold mroIn;refine Z (n ..)<|Z (Option.bind_some ..)<|Z (P4 (by refine Z r ?_;decide) ..) ?_;refine Z (q ..) ?_;rfl)) (a.args (.ref x) (.str name f) v) ?_);exact Z (osa_eq ..)<|Z (refuse_eq ..)<|R_<|R_<|i.type.here<|R_<|((looks_clsIn j n).andThen .now:Looks (model prog w) s.heap (mroOf<|.ref c) p.mro).here<|Z (GB _ o)<|P7<|R_<|i.type.here<|R_<|(looks_findIn j k.bO).here<|R_<|P7<|b _
theorem FX(l:h.In s.heap)(k:m6 h f name)(r:s.heap.get? x=some e)(t:e.cls=.ref f)(u:e.data=.fields vs)(y:e.dict=some d)(j:s.heap.get? d=some (dictOf a n))(D:a.any (·.refKey)=false)(E:a.length<=900)(b:∀m,m.get? d=some (dictOf (putL name (PyData.keyHash w.params name) (.str name<|s.toks+1) v a)<|putN name a n)->Heap.SameBut d s.heap m->Q () {s with heap:=m,toks:=s.toks+2}):wpAny (model prog w) A (setAttr (.ref x) name v) Q i s:=by
 obtain⟨K,M,L,F⟩:=e;dsimp only at t u y;subst t u y;have p:InstAt s.heap x ⟨.ref f,some d,.fields vs,F⟩ f (some<|dictOf a n):=⟨r,rfl,rfl,j⟩;refine set_plain l p k.aT<|u9 l k p λg=>(ah (any_some k.lb) λH z B=>?_);have q:Obj.putName name (PyData.keyHash w.params name) (.str name<|s.toks+1) v (dictOf a n)=dictOf (putL name (PyData.keyHash w.params name) (.str name<|s.toks+1) v a) (putN name a n):=putName_dict ..;have o:(s.heap.update d<|Obj.putName name (PyData.keyHash w.params name) (.str name<|s.toks+1) v).get? d=some (dictOf (putL name (PyData.keyHash w.params name) (.str name<|s.toks+1) v a)<|putN name a n):=by exact ad q<|QD _ j<|Z q rfl
 refine R_<|P7<|R_<|R_<|wpAny_loadPart r<|R_<|Looks.here (looks_clsIn l z)<|Z B<|P7<|R_<|P7<|R_<|R_<|R_<|wpAny_askSetting<|P7<|R_<|wpAny_mkText<|R_<|wpAny_loadPart j ?_;have c:(!a.toArray.any (·.key.isStr name)&&a.toArray.any (·.refKey))=false:=by exact ad Array.any_toList<|ad Array.any_toList (Z (D ..)<|Z (Bool.and_false ..) rfl:(!_&&a.any (·.refKey))=false)
 dsimp only;refine Z (aRefKeyMayBeTheName_at ..)<|Z (c ..)<|wpAny_updatePart j ?_;have C:=vl name (PyData.keyHash w.params name) (.str name<|s.toks+1) v a;exact R_<|wpAny_lookBehind o (pastItsLine_dict<|Z Qe<|Z QG<|xb E C)<|P7<|b _ o<|Qv ..
theorem KP(m:h.In s.heap)(l:m6 h d name)(k:s.heap.get? x=some f)(u:f.cls=.ref d)(y:f.data=.fields vs)(z:f.dict=none)(b:∀j,j.get? x=some {f with dict:=some s.heap.objs.size}->j.get? s.heap.objs.size=some (dictOf [⟨PyData.keyHash w.params name,.str name<|s.toks+1,v⟩] 1)->(∀g o,g≠x->s.heap.get? g=some o->j.get? g=some o)->j.objs.size=s.heap.objs.size+1->Q () {s with heap:=j,toks:=s.toks+2}):wpAny (model prog w) A (setAttr (.ref x) name v) Q i s:=by
 obtain⟨L,O,M,p⟩:=f;dsimp only at u y z;subst u y z;have r:InstAt s.heap x ⟨.ref d,none,.fields vs,p⟩ d none:=⟨k,rfl,rfl,Qd⟩;refine set_plain m r l.aT<|u9 m l r λg=>(ah (any_some l.lb) λK E F=>?_);have C:=Q5 k;have B:(s.heap.push emptyDict).get? x=some ⟨.ref d,none,.fields vs,p⟩:=P_ _ k;have n:((s.heap.push emptyDict).update x λo=>{cls:=o.cls,dict:=some s.heap.objs.size,data:=o.data,slots:=o.slots}).get? s.heap.objs.size=some (dictOf [] 0):=by refine Z (Heap.get?_update_other _ _<|Q6 C) ?_;exact Q' _ rfl
 have H:((s.heap.push emptyDict).update x λo=>{cls:=o.cls,dict:=some s.heap.objs.size,data:=o.data,slots:=o.slots}).get? x=some ⟨.ref d,some s.heap.objs.size,.fields vs,p⟩:=QD _ B rfl;have t:Obj.putName name (PyData.keyHash w.params name) (.str name<|s.toks+1) v (dictOf [] 0)=dictOf [⟨PyData.keyHash w.params name,.str name<|s.toks+1,v⟩] 1:=putName_dict ..;have q:(((s.heap.push emptyDict).update x λo=>{cls:=o.cls,dict:=some s.heap.objs.size,data:=o.data,slots:=o.slots}).update s.heap.objs.size<|Obj.putName name (PyData.keyHash w.params name) (.str name<|s.toks+1) v).get? s.heap.objs.size=some (dictOf [⟨PyData.keyHash w.params name,.str name<|s.toks+1,v⟩] 1):=by exact ad t<|QD _ n<|Z t rfl
 refine R_<|P7<|R_<|R_<|wpAny_loadPart k<|R_<|Looks.here (looks_clsIn m E)<|Z F<|R_<|wpAny_alloc<|R_<|wpAny_update B<|P7 (a:=some s.heap.objs.size)<|R_<|P7<|R_<|R_<|R_<|wpAny_askSetting<|P7<|R_<|wpAny_mkText<|R_<|wpAny_loadPart n ?_;have c:(!(List.toArray ([]:List DictEntry)).any (·.key.isStr name)&&(List.toArray ([]:List DictEntry)).any (·.refKey))=false:=by simp
 dsimp only;refine Z (aRefKeyMayBeTheName_at ..)<|Z (c ..)<|wpAny_updatePart n<|R_<|wpAny_lookBehind q (pastItsLine_dict<|by simp)<|P7<|b _ ?_ q (λg o D e=>?_) ?_;refine Z (Heap.get?_update_other _ _<|Qy<|Q6 C) ?_;exact H;refine Z (Heap.get?_update_other _ _<|Qy<|Q6<|Q5 e) ?_;refine Z (Heap.get?_update_other _ _<|Qy D) ?_;exact P_ _ e;refine Z (Heap.size_update ..)<|Z (Heap.size_update ..)<|Z (Q2 ..) ?_;rfl
theorem Ma:entryFor table "BaseException.__getattribute__"=some Builtin.«object.__getattribute__»:=PySem.F.entry_bexc_ga
theorem H_(e:h.In s.heap)(c:m6 h a name)(t:s.heap.get? x=some d)(o:d.cls=.ref a)(p:d.data=.fields vs)(q:d.dict=some j)(u:s.heap.get? j=some k)(C:lookIn name k=some (some v))(B:handedIn v=true)(b:∀l,Q v {s with toks:=l}):wpAny (model prog w) A (getAttr (.ref x) name expr) Q i s:=by
 obtain⟨X,V,Y,L⟩:=d;dsimp only at o p q;subst o p q;have m:InstAt s.heap x ⟨.ref a,some j,.fields vs,L⟩ a (some k):=⟨t,rfl,rfl,u⟩;obtain⟨W,S,R,l,f⟩:=s;have g:=m.type (M:=model prog w);refine ah (any_some c.mS) λP z D=>(eN (t4 D) λ_ r K=>?_);have y:builtinKind "BaseException.__getattribute__"=some .slot:=by decide+kernel
 have E:splitId "BaseException.__getattribute__"=some ("BaseException","__getattribute__"):=by decide+kernel
 have H:(Value.builtin "BaseException.__getattribute__"==Value.builtin "object.__getattribute__")=false:=by decide+kernel
 have bind:bindSpecial (.builtin "BaseException.__getattribute__") (.ref x)=pure (.builtin "BaseException.__getattribute__",[.ref x]):=by exact(Slot.of (T:="BaseException") (name:="__getattribute__") (owner:="BaseException") (n:="__getattribute__") (by refine Z (typeLookup_type ..)<|Z (builtinLookup_eq_fast ..) ?_;kernel_rfl) (by decide+kernel) (by decide+kernel) (by decide+kernel) (.inl<|by decide+kernel) (by refine Z (isSubtype_type ..) ?_;kernel_rfl)).bind<|.ref x
 have O:plainId "BaseException.__getattribute__"=true:=by decide+kernel
 delta getAttr getAttrBy;refine R_<|wpAny_mkText<|Qb<|R_<|g.at<|R_<|(looks_findIn e c.aq).at ?_;dsimp only;refine Z (H ..)<|Z (Bool.and_false ..)<|Z (P4 Qt ..) ?_;delta getAttrByItsOwn hookBefore;refine R_<|Z (P8<|show onTheHeap (.ref a)=true from rfl)<|(looks_findIn e c.jN).at (R_<|wpAny_attempt<|Qb ?_);delta callGetattribute boundAndCalled;rw[show(expr&&onTheHeap (.builtin "BaseException.__getattribute__"))=false from by cases expr<;>rfl,P4 Qt,bind];refine R_<|P7<|wpAny_call<|codeAny_call_builtin O Ma<|@check_slot (model prog w) _ _ _ "BaseException.__getattribute__" "BaseException" "__getattribute__" (.ref x) [.str name l] [] _ y E (g.andThen<|looks_mroIn e (by unfold mroIn;refine Z (z ..)<|Z (Option.bind_some ..)<|Z (P4 (by refine Z K ?_;decide) ..) ?_;exact Z (r ..) rfl)) (PySem.F.args_bexc_ga _ _) ?_;exact R_<|P7<|R_<|P7<|R_<|g.at<|R_<|(looks_find e m<|findObj_own c.lb c.bO rfl C).at (P7 (Z (handedOut_of B)<|P7<|b _:wpAny _ _ (handedOut v) _ _ _))
end
section
theorem xu(a:cy)(R:aC A u B s.heap)(F:ba.fC x=true)(E:aw u v H)(b:J (ee v x) h B)(k:bc A L u B s aw h Q):wpAny (model aI aj.x) A (getAttr H x expr) Q i s:=by refine bZ b λw G b y=>?_;induction b with|aD e r=>refine aZ λK f=>?_;obtain⟨t,c⟩:=eJ a R E e;obtain⟨⟨p,q⟩,C,n,l,m,o⟩:=c.c6;refine f<|Z c.d1 ?_;have g:=a.fC _ x p F q;exact ah (r9 o r) λX j d=>(get_value (a.dH.keeps R.bn) (⟨l,rfl,rfl,m⟩:InstAt s.heap t.1 (instObj _ t.2) _ (some<|dictOf C n)) g.aq (findObj_own g.lb g.bO rfl j) (rF d)<|k.b0 R y d _)|bd W e S r=>refine aZ λK f=>?_;obtain⟨t,c⟩:=eJ a R E e;obtain⟨⟨p,q⟩,z,vs,l,m,o,_,_,_,N,T,M⟩:=c.c6;refine f<|Z c.d1<|aZ λK f=>?_;obtain⟨I,D,C,n,O,P⟩:=R.cQ _ _ S;refine f ?_;rw[T] at D;obtain rfl:=P0 D;exact ah (r9 P r) λX j d=>H_ (a.dH.keeps R.bn) (a.oY _ x p F q W) l m o M O j (rF d) λU=>k.b0 R y d U
end
end R
namespace R
open PySem.W PySem.Calls PyProof.Rows
set_option tactic.hygienic true
theorem aR.s8(r:R a g)(c:Nat)(b:aR R f p):aR R (f.set c a) (p.set c g):=by induction b generalizing c with|aP=>exact .aP|aY i j h=>induction c using Nat.casesOn with|zero=>exact .aY r j|succ c=>exact .aY i<|h c
theorem aR.FR(h:aR R f p):∀b:Nat,(f[b]?=none/\p[b]?=none)\/∃a g,f[b]?=some a/\p[b]?=some g/\R a g:=by induction h with|aP=>exact λ_=>.inl ⟨rfl,rfl⟩|@aY a g _ _ r _ e=>intro b;induction b with|zero=>exact .inr (eb a g rfl rfl r)|succ b=>exact e b
theorem aR.Fm{l:Type}(b:aR R f p)(c:List Nat):aR R (c.filterMap (f[·]?)) (c.filterMap (p.toArray[·]?)):=by induction c with|nil=>exact .aP|cons h c i=>(rcases b.FR h with⟨d,e⟩|⟨a,g,d,e,r⟩);exact Z (List.filterMap_cons_none d)<|Z (List.filterMap_cons_none<|by simpa using e) i;exact Z (List.filterMap_cons_some d)<|Z (List.filterMap_cons_some<|show p.toArray[h]?=some g by simpa using e)<|.aY r i
section
theorem hs{b:Heap}{vs:List Value}(c:b.get? a=some (listOf vs.toArray n)):b.IsList a vs.toArray:=⟨_,c,rfl,n,rfl⟩
theorem ny{b:Heap}{vs:List Value}(c:b.get? a=some (mh vs.toArray 0)):b.IsTuple a vs.toArray:=⟨_,c,rfl,0,rfl⟩
theorem rf{vs:List Value}(c:b.get? a=some (mh vs.toArray 0)):IsTup b a vs.toArray:=⟨_,c,rfl,0,rfl⟩
theorem sn(b:cB a=true): -(2^62)<a/\a<2^62:=by exact qP<|Nat.blt_eq.mp b
theorem Fe(c:0<=a)(b:seqIndex? a n=some q):q=a.toNat:=by unfold seqIndex? at b;by_cases d:a<n;exact P0<|b.symm.trans<|seqIndex_of c d;rw[P4<|Int.not_lt.2 c,P4 λe=>d<|of_decide_eq_true (Qm _ _▸e).2] at b;exact bm b
theorem ty(b:g8 a n=some c):seqIndex? a n=some c/\cB a=true/\c<n:=by unfold g8 at b;split at b;rename_i d;exact b9 b d<|lt_of_seqIndex b;exact bm b
theorem j6(y:gu k=true)(b:aw f k d):p' k d=true:=by induction k with|c a=>obtain⟨e,rfl⟩:=b;exact Qz a|l a=>obtain⟨e,rfl⟩:=b;exact Qz a|_=>exact gz y
theorem oI(t:aR (gv l) h j):dn k h=some v->∃c,valueAt j k=some c/\aw l v c:=by induction t with|aP=>exact λb=>bm b|@aY a g f p r x s=>intro b;obtain⟨m,u⟩:=a;obtain⟨w,n⟩:=g;obtain⟨e,i⟩:=r;dsimp only at e i;subst e;unfold dn at b;unfold valueAt;refine Z List.find?_cons ?_;by_cases d:m=k;subst d;simp only[if_true] at b;obtain rfl:=P0 b;exact am n (by simp) i;rw[P4 d] at b;refine ah (s b) λc o q=>(am c ?_ q);simp only[decide_eq_false d];exact o
theorem rS:∀{d:List (Y×Y)} {h:List (Y×Value)},aR (gv n) d h->dn k d=none->valueAt h k=none:=by intro _ _ m;induction m with|aP=>intro _;exact rfl|@aY a g f p r t l=>intro b;obtain⟨i,o⟩:=a;obtain⟨q,s⟩:=g;obtain⟨e,j⟩:=r;dsimp only at e j;subst e;unfold dn at b;unfold valueAt;refine Z List.find?_cons ?_;by_cases c:i=k;subst c;simp at b;rw[P4 c] at b;simp only[decide_eq_false c];exact l b
theorem t3(s:aw o v c):∀{q:List (Y×Y)} {n:List (Y×Value)},aR (gv o) q n->(n.map (·.1)).Nodup->aR (gv o) (e0 k v q) (stored n k c):=by intro _ _ z;induction z with|aP=>intro _;exact .aY ⟨rfl,s⟩ .aP|@aY a g f p r y x=>intro m;obtain⟨b,A⟩:=a;obtain⟨B,i⟩:=g;obtain⟨e,t⟩:=r;dsimp only at e t;subst e;rw[QM,List.nodup_cons] at m;unfold e0;by_cases h:b=k;refine ad h ?_;(have u:p.any (λd=>d.1=b)=false:=by rw[List.any_eq_false];intro d l w;exact m.1<|Qa.2<|am d l<|by simpa using w);(have j:stored ((b,i)::p) b c=(b,c)::p:=by unfold stored;refine Z (P8<|by simp) ?_;simp only[List.map_cons,if_true];congr 1;refine(QB λd l=>?_).trans<|List.map_id _;have:=List.any_eq_false.1 u d l;simp only[decide_eq_true_eq] at this;refine Z (P4 this) ?_;rfl);exact Z j<|Z (P8 rfl)<|.aY ⟨rfl,s⟩ y;refine Z (P4 h) ?_;(have j:stored ((b,i)::p) k c=(b,i)::stored p k c:=by unfold stored;simp only[List.any_cons,decide_eq_false h,Bool.false_or,List.map_cons,if_neg h];split<;>rfl);exact Z j<|.aY ⟨rfl,t⟩<|x m.2
theorem pv(R:aC A a b s.heap)(f:z.isFreed=false)(h:∀c,c.get? s.heap.objs.size=some z->f' (a++[(s.heap.objs.size,s.heap.objs.size)]) c o (s.heap.objs.size,s.heap.objs.size)):ao A d a b s (a++[(s.heap.objs.size,s.heap.objs.size)]) (b.z o) {s with heap:=s.heap.push z,toks:=i}/\aw (a++[(s.heap.objs.size,s.heap.objs.size)]) (.a b.f) (.ref s.heap.objs.size):=by refine⟨ao.o7 R (λg z e=>P_ _ e) (P5 _) (P5 _) ?_ ?_<|h _<|Q' _ f,?_⟩;exact Z (Q2 ..)<|P' _;exact Z (Q2 ..)<|P' _;exact am (s.heap.objs.size,s.heap.objs.size) (by refine ad R.cq ?_;simp) rfl
theorem pI(R:aC A a c s.heap)(b:aR (aw a) d vs)(g:Nat):ao A f a c s (a++[(s.heap.objs.size,s.heap.objs.size)]) (c.z<|.d d) {s with heap:=s.heap.push {cls:=.type "list",data:=.seq vs.toArray},toks:=g}/\aw (a++[(s.heap.objs.size,s.heap.objs.size)]) (.a c.f) (.ref s.heap.objs.size):=pv R rfl λh e=>bq vs 0 e<|b.bD λ_ _=>.cj _
theorem MU(R:aC A a c s.heap)(b:aR (aw a) d vs)(g:Nat):ao A f a c s (a++[(s.heap.objs.size,s.heap.objs.size)]) (c.z<|.A d) {s with heap:=s.heap.push {cls:=.type "tuple",data:=.seq vs.toArray},toks:=g}/\aw (a++[(s.heap.objs.size,s.heap.objs.size)]) (.a c.f) (.ref s.heap.objs.size):=pv R rfl λh e=>am vs e<|b.bD λ_ _=>.cj _
theorem ao.d{A:Around}{m:Addr->Prop}{c:ak}{d:V}{s:Shared}(R:aC A c d s.heap){a:Nat}{h:Addr×Addr}{o:af}{j:List Y}{vs:List Value}{n:Nat}{f:Heap}{v:Nat}(t:c[a]?=some h)(r:d.r a=some o)(q:∀k l,o≠.bd k l)(i:Heap.SameBut h.1 s.heap f)(e:f.get? h.1=some (listOf vs.toArray n))(b:aR (aw c) j vs):ao A m c d s c (d.Q a<|.d j) {s with heap:=f,toks:=v}:=ao.ls R t r (λg z p _ e=>(i.2 g p).trans e) (P2 i.1.symm) (bq vs n e b) λk l u=>(q k l u).elim
theorem ao.K{A:Around}{n:Addr->Prop}{c:ak}{d:V}{s:Shared}(R:aC A c d s.heap){a:Nat}{i:Addr×Addr}{o:af}{j:List (Y×Y)}{h:List (Y×Value)}{f:Heap}{v:Nat}(t:c[a]?=some i)(r:d.r a=some o)(q:∀k l,o≠.bd k l)(m:Heap.SameBut i.1 s.heap f)(e:f.DictOf (kx aI aj.x) i.1 h)(b:aR (gv c) j h):ao A n c d s c (d.Q a<|.K j) {s with heap:=f,toks:=v}:=ao.ls R t r (λg z p _ e=>(m.2 g p).trans e) (P2 m.1.symm) (am h e b) λk l u=>(q k l u).elim
abbrev wj:ak->Unit->Unit->Prop:=λ_ _ _=>True
theorem bc.bf(k:bc A i j l s c6 h Q)(e:h a g)(b:ao A i j l s f g d/\c6 f a c):Q c d:=k a g f d c b.1 b.2 e
theorem tc(b:aR R c vs)(e:(g8 a c.length).bind (λn=>c[n]?)=some w):∃(q:Nat) (f:Value),seqIndex? a vs.length=some q/\vs[q]?=some f/\R w f/\ -(2^62)<a/\a<2^62:=by refine aZ λr p=>(ah (Option.bind_eq_some_iff.1 e) λq j l=>eN (ty j) λd g _=>bs (sn g) λh i=>ah (b.r l) λo m k=>p ?_);rw[b.d6] at d;exact p_ q o d m k h i
theorem IM(H:cy)(R:aC A E T s.heap){I:Value}(B:aw E v I)(y:aw E k X)(b:J (ce v k) h T)(u:bc A NN E T s aw h Q)(z:∀o c,subscripted N false o c=operate [o,c] (getItem o c)):wpAny (model aI aj.x) A (subscriptTail NV N I X) Q i s:=by refine bZ b λw N6 b t=>?_;induction b with|@d _ N4 c _ e f=>obtain⟨U,a⟩:=eJ H R B e;obtain⟨O,rfl⟩:=y;refine bZ a.c6 λvs n r L=>?_;rw[a.d1];obtain⟨q,G,g,D,C,m,p⟩:=tc L f;have j:=hs r;refine tail_any j.typeIs slot_list_getitem.lookup ?_<|z _ _;by_cases M:0<=c;exact getItem_listL j M (qT p) (ad (Fe M g) D)<|u.g4 R t C;exact kde_getNeg j (IC M) (vB m) g D (u.g4 R t C)|A e f=>obtain⟨U,a⟩:=eJ H R B e;obtain⟨O,rfl⟩:=y;obtain⟨vs,r,L⟩:=a.c6;rw[a.d1];obtain⟨q,G,g,D,C,m,p⟩:=tc L f;have j:=rf r;exact tail_any j.typeIs slot_tuple_getitem.lookup (getItem_tuple j (vB m) (qT p) (by exact g) (by simpa using D)<|u.g4 R t C) (z _ _)|K e NU f=>refine bA (eJ H R B e) λU a=>(ah a.c6 λNZ NR NS=>Z a.d1<|ah (oI NS f) λG r NP=>?_);have W:=NR.mapOf;exact tail_any W.typeIs slot_dict_getitem.lookup (wpAny_getItem_of (j6 NU y) W r<|u.b0 R t NP _) (z _ _)|@l _ x c NY e f=>subst e;refine bA B λO S=>(Z S<|bA y λN3 S=>Z S<|aZ λN5 NW=>ah (Option.bind_eq_some_iff.1 f) λq NT NQ=>eN (ty NT) λg NO NX=>?_);obtain⟨m,p⟩:=sn NO;refine NW<|tail_any (typeIs_str s x O) _root_.PySem.F.slot_str_getitem.lookup (PySem.P.getItem_str (by simp;exact⟨Int.le_of_lt<|Int.lt_trans #[] m,Int.lt_trans p #[]⟩) (by exact(Z g NQ:(seqIndex? c x.cps.size).bind _=_))<|u.b0 R t ⟨_,rfl⟩ _)<|z _ _
theorem u6(R:aC A e r s.heap)(C:aw e v L)(y:aw e k E)(D:aw e w j)(b:J (jL v k w) h r)(F:bc A M e r s wj h Q):wpAny (model aI aj.x) A (setItem L E j) Q i s:=by refine bZ b λNY N4 b x=>?_;induction b with|@d _ a NZ q _ f G=>refine eN G λl m o=>?_;obtain⟨NR,rfl,p,vs,n,t,u⟩:=R.aU C f;refine bA y λNX NT=>(Z NT ?_);obtain⟨NU,O⟩:=sn o;refine ki_setAt t l (qT O) (Z Qe<|u.d6▸m)<|F () _ e _ () (ao.d (n:=n) R p f (λ_ _=>kp rfl) (Qv ..) ?_<|u.s8 D _) Qd x;have H:=PySem.IsL.update t (·.setIfInBounds q.toNat j);(have P:(vs.toArray.setIfInBounds q.toNat j)=(vs.set q.toNat j).toArray:=by apply Array.toList_inj.1;simp);rw[P,P8<|by simp] at H;exact H|@K _ a S _ _ f NN N=>refine aZ λN3 NS=>?_;obtain⟨NR,rfl,p,NW,z,B⟩:=R.aU C f;refine NS ?_;have NO:=B.d6;have U:S.length<=bl:=RC N;exact wpAny_setItem_pairs (j6 NN y) z (λNV I NQ=>F () _ e _ () (ao.K R p f (λ_ _=>kp rfl) NQ I<|t3 D B (by obtain⟨a,g,c,T,l,m,o,W,X⟩:=z;exact(λ_ _ _ _ _ _ _ _ NP=>NP) a g c T l m o W X)) Qd x)<|by exact ad NO<|Z QG<|m8 U
theorem J3(q:cy)(R:aC A d f s.heap)(B:aw d v m)(D:IsPart o c)(E:IsPart p a)(z:s.heap.IsSliceOf l o p .none)(b:J (gW v c a) h f)(C:bc A r d f s aw h Q):wpAny (model aI aj.x) A (getItem m<|.ref l) Q i s:=by
 refine aZ λL H=>?_;obtain⟨w,M,⟨F,e,x,rfl,rfl⟩,u⟩:=b;obtain⟨K,g⟩:=eJ q R B e;refine bZ g.c6 λvs n t j=>(H<|Z g.d1 ?_);have k:=j.d6;refine wpAny_getItem_list_slice (hsz:=by exact Z Qe<|ad k<|Z QG<|m8<|RC x) (hs t) z D E .none (by simp) ?_;have y:aR (aw d) (iD F c a) (slicePick vs.toArray c a none).toList:=by delta iD slicePick;exact Z Qe<|Z k<|aR.Fm (l:=Nat) j _
 exact C.bf u<|by exact pI R y s.toks
end
end R
namespace R
open PySem.W PySem.Calls PyProof.Rows
section
theorem MI:∀{d c:List Y},lo R d c->d.length=c.length/\∀(q:Nat) (x t:Y),d[q]?=some x->c[q]?=some t->R x t:=by intro d;induction d with|nil=>(intro c b;induction c with|nil=>exact⟨rfl,λq x t e=>by simp at e⟩|cons t c=>exact b.elim)|cons x d j=>intro c b;induction c with|nil=>exact b.elim|cons t c=>refine bs (j b.2) λe i=>⟨Q3 (·+1) e,λq a g f h=>?_⟩;induction q using Nat.casesOn with|zero=>simp at f h;exact ad f (ad h b.1)|succ q=>exact i q a g (by exact f)<|by exact h
structure w'(A:Around)(s:Shared)(a g:Value):Prop where
 fH:SeqAt.EqAt A s a g true
 DH:SeqAt.RcAt A s a g true
theorem Kw(R:aC A m T s.heap):∀(n:Nat) {c:Around} {a g:Y} {H K:Value},aw m a H->aw m g K->gO T n a g->c.units+n<cLine->w' c s H K:=by intro n;induction n with|zero=>intro c a g H K _ _ b;exact b.elim|succ n G=>intro c a g H K L M b X;have U:=wA X;(have W:∀{z B:List Y} {vs h:List Value},aR (aw m) z vs->aR (aw m) B h->lo (gO T n) z B->vs.toArray.size=h.toArray.size/\∀(q:Nat) (o:q<vs.toArray.size) (p:q<h.toArray.size),SeqAt.EqAt c.in1 s vs.toArray[q] h.toArray[q] true:=by intro z B vs h P Q d;refine bs (MI d) λf d=>⟨Z Qe<|Z Qe<|ad P.d6<|ad Q.d6<|Z f rfl,λq o p=>?_⟩;(have u:q<z.length:=by exact Z P.d6 o);(have y:q<B.length:=by exact Z Q.d6 p);refine ah (P.r<|RB u) λv C NN=>?_;refine ah (Q.r<|RB y) λw D NO=>?_;(have N:vs.toArray[q]=v:=by exact(P1.1 C).2);(have I:h.toArray[q]=w:=by exact(P1.1 D).2);exact Z N<|Z I<|(G (c:=c.in1) NN NO (d q _ _ (RB u)<|RB y) (vn X:c.units+1+n<cLine)).fH);(have bf:∀{t q:Nat} {j d:Addr×Addr},m[t]?=some j->m[q]?=some d->SeqAt.RcAt c s (.ref j.1) (.ref d.1) true->w' c s (.ref j.1) (.ref d.1):=λ{t q j d} r i J=>by refine⟨?_,J⟩;by_cases e:t=q;subst e;rw[r] at i;obtain rfl:=P0 i;exact SeqAt.EqAt.same _;exact SeqAt.EqAt.of_refs (R.gs t q j d r i e).1 J);(rcases b with⟨x,rfl,rfl⟩|⟨x,rfl,rfl⟩|⟨t,q,z,B,rfl,rfl,o,p,S⟩|⟨t,q,z,B,rfl,rfl,o,p,S⟩);refine bA L λE l=>(Z l<|bA M λF l=>Z l ?_);have e:=Qz x;exact⟨e▸SeqAt.EqAt.int_int x E x F,e▸SeqAt.RcAt.int_int x E x F⟩;refine bA L λE l=>(Z l<|bA M λF l=>Z l ?_);have e:=Qz x;exact⟨e▸SeqAt.EqAt.str_str x E x F,e▸SeqAt.RcAt.str_str x E x F⟩;obtain⟨j,rfl,r,vs,k,C,D⟩:=R.aU L o;obtain⟨d,rfl,i,h,NQ,u,y⟩:=R.aU M p;refine bs (W D y S) λhsz O=>?_;have:=SeqAt.RcAt.lists (hs C) (hs u) hsz U O;rw[QU.2 λ_ _=>rfl] at this;exact bf r i this;obtain⟨j,rfl,r,vs,C,D⟩:=R.aU L o;refine aZ λNR NP=>?_;obtain⟨d,rfl,i,h,u,y⟩:=R.aU M p;refine bs (W D y S) λhsz O=>(NP ?_);have:=SeqAt.RcAt.tuples (ny C) (ny u) U O;rw[QU.2 λ_ _=>rfl,hsz,Qz] at this;exact bf r i this
end
end R
namespace R
open PySem.W PySem.Calls PyProof.Rows
set_option tactic.hygienic true
theorem aR.xm{f:List Value}:(f.toArray++p.toArray)=(f++p).toArray:=by simp
section
noncomputable def ux(x:Int):Value->Bool|.int q _=>q==x|_=>false
theorem vT(b:ly Option.none l v=some r):∃x,v=.c x/\l x=some r:=by induction v using Y.casesOn with|c x=>exact am x rfl b|_=>exact bm b
theorem A':∀{h:List Y} {vs:List Value} {g:Bool},aR (aw A) h vs->mv a h=some g->h=[]\/∃x,a=.c x/\vs.any (ux x)=g/\∀t∈vs,∃q i,t=.int q i:=by intro h;induction h with|nil=>intro vs g _ _;exact .inl rfl|cons e f u=>intro vs g b c;cases b with|@aY _ w _ p r l=>refine ah (vT c) λx v c=>(ah (vT c) λt y c=>?_);subst v;subst y;refine ah (QV.1 c) λB j k=>(bA r λi z=>Z z<|.inr<|am x rfl ?_);(rcases u l j with rfl|⟨_,n,o,s⟩);cases l;obtain rfl:=P0 j;exact ad k ⟨rfl,λm d=>⟨t,i,Re.1 d⟩⟩;cases n;refine Z List.any_cons<|Z o<|ad k ⟨rfl,λm d=>?_⟩;(rcases RD.1 d with rfl|d);exact g' _ _ rfl;exact s m d
theorem uY(b:aw i v d)(f:v≠.s):d≠.none:=λe=>by subst e;induction v with|s=>exact f rfl|c g=>obtain⟨h,b⟩:=b;cases b|l g=>obtain⟨h,b⟩:=b;cases b|a' n=>cases b.2|a a=>obtain⟨j,_,b⟩:=b;cases b|_=>cases b
theorem r2:aw a (.b' g) (.bool g):=rfl
theorem l7:aw c (.c a) (.int a b):=⟨b,rfl⟩
theorem tr(c:aR (gv g) b d):(valueAt d a).isSome=(dn a b).isSome:=by cases e:dn a b with|none=>rw[rS c e];rfl|some v=>obtain⟨h,f,_⟩:=oI c e;refine Z f ?_;rfl
theorem yd(v:cy)(U:i1 A)(R:aC A u F s.heap)(c:aw u a H)(d:aw u g l)(b:J (cW p a g) h F)(T:bc A N u F s aw h Q):wpAny (model aI aj.x) A (compareOp p H l) Q i s:=by obtain⟨r,N3,⟨rfl,K,rfl,b⟩,O⟩:=b;have B:=U.n4;have k:∀l,l=K->Q (.bool l) s:=λl e=>T.g4 R O<|e▸r2;have W:∀l f,l=K->Q (.bool l) {s with toks:=f}:=λl f e=>T.b0 R O (e▸r2) f;induction b with|oy=>cases c;subst d;exact is_none_none (k _ rfl)|wE z=>cases d;exact is_none_ne (uY c z) (k _ rfl)|wh=>cases c;subst d;exact isnot_none_none (k _ rfl)|yr z=>cases d;exact isnot_none_ne (uY c z) (k _ rfl)|f8=>obtain⟨f,rfl⟩:=c;obtain⟨m,rfl⟩:=d;exact wpAny_lt_int (k _ rfl)|jN=>obtain⟨f,rfl⟩:=c;obtain⟨m,rfl⟩:=d;exact _root_.PySem.P.gt_int (k _ rfl)|eW=>obtain⟨f,rfl⟩:=c;obtain⟨m,rfl⟩:=d;exact _root_.PySem.P.ne_int (k _ rfl)|@tS _ _ NU o G=>refine aZ λNZ NV=>?_;obtain⟨NR,rfl,_,vs,_,L,I⟩:=R.aU c o;obtain⟨NS,rfl,_,NY,_,X,NO⟩:=R.aU d G;refine NV ?_;cases NO;(have NT:SeqAt.RcNeAt A s (.ref NR.1) (.ref NS.1) (!NU.isEmpty):=by induction I with|aP=>exact SeqAt.RcNeAt.lists (e:=λ_=>true) (hs L) (hs X) rfl (yD B) (λq o=>(Q8 _ o).elim)|aY r NX=>exact SeqAt.RcNeAt.lists_lengths (hs L) (hs X) (rfl)<|yD B);exact NT aI aj.x i Q (k _ rfl)|yp=>obtain⟨f,rfl⟩:=c;obtain⟨m,rfl⟩:=d;exact SeqAt.RcAt.int_int _ f _ m aI aj.x i Q (k _ rfl)|u'=>obtain⟨f,rfl⟩:=c;exact bA d λm E=>(Z E<|SeqAt.RcAt.str_str _ f _ m aI aj.x i Q<|k _ rfl)|fH b=>exact(Kw R 40 c d b<|an [⟨1,.h (.b 0)<|.e 200,.b 1⟩] (.h (.h (.b 0)<|.e 40)<|.e 1) (.b 1) rfl [A.units,cLine] B).DH aI aj.x i Q (k _ rfl)|xe e D=>obtain⟨p,j⟩:=eJ v R d e;obtain⟨NN,w,y⟩:=j.c6;exact Z j.d1 (wpAny_in_of (j6 D c) (by simpa using j.mu) w.mapOf<|W _ _<|tr y)|tE e D=>obtain⟨p,j⟩:=eJ v R d e;obtain⟨NN,w,y⟩:=j.c6;exact Z j.d1 (wpAny_notIn_of (j6 D c) (by simpa using j.mu) w.mapOf<|W _ _ (by refine Z (tr y) ?_;simp))|x4 e S=>refine bA (eJ v R d e) λp j=>(bZ j.c6 λvs n o M=>Z j.d1 ?_);(rcases A' M S with rfl|⟨x,rfl,NP,NQ⟩);cases M;obtain rfl:=P0 S;exact SeqAt.notIn_listAt (λ_=>true) (hs o) (λt C=>(Array.not_mem_empty _ C).elim)<|k _ (by simp);refine bA c λf E=>(Z E<|SeqAt.notIn_listAt (ux x) (hs o) (λt C=>?_)<|k _ (by refine ad NP ?_;simp));exact eU (NQ t<|by simpa using C) λq m NW=>Z NW<|SeqAt.EqAt.int_int q m x f
theorem xT(b:fg e a g n r n)(h:aw m a c)(j:aw m g d)(k:∀l f,r=.c l->Q (.int l f) {s with toks:=s.toks+1}):wpAny (model aI aj.x) A (binaryOp e c d) Q i s/\wpAny (model aI aj.x) A (inplaceOp e c d) Q i s:=by cases b with|rO=>obtain⟨f,rfl⟩:=h;obtain⟨o,rfl⟩:=j;exact⟨AutoIntOps.add_0<|k _ _ rfl,AutoIntOps.iadd_0<|k _ _ rfl⟩|au=>obtain⟨f,rfl⟩:=h;obtain⟨o,rfl⟩:=j;exact⟨AutoIntOps.sub_0<|k _ _ rfl,AutoIntOps.isub_0<|k _ _ rfl⟩
theorem rK(R:aC A c d s.heap)(n:aw c a f)(o:aw c g j)(b:J (fg k a g) h d)(p:bc A l c d s aw h Q):wpAny (model aI aj.x) A (inplaceOp k f j) Q i s:=by
 obtain⟨r,q,b,m⟩:=b;obtain rfl:q=d:=by cases b<;>rfl
 exact(xT b n o λt u e=>p.b0 R m (e▸l7) _).2
theorem GY(y:cy)(R:aC A w B s.heap)(l:aw w a D)(m:aw w g E)(b:J (bW f a g) h B)(o:bc A O w B s aw h Q):wpAny (model aI aj.x) A (binaryOp f D E) Q i s:=by obtain⟨r,NP,b,j⟩:=b;induction b with|c b=>exact(xT b l m λG v e=>o.b0 R j (e▸l7) _).1|@fx _ x t L=>refine bA l λv d=>(Z d<|bA m λM d=>Z d<|AutoIntOps.mod_1 (by simp;exact Qy<|Int.ne_of_lt L) ?_);have e:=Int.fmod_eq_emod_of_nonneg x<|Int.le_of_lt L;exact Z e (o.b0 R j l7 _)|uo=>exact bA l λv d=>(Z d<|bA m λM d=>Z d<|AutoIntOps.pow_4 #[] #[] #[] #[] (by decide+kernel)<|o.b0 R j l7 _)|@pO _ x t q S=>exact bA l λv d=>(Z d<|bA m λM d=>Z d<|SB.add (λNN k=>o.b0 R j ⟨_,rfl⟩ _) (Z QG<|aM (pZ (RC q)<|RC S) #[]:x.cps.size+t.cps.size<=sizeLine))|cj e P T=>refine aZ λNO I=>?_;obtain⟨f,p⟩:=eJ y R l e;obtain⟨X,C⟩:=eJ y R m P;refine bZ p.c6 λvs n q z=>(bZ C.c6 λN W H K=>I<|Z p.d1<|Z C.d1 ?_);refine wpAny_binaryOp_concat ⟨_,q,rfl⟩ (am _ H rfl) noFill_list_add seq_list_add<|call_meets _root_.PySem.F.slot_list_add ⟨_,q,rfl⟩ _root_.PySem.F.entry_list_add (_root_.PySem.F.args_list_add_2 _ _) (AutoSeq1.list___add___list_list_0 f.1 vs.toArray n X.1 N.toArray W<|by exact Z Qe<|Z Qe<|ad z.d6<|ad K.d6<|Z QG<|cv<|RC T)<|b9 q H ?_;exact Z aR.xm (o.bf j<|pI R (z.jI K) s.toks)|yG e=>refine bA m λv d=>(Z d ?_);obtain⟨f,p⟩:=eJ y R l e;refine bZ p.c6 λvs n u z=>(Z p.d1 ?_);refine wpAny_binaryOp_repeat_ref (rfl) ⟨_,u,rfl⟩ (λU=>typeIs_int U 0 _) noFill_list_mul _root_.PySem.F.fills_int_mul _root_.PySem.F.slot_int_rmul repeat_list _root_.PySem.F.slot_int_index.lookup<|call_meets _root_.PySem.F.slot_int_rmul (typeIs_int s 0 _) _root_.PySem.F.entry_int_rmul (_root_.PySem.F.args_int_rmul_2 _ _) (lm_int_rmul_list_any 0 _ f.1 vs.toArray n none ([].toArray))<|iN u rfl ⟨_,u,rfl⟩ (call_meets _root_.PySem.F.slot_list_mul ⟨_,u,rfl⟩ _root_.PySem.F.entry_list_mul (_root_.PySem.F.args_list_mul_2 _ _) (lm_list_mul_any f.1 vs.toArray n none ([].toArray) 0 _ (by simp[Builtin.List.listFitsIndex]) (by simp) (by simp[Builtin.List.listTooLong,sizeLine])) ⟨u,?_⟩);exact Z (listMul_foldl_if ..)<|o.bf j<|by exact pI R .aP s.toks
end
end R
namespace R
open PySem.W PySem.Calls PyProof.Rows Builtin Builtin.ObjectAttr
set_option tactic.hygienic true
section
theorem LO(e:h.In b)(c:InstAt b x o a n)(j:subIn h (.ref a) (.type "object")=some true)(p:R (.ok<|.ret<|.ref a) ⟨b,i,g,l,f⟩):codeAny (model prog w) A (.call (.builtin "getset_descriptor.__get__") ⟨[.builtin "object.__class__",.ref x,.ref a],[]⟩) R ⟨b,i,g,l,f⟩:=by
 have d:=c.type (M:=model prog w);have m:Looks (model prog w) b (isSubtype (.ref a)<|.type<|".".intercalate ("object.__class__".cutAt '.').dropLast) true:=by exact Z PySem.F.owner_object_class<|looks_subIn e j
 have k:=c.at_;refine codeAny_call_builtin PySem.F.slot_gs_get.plain PySem.F.entry_gs_get<|PySem.F.slot_gs_get.check _ _ _ _ _ _ _ _ PySem.F.typeOf_object_class (PySem.F.args_gs_get _ _ _) ?_;repeat (any_goals (first|assumption|with_reducible refine d.at ?_|with_reducible refine m.at ?_|with_reducible refine(looks_subIn e j).at ?_|(with_reducible refine QK k ?_;rw[c.cls])|wp_step))
 refine⟨Code.quiet_builtin _<|by decide+kernel,codeAny_builtin PySem.F.entry_object_class ?_⟩;repeat (any_goals (first|assumption|with_reducible refine d.at ?_|(with_reducible refine QK k ?_;rw[c.cls])|wp_step))
theorem v8(c:h.In b)(d:InstAt b x r a k)(n:findIn h (.ref a) "__getattribute__"=some (some<|.builtin "object.__getattribute__"))(o:findIn h (.ref a) "__getattr__"=some none)(m:findObj h a k "__class__"=some (.bind (.builtin "getset_descriptor.__get__")<|.builtin "object.__class__"))(q:subIn h (.ref a) (.type "object")=some true)(p:Q (some<|.ref a) ⟨b,j,g,l+1,f⟩):wpAny (model prog w) A (getAttr? (.ref x) "__class__") Q i ⟨b,j,g,l,f⟩:=by have e:=d.type (M:=model prog w);delta getAttr? getAttrBy? getAttrBy;refine R_<|wpAny_mkText<|R_<|wpAny_attempt<|Qb<|R_<|e.at<|R_<|(looks_findIn c n).at ((R_<|wpAny_onRaise<|wpAny_runValue<|codeAny_builtin PySem.F.plainObj_entry_getattr_hooked ?_:wpAny _ _ (getAttrEveryday _ _ _) _ _ _));refine R_<|P7<|R_<|e.at<|R_<|(looks_find c d m).at (R_<|(looks_findIn (M:=model prog w) c o).at ((R_<|Qb<|wpAny_call<|LO c d q<|P7 (?_:wpAny _ _ (handedOut<|.ref a) _ _ _):wpAny _ _ (holding [.builtin "object.__class__"] (call (.builtin "getset_descriptor.__get__") [.builtin "object.__class__",.ref x,.ref a])>>=ret) _ _ _)));exact P7<|P7 p
theorem Nz(e:(W.clsIn h c).isSome=true):∃a g b d,h.lookup c=some ⟨a,g,.cls b,d⟩:=by delta W.clsIn at e;revert e;generalize h.lookup c=o;intro e;induction o using Option.casesOn with|none=>exact gz e|some o=>induction o using Obj.casesOn with|mk a g b d=>induction b using Data.casesOn with|cls b=>exact⟨_,_,_,_,rfl⟩|_=>exact gz e
theorem zY(d:h.In b)(e:InstAt b x E a m)(s:(W.clsIn h a).isSome=true)(p:(W.clsIn h c).isSome=true)(q:typeIn h (.ref c)=some (.type "type"))(K:instIn h (.ref c) (.type "type")=some true)(r:subIn h (.ref a) (.ref c)=some false)(y:a≠c)(u:findIn h (.ref a) "__getattribute__"=some (some<|.builtin "object.__getattribute__"))(v:findIn h (.ref a) "__getattr__"=some none)(t:findObj h a m "__class__"=some (.bind (.builtin "getset_descriptor.__get__")<|.builtin "object.__class__"))(D:subIn h (.ref a) (.type "object")=some true)(C:Q (.done<|.ret<|.bool false) ⟨b,k,j,n+1,f⟩):wpAny (model prog w) A (Builtin.«isinstance.nested» ⟨[.ref x,.ref c,.int o H],[]⟩) Q i ⟨b,k,j,n,f⟩:=by
 have l:=e.type (M:=model prog w);refine R_<|l.at<|Z (P4 λF=>y (by cases beq_iff_eq.mp F;rfl)) ?_;have g:Looks (model prog w) b (isSubtype (.ref a)<|.ref c) false:=looks_subIn d r;refine R_<|(looks_typeIn d q).at (Z (P8<|rfl) ?_);k_delta "plainIsInstance";repeat lk
 obtain⟨_,_,_,_,z⟩:=Nz p;skip;refine nd_load (d _ _ z)<|nd_pure<|P7 ?_;skip;refine R_<|(l.andThen g).at ?_;skip;refine R_<|v8 d e u v t D ?_;obtain⟨_,_,_,_,B⟩:=Nz s;skip;refine R_<|R_<|wpAny_loadPart (d _ _ B)<|P7 ?_;skip;exact R_<|wpAny_rule<|g.at<|P7 C
theorem zG(e:h.In b)(c:InstAt b x v a m)(q:(W.clsIn h a).isSome=true)(B:typeOf (.type T)=pure (.type "type"))(p:subIn h (.ref a) (.type T)=some false)(s:findIn h (.ref a) "__getattribute__"=some (some<|.builtin "object.__getattribute__"))(t:findIn h (.ref a) "__getattr__"=some none)(r:findObj h a m "__class__"=some (.bind (.builtin "getset_descriptor.__get__")<|.builtin "object.__class__"))(u:subIn h (.ref a) (.type "object")=some true)(z:Q (.done<|.ret<|.bool false) ⟨b,k,j,n+1,f⟩):wpAny (model prog w) A (Builtin.«isinstance.nested» ⟨[.ref x,.type T,.int o y],[]⟩) Q i ⟨b,k,j,n,f⟩:=by
 have l:=c.type (M:=model prog w);have d:Looks (model prog w) b (isSubtype (.ref a)<|.type T) false:=looks_subIn e p;repeat (any_goals (first|assumption|with_reducible refine l.at ?_|with_reducible refine(l.andThen d).at ?_|with_reducible refine d.at ?_|with_reducible refine v8 e c s t r u ?_|(with_reducible refine QK c.at_ ?_;rw[c.cls])|wp_step))
 obtain⟨_,_,_,_,g⟩:=Nz q;·skip;have g:=e _ _ g;repeat (any_goals (first|assumption|with_reducible refine d.at ?_|with_reducible refine QK g ?_|wp_step))
end
end R
namespace R
open PySem.W PySem.Calls PyProof.Rows
theorem na(b:∀A R s,a A R s->S A R s)(d:Meets c S):Meets c a:=d.of_imp b
theorem wC(b:j3 n=true):n="str"\/n="list"\/n="tuple":=by
 unfold j3 at b;simp only[Bool.or_eq_true,beq_iff_eq] at b;rcases b with(b|b)|b
 exact .inl b;exact .inr<|.inl b;exact .inr<|.inr b
section
theorem nf{Q:Heap->Prop}(k:∀s,P s->h.In s.heap/\(∀M,Looks M s.heap (typeOf v)<|.type T)/\Q s.heap)(e:isNotIn h T a=true)(d:∀{prog:Program} {w:World} {A:Around} {i:Value->Shared->Prop} {b:Option Value->Shared->Prop} {s:Shared},Q s.heap->b (some<|.type T) {s with toks:=s.toks+1}->wpAny (model prog w) A (getAttr? v "__class__") b i s):Answers P v (.ref a) false:=by intro l m prog w A R s c;exact eN (k s c.1) λf g j=>isn_nested f (g _) e j d<|c.2 _
theorem wm{s:Shared}(R:aC A i j s.heap)(a:aw i v h)(b:kh j v k):s.TypeIs h k:=by induction b with|c=>obtain⟨g,rfl⟩:=a;exact typeIs_int s _ g|l=>obtain⟨g,rfl⟩:=a;exact typeIs_str s _ g|s=>cases a;exact rfl|@kB _ o _ e y=>refine cM (R.aU a e) λq p _ r=>(Z p ?_);induction o with|d m=>cases y;exact bZ r λvs n f _=>(am _ f rfl)|A m=>cases y;exact ah r λvs f _=>(am _ f rfl)|_=>cases y
theorem qz{s:Shared}(R:aC A z B s.heap)(g:j3 n=true)(m:aw z v x)(e:kh B v k):Answers (λp=>p.heap=s.heap) x (.type n) (k==n):=by
 have g:=wC g;have j:typeOf (.type n)=pure (.type "type"):=by rcases g with rfl|rfl|rfl<;>kernel_rfl
 have t:∀p:Shared,p.heap=s.heap->p.TypeIs x k:=λp a=>wm (a▸R) m e;by_cases a:k=n;subst a;refine Z (Qz ..) λh i=>na ?_<|Answers.of_true (Tx:=k) j (by rcases g with rfl|rfl|rfl<;>(rw[isSubtype_type];kernel_rfl)) h i;intro A R s a;exact⟨t _ a.1,a.2⟩;refine Z (Qk.2 a) ?_;induction e with|c=>obtain⟨q,rfl⟩:=m;refine λh i=>na ?_<|Answers.of_false_int ?_ j ?_ h i;intro A R s a;exact⟨t _ a.1,a.2⟩;(rcases g with rfl|rfl|rfl<;>decide);(rcases g with rfl|rfl|rfl<;>(rw[isSubtype_type];kernel_rfl))|s=>cases m;exact(by intro h i prog w A R s u;obtain⟨b,F,E,q,f⟩:=s;(rcases g with rfl|rfl|rfl);exact isinstance_nested_false_none (rfl) ∅ (by refine Z (isSubtype_type ..) ?_;kernel_rfl)<|u.2<|q+1;exact isinstance_nested_false_none (rfl) ∅ (by refine Z (isSubtype_type ..) ?_;kernel_rfl)<|u.2<|q+1;exact isinstance_nested_false_none (rfl) ∅ (by refine Z (isSubtype_type ..) ?_;kernel_rfl)<|u.2<|q+1)|l=>obtain⟨q,rfl⟩:=m;refine λh i=>na ?_<|Answers.of_false_str ?_ j ?_ h i;intro A R s a;exact⟨t _ a.1,a.2⟩;(rcases g with rfl|rfl|rfl<;>first|decide|exact(a rfl).elim);(rcases g with rfl|rfl|rfl<;>first|exact(a rfl).elim|(rw[isSubtype_type];kernel_rfl))|@kB _ o _ e y=>refine cM (R.aU m e) λH D _ r=>?_;subst D;induction o with|d C=>cases y;refine λh i=>na ?_<|Answers.of_false_list ?_ j ?_ h i;intro A R s a;exact⟨t _ a.1,a.2⟩;(rcases g with rfl|rfl|rfl<;>first|decide|exact(a rfl).elim);(rcases g with rfl|rfl|rfl<;>first|exact(a rfl).elim|(rw[isSubtype_type];kernel_rfl))|A C=>cases y;refine λh i=>na ?_<|Answers.of_false_tuple ?_ j ?_ h i;intro A R s a;exact⟨t _ a.1,a.2⟩;(rcases g with rfl|rfl|rfl<;>first|decide|exact(a rfl).elim);(rcases g with rfl|rfl|rfl<;>first|exact(a rfl).elim|(rw[isSubtype_type];kernel_rfl))|_=>cases y
theorem o1(d:aw r v f)(m:Answers (λe=>e.heap=s.heap) f j g)(b:∀h,Q (.bool g) {s with toks:=h}):wpAny (model aI aj.x) A (call (.builtin "isinstance") [f,j]) Q i s:=by
 by_cases k:f=.builtin "__main__.__loader__#opaque";subst k;induction v with|a' n=>obtain⟨a,g⟩:=d;cases g;exact absurd a #[]|c p=>obtain⟨h,b⟩:=d;cases b|l p=>obtain⟨h,b⟩:=d;cases b|a a=>obtain⟨t,_,b⟩:=d;cases b|_=>cases d
 exact call_isinstance (S:=λ_ R e=>e.heap=s.heap/\∀q,R (.ok<|.ret<|.bool g) {e with toks:=q}) (λ_ _ _ _ _ o=>isinstance_outer (m _ _ _ _ _ _ _ o) k) ⟨rfl,b⟩
theorem tl{s:Shared}(R:aC A f g s.heap)(l:aw f (.a a) e)(b:g.r a=some (.aD k h)):∃(c:Addr×Addr) (d:List DictEntry) (n:Nat),e=.ref c.1/\InstAt s.heap c.1 (instObj (cb.ay k) c.2) (cb.ay k) (some<|dictOf d n):=by refine aZ λo m=>?_;obtain⟨c,rfl,_,_,d,n,i,j,_⟩:=R.aU l b;exact m ⟨c,d,n,rfl,i,rfl,rfl,j⟩
theorem LK(q:cy)(R:aC A G NS s.heap)(m:aw G v NR)(H:aw G NP NO)(b:ja NS v NP g)(k:∀E,Q (.bool g) {s with toks:=E}):wpAny (model aI aj.x) A (call (.builtin "isinstance") [NR,NO]) Q i s:=by have t:=q.dH.keeps R.bn;induction b with|b7 x e=>cases H;exact o1 m (qz R x m e) k|ay K e=>cases H;exact o1 m (by have t:=q.dH.keeps R.bn;have a:=q.n0 _ K;induction e with|c=>obtain⟨E,rfl⟩:=m;exact nf (Q:=λ_=>True) (λs p=>b9 (p▸t) (λM=>Looks.of_pure rfl) Qd) a.nO.1 int_cls|s=>cases m;exact nf (Q:=λ_=>True) (λs p=>b9 (p▸t) (λM=>Looks.of_pure rfl) Qd) a.nO.2.2.1 none_cls|l=>obtain⟨E,rfl⟩:=m;exact nf (Q:=λ_=>True) (λs p=>b9 (p▸t) (λM=>Looks.of_pure rfl) Qd) a.nO.2.1 str_cls|@kB _ o _ e y=>refine cM (R.aU m e) λO Ob _ r=>(Z Ob ?_);induction o with|d N'=>exact bZ r λvs n z _=>(nf (Q:=λb=>∃o,b.get? O.1=some o/\o.cls=.type "list") (λs p=>b9 (p▸t) (λM=>(Looks.ld<|p▸z).andThen .now) ⟨_,p▸z,rfl⟩) a.nO.2.2.2.1 list_cls)|A N'=>obtain⟨vs,z,_⟩:=r;exact nf (Q:=λb=>∃o,b.get? O.1=some o/\o.cls=.type "tuple") (λs p=>b9 (p▸t) (λM=>(Looks.ld<|p▸z).andThen .now) ⟨_,p▸z,rfl⟩) a.nO.2.2.2.2 tuple_cls|_=>cases y) k|@xq _ D n _ x e cE=>cases H;have x:=wC x;have a:=q.n0 D cE;have J:=m;obtain⟨O,NW,L,rfl,P⟩:=tl R m e;refine o1 J (λNU N prog w A R C h=>?_) k;obtain⟨N5,NX,NT,E,f⟩:=C;obtain⟨F,h⟩:=h;skip;subst F;refine zG t P a.nQ (by rcases x with rfl|rfl|rfl<;>kernel_rfl) ?_ a.aq a.jN (findObj_data a.nQ a.ay a.r a.xh) a.cQ<|h _;(rcases x with rfl|rfl|rfl);exact a.gM.1;exact a.gM.2.1;exact a.gM.2.2|@aD _ D T _ K e cE=>cases H;have a:=q.n0 T K;have u:=q.n0 D cE;have J:=m;obtain⟨O,NW,L,rfl,P⟩:=tl R m e;refine o1 J (λNU N prog w A R C h=>?_) k;obtain⟨N5,NX,NT,E,f⟩:=C;obtain⟨F,h⟩:=h;skip;subst F;(cases W:ba.au D T with|true=>replace h:=W▸h;exact isi_nested t P.type (q.tW D T cE K W) (h E)|false=>replace h:=W▸h;exact bs (q.uy D T cE K W) λN8 N9=>zY t P u.nQ a.nQ a.b7 a.Ll N8 N9 u.aq u.jN (findObj_data u.nQ u.ay u.r u.xh) u.cQ<|h _)|@nq _ _ L n X N7 N6 x e=>refine aZ λOe Oa=>?_;obtain⟨O,NN⟩:=eJ q R H N7;refine ah NN.c6 λvs z NZ=>(c5 NZ.fV λB Oc I F N3=>?_);subst I;refine c5 N3.fV λj Od I NV N4=>?_;subst I;subst F;subst NV;cases N4.hX;refine Oa<|Z NN.d1<|call_isinstance (S:=λ_ R C=>C.heap=s.heap/\∀N,R (.ok<|.ret<|.bool<|X==L||X==n) {C with toks:=N}) (λ_ _ _ _ C h=>bs h λU NY=>?_) ⟨rfl,k⟩;have NQ:=wm (U▸R) m e;refine isinstance_outer (isinstance_nested_tuple (cs:=[.type L,.type n]) (vs:=[X==L,X==n]) (λ_ _ b=>b) NQ (Z U z) (b9 (qz R N6 m e) (qz R x m e) Qd) U λN_=>?_)<|Shared.TypeIs.not_mainsLoader NQ;simpa using NY N_
end
section
theorem DS(x:A.handled=none)(b:∀h r,(∀c o,s.heap.get? c=some o->h.get? c=some o)->s.heap.objs.size<=h.objs.size->Q (if g>a then .int g f else .int a d) {s with heap:=h,toks:=r}):wpAny (model prog w) A (call (.builtin "max") [.int a d,.int g f]) Q i s:=by
 have t:(s.heap.push {cls:=.type "tuple",data:=.seq #[.int a d,.int g f]}).IsTuple s.heap.objs.size (intItems #[(a,d),(g,f)]):=⟨_,Q' _ rfl,rfl,0,by simp[intItems]⟩;refine call_max_two<|wpAny_pyIter_tuple t ?_;have hsz:(s.heap.push {cls:=.type "tuple",data:=.seq #[.int a d,.int g f]}).objs.size=s.heap.objs.size+1:=Q2 ..;refine⟨_,[_,s.heap.objs.size],[_],_,_,_,_,rfl,Walks.tuple (A:=A.in1) x _ s.heap.objs.size (by exact Z hsz<|Q6<|P' _)<|intItems #[(a,d),(g,f)],⟨cp _ (Q' _ rfl) rfl rfl,t.push _⟩,λc k=>?_,by simp[intItems],CmpOf.ints_gt (numAt #[(a,d),(g,f)]) λ_ _=>intItems_at,λv h r u y=>?_⟩;refine(Z (Q2 ..)<|Z (hsz ..) ?_:c<((s.heap.push _).push _).objs.size);rcases RD.1 k with rfl|k
 exact Z hsz<|P' _;rcases RD.1 k with rfl|k
 exact Rb<|P' _;cases k;have bw:∀c o,s.heap.get? c=some o->h.get? c=some o:=λc o e=>by refine y c o (λj=>?_)<|P_ _<|P_ _ e;(rcases RD.1 j with m|j);have:=Q5 e;rw[m,hsz] at this;exact Qn _<|Nat.lt_of_succ_lt this;cases j
 have B:h.get? s.heap.objs.size=some {cls:=.type "tuple",data:=.seq #[.int a d,.int g f]}:=by refine y _ _ (λj=>?_)<|P_ _<|Q' _ rfl;(rcases RD.1 j with m|j);rw[hsz] at m;exact Q6 (P' _) m;cases j
 have:=b h r bw<|Nat.le_of_lt<|Q5 B;have C:v=if g>a then Value.int g f else Value.int a d:=by(have n:(intItems #[(a,d),(g,f)])[argBest (λl q=>decide (numAt #[(a,d),(g,f)] l>numAt #[(a,d),(g,f)] q)) 1]?=some v:=by(have z:(intItems #[(a,d),(g,f)]).size - 1=1:=by simp[intItems]);exact ad z u);by_cases p:g>a;(have e:argBest (λl q=>decide (numAt #[(a,d),(g,f)] l>numAt #[(a,d),(g,f)] q)) 1=1:=by simp[argBest,numAt,p]);rw[e] at n;simpa [intItems,p] using n.symm;(have e:argBest (λl q=>decide (numAt #[(a,d),(g,f)] l>numAt #[(a,d),(g,f)] q)) 1=0:=by simp[argBest,numAt,p]);rw[e] at n;simpa [intItems,p] using n.symm
 exact Z C this
end
section
theorem Kt(q:cy)(R:aC A m p s.heap){n:Nat}(w:aw m v l)(e:d5 p v=some o)(c:qk o=some n)(b:Nat.ble n bl=true)(k:∀j x y,j=(n:Int)->Q (.int j x) {s with toks:=y}):wpAny (model aI aj.x) A (call (.builtin "len") [l]) Q i s:=by have b:=RC b;obtain⟨D,f⟩:=eJ q R w e;refine Z f.d1 ?_;have r:=f.c6;induction o with|d z=>cases c;refine bZ r λvs n g h=>?_;have a:=h.d6;exact call_len_list (hs g) (by rw[Qe,<-a];exact qi b) (k _ _ _<|by rw[Qe,<-a])|A z=>cases c;obtain⟨vs,g,h⟩:=r;have a:=h.d6;exact len_tuple (rf g) (by rw[Qe,<-a];exact qi b) (k _ _ _<|by rw[Qe,<-a])|K B=>obtain rfl:=P0 c;refine ah r λC t u=>?_;have a:=u.d6;exact call_len_dict (by simpa using f.mu) t (by exact ad a<|qi b) (k _ _ _ (by refine ad a ?_;rfl))|_=>cases c
theorem DP(R:aC A b e s.heap)(o:A.handled=none)(m:aw b (.c a) f)(n:aw b (.c g) j)(p:bc A k b e s aw h Q)(l:h (.c<|if a<g then g else a) e):wpAny (model aI aj.x) A (call (.builtin "max") [f,j]) Q i s:=by refine bA m λr d=>(Z d<|bA n λu d=>Z d<|DS o λq t y hsz=>p _ _ b _ _ (ao.h4 R y hsz) ?_ l);by_cases c:a<g;exact Z (P8 c)<|Z (P8 c) l7;exact Z (P4 c)<|Z (P4 c) l7
end
end R
namespace R
open PySem.W PySem.Calls PyProof.Rows
set_option tactic.hygienic true
theorem u4(x:Int):∀f:List Int,(jp x f).Perm<|x::f:=by intro b;induction b with|nil=>exact .refl _|cons t r a=>unfold jp;split;exact .refl _;·exact((a).cons t).trans<|.swap x t r
theorem Mk:∀f:List Int,(lF f).Perm f:=by intro b;induction b with|nil=>exact .refl _|cons x f a=>exact(u4 x _).trans<|(a).cons x
theorem s9(x:Int)(b:f.Pairwise (·<=·)):(jp x f).Pairwise (·<=·):=by induction f with|nil=>simp[jp]|cons t r h=>refine bs (QH.1 b) λe g=>?_;unfold jp;split;rename_i c;exact QH.2 ⟨λd a=>by rcases RD.1 a with rfl|a;exact c;exact Int.le_trans c<|e d a,b⟩;rename_i c;refine QH.2 ⟨λd a=>?_,h g⟩;(rcases RD.1 ((u4 x r).mem_iff.1 a) with rfl|a);exact Int.le_of_lt<|Int.not_le.1 c;exact e d a
theorem LV:∀f:List Int,(lF f).Pairwise (·<=·):=by intro b;induction b with|nil=>exact .nil|cons x f a=>exact s9 x a
theorem Hl(d:IntsAre vs a):aR (aw e) (a.map Y.c) vs:=by induction d with|nil=>exact .aP|cons n c _ b=>exact .aY ⟨c,rfl⟩ b
theorem F5:∀{a:List Y} {f:List Int},mV a=some f->a=f.map Y.c:=by intro g;induction g with|nil=>intro f b;obtain rfl:=P0 b;rfl|cons k a e=>intro f b;induction k with|c i=>refine ah (QV.1 b) λp d h=>(ad h<|Z (e d) ?_);rfl|_=>cases b
section
theorem Dl(b:aR (gv e) a c):a.map (·.1)=c.map (·.1):=by induction b with|aP=>rfl|aY r _ d=>simp only[List.map_cons,d,r.1]
theorem Mo(h:KdlSrc aI w T r v n P m)(z:i.handled=none)(cE:m s.heap)(A:n<=sizeLine)(bf:∀(a:Heap) (b:Nat) (d:Array Value),(∀g o,s.heap.get? g=some o->a.get? g=some o)->s.heap.objs.size<=a.objs.size->ItemsOf P d n->p d.toList {s with heap:=a,toks:=b}):wpAny (model aI w) i (collect<|.ref r) p u s:=by
 refine bs (h.there _ cE) λB C=>(R_<|wpAny_runValue<|codeAny_builtin entry_proto_collect'<|Z (Around.under_plainId PySem.F.plain_proto_collect _)<|R_<|wpAny_newObj_type<|P7 ⟨plainId_quiet PySem.F.plain_list_iadd _,codeAny_builtin entry_list_iadd'<|Z (Around.under_plainId PySem.F.plain_list_iadd _) ?_⟩);have y:(s.heap.push {cls:=.type "list",data:=.seq ([]:List Value).toArray}).get? s.heap.objs.size=some {cls:=.type "list",data:=.seq ([].toArray)}:=Q' _ rfl;have main:=kdl_extend (s:={s with heap:=s.heap.push {cls:=.type "list",data:=.seq ([]:List Value).toArray}}) (R:=λq j=>q=.ok (.ret<|.ref s.heap.objs.size)/\∃a b d k,j={s with heap:=a,toks:=b}/\(∀g o,s.heap.get? g=some o->a.get? g=some o)/\a.get? s.heap.objs.size=some {cls:=.type "list",data:=.seq d k}/\ItemsOf P d n) h z (h.keep _ _ cE λg _ o e=>P_ _ e) s.heap.objs.size (QN B) (QN C) (.ref s.heap.objs.size) 0 y (λa b d k bE c f=>⟨rfl,a,b,d,k,rfl,λg o e=>bE g o (Q6<|Q5 e)<|P_ _ e,c,f⟩) A;refine QC main (λo j x=>?_) λe j x=>?_;induction o with|done l=>refine aZ λH D=>?_;obtain⟨e,a,b,d,k,rfl,bE,c,f⟩:=x;refine D ?_;cases e;refine(?_:wpAny _ i (load s.heap.objs.size>>=_) _ _ _);exact R_ (wpAny_load c<|P7<|bf a b d bE (Nat.le_of_lt<|Q5 c) f)|again k=>refine⟨x.1,codeAny_mono x.2 λq E t=>?_⟩;obtain⟨rfl,a,b,d,k,rfl,bE,c,f⟩:=t;refine(?_:wpAny _ i (load s.heap.objs.size>>=_) _ _ _);exact R_<|wpAny_load c<|P7<|bf a b d bE (Nat.le_of_lt<|Q5 c) f
 cases x.1
theorem KU(N:cy)(R:aC A p j s.heap)(NT:A.handled=none){J:Value}(NY:aw p v J)(e:d5 j v=some (.K W))(NW:mV (W.map (·.1))=some f)(t:Nat.blt f.length 64=true)(N6:bc A F p j s aw h Q)(NP:h (.a j.f) (j.z<|.d<|(lF f).map .c)):wpAny (model aI aj.x) A (PySem.call (.builtin "sorted") [J]) Q i s:=by
 refine aZ λN8 T=>?_;have t:=Nat.blt_eq.mp t;obtain⟨Ob,E⟩:=eJ N R NY e;refine ah E.c6 λU NR NS=>(T<|Z E.d1<|bA NR.dictAt λN' NQ=>?_);have B:=F5 NW;replace B:=(Dl NS)▸B;have O:U.length=f.length:=by have:=Q3 List.length B;simpa using this
 refine call_function_entry kind_sorted plain_sorted entry_sorted (args_sorted1 _)<|R_<|P7<|R_<|Mo (kdl_dict<|Qk.2 E.mu) NT NQ (Z O<|Z QG<|aM (gw t) #[]) λc D d y hsz K=>?_;have NZ:IntsAre d.toList f:=by(have gen:∀(n:Nat) (vs:List Value) (l:List Int),vs.length=l.length->(∀(q:Nat) w,vs[q]?=some w->∃m z,l[q]?=some m/\w=Value.int m z)->IntsAre vs l:=by intro n vs;induction vs with|nil=>(intro l C _;induction l with|nil=>exact .nil|cons _ _=>cases C)|cons x vs N4=>intro l C b;induction l using List.casesOn with|nil=>cases C|cons m l=>refine bZ (b 0 x rfl) λN3 z H N_=>(Z N_ ?_);obtain rfl:=P0 H;exact .cons m z<|N4 l (by simpa using C) λq w M=>b (q+1) w<|by simpa using M);refine gen 0 _ _ (by rw[Array.length_toList,K.1,O]) λq w M=>(bZ (K.2 q w<|ad Array.getElem?_toList M) λk x NV NU=>?_);(have r:(U.map (·.1))[q]?=some k:=by refine Z Q7 ?_;exact Z NV rfl);replace r:=Q7▸B▸r;refine ah (QV.1 r) λm NO N9=>?_;subst N9;(rcases jQ (k:=.c m) NU with⟨_,_,u,_⟩|⟨N3,z,u,rfl⟩);cases u;cases u;exact bq m z NO rfl
 have X:d.toList.length=f.length:=by rw[Array.length_toList,K.1,O]
 have S:ao A F p j s p j {s with heap:=c,toks:=D}:=ao.h4 R y hsz;refine R_<|wpAny_newList ?_<|Z X<|Z QG<|aM (gw t) #[];have P:(c.push<|seqObj "list" d.toList.toArray 0).get? c.objs.size=some (seqObj "list" d.toList.toArray 0):=Q' _ rfl;refine(?_:wpAny _ _ _ _ _ {s with heap:=c.push<|seqObj "list" d.toList.toArray 0,toks:=D});refine R_<|Qb<|wpAny_call_entry slot_list_sort (am _ P rfl) entry_list_sort (list_sort_tree P NZ (Z X t) λout Oa I G NN=>am _ rfl (P7<|am _ rfl (aZ λN8 T=>?_)))<|args_list_sort _;have NX:=List.Perm.eq_of_pairwise (λa g _ _ H r=>Int.le_antisymm H r) NN (LV f)<|G.trans (Mk f).symm;subst NX;refine bA (sortedHeap_at (out:=out) P) λN7 L=>(T ?_);have N5:∀g o,c.get? g=some o->(sortedHeap (c.push<|seqObj "list" d.toList.toArray 0) c.objs.size d.toList out).get? g=some o:=λg o e=>by exact Z (sortedHeap_old (Q6<|Q5 e)<|Nat.lt_trans (Q5 e)<|Z (Q2 ..)<|P' _)<|P_ _ e
 have u:ao A F p j {s with heap:=c,toks:=D} (p++[(c.objs.size,c.objs.size)]) (j.z<|.d<|(lF f).map Y.c) {s with heap:=sortedHeap (c.push<|seqObj "list" d.toList.toArray 0) c.objs.size d.toList out,toks:=D}:=ao.o7 S.aH N5 (P5 _) (P5 _) (Q5 L) (Q5 L)<|bq out.toList N7 (by exact L)<|(Hl I).bD λ_ _=>.cj _;exact N6 (.a j.f) _ _ _ _ (S.q u) (am (c.objs.size,c.objs.size) (by refine ad S.aH.cq ?_;simp) rfl) NP
end
theorem x0:∀{f:List (Str×Y)},(cN x v f).lookup t=if t=x then some v else f.lookup t:=by intro e;induction e with|nil=>delta cN;refine Z Qg ?_;by_cases b:t=x;subst b;simp;simp[b,show(t==x)=false by simpa using b]|cons g r d=>obtain⟨a,w⟩:=g;unfold cN;by_cases c:a=x;refine ad c<|Z (P8 rfl)<|Z Qg<|Z Qg ?_;by_cases b:t=a;subst b;simp;refine Z (P4 b)<|Z (show(t==a)=false by simpa using b) ?_;rfl;refine Z (P4 c)<|Z Qg<|Z Qg<|Z d ?_;by_cases b:t=a;subst b;simp[c];refine Z (show(t==a)=false by simpa using b) ?_;rfl
section
theorem jZ.mL(x:b.Ns a g):¬g3 b a:=by refine rt x λo i h e f _=>?_;rintro ⟨j,k,d,_,c,_⟩;rw[e] at d;obtain rfl:=P0 d;replace c:=f▸c;cases c
theorem kq(R:aC A c f s.heap)(a:bB c p o j s.heap)(O:aw c v q)(b:f4 p o x v h f)(k:∀F E D,ao A (·=j.locals) c f s c E D->bB c p F j D.heap->h F E->Q () D):wpAny (model aI aj.x) A (storeName j x q) Q i s:=by delta f4 at b;cases y:p.names.lookup x with|none=>rw[y] at b;exact b.elim|some C=>rw[y] at b;have K:C≠.free->j.kindOf x=some C:=λd=>(a.i' x _ y).resolve_right λNN=>d NN.1;induction C with|«local»=>refine ah a.ct λNP L B=>(wpAny_storeName_local (K #[]) L (λr M l=>?_)<|Z a.gq rfl);have n:ao A (·=j.locals) c f s c f {s with heap:=r,toks:=s.toks+1}:=ao.kE R a.bX a.d0 (jZ.mL L) (λg z W P=>(l.2 g W).trans P) (P2 l.1.symm) λ_ _ _=>⟨_,M⟩;refine k {o with ct:=cN x v o.ct} _ _ n {a with ct:=am _ M λt w m=>?_,bX:=n.bX a.bX} b;simp only[x0] at m;by_cases d:t=x;subst d;rw[P8 rfl] at m;obtain rfl:=P0 m;exact am q (P8 rfl) O;rw[P4 d] at m;exact ah (B t w m) λG u S=>(am G ((P4 d)▸u) S)|cell=>refine aZ λNS NO=>?_;obtain⟨I,J,_,E,⟨rfl,w,H⟩,T⟩:=iY b;refine hU (uB R a J H) λNQ NR N B X _=>(NO<|wpAny_storeName_cell a.gq (K #[]) B X λr U l=>?_);have n:ao A a8 c f s c (f.Q I<|.h1<|some v) {s with heap:=r}:=ao.ls R N H (λg z u _ e=>(l.2 g u).trans e) (P2 l.1.symm) (am (some q) U O) λ_ _=>kp rfl;exact k _ _ _ (n.b4 λ_ d=>d.elim) (a.a7 n) T|_=>exact b.elim
theorem Fa(R:aC A j f s.heap)(NT:ba.i4 k=true/\ba.dV k=true)(i:j[p]?=some c)(O:f.r p=some (.bd k none))(NV:aw j w S)(NU:P=PyData.keyHash aj.x.params x)(N_:s.heap.get? c.1=some z)(X:z.cls=.ref (cb.ay k))(U:z.data=.fields vs)(J:vs.size=6)(N:vs[2]?=some .none)(C:tG j s.heap vs[1]?)(NQ:h.get? c.1=some {z with dict:=some s.heap.objs.size})(NR:h.get? s.heap.objs.size=some (dictOf [⟨P,.str x N7,S⟩] 1))(m:∀g o,g≠c.1->s.heap.get? g=some o->h.get? g=some o)(F:h.objs.size=s.heap.objs.size+1):ao A W j f s (j++[(s.heap.objs.size,s.heap.objs.size)]) ((f.z<|.hv [(x,w)]).Q p<|.bd k<|some f.f) {s with heap:=h,toks:=N4}:=by
 subst NU;have Q:∀T,g3 s.heap T->ec j T->g3 h T:=λT y t=>by exact bZ y λNX N8 N5 N6=>bq NX N8 (m T _ (t c<|eB i).1 N5) N6
 have N3:aC A (j++[(s.heap.objs.size,s.heap.objs.size)]) ((f.z<|.hv [(x,w)]).Q p<|.bd k<|some f.f) h:=by refine R.m' (λg=>g=c.1) [(s.heap.objs.size,s.heap.objs.size)] (by simp) (by simp[F]) (λg o L e=>m g o L e) (λg L=>Z L<|(R.al c<|eB i).1) (Z F<|Q4 _) (by simp[V.z,V.Q]) (λq N' n=>?_) (λI NS NY y H K=>cp NY (m _ _ (kO (R.al c<|eB i).1 (R.hk I NS).1) K) y H) (λN9 NW _ y H K=>jT K λo NN G e r=>Cu NW o NN G (m _ _ (H c<|eB i).1 e) r) Q λa B l b=>?_;simp only[V.z,V.Q] at n;split at n;rename_i d;refine Z d ?_;obtain rfl:=P0 n;refine .inr ⟨c,jF i,NT,_,vs,NQ,X,U,J,N,?_,?_⟩;(rcases C with C|⟨T,D,E,v,M⟩);exact .inl C;exact .inr<|kc T D (Q T E v) (v.cj (by simp)<|bZ E λ_ _ d _=>Q5 d) M;exact am (s.heap.objs.size,s.heap.objs.size) (by refine ad R.cq ?_;simp) rfl;rename_i d;split at n;rename_i NZ;refine Z NZ ?_;obtain rfl:=P0 n;exact .inr ⟨_,by refine ad R.cq ?_;simp;rfl,_,_,NR,.aY (bq _ _ rfl (NV.cj _)) .aP⟩;exact .inl ⟨n,λr u=>lC (R.gs q p r c u i d) λD E v M=>⟨D,v⟩⟩;simp only[V.z,V.Q];split;rename_i d;subst d;replace b:=O▸b;cases b;exact⟨_,rfl⟩;split;rename_i d;subst d;refine ah (R.cQ _ _ b) λr u _=>?_;exact(ff (P1.1 u).1 R.cq.symm).elim;exact⟨l,b⟩
 have NO:∀a B l,f.r a=some (.bd B l)->∃NP,((f.z<|.hv [(x,w)]).Q p<|.bd k<|some f.f).r a=some (.bd B NP):=λa B l b=>by simp only[V.z,V.Q];split;rename_i d;subst d;replace b:=O▸b;cases b;exact⟨_,rfl⟩;split;rename_i d;subst d;refine ah (R.cQ _ _ b) λr u _=>?_;exact(ff (P1.1 u).1 R.cq.symm).elim;exact⟨l,b⟩
 exact ao.mk N3 (am _ rfl (by simp)) (λg o t _ _ _ e=>⟨o.slots,m g o (t c<|eB i).1 e⟩) (λg o _ t _ _ _ e=>m g o (t c<|eB i).1 e) (Z F<|Q4 _:s.heap.objs.size<=h.objs.size) rfl rfl NO
theorem sX(k:cy)(R:aC A p M s.heap)(H:ba.fC x=true)(B:aw p a O)(F:aw p w G)(b:J (fN a x w) h M)(K:bc A NN p M s wj h Q):wpAny (model aI aj.x) A (setAttr O x G) Q i s:=by refine bZ b λ_ NW b y=>?_;cases b with|aD j D=>obtain⟨L,rfl,u,⟨d,f⟩,NO,n,l,m,c⟩:=R.aU B j;refine MC (k.dH.keeps R.bn) (k.fC _ x d H f) l m (ye c) (ad c.d6<|aM (gw<|Nat.blt_eq.mp D) #[]) λW C o=>(K () _ p _ () ?_ Qd y);exact ao.ls R u j (λg z _ m e=>(o.2 g m).trans e) (P2 o.1.symm) ⟨⟨d,f⟩,_,_,Z (o.2 L.1 (λI=>by rw[I,m] at l;exact absurd l nofun)) l,C,uQ F c⟩ (λ_ _=>kp rfl)|bd E j X D=>refine aZ λNV NT=>?_;obtain⟨L,rfl,u,⟨d,f⟩,z,vs,q,r,t,P,S,T,I,U,v⟩:=R.aU B j;obtain⟨NU,N,NO,n,m,c⟩:=R.cQ _ _ X;refine NT ?_;rw[U] at N;obtain rfl:=P0 N;refine FX (k.dH.keeps R.bn) (k.oY _ x d H f E) q r t v m (ye c) (ad c.d6<|aM (gw<|Nat.blt_eq.mp D) #[]) λW C o=>(K () _ p _ () ?_ Qd y);exact ao.ls R U X (λg z l _ e=>(o.2 g l).trans e) (P2 o.1.symm) ⟨_,_,C,uQ F c⟩ (λ_ _=>kp rfl)|wz E j=>obtain⟨L,rfl,u,⟨d,f⟩,z,vs,q,r,t,P,S,T,v⟩:=R.aU B j;exact KP (k.dH.keeps R.bn) (k.oY _ x d H f E) q r t v λW NP NQ NR NS=>K () _ _ _ () (Fa R ⟨d,f⟩ u j F rfl q r t P S T NP NQ NR NS) Qd y
end
end R
namespace R
open PySem.W PySem.Calls PyProof.Rows
section
noncomputable def vD(name:Str):String:=if name=("append":Str) then"list.append" else if name=("pop":Str) then"list.pop" else"list.extend"
noncomputable def vC(name:Str):String:=if name=("get":Str) then"dict.get" else"dict.pop"
theorem aR.I1:∀{f:List h} {p:List i},aR R (f++[a]) p->∃d g,p=d++[g]/\aR R f d/\R a g:=by intro f;induction f with|nil=>intro p b;exact c5 b.fV λg d c r e=>(Z c<|Z e.hX<|eb [] g rfl .aP r)|cons x f m=>intro p b;exact c5 (aR.fV b) λg d c r e=>Z c<|c5 (m e) λn j c k l=>Z c<|eb (g::n) j rfl (.aY r k) l
theorem FI{K:V}(R:aC A k K s.heap)(D:aw k v S)(B:aR (aw k) L M)(b:J (h5 v name L) h K)(E:bc A X k K s aw h Q):wpAny (model aI aj.x) A (call (.builtin<|vD name)<|S::M) Q i s:=by refine bZ b λr NV b z=>?_;induction b with|@jI _ a l x j c=>refine c5 B.fV λNR f u m y=>(Z u<|Z y.hX<|aZ λW q=>?_);obtain⟨w,rfl,o,vs,n,d,e⟩:=R.aU D j;exact q (append_at d (λNS NN G=>E .s _ k _ _ (ao.d R o j (λ_ _=>kp rfl) NN (by simpa using G)<|e.jI<|.aY m .aP) rfl z) (by exact Z Qe<|ad e.d6<|Z QG<|m8<|RC c):wpAny _ _ (call (.builtin "list.append") _) _ _ _)|@lv _ a l x j c=>refine Z B.hX<|aZ λW q=>?_;obtain⟨w,rfl,o,vs,n,d,e⟩:=R.aU D j;refine c5 e.I1 λvs t u N NO=>?_;subst u;refine q ?_;(have hsz:(vs++[t]).toArray.size=vs.length+1:=by simp);refine(?_:wpAny _ _ (call (.builtin "list.pop") _) _ _ _);refine call_meets PySem.F.slot_list_pop (am _ d rfl) PySem.F.entry_list_pop (PySem.F.args_list_pop_1 _) (PySem.MeetsSeq.list_pop_last w.1 (vs++[t]).toArray n t (by refine Z hsz ?_;simp)<|by exact Z Qe<|ad e.d6<|Z QG<|m8<|RC c) ⟨d,?_⟩;have p:=PySem.IsL.update d λl=>l.eraseIdxIfInBounds<|(vs++[t]).toArray.size - 1;(have m:(vs++[t]).toArray.eraseIdxIfInBounds ((vs++[t]).toArray.size - 1)=vs.toArray:=by have:(vs++[t]).toArray.size - 1<(vs++[t]).toArray.size:=Z hsz<|og _;unfold Array.eraseIdxIfInBounds;refine Z (dif_pos this) ?_;apply Array.toList_inj.1;refine Z Array.toList_eraseIdx ?_;simp[List.eraseIdx_append_of_length_le]);rw[m] at p;exact E _ _ k _ _ (ao.d R o j (λ_ _=>kp rfl) (Qv ..) p N) NO z|@xg _ a g l T j I NT c=>refine c5 B.fV λNR f u m y=>(Z u<|Z y.hX<|aZ λW q=>?_);have c:=RC c;obtain⟨w,rfl,o,vs,n,d,e⟩:=R.aU D j;obtain⟨NQ,rfl,NU,H,NP,U,O⟩:=R.aU m I;refine q ?_;have C:=e.d6;have P:=O.d6;refine(?_:wpAny _ _ (call (.builtin "list.extend") _) _ _ _);refine call_meets PySem.F.slot_list_extend (am _ d rfl) PySem.F.entry_list_extend (PySem.F.args_list_extend_2 _ _) (PySem.AutoSeq1.list_extend_list_list_0 w.1 vs.toArray n NQ.1 H.toArray NP (by simp[Builtin.List.listTooLong,sizeLine];intro _;exact an [⟨1,.h (.b 0)<|.b 1,.e 1000000⟩,⟨1,.b 2,.b 0⟩,⟨1,.b 3,.b 1⟩] (.h (.b 2)<|.b 3) (.e 16777216) rfl [l.length,T.length,vs.length,H.length] c (P2 C.symm) (P2 P.symm)) (by refine Z Qe<|ad C<|Z QG ?_;unfold bl at c;exact an [⟨1,.h (.b 0)<|.b 1,.e 1000000⟩] (.b 0) (.e 16777216) rfl [l.length,T.length] c) (by refine Z Qe<|Z Qe<|ad C<|ad P<|Z QG ?_;unfold bl at c;exact aM c #[]))<|b9 d U ?_;have p:=PySem.IsL.update d λx=>x++H.toArray;rw[aR.xm] at p;exact E .s _ k _ _ (ao.d R o j (λ_ _=>kp rfl) (Qv ..) p<|e.jI O) rfl z
theorem HM(w:cy)(R:aC A l u s.heap)(E:aw l v q)(D:aR (aw l) z B)(b:J (jO v name z) h u)(H:bc A M l u s aw h Q):wpAny (model aI aj.x) A (call (.builtin<|vC name)<|q::B) Q i s:=by refine bZ b λr U b C=>?_;induction b with|r e y=>refine c5 D.fV λL f c g m=>(Z c<|c5 m.fV λt f c n o=>Z c<|Z o.hX<|aZ λX W=>bA (eJ w R E e) λp a=>ah a.c6 λK d j=>W<|Z a.d1 (call_meetsIn PySem.F.slot_dict_get d.typeIs PySem.F.entry_dict_get (PySem.F.args_dict_get_3 _ _ _) (meets_dict_get_default (kx aI aj.x) p.1 (j6 y g) (by simpa using a.mu) t)<|am _ d.mapOf<|H.b0 R C ?_ _:wpAny _ _ (call (.builtin "dict.get") _) _ _ _));(cases k:dn _ _ with|none=>rw[rS j k];exact n|some v=>obtain⟨q,O,P⟩:=oI j k;exact Z O P)|lv e y k=>refine c5 D.fV λL f c g m=>(Z c<|c5 m.fV λt f c n o=>Z c<|Z o.hX ?_);obtain⟨p,a⟩:=eJ w R E e;refine ah a.c6 λK d j=>(Z a.d1 ?_);(have S:(keyPart L).isSome=true:=by rcases jQ (j6 y g) with⟨x,T,_,rfl⟩|⟨x,T,_,rfl⟩<;>rfl);exact(call_meetsIn PySem.F.slot_dict_pop d.typeIs PySem.F.entry_dict_pop (PySem.F.args_dict_pop_3 _ _ _) (meets_dict_pop_default (kx aI aj.x) p.1 (j6 y g) (by simpa using a.mu) S t)<|cp K d (rS j k)<|H.b0 R C n _:wpAny _ _ (call (.builtin "dict.pop") _) _ _ _)
end
def qr(b:Heap)(l:Value):Prop:=∃k,(k=Keeper.frame\/k=Keeper.machine\/k=Keeper.boundFrame)/\∀M,Looks M b (keeperOf l) k
structure g5(A:Around)(m:I):Prop where
 bn:∀{l:Y} {args:List Y} {a:ak} {b:V} {s:Shared} {d:Value} {h i:Y->aa},aC A a b s.heap->aw a l d->m l args h i b->qr s.heap d
 dT:∀{l:Y} {args:List Y} {a:ak} {b:V} {s:Shared} {d:Value} {c:List Value} {Q:Value->Shared->Prop} {E':Value->Shared->Prop} {h i:Y->aa},aC A a b s.heap->aw a l d->aR (aw a) args c->
  m l args h i b->bc A a8 a b s aw h Q->bc A a8 a b s aw i E'->wpAny (model aI aj.x) A (PySem.call d c) Q E' s
 f1:∀{f q:Nat} {args:List Y} {a:ak} {b:V} {s:Shared} {c:List Value} {Q:Value->Shared->Prop} {E':Value->Shared->Prop} {h i:Y->aa},aC A a b s.heap->aR (aw a) args c->
  m (.B f q) args h i b->bc A a8 a b s aw h Q->bc A a8 a b s aw i E'->codeAny (model aI aj.x) A (.call (.ref<|cb.cl f q) ⟨c,[]⟩) (λr g=>match r with|.ok (.ret v)=>Q v g|.ok _=>False|.error e=>E' e g) s
abbrev ws:ak->Option Int->Value->Prop:=λ_ o v=>IsPart v o
abbrev lc:ak->Bool->Bool->Prop:=λ_ a g=>a=g
abbrev yk:ak->List Y->List Value->Prop:=λa=>aR<|aw a
def EX:ak->List (Y×Y)->List (Value×Value)->Prop:=λb f p=>aR (λa g=>aw b a.1 g.1/\aw b a.2 g.2) f p
structure d'(A:Around)(m:I)(g:Nat):Prop where
 dl:∀{d c e j a b s Q E'} {h i:Y->aa},aC A a b s.heap->bB a d c j s.heap->cw m g d c e h i b->bc A a8 a b s aw h Q->bc A a8 a b s aw i E'->wpAny (model aI aj.x) A (PySem.eval e j) Q E' s
 mJ:∀{d c f j a b s Q E'} {h:List Y->aa} {i:Y->aa} {l:Pos},gd f=true->aC A a b s.heap->bB a d c j s.heap->hr m g d c f h i b->bc A a8 a b s yk h Q->bc A a8 a b s aw i E'->
  wpAny (model aI aj.x) A (spliced<|backTo l<|starEach f j) Q E' s
 u2:∀{d c o j a b s Q E'} {h:Option Int->aa} {i:Y->aa},aC A a b s.heap->bB a d c j s.heap->o0 m g d c o h i b->bc A a8 a b s ws h Q->bc A a8 a b s aw i E'->wpAny (model aI aj.x) A (evalPart o j) Q E' s
 lB:∀{d c e j a b s Q E'} {h:Bool->aa} {i:Y->aa},aC A a b s.heap->bB a d c j s.heap->h8 m g d c e h i b->bc A a8 a b s lc h Q->bc A a8 a b s aw i E'->wpAny (model aI aj.x) A (PySem.isTrue e j<|PySem.eval e j) Q E' s
 qO:∀{d c k f j a b s Q E'} {h:Bool->aa} {i:Y->aa},aC A a b s.heap->bB a d c j s.heap->oA m g d c k f h i b->bc A a8 a b s lc h Q->bc A a8 a b s aw i E'->wpAny (model aI aj.x) A (PySem.allTrue k f j) Q E' s
theorem vi(b:pk o=false):attributeBase o fC j a=a:=by induction o using PySem.Expr.casesOn with|Call l c d e=>(induction l using PySem.Expr.casesOn with|Name x f=>(induction c using List.casesOn with|nil=>(induction d using List.casesOn with|nil=>exact gU b|cons _ _=>rfl)|cons _ _=>rfl)|_=>rfl)|_=>rfl
theorem fs(b:(if g=true then ae else a) c):g=false/\a c:=by induction g with|true=>exact b.elim|false=>exact⟨rfl,b⟩
theorem ij(b:(if g=true then a else ae) c):g=true/\a c:=by induction g with|false=>exact b.elim|true=>exact⟨rfl,b⟩
noncomputable def xN:Expr->Bool|.Slice _ _ none _=>true|_=>false
theorem Lp(b:xN c=false)(o a:Value):subscripted c false o a=operate [o,a] (getItem o a):=by induction c using PySem.Expr.casesOn with|Slice f e d g=>(induction d with|none=>exact gU b|some _=>rfl)|_=>rfl
theorem qs(b:oD x=false):starEach (x::r) j=(false,PySem.eval x j)::starEach r j:=by induction x using PySem.Expr.casesOn with|Starred _ _=>exact gU b|_=>rfl
theorem x9(b:gd (x::r)=true):oD x=false/\gd r=true:=by unfold gd at b;rw[List.all_cons,Qm] at b;exact⟨(Bool.not_eq_true' _).mp b.1,b.2⟩
section
theorem bc.aB:bc A a c d s aw aB E':=λ_ _ _ _ _ _ _ b=>b.elim
theorem As(w:cy)(q:d' A m k)(R:aC A d e s.heap)(t:bB d o l j s.heap)(b:cw m (k+1) o l (.BinOp f n r v) h i e)(z:bc A a8 d e s aw h Q)(u:bc A a8 d e s aw i E'):wpAny (model aI aj.x) A (PySem.eval (.BinOp f n r v) j) Q E' s:=wpAny_BinOp<|q.dl R t (h:=λa=>cw m k o l r (λg=>J (bW n a g) h) i) b (λ_ _ _ _ _ c r x=>q.dl c.aH (t.a7 c) x (λ_ _ _ _ _ p B y=>GY w p.aH (p.c_ r) B y<|z.a7<|c.q p)<|u.a7 c) u
theorem z3(g:d' A m l)(B:gd a=true)(R:aC A d e s.heap)(k:bB d t n j s.heap)(b:hr m (l+1) t n a h i e)(q:bc A a8 d e s yk h Q)(p:bc A a8 d e s aw i E'):wpAny (model aI aj.x) A (spliced<|backTo C<|starEach a j) Q E' s:=by induction a using List.casesOn with|nil=>exact spliced_nil (q.g4 R b .aP)|cons x r=>exact bs (x9 B) λy z=>Z (qs y)<|spliced_cons<|g.dl R k b (λo _ _ _ E c r v=>g.mJ z c.aH (k.a7 c) v (λf L K H F u D w=>q _ _ _ _ _ (c.q u) (aR.aY (u.c_ r) D) w)<|p.a7 c) p
theorem GC(q:d' A m f)(R:aC A d a s.heap)(t:bB d k g j s.heap)(b:o0 m (f+1) k g o h i a)(p:bc A a8 d a s ws h Q)(u:bc A a8 d a s aw i E'):wpAny (model aI aj.x) A (evalPart o j) Q E' s:=by induction o with|none=>exact P7 (p.g4 R b .none)|some e=>have b:cw m f k g e (λv=>kZ v h) i a:=b;refine q.dl R t b (λv B z x C w r l=>?_) u;induction v with|c n=>obtain⟨y,rfl⟩:=r;exact p (some n) B z x _ w (.int n y) l|_=>exact False.elim l
end
section
theorem xM(R:aC A a c s.heap)(f:aw a v d)(b:J (dD v) h c)(i:bc A a8 a c s lc h Q):wpAny (model aI aj.x) A (truthy d) Q E' s:=by refine aZ λk j=>?_;obtain⟨g,_,⟨rfl,rfl⟩,e⟩:=b;subst f;exact j<|wpAny_truthy_bool<|i.g4 R e rfl
theorem yg{A:Around}{a:ak}{c:V}{s:Shared}{E':Value->Shared->Prop}{g:Scope}{f:ax}{j:Env}{m:I}{d:Nat}{i:Y->aa}{e:Expr}{h:Bool->aa}{Q:Bool->Shared->Prop}(l:d' A m d)(R:aC A a c s.heap)(n:bB a g f j s.heap)(b:cw m d g f e (λv=>J (dD v) h) i c)(t:bc A a8 a c s lc h Q)(q:bc A a8 a c s aw i E')
  (o:PySem.isTrue e j (PySem.eval e j)=(do let v<-PySem.eval e j;standAt e.pos;holding [v]<|truthy v)):wpAny (model aI aj.x) A (PySem.isTrue e j<|PySem.eval e j) Q E' s:=
 wpAny_isTrue_value (l.dl R n b (λ_ _ _ _ _ k r p=>xM k.aH r p<|t.a7 k) q) o
theorem LG(C:cy)(D:i1 A)(a:d' A m c)(E:∀k<c,d' A m k)(R:aC A p q s.heap)(d:bB p B z j s.heap)(b:h8 m (c+1) B z e h i q)(n:bc A a8 p q s lc h Q)(g:bc A a8 p q s aw i E'):wpAny (model aI aj.x) A (PySem.isTrue e j<|PySem.eval e j) Q E' s:=by induction e using PySem.Expr.casesOn with|UnaryOp u x _=>(induction u with|Not=>exact wpAny_isTrue_Not (a.lB R d b (λo _ _ _ L l r t=>by cases(r:o=L);exact n _ _ _ _ _ l rfl t) g)|_=>exact yg a R d b n g rfl)|BoolOp u P _=>exact wpAny_isTrue_BoolOp (a.qO R d b n g)|IfExp=>exact False.elim b|Compare f v w _=>have b:=b;(induction c using Nat.casesOn with|zero=>exact False.elim b|succ c=>induction v using List.casesOn with|nil=>exact False.elim b|cons u v=>induction v using List.casesOn with|cons _ _=>exact False.elim b|nil=>induction w using List.casesOn with|nil=>exact False.elim b|cons r w=>induction w using List.casesOn with|cons _ _=>exact False.elim b|nil=>exact(by have a:=E c<|P' c;have b:=b;exact bs (fs b) λK b=>wpAny_isTrue_Compare1 (a.dl R d b (λ_ _ _ _ _ l r t=>a.dl l.aH (d.a7 l) t (λ_ _ _ _ _ y M F=>yd C D y.aH (y.c_ r) M F λ_ _ _ _ _ bC O H=>xM bC.aH O H<|n.a7<|(l.q y).q bC)<|g.a7 l) g) K))|_=>exact yg a R d b n g rfl
theorem GZ(f:d' A m u)(R:aC A n p s.heap)(g:bB n w v j s.heap)(b:oA m (u+1) w v l q h i p)(d:bc A a8 n p s lc h Q)(k:bc A a8 n p s aw i E'):wpAny (model aI aj.x) A (PySem.allTrue l q j) Q E' s:=by induction q using List.casesOn with|nil=>(induction l with|And=>exact wpAny_allTrue_And_nil (d.g4 R (a:=true) b rfl)|Or=>exact wpAny_allTrue_Or_nil<|d.g4 R (a:=false) b rfl)|cons x r=>have b:=b;induction l with|And=>refine wpAny_allTrue_And_cons<|f.lB R g b (λo _ _ _ t c r e=>?_) k;cases(show o=t from r);(cases o with|true=>exact f.qO c.aH (g.a7 c) e (d.a7 c) (k.a7 c)|false=>exact d _ _ _ _ _ c rfl e)|Or=>refine wpAny_allTrue_Or_cons<|f.lB R g b (λo _ _ _ t c r e=>?_) k;cases(show o=t from r);cases o with|false=>exact f.qO c.aH (g.a7 c) e (d.a7 c) (k.a7 c)|true=>exact d _ _ _ _ _ c rfl e
end
end R
namespace R
open PySem.W PySem.Calls PyProof.Rows
set_option tactic.hygienic true
theorem rd(d:f.any (·.1)=false)(b:wpAny M A (spliced f) (λvs a=>Q ⟨vs,[]⟩ a) i s):wpAny M A (evalArgs l true f []) Q i s:=by induction f using List.casesOn with|nil=>exact(R_<|QC b (λvs a c=>R_<|P7<|Qb<|R_<|P7<|R_<|P7<|P7 c) λ_ _ x=>x:wpAny M A (spliced []>>=_) Q i s)|cons x r=>obtain⟨g,e⟩:=x;induction g with|true=>simp at d|false=>exact evalArgs_plain b
theorem k7(b:gd a=true):(backTo f<|starEach a j).any (·.1)=false:=by induction a with|nil=>rfl|cons x r e=>exact bs (x9 b) λc d=>Z (qs c)<|e d
section
theorem p9(o:g5 A m)(B:d' A m q)(n:gd args=true)(R:aC A d e s.heap)(C:bB d z u j s.heap)(w:aw d l f)(D:aR (aw d) first t)(b:hr m q z u args (λp=>m l (first++p) h i) i e)(E:bc A a8 d e s aw h Q)(x:bc A a8 d e s aw i E'):wpAny (model aI aj.x) A (callWith y f t (backTo y<|starEach args j) []) Q E' s:=by exact callWith_of (P:=λb=>qr b f) (Z (k7 n) rfl) (λb ⟨k,a,g⟩=>am k a<|g _)<|rd (k7 n)<|B.mJ n R C b (λp _ _ _ F c r v=>⟨o.bn c.aH (c.c_ w) v,o.dT c.aH (c.c_ w) ((c.q' D).jI r) v (E.a7 c)<|x.a7 c⟩) x
theorem BC(q:pk o=false)(n:(d.endLine==a.line)=true)(p:gd args=true)(k:¬Nat.ble 30 args.length=true)(b:wpAny (model aI aj.x) A (PySem.eval o j) (λf g=>∀w,wpAny (model aI aj.x) A (getMethod f x w) (λc h=>wpAny (model aI aj.x) A (callWith a c.1 c.2 (backTo a<|starEach args j) []) Q E' h) E' g) E' s):wpAny (model aI aj.x) A (PySem.eval (.Call (.Attribute o x d) args [] a) j) Q E' s:=by
 have m:methodCallForm (args.length+0) (backTo a<|starEach args j) []=true:=by unfold methodCallForm;(have i:args.length<30:=by have:¬30<=args.length:=λy=>k<|Nat.ble_eq_true_of_le y;exact Nat.lt_of_not_le this);refine Z (QU.2 λt r=>(Bool.not_eq_true' _).mpr<|Bool.not_eq_true _▸List.any_eq_false.1 (k7 p) t r) ?_;simp[i]
 refine Z (arm_eval_Call ..)<|Z (vi q ..)<|R_<|QC b (λf g u=>R_<|Qr (?_:wpAny _ _ (methodCall o x d a j f (args.length+0) (backTo a<|starEach args j) []) _ _ _)) λ_ _ e=>e;unfold methodCall;refine Z m<|R_<|Qb<|QC (u _) (λc h v=>?_) λ_ _ e=>e;obtain⟨l,first⟩:=c;unfold methodCallPos;exact R_<|Z (P8<|Z n rfl)<|P7 v
theorem s7(B:d' A m u)(r:gd args=true)(R:aC A g l s.heap)(C:bB g z v j s.heap)(E:s.TypeIs f p)(H:PlainAttrs p)(F:∀a,f=.ref a->∃o,s.heap.get? a=some o/\o.dict=none)(slot:Slot p x t)(K:typeOf (.builtin t)=pure (.type "method_descriptor"))(b:hr m u z v args q i l)(L:bc A a8 g l s aw i E')(k:∀d n h c e,ao A a8 g l s h n c->aR (aw h) d e->q d n->wpAny (model aI aj.x) A (call (.builtin t)<|f::e) Q E' c):wpAny (model aI aj.x) A (getMethod f x M) (λw c=>wpAny (model aI aj.x) A (callWith y w.1 w.2 (backTo y<|starEach args j) []) Q E' c) E' s:=by exact getMethod_builtin E H slot K F<|callWith_of (P:=λ_=>True) (Z (k7 r) rfl) (λb _=>am .machine (.inr<|.inl rfl)<|Looks.of_pure rfl)<|rd (k7 r)<|B.mJ r R C b (λd n h c e S O D=>⟨Qd,k d n h c e S O D⟩) L
def tf(A:Around)(m:I)(g:Nat)(f:Scope)(c:ax)(j:Env)(args:List Expr)(e:Pos):Prop:=∀{a b s E' Q} {h i:Y->aa},aC A a b s.heap->bB a f c j s.heap->gd args=true->hr m g f c args (uT h) i b->bc A a8 a b s aw h Q->bc A a8 a b s aw i E'->∀k,wpAny (model aI aj.x) A (getMethod (.type "Exception") ("__init__":Str) k) (λd l=>wpAny (model aI aj.x) A (callWith e d.1 d.2 (backTo e<|starEach args j) []) Q E' l) E' s
theorem yy{J:ax}(y:cy)(NT:g5 A m)(D:d' A m W)(L:gd args=true)(R:aC A w t s.heap)(E:bB w NR J j s.heap)(r:aw w P NZ)(e:d5 t P=some z)(b:j4 m P x (λA=>hr m W NR J args A i) h i z t)(O:bc A a8 w t s aw h Q)(M:bc A a8 w t s aw i E'):wpAny (model aI aj.x) A (getMethod NZ x NP) (λNV NS=>wpAny (model aI aj.x) A (callWith S NV.1 NV.2 (backTo S<|starEach args j) []) Q E' NS) E' s:=by have G:=y.dH.keeps R.bn;obtain⟨C,g⟩:=eJ y R r e;induction z with|aD k NU=>obtain⟨⟨N_,NY⟩,U,n,H,N9,NW⟩:=g.c6;have T:InstAt s.heap C.1 (instObj (cb.ay k) C.2) (cb.ay k) (some<|dictOf U n):=⟨H,rfl,rfl,N9⟩;have b:o3 m P x (λA=>hr m W NR J args A i) h i (NU.lookup x) (ba.ex k x) t:=b;refine Z g.d1 ?_;(cases u:NU.lookup x with|some l=>(cases c:ba.ex k x with|some _=>rw[u,c] at b;exact b.elim|none=>replace b:=c▸u▸b;refine bs (ij b) λcE b=>?_;have f:=y.fC k x N_ cE NY;refine ah (r9 NW u) λOi N6 B=>(method_usual G T f.aq f.jN f.bO rfl (get_value G T f.aq (findObj_own f.lb f.bO rfl N6) (rF B) ?_));have N3:ao A a8 w t s w t {s with toks:=s.toks+1}:=ao.iH R _;exact p9 NT D L (t:=[]) R E B .aP b (O.a7 N3)<|M.a7 N3)|none=>cases c:ba.ex k x with|none=>rw[u,c] at b;exact b.elim|some l=>replace b:=c▸u▸b;refine aZ λOl Od=>(bZ (y.ex k x l c) λOb q Oe f=>?_);subst Oe;exact bs (y.uC k x _ c NY) λN7 N8=>Od<|method_fn G T N7 N8 f.sg f.b7 (by exact(Z (lookIn_dict ..)<|Z (DC NW u ..) rfl:(lookIn x<|dictOf U n).map _=_))<|p9 NT D L R E (l:=.B Ob q) rfl (.aY (g.d1▸r) .aP) b O M)|d Oc=>refine bZ g.c6 λvs n H Oj=>(bs (ij b) λc b=>?_);rw[g.d1];have NN:s.TypeIs (.ref C.1) "list":=am _ H rfl;(have N:∀a,Value.ref C.1=.ref a->∃o,s.heap.get? a=some o/\o.dict=none:=λa e=>by cases e;exact am _ H rfl);have bf:∀p,vD x=p->Slot "list" x p->typeOf (.builtin p)=pure (.type "method_descriptor")->_:=λp X slot NO=>s7 (E':=E') (y:=S) (M:=NP) D L R E NN PySem.F.plainAttrs_list N slot NO b M λN4 Og Of NS N5 v NQ B=>X▸FI v.aH (g.d1▸v.c_ r) NQ B (O.a7 v);unfold pK at c;simp only[Bool.or_eq_true,beq_iff_eq] at c;(rcases c with(rfl|rfl)|rfl);exact bf _ rfl slot_list_append (by refine(Z builtinType_eq_fast ?_:builtinType _=_);kernel_rfl);exact bf _ rfl PySem.F.slot_list_pop (by refine(Z builtinType_eq_fast ?_:builtinType _=_);kernel_rfl);exact bf _ rfl PySem.F.slot_list_extend (by refine(Z builtinType_eq_fast ?_:builtinType _=_);kernel_rfl)|K Oc=>obtain⟨Ok,NX,u⟩:=g.c6;refine bs (ij b) λc b=>?_;rw[g.d1];have NN:=NX.typeIs;(have N:∀a,Value.ref C.1=.ref a->∃o,s.heap.get? a=some o/\o.dict=none:=λa e=>by cases e;exact rt NX λo U Oh N' Oa _=>am _ N' Oa.2.1);have bf:∀p,vC x=p->Slot "dict" x p->typeOf (.builtin p)=pure (.type "method_descriptor")->_:=λp X slot NO=>s7 (E':=E') (y:=S) (M:=NP) D L R E NN PySem.F.plainAttrs_dict N slot NO b M λN4 Og Of NS N5 v NQ B=>X▸HM y v.aH (g.d1▸v.c_ r) NQ B (O.a7 v);unfold pB at c;simp only[Bool.or_eq_true,beq_iff_eq] at c;(rcases c with rfl|rfl);exact bf _ rfl PySem.F.slot_dict_get PySem.F.type_dict_get;exact bf _ rfl PySem.F.slot_dict_pop PySem.F.type_dict_pop|_=>exact False.elim b
theorem LM{K:Pos}(t:cy)(C:g5 A m)(u:d' A m E)(bd:tf A m E L F j args K)(R:aC A y B s.heap)(O:bB y L F j s.heap)(b:cw m (E+1) L F (.Call (.Attribute o x P) args [] K) h i B)(g:bc A a8 y B s aw h Q)(d:bc A a8 y B s aw i E'):wpAny (model aI aj.x) A (PySem.eval (.Call (.Attribute o x P) args [] K) j) Q E' s:=by have b:=b;refine bs (fs b) λT b=>?_;simp only[Bool.or_eq_false_iff,Bool.not_eq_false'] at T;obtain⟨⟨⟨NN,N⟩,p⟩,J⟩:=T;refine BC NN N p (Z J Qt)<|u.dl R O b (λNP U X M NS w r c NQ=>?_) d;have v:=O.a7 w;have f:=w.aH;have S:=t.dH.keeps f.bn;have g:=g.a7 w;have d:=d.a7 w;induction NP with|ay k=>unfold aQ at c;dsimp only at c;(cases H:ba.ex k x with|none=>rw[H] at c;exact c.elim|some l=>rw[H] at c;refine bZ (t.ex k x l H) λNO q NR D=>?_;subst NR;refine Z r<|method_cls S D.aq<|cls_value S D.Em D.ay rfl ?_;have W:ao A a8 X U M X U {M with toks:=M.toks+1}:=ao.iH f _;exact p9 C u p (t:=[]) f v (l:=.B NO q) rfl .aP c (g.a7 W) (d.a7 W))|b7 n=>unfold aQ at c;dsimp only at c;split at c;rename_i G;obtain⟨rfl,rfl⟩:=G;exact Z r<|bd f v p c g d NQ;exact c.elim|a a=>obtain⟨z,_,⟨rfl,e⟩,c⟩:=c;exact yy t C u p f v r e c g d|cO a=>obtain⟨z,_,⟨rfl,e⟩,c⟩:=c;exact yy t C u p f v r e c g d|_=>obtain⟨z,_,⟨_,e⟩,c⟩:=c;exact bm e
noncomputable def wU:Expr->Bool|.Attribute _ _ _=>true|_=>false
theorem Ce(B:g5 A m)(u:d' A m n)(E:wU l=false)(R:aC A g k s.heap)(v:bB g t p j s.heap)(b:(if(!gd args)=true then ae else cw m n t p l (λw=>hr m n t p args (λC=>m w C h i) i) i) k)(F:bc A a8 g k s aw h Q)(y:bc A a8 g k s aw i E'):wpAny (model aI aj.x) A (PySem.eval (.Call l args [] a) j) Q E' s:=by
 refine bs (fs b) λq b=>?_;have q:gd args=true:=by simpa using q
 have z:wpAny (model aI aj.x) A (PySem.eval l j) (λc H=>wpAny (model aI aj.x) A (callWith a c [] (backTo a<|starEach args j) []) Q E' H) E' s:=u.dl R v b (λw _ _ _ c f r D=>p9 B u q f.aH (v.a7 f) r .aP D (F.a7 f)<|y.a7 f) y;have d:PySem.eval (.Call l args [] a) j=(PySem.eval l j>>=λc=>callWith a c [] (backTo a<|starEach args j)<|backToKw a<|keywordEach [] j)\/PySem.eval (.Call l args [] a) j=(PySem.eval l j>>=λc=>standAt a>>=λ_=>callWith a c [] (backTo a<|starEach args j)<|backToKw a<|keywordEach [] j):=by induction l using PySem.Expr.casesOn with|Attribute o x K=>exact gU E|_=>(first|exact .inl rfl|exact .inr rfl)
 refine Or.elim d (λd=>?_) λd=>?_;exact Z d<|R_ z;exact Z d<|R_<|QC z (λ_ _ b=>R_<|Qr b) λ_ _ e=>e
end
theorem Fs[DecidableEq h](k:h)(v:Value)(d:List (h×Value))(b:(d.map (·.1)).Nodup):((stored d k v).map (·.1)).Nodup:=by
 unfold stored;split;rename_i f;have:(d.map λc=>if c.1=k then(c.1,v) else c).map (·.1)=d.map (·.1):=by refine Z List.map_map<|QB λc _=>?_;by_cases i:c.1=k;exact(Q3 Prod.fst (P8 i:(if c.1=k then(c.1,v) else c)=_):);exact(Q3 Prod.fst (P4 i:(if c.1=k then(c.1,v) else c)=_):)
 exact Z this b;rename_i f;rw[Rd,Qh];refine⟨b,List.pairwise_singleton _ _,λa j g l=>?_⟩;obtain rfl:=Re.1 l;intro e;subst e;refine ah (Qa.1 j) λc m n=>?_;subst n;exact f<|List.any_eq_true.2<|am c m<|decide_eq_true rfl
section
theorem KS(q:aR (gv h) m k):∀{c:List (Y×Y)} {d:List (Y×Value)},aR (gv h) c d->(d.map (·.1)).Nodup->aR (gv h) (m.foldl (λf l=>e0 l.1 l.2 f) c) (merged d k):=by induction q with|aP=>exact λb _=>b|@aY a g _ _ r _ p=>intro c d b j;obtain⟨i,s⟩:=a;obtain⟨n,o⟩:=g;have e:i=n:=r.1;exact ad e<|p (t3 r.2 b j)<|Fs i o _ j
theorem Gx:∀{c:List (Y×Y)} {vs:List (Value×Value)},aR (λa g=>aw d a.1 g.1/\aw d a.2 g.2) c vs->(c.all λi=>gu i.1)=true->Carries (kx prog w) vs (c.zip vs|>.map λx=>(x.1.1,x.2.2))/\aR (gv d) c (c.zip vs|>.map λx=>(x.1.1,x.2.2)):=by intro _ _ j;induction j with|aP=>intro _;exact⟨Qd,.aP⟩|@aY a g _ _ r k h=>intro b;rw[List.all_cons,Qm] at b;exact bs (h b.2) λe f=>⟨b9 (j6 b.1 r.1) rfl e,.aY ⟨rfl,r.2⟩ f⟩
end
noncomputable def pd(j:Env)(a:Pos):List (Option Expr)->List Expr->List (Sem Value×Sem Value)
 |some k::b,v::vs=>(PySem.eval k j,do let x<-PySem.eval v j;standAt a;pure x)::pd j a b vs
 |_,_=>[]
section
def ov(A:Around)(m:I)(f:Nat)(e:Scope)(c:ax)(j:Env)(g:Pos):Prop:=∀{d vs a b s E'} {Q:List (Value×Value)->Shared->Prop} {h:List (Y×Y)->aa} {i:Y->aa},aC A a b s.heap->bB a e c j s.heap->oZ m f e c d vs h i b->bc A a8 a b s EX h Q->bc A a8 a b s aw i E'->wpAny (model aI aj.x) A (PySem.evalPairs<|pd j g d vs) Q E' s
theorem Ay(o:d' A m l)(y:ov A m l x q j w):ov A m (l+1) x q j w:=by intro t vs O W s E' Q h i R e b u n;induction t using List.casesOn with|nil=>(induction vs using List.casesOn with|nil=>exact P7 (u.g4 R b .aP)|cons _ _=>exact False.elim b)|cons k t=>induction k with|none=>exact False.elim b|some k=>induction vs using List.casesOn with|nil=>exact False.elim b|cons v vs=>exact R_<|o.dl R e b (λa X P K F c r z=>R_<|Qb<|R_<|o.dl c.aH (e.a7 c) z (λg Z S L H d D B=>R_<|Qr<|P7<|R_<|Qb<|y d.aH ((e.a7 c).a7 d) B (λf Y T M p bC E C=>P7<|u _ _ _ _ _ ((c.q d).q bC) (aR.aY ⟨bC.c_<|d.c_ r,bC.c_ D⟩ E) C)<|n.a7<|c.q d)<|n.a7 c) n
theorem yX(b:a.length=vs.length)(c:a.all (·.isSome)=true):List.zip (evalEachOpt a j) ((evalEach vs j).map (λv=>do let x<-v;standAt d;pure x))=(pd j d a vs).map (λf=>(some f.1,f.2))/\(pd j d a vs).length=a.length:=by induction a generalizing vs with|nil=>(induction vs with|nil=>exact⟨rfl,rfl⟩|cons _ _=>exact(QQ _ b.symm).elim)|cons k a i=>induction vs with|nil=>exact(QQ _ b).elim|cons v vs=>rw[List.all_cons,Qm] at c;exact bA (Option.isSome_iff_exists.1 c.1) λe l=>Z l<|bs (i (Nat.succ.inj b) c.2) λg h=>⟨(Z g rfl:(evalOpt (some e) j,_)::List.zip (evalEachOpt a j) _=_),Q3 Nat.succ h⟩
end
section
theorem aC.GJ(R:aC A g c b)(e:c.r a=some (.bd k l)):(c.z o).r a=some (.bd k l):=by exact(P4 λf=>by subst f;refine ah (R.cQ _ _ e) λr d _=>?_;exact(ff (P1.1 d).1 R.cq.symm).elim).trans e
theorem ao.s'{A:Around}{t q:ak}{u r:V}{s p:Shared}{c:Addr}{o:af}(T:ao A (·=c) t u s q r p)(g:s.heap.objs.size<=c)(R2:aC A (q++[(c,c)]) (r.z o) p.heap):ao A a8 t u s (q++[(c,c)]) (r.z o) p where
  aH:=R2
  m:=by
    refine ah T.m λe B b=>(Z B<|am (e++[(c,c)]) (Z (Qf ..) rfl) λy f=>?_)
    rcases PY.1 f with f|f
    · exact b y f
    · exact Z (Re.1 f) ⟨g,g⟩
  S:=λa z h j _ i d=>T.S a z h j (λn=>by subst n;exact Qn _<|Ra (Q5 d) g) i d
  er:=λa z x h j _ i d=>T.er a z x h j (λn=>by subst n;exact Qn _<|Ra (Q5 d) g) i d
  cq:=T.cq
  go:=T.go
  e7:=T.e7
  gr:=λa k l b=>by
    exact bA (T.gr a k l b) λv w=>⟨v,aC.GJ T.aH w⟩
end
section
theorem bB.bn{f:ak}{e:Scope}{d:ax}{j:Env}{b c:Heap}(a:bB f e d j b)(k:∀g o,b.get? g=some o->c.get? g=some o)(l:b.objs.size<=c.objs.size):bB f e d j c:=by exact ah a.ct λm i h=>{a with ct:=am m (i.keeps k) h,bX:=⟨a.bX.bH,a.bX.ck,Ra a.bX.f8 l⟩}
theorem I'(N':cy)(NS:ov A m C T O j NR)(G:v.length=vs.length)(NX:v.all (·.isSome)=true)(NY:v.length<=15)(R:aC A l p s.heap)(NT:bB l T O j s.heap)(b:oZ m C T O v vs (λq=>if q.all (λc=>gu c.1) then J (a4<|.K<|q.foldl (λf c=>e0 c.1 c.2 f) []) h else ae) i p)(NP:bc A a8 l p s aw h Q)(N7:bc A a8 l p s aw i E'):wpAny (model aI aj.x) A (PySem.eval (.Dict v vs NR) j) Q E' s:=by
 have L:ao A a8 l p s l p {s with heap:=s.heap.push emptyDict,toks:=s.toks}:=ao.h4 R (λg o e=>P_ _ e)<|Z (Q2 ..)<|Q4 _;have NN:(s.heap.push emptyDict).get? s.heap.objs.size=some emptyDict:=Q' _ rfl;have H:fA l (s.heap.push emptyDict) s.heap.objs.size:=R.bX (P5 _)<|Z (Q2 ..)<|P' _;have S:=R.eD<|P5 _;have N8:¬l' emptyDict:=λa=>by have b:=a.1;injection b with b;exact absurd b #[]
 have bf:∀(q:List (Y×Y)) (t:V) (n:ak) (d:Shared) (K:List (Value×Value)) (u:Heap) (M:Nat) (P:List (Y×Value)),ao A a8 l p s n t d->d.heap.get? s.heap.objs.size=some emptyDict->fA n d.heap s.heap.objs.size->u.DictOf (kx aI aj.x) s.heap.objs.size (merged [] P)->Heap.SameBut s.heap.objs.size d.heap u->aR (gv n) q P->ao A a8 l p s (n++[(s.heap.objs.size,s.heap.objs.size)]) (t.z<|.K<|q.foldl (λf c=>e0 c.1 c.2 f) []) {d with heap:=u,toks:=M}/\aw (n++[(s.heap.objs.size,s.heap.objs.size)]) (.a t.f) (.ref s.heap.objs.size):=by intro q t n d K u M P x NZ NQ E F N4;have D:=R.d0;have W:ao A (·=s.heap.objs.size) n t d n t {d with heap:=u,toks:=M}:=ao.kE x.aH NQ D (λ⟨Od,Oe,a,_,N9,_⟩=>by rw[NZ] at a;obtain rfl:=P0 a;cases N9) (λg z D e=>(F.2 g D).trans e) (P2 F.1.symm) λOc N5=>(N5 S).elim;refine jT (id E) λz Ob Oa N6 r=>?_;have U:=ao.ms (NP:=a8) W.aH (o:=.K<|q.foldl (λf c=>e0 c.1 c.2 f) []) M (W.bX NQ) D S N6 (λa=>by have b:=a.1;rw[r.1.1] at b;injection b with b;exact absurd b #[])<|am _ E<|(KS N4 .aP List.nodup_nil).bD λ_ _=>.cj _;exact⟨ao.s' ((x.b4 λ_ a=>a.elim).q W) (P5 _) U.1,U.2⟩
 induction v using List.casesOn with|nil=>(induction vs using List.casesOn with|cons _ _=>exact(QQ _ G.symm).elim|nil=>refine wpAny_Dict_empty ?_;induction C using Nat.casesOn with|zero=>exact False.elim b|succ C=>refine aZ λN_ X=>?_;obtain⟨_,_,_,⟨rfl,rfl⟩,B⟩:=ij<|show(if([]:List (Y×Y)).all (λc=>gu c.1)=true then J (a4<|.K<|([]:List (Y×Y)).foldl (λf c=>e0 c.1 c.2 f) []) h else ae) p from b;refine X ?_;have a:=bf [] p l {s with heap:=s.heap.push emptyDict,toks:=s.toks} [] (s.heap.push emptyDict) s.toks [] L NN H (Heap.DictOf.new _) (.refl ..) .aP;exact NP _ _ _ _ _ a.1 a.2 B)|cons k v=>refine bs (yX G NX) λNW N=>(wpAny_Dict_pairs (knd:=kx aI aj.x) NW (λa=>QQ _<|N.symm.trans<|Q3 List.length a) (Z N NY)<|NS L.aH (bB.bn NT (λg o e=>P_ _ e)<|Z (Q2 ..)<|Q4 _) b (λq t n d K x r B=>?_)<|N7.a7 L);refine aZ λN_ X=>?_;obtain⟨y,_,_,⟨rfl,rfl⟩,B⟩:=ij B;refine bs (Gx (prog:=aI) (w:=aj.x) r y) λNU NV=>(X ?_);have NO:=x.er _ _ S H.bH H.ck id N8 NN;refine cp _ NU (s3 _ (([].toArray)) 0 NO (b9 rfl rfl rfl) rfl (λe N3=>(Array.not_mem_empty _ N3).elim) .nil List.nodup_nil) λu E F=>?_;have a:=bf q t n d K u (d.toks+K.length) _ (L.q x) NO (x.bX H) E F NV;exact NP _ _ _ _ _ a.1 a.2 B
end
end R
namespace R
open PySem.W PySem.Calls PyProof.Rows
inductive gn(e:ak)(b:Heap)(c:Addr):bI->Nat->Prop
 |d {v f a}:aw e v (.ref f)->b.IsListIter c f a->gn e b c (.d v) a
 |A {v f a}:aw e v (.ref f)->b.IsTupleIter c f a->gn e b c (.A v) a
 |cf {n a:Nat}:a<=n->IsRangeIter b c (a:Int) ((n - a:Nat):Int) 1->gn e b c (.cf n) a
theorem FU:entryFor table "proto.unchain"=some Builtin.«proto.unchain»:=entryFor_of_tree ∅
def hV(A:Around)(b:Heap):Prop:=∀a,A.handled=some a->∃e c vs,a=.ref e/\b.get? e=some c/\c.data=.fields vs/\vs[2]?=some .none
theorem aC.cE(R:aC A p q b):hV A b:=λj h=>by refine aZ λs n=>(mn (R.dU j h) λa k l m o i e=>?_);subst o;obtain⟨r,c,_,z,vs,d,_,f,_,g,_⟩:=R.cQ a _ e;refine n ?_;rw[i] at c;obtain rfl:=P0 c;exact kN m.1 z vs rfl d f g
section
theorem Md(H:hV A s.heap)(c:s.heap.get? a=some d)(h:d.data=.fields vs)(r:2<vs.size)(p:∀e g,A.handled=some (.ref e)->s.heap.get? e=some g->e≠a)(b:∀f,Heap.SameBut a s.heap f->(∃l,f.get? a=some l/\l.cls=d.cls)->i (.ref a) {s with heap:=f}):wpAny (model prog w) A (raiseNew<|.ref a:Sem m) Q i s:=by refine R_<|wpAny_handled ?_;cases k:A.handled with|none=>exact R_ (P7<|wpAny_throw<|by exact b s.heap (.refl ..)<|am d c rfl)|some t=>refine h' (H t k) λe g v u j o n=>?_;subst u;have q:=p e g k j;dsimp only;refine Z (P8<|by simpa using q)<|R_<|Qb<|wpAny_runValue<|codeAny_builtin FU<|R_<|QL j o n<|Z (P8<|rfl)<|P7<|R_<|R_<|wpAny_load c<|Z h ?_;dsimp only;refine Z (P8 r)<|wpAny_update c<|wpAny_throw<|b _ (Qv ..)<|am _ (QD _ c<|Obj.isFreed_of_fields<|QO h _)<|Obj.cls_mapFields _ _
end
section
theorem rA{s:Shared}{Q:u->Shared->Prop}(H:hV A b)(z:∀d,(∀g o,b.get? g=some o->d.get? g=some o)->b.objs.size<=d.objs.size->(∃c,d.get? (b.objs.size+1)=some c/\c.cls=.type "StopIteration")->i (.ref<|b.objs.size+1) {s with heap:=d}):wpAny (model prog w) A (newExc (.type "StopIteration") []>>=λe=>(raiseNew e:Sem u)) Q i {s with heap:=b}:=by
 refine R_ ?_;skip;refine R_<|wpAny_newObj_type (R_<|wpAny_of_eq (a:=Value.none) (by first|rfl|(simp only[F];rfl))<|wpAny_newObj_type ?_<|by size_fits) (by size_fits);dsimp only;generalize n:(b.push {cls:=Value.type "tuple",data:=Data.seq ([].toArray)})=h;have f:h.objs.size=b.objs.size+1:=ad (n ..)<|Z (Q2 ..) rfl;have p:∀g o,b.get? g=some o->h.get? g=some o:=λg o e=>n▸P_ _ e;generalize l:((#[Value.ref b.objs.size,Value.none,Value.none,Value.none,Value.bool false,Value.none]:Array Value)++ownMembersOf (Value.type "StopIteration") [])=vs;have B:2<vs.size:=by refine ad l ?_;simp;exact an [] (.h (.e 2)<|.e 1) (.h (.e 6)<|.b 0) rfl [(ownMembersOf (Value.type "StopIteration") []).size]
 generalize k:({cls:=Value.type "StopIteration",data:=Data.fields vs}:Obj)=o;have q:∀g c,h.get? g=some c->(h.push o).get? g=some c:=λg c e=>P_ _ e;refine Md (λl j=>?_) (Q' _ (by refine ad k ?_;rfl)) (by refine ad k ?_;rfl) B (λe r j K=>?_) λd m ⟨c,x,y⟩=>?_;exact h' (H l j) λe r t D a g v=>(Z D<|kN e r t rfl (q _ _<|p _ _ a) g v);refine h' (H _ j) λE M t C a _ _=>?_;cases C;have:=Q5 a;exact Z f<|Q6<|Rb this;refine Z f<|z d (λg L e=>?_) ?_<|am c (f▸x)<|Z y<|ad k rfl;exact(m.2 g<|Z f<|Q6<|Rb<|Q5 e).trans<|q _ _<|p _ _ e;exact Z (m.1 ..)<|Z (Q2 ..)<|Z (f ..)<|an [] (.b 0) (.h (.h (.b 0)<|.e 1)<|.e 1) rfl [b.objs.size]
theorem hV.b3(H:hV A b)(j:Heap.SameBut a b d)(i:∀e c,A.handled=some (.ref e)->b.get? e=some c->e≠a):hV A d:=λk f=>by refine h' (H k f) λe c l m x g h=>?_;subst m;exact kN e c l rfl ((j.2 e<|i e c f x).trans x) g h
theorem Eo(H:hV A s.heap)(u:∀e B,A.handled=some (.ref e)->s.heap.get? e=some B->e≠a)(d:s.heap.IsListIter a f l)(t:s.heap.IsList f fl)(y:fl[l]?=none)(p:∀b,Heap.ExtBut a s.heap b->s.heap.objs.size<=b.objs.size->Q none {s with heap:=b}):wpAny (model prog w) A (pyNext<|.ref a) Q i s:=by refine aZ λL C=>(cM (id d) λo h D c=>?_);obtain⟨K,v,_,E,r⟩:=t;refine C ?_;refine R_<|wpAny_attempt<|wpAny_callSpecial?_slot d.typeIs slot_listiter_next<|wpAny_call_entry slot_listiter_next d.typeIs entry_listiter_next ?_<|args_listiter_next _;refine(R_<|QL h c (x:=.ref f) rfl ?_:wpAny _ _ (field (.ref a) 0>>=_) _ _ s);refine(Z (P4 (Qt:¬((Value.ref f==Value.none)=true))) (R_<|QL h c (x:=.int l 0) rfl ?_:wpAny _ _ (field (.ref a) 1>>=_) _ _ s):wpAny _ _ (if(Value.ref f==Value.none)=true then _ else _) _ _ s);refine(R_<|wpAny_seqItems v r ?_:wpAny _ _ (seqItems? (.ref f)>>=_) _ _ s);simp only[Int.toNat_natCast,y];refine R_<|wpAny_rule<|R_<|wpAny_setField h c (by simp) ?_;have j:=Qv s.heap a<|Obj.mapFields (·.setIfInBounds 0 .none);exact rA (hV.b3 (A:=A.in1) H j u) λb k z ⟨F,m,n⟩=>R_<|wpAny_isInstance (am _ m n) isSubtype_stop<|P7<|p _ (λg o q e=>k g o<|(j.2 g q).trans e)<|ad j.1 z
theorem uz(H:hV A s.heap)(u:∀e B,A.handled=some (.ref e)->s.heap.get? e=some B->e≠a)(d:s.heap.IsTupleIter a f l)(t:s.heap.IsTuple f fl)(y:fl[l]?=none)(p:∀b,Heap.ExtBut a s.heap b->s.heap.objs.size<=b.objs.size->Q none {s with heap:=b}):wpAny (model prog w) A (pyNext<|.ref a) Q i s:=by refine aZ λM C=>(cM (id d) λo h D c=>?_);obtain⟨L,v,_,E,r⟩:=t;refine C ?_;refine R_<|wpAny_attempt<|wpAny_callSpecial?_slot d.typeIs F.slot_tuple_iterator_next<|wpAny_call_entry F.slot_tuple_iterator_next d.typeIs F.entry_tuple_iterator_next ?_<|F.args_tuple_iterator_next_1 _;refine(R_<|QL h c (x:=.ref f) rfl ?_:wpAny _ _ (field (.ref a) 0>>=_) _ _ s);refine(Z (P4 (Qt:¬((Value.ref f==Value.none)=true))) (R_<|QL h c (x:=.int l 0) rfl ?_:wpAny _ _ (field (.ref a) 1>>=_) _ _ s):wpAny _ _ (if(Value.ref f==Value.none)=true then _ else _) _ _ s);refine(R_<|wpAny_seqItems v r ?_:wpAny _ _ (seqItems? (.ref f)>>=_) _ _ s);simp only[Int.toNat_natCast,y];refine R_<|wpAny_rule<|R_<|wpAny_setField h c (by simp) ?_;have j:=Qv s.heap a<|Obj.mapFields (·.setIfInBounds 0 .none);exact rA (hV.b3 (A:=A.in1) H j u) λb k z ⟨K,m,n⟩=>R_<|wpAny_isInstance (am _ m n) isSubtype_stop<|P7<|p _ (λg o q e=>k g o<|(j.2 g q).trans e)<|ad j.1 z
theorem Hx(H:hV A s.heap)(c:IsRangeIter s.heap a x left dm)(l:left<=0)(j:∀b,Heap.ExtBut a s.heap b->s.heap.objs.size<=b.objs.size->Q none {s with heap:=b}):wpAny (model prog w) A (pyNext<|.ref a) Q i s:=by have d:s.TypeIs (.ref a) "range_iterator":=am _ c rfl;refine R_<|wpAny_attempt<|wpAny_callSpecial?_slot d F.slot_range_iterator_next<|wpAny_call_entry F.slot_range_iterator_next d F.entry_range_iterator_next ?_<|F.args_range_iterator_next_1 _;refine(R_<|QL c rfl (x:=rawInt x) rfl ?_:wpAny _ _ (field (.ref a) 0>>=_) _ _ s);refine(R_<|QL c rfl (x:=rawInt left) rfl ?_:wpAny _ _ (field (.ref a) 1>>=_) _ _ s);refine(R_<|QL c rfl (x:=rawInt dm) rfl ?_:wpAny _ _ (field (.ref a) 2>>=_) _ _ s);refine(Z (P8 l)<|R_<|wpAny_rule ?_:wpAny _ _ (if left<=0 then _ else _) _ _ s);exact R_<|rA H λb k m ⟨p,f,h⟩=>R_<|wpAny_isInstance (am _ f h) isSubtype_stop<|P7<|j _ (λg o n e=>k g o e) m
end
section
theorem aC.Cx(R:aC A d n b)(h:ec d a):∀e c,A.handled=some (.ref e)->b.get? e=some c->e≠a:=λe c i _ m=>by refine mn (R.dU _ i) λo k l j f g _=>?_;cases f;exact(h j<|eB g).1 m.symm
theorem u5(G:cy)(R:aC A c y s.heap){I:bI}(NP:fA c s.heap l)(p:aj.co.objs.size<=l)(NU:gg A l)(U:gn c s.heap l I w)(b:J (dv I w) h y)(k:∀x M L,h (some x) y->ao A (·=l) c y s c y L->aw c x M->gn c L.heap l I (w+1)->Q (some M) L)(N:∀L,h none y->ao A (·=l) c y s c y L->Q none L):wpAny (model aI aj.x) A (pyNext<|.ref l) Q i s:=by refine bZ b λr N3 b q=>?_;have NO:=R.Cx NP.bH;have al:∀{T:String} {o:Obj} {B:Heap} {NV:Nat},s.heap.get? l=some o->o.cls=.type T->T≠"traceback"->(∀g z,g≠l->s.heap.get? g=some z->B.get? g=some z)->s.heap.objs.size<=B.objs.size->ao A (·=l) c y s c y {s with heap:=B,toks:=NV}:=λu E NS NT F=>ao.kE R NP p (λ⟨NY,NZ,NN,W,_⟩=>by rw[u] at NN;obtain rfl:=P0 NN;rw[E] at W;injection W with W;exact NS W) NT F λNX NR=>(NR NU).elim;cases b with|@d _ v S _ e=>obtain⟨D,m⟩:=(show∃D,∃f,s.heap.IsListIter l f w/\aw c v (.ref f)/\so c s.heap v (.ref f) (.d S) D by cases U with|d C a=>obtain⟨D,m⟩:=eJ G R C e;exact eb D _ a C m);refine cM m λf a C m=>?_;obtain⟨vs,n,O,P⟩:=m.c6;cases m.d1;obtain⟨o,u,E,NQ⟩:=id a;(cases t:S[w]? with|none=>rw[t] at q;refine Eo R.cE NO a (hs O) (by rw[PX] at t;simp;exact ad P.d6 t) λB j F=>N _ q (al u E #[] (λg z p e=>j g z p e) F)|some x=>rw[t] at q;obtain⟨M,X,Z⟩:=P.r t;exact wpAny_pyNext_list_item a (hs O) (by simpa using X) λB K j=>k x M _ q (al u E #[] (λg z p e=>(j.2 g p).trans e)<|P2 j.1.symm) Z<|.d C K)|@A _ v S _ e=>obtain⟨D,m⟩:=(show∃D,∃f,s.heap.IsTupleIter l f w/\aw c v (.ref f)/\so c s.heap v (.ref f) (.A S) D by cases U with|A C a=>obtain⟨D,m⟩:=eJ G R C e;exact eb D _ a C m);obtain⟨f,a,C,m⟩:=m;obtain⟨vs,O,P⟩:=m.c6;cases m.d1;obtain⟨o,u,E,NQ⟩:=id a;(cases t:S[w]? with|none=>rw[t] at q;refine uz R.cE NO a (ny O) (by rw[PX] at t;simp;exact ad P.d6 t) λB j F=>N _ q (al u E #[] (λg z p e=>j g z p e) F)|some x=>rw[t] at q;obtain⟨M,X,Z⟩:=P.r t;exact wpAny_pyNext_tuple_item a (ny O) (by simpa using X) λB K j=>k x M _ q (al u E #[] (λg z p e=>(j.2 g p).trans e)<|P2 j.1.symm) Z<|.A C K)|@cf _ n _=>cases U with|cf NW a=>have u:s.heap.get? l=some {cls:=.type "range_iterator",data:=.fields #[rawInt w,rawInt (n - w:Nat),rawInt 1]}:=a;by_cases H:w<n;rw[P8 H] at q;refine wpAny_pyNext_range_item a (gK<|Nat.sub_pos_of_lt H) λB K j=>(k _ _ _ q (al u rfl #[] (λg z p e=>(j.2 g p).trans e) (P2 j.1.symm)) ⟨_,rfl⟩<|.cf H ?_);rw[J5,zL H] at K;exact K;rw[P4 H] at q;exact Hx R.cE a (Int.ofNat_le.2<|dw<|vq H) λB j F=>N _ q<|al u rfl #[] (λg z p e=>j g z p e) F
end
section
structure t5(A:Around)(s:Shared)(c:ak)(b:Shared)(a:Addr)(d:bI):Prop where
 f_:s.heap.objs.size<=a
 bX:fA c b.heap a
 d0:aj.co.objs.size<=a
 eD:gg A a
 hj:gn c b.heap a d 0
theorem qp(R:aC A a c s.heap)(f:Nat)(b:gn a (s.heap.push z) s.heap.objs.size d 0):ao A a8 a c s a c {s with heap:=s.heap.push z,toks:=f}/\t5 A s a {s with heap:=s.heap.push z,toks:=f} s.heap.objs.size d:=⟨ao.h4 R (λg o e=>P_ _ e)<|Z (Q2 ..)<|Q4 _,P5 _,R.bX (P5 _)<|Z (Q2 ..)<|P' _,R.d0,R.eD<|P5 _,b⟩
theorem DU(b:pj l=true):∃a,l=.Name ("range":Str) a:=by induction l using PySem.Expr.casesOn with|Name x a=>exact⟨a,by exact Z (eq_of_beq b) rfl⟩|_=>exact gz b
theorem B0(b:oP f=some e):∃g h,f=.Call (.Name ("range":Str) g) [e] [] h:=by induction f using PySem.Expr.casesOn with|Call l c i h=>have b:=b;(induction i using List.casesOn with|cons _ _=>exact bm b|nil=>induction c using List.casesOn with|nil=>exact bm b|cons a c=>induction c using List.casesOn with|cons _ _=>exact bm b|nil=>have b:(if pj l then some a else none)=some e:=b;cases d:pj l with|false=>rw[d] at b;exact bm b|true=>rw[d] at b;refine bA (DU d) λg j=>(Z j ?_);obtain rfl:=P0 b;exact g' g h rfl)|_=>exact bm b
def v1(A:Around)(f:ak)(g:V)(s:Shared)(h:bI->aa)(Q:Value->Shared->Prop):Prop:=∀c e d b a,h c e->ao A a8 f g s d e b->t5 A s d b a c->Q (.ref a) b
theorem Kg(q:cy)(R:aC A j l s.heap)(a:aw j v p)(b:bY v h l)(k:v1 A j l s h Q):wpAny (model aI aj.x) A (pyIter p) Q E' s:=by refine aZ λw u=>?_;obtain⟨o,_,⟨rfl,e⟩,g⟩:=b;obtain⟨m,f⟩:=eJ q R a e;refine u ?_;have a:=f.d1▸a;refine Z f.d1 ?_;induction o with|d t=>refine bZ f.c6 λvs n i r=>(wpAny_pyIter_list (hs i) ?_);have c:=qp R s.toks (z:={cls:=.type "list_iterator",data:=.fields #[.ref m.1,.int 0 0]})<|.d a<|cp _ (Q' _ rfl) rfl rfl;exact k _ _ _ _ _ g c.1 c.2|A t=>obtain⟨vs,i,r⟩:=f.c6;refine wpAny_pyIter_tuple (ny i) ?_;have c:=qp R s.toks (z:={cls:=.type "tuple_iterator",data:=.fields #[.ref m.1,.int 0 0]})<|.A a<|cp _ (Q' _ rfl) rfl rfl;exact k _ _ _ _ _ g c.1 c.2|_=>exact False.elim g
theorem rG(u:cy)(O:d' A m w)(R:aC A F C s.heap)(p:bB F t D j s.heap)(b:kb m (w+1) t D y h i C)(k:v1 A F C s h Q)(P:bc A a8 F C s aw i E'):wpAny (model aI aj.x) A (PySem.eval y j) (λx d=>wpAny (model aI aj.x) A (pyIter x) Q E' d) E' s:=by have b:(Option.casesOn (oP y) (cw m w t D y (λv=>bY v h) i) λe=>if(t.names.lookup ("range":Str)==some NameKind.globalImplicit)=true then cw m w t D e (λv=>fB v h) i else ae:aa) C:=b;cases K:oP y with|some e=>refine eU (B0 K) λNR NS NO=>(Z NO ?_);replace b:=K▸b;obtain⟨W,b⟩:=ij b;(have X:t.names.lookup ("range":Str)=some .globalImplicit:=by simpa using W);refine wpAny_Call_ofName<|Name_function_global p.gq ((p.i' _ _ X).resolve_right λl=>by cases l.1) (loadGlobal_builtin (p.nZ▸u.fS.keeps R.bn) u.cf.1 (p.qI▸u.jc.keeps R.bn) u.cf.2 ?_)<|rfl;(have U:oD e=false:=by induction e using PySem.Expr.casesOn with|Starred x NT=>exfalso;cases w<;>exact(b:False)|_=>rfl);refine Z (qs U)<|callWith_excType rfl (evalArgs_plain<|spliced_cons (?_:wpAny _ _ (PySem.eval _ j) _ _ _));refine(O.dl R p b (λv H M d G n r q=>spliced_nil ?_) P);(induction v with|c f=>refine bA r λL NN=>(Z NN<|bs (ij (q:(if Nat.ble f.natAbs bl=true then h (.cf f.toNat) else ae) H)) λE q=>?_);have E:=RC E;refine call_range_1 ?_;have T:IsRange (d.heap.push {cls:=.type "range",data:=.fields #[.int 0 d.toks,.int f L,.int 1<|d.toks+1]}) d.heap.objs.size 0 f 1 d.toks L (d.toks+1):=IsRange.new ..;refine wpAny_pyIter_range T (small_one #[] #[] (Int.le_of_lt (qP<|fp E #[]).1)<|(qP<|fp E #[]).2) ?_;have B:ao A a8 M H d M H {d with heap:=d.heap.push {cls:=.type "range",data:=.fields #[.int 0 d.toks,.int f L,.int 1<|d.toks+1]},toks:=d.toks+1+1}:=ao.h4 n.aH (λg o e=>P_ _ e)<|Z (Q2 ..)<|Q4 _;have l:=qp (d:=.cf f.toNat) B.aH (d.toks+1+1) (z:={cls:=.type "range_iterator",data:=.fields #[rawInt 0,rawInt<|Builtin.Range.rangeSize 0 f 1,rawInt 1]})<|.cf (Qp _)<|Z (Z (rangeSize_nat ..)<|Z (Int.sub_zero ..) rfl:Builtin.Range.rangeSize 0 f 1=(f.toNat:Int))<|Q' _ rfl;exact k _ _ _ _ _ q ((n.q B).q l.1) ⟨P9 (P9 n.cq B.cq) l.2.f_,l.2.bX,l.2.d0,l.2.eD,l.2.hj⟩|_=>exact False.elim q)|none=>replace b:=K▸b;exact O.dl R p b (λv H M d G n r q=>Kg u n.aH r q λJ NQ NP N a S B z=>k J NQ NP N a S (n.q B) ⟨P9 n.cq z.f_,z.bX,z.d0,z.eD,z.hj⟩) P
end
end R
namespace R
open PySem.W PySem.Calls PyProof.Rows
set_option tactic.hygienic true
theorem V.fZ{c:V}(b:c.r a=some o):c.Q a o=c:=by
 unfold V.Q;have:(λg=>if g=a then some o else c.r g)=c.r:=by funext g;split;rename_i e;refine Z e<|Z b ?_;rfl;rfl
 refine Z this ?_;rfl
theorem vb{e:d->Bool}{f:List d}{x:d}(b:x∈f)(g:e x=false):∃t r,f.dropWhile e=t::r:=by induction f with|nil=>exact(Rc b).elim|cons a f h=>refine Z List.dropWhile_cons ?_;split;rename_i c;(rcases RD.1 b with rfl|b);replace c:=g▸c;exact gz c;exact h b;exact g' a f rfl
theorem yh(o:Obj)(c:Array Value->Array Value):(o.mapFields c).dict=o.dict:=by obtain⟨a,g,b,d⟩:=o;cases b<;>rfl
def gX(A:Around)(j:Env):Prop:=∃b a,A.frames=some b/\j.frame=some a/\∃e∈b,e.frame=some a
section
theorem aC.Cp{b:Heap}:∀{f:List Env},(∀j∈f,j.scope.kind=.function/\∃c i,j.frame=some c/\aj.co.objs.size<=c/\b.Ns c i/\ec t c)->b.FunFrames aj.co f:=by intro s;induction s with|nil=>intro _;exact Qd|cons e r p=>intro h;refine aZ λw q=>?_;obtain⟨k,c,i,a,g,⟨o,v,u,l,m,_⟩,_⟩:=h e Qi;refine q<|b9 (by refine Z k ?_;decide) (jC c o a ?_ l (λvs d=>by replace d:=m▸d;cases d))<|p λj n=>h j<|Qs _ n;cases d:aj.co.get? c with|none=>rfl|some o=>exact absurd (Q5 d)<|R'.2 g
theorem Gz(b:¬gg A a):∃c,A.frames=some c/\∃j∈c,j.frame=some a:=by refine Classical.byContradiction λg=>b λc d j e f=>g ⟨c,d,j,e,f⟩
theorem ao.oX{A:Around}{n:ak}{p:V}{s:Shared}(R:aC A n p s.heap){S:List Addr}{r:Heap}(c:Heap.SlotsOnly S s.heap r)(t:∀g∈S,¬gg A g):ao A a8 n p s n p {s with heap:=r} where
 aH:=R.rW (λg=>¬gg A g) (λg o f e=>(c.2.1 g λi=>f<|t g i).trans e)
  (λg f=>by
   refine aZ λD C=>?_
   obtain⟨w,y,j,z,B⟩:=Gz f
   obtain⟨_,q,u,a,v,l,x⟩:=R.cH w y j z
   refine C ?_
   rw[B] at a;obtain rfl:=P0 a
   exact b9 v x (jZ.mL l))
  (P2 c.1.symm) (λq u _ _ h=>FT u<|pY.jZ.oX h λo d _=>c.2.2 q o d)
 m:=am [] (by simp) (by simp)
 S:=λa o _ _ _ _ d=>c.2.2 a o d
 er:=λa o h _ _ _ _ d=>(c.2.1 a λi=>t a i h).trans d
 cq:=P2 c.1.symm
 go:=rfl
 e7:=rfl
 gr:=λa k l b=>⟨l,b⟩
theorem ao.t0(R:aC A n p s.heap)(u:s.heap.get? T=some w)(C:w.cls=.type "traceback")(m:w.data=.fields i)(t:3<i.size)(z:ec n T)(B:aj.co.objs.size<=T)(l:Array Value->Array Value)(P:(l i).size=i.size):ao A a8 n p s n p {s with heap:=s.heap.update T<|Obj.mapFields l}:=by
 have h:=Qv s.heap T<|Obj.mapFields l;have S:∀j,¬s.heap.Ns T j:=λj U=>by obtain⟨o,y,x,e,v,_⟩:=U;rw[u] at e;obtain rfl:=P0 e;replace v:=m▸v;cases v
 have X:=R.m' (m:=p) (d:=s.heap.update T<|Obj.mapFields l) (λg=>g=T) [] (by simp) (by simp) (λg o c e=>(h.2 g c).trans e) (λg c=>Z c B) (P2 h.1.symm) (by simp) (λJ o d=>.inl ⟨d,λF D=>⟨λc=>(z F<|eB D).1 c.symm,λc=>(z F<|eB D).2 c.symm⟩⟩) (λL O W q M t=>cp W ((h.2 _ λc=>Qn _<|Ra (R.hk L O).1<|by exact Z c B).trans t) q M) (λH j _ _ _ f=>⟨j,by have Q:H≠T:=λc=>S j<|c▸f;exact jT f λo y x e r=>l0 o y x ((h.2 _ Q).trans e) r⟩) (λK q _=>by by_cases c:K=T;exact Z c<|jC _ (l i) (QD _ u<|Obj.isFreed_of_fields<|QO m _) ((Obj.cls_mapFields ..).trans C) (QO m _)<|Z P t;exact bZ q λo Y e r=>bq o Y ((h.2 _ c).trans e) r) λa k l b=>⟨l,b⟩;have E:∀a o,¬l' o->s.heap.get? a=some o->a≠T:=λa o f d c=>by subst c;rw[u] at d;obtain rfl:=P0 d;exact f ⟨C,i,m⟩
 exact⟨by simpa using X,am [] (by simp)<|by simp,λa o _ _ _ f d=>⟨o.slots,(h.2 a<|E a o f d).trans d⟩,λa o _ _ _ _ f d=>(h.2 a<|E a o f d).trans d,P2 h.1.symm,rfl,rfl,λa k l b=>⟨l,b⟩⟩
def kX(f:ak)(b:Heap)(e:Addr):Prop:=∃c vs T a d,b.get? e=some c/\c.data=.fields vs/\vs[1]?=some (.ref T)/\b.get? T=some a/\a.cls=.type "traceback"/\a.data=.fields d/\3<d.size/\ec f T/\aj.co.objs.size<=T
theorem xr(R:aC A d f s.heap)(M:d[B]?=some n)(t:f.r B=some (.bd k l))(S:gX A j)(NO:j.frame=some h)(b:∀T,ao A a8 d f s d f T->kX d T.heap n.1->Q () T):wpAny (model aI aj.x) A (do let a<-PySem.frameOf j;let p<-entryPlaceOf h g;let x<-EntryCells.newEntry head a .none (rawInt h) .none p;setField (.ref n.1) 1 x) Q i s:=by
 refine aZ λN8 Y=>?_;obtain⟨m,N9,v,NP,N',NY,NW⟩:=S;refine Y ?_;rw[NO] at NP;obtain rfl:=P0 NP;have X:∀x∈(m.dropWhile λx=>x.frame !=j.frame),x∈m:=λx P=>(List.dropWhile_sublist _).subset P;refine eU (vb NY (by refine Z NW<|Z NO ?_;simp):∃x r,(m.dropWhile λx=>x.frame !=j.frame)=x::r) λx r w=>?_;refine R_<|R_<|wpAny_frameEnvs v<|Z w<|R_<|R_<|wpAny_readyFrames_fun (aC.Cp λj NZ=>R.cH m v j<|X _<|w▸NZ) λc N6=>P7 ?_;have N4:∀g∈(x::r).filterMap (·.frame),¬gg A g:=λg NX=>by exact ah (List.mem_filterMap.1 NX) λe t N3=>λC=>C m v e (X _<|w▸t) N3
 have D:=ao.oX R N6 N4;obtain⟨F,P⟩:∃F,x.frame=some F:=by obtain⟨_,h,Oc,a,_⟩:=R.cH m v x<|X x<|w▸Qi;exact⟨h,a⟩
 refine Z P<|P7<|R_<|wpAny_entryPlaceOf λp N5=>?_;delta EntryCells.newEntry newFields;refine R_<|wpAny_newObj_type ?_<|N5.sizeOk5 _ _ _ _ _;dsimp only;generalize N7:([head,.ref F,.none,rawInt h,.none]++(if p.isEmpty then List.replicate 6 Value.none else p)).toArray=E;have NN:3<E.size:=by refine ad N7 ?_;simp only[List.size_toArray,List.length_append,List.length_cons,List.length_nil];exact an [] (.h (.e 3)<|.e 1) (.h (.h (.h (.h (.h (.h (.e 0)<|.e 1)<|.e 1)<|.e 1)<|.e 1)<|.e 1)<|.b 0) rfl [(if p.isEmpty=true then List.replicate 6 Value.none else p).length]
 generalize u:({cls:=.type "traceback",data:=.fields E}:Obj)=q;refine aZ λN8 Y=>?_;have W:ao A a8 d f {s with heap:=c} d f {s with heap:=c.push q,toks:=s.toks}:=ao.h4 D.aH (λg o e=>P_ _ e)<|Z (Q2 ..)<|Q4 _;obtain⟨C,NR,y,z,vs,U,NT,J,H,NU,N_,N⟩:=W.aH.cQ B _ t;refine Y ?_;rw[M] at NR;obtain rfl:=P0 NR;have K:ec d c.objs.size:=D.aH.bH<|P5 _;have NQ:aj.co.objs.size<=c.objs.size:=D.aH.d0;refine wpAny_setField U J (by refine Z H ?_;decide) ?_;have O:=Qv (c.push q) n.1<|Obj.mapFields (·.setIfInBounds 1 (.ref c.objs.size));have L:=QO J (·.setIfInBounds 1 (.ref c.objs.size));have I:=QD (Obj.mapFields (·.setIfInBounds 1 (.ref c.objs.size))) U<|Obj.isFreed_of_fields L;have G:=(O.2 _<|(K n<|eB M).1).trans<|Q' _ (by refine ad u ?_;rfl);have NS:(vs.setIfInBounds 1<|Value.ref c.objs.size)[1]?=some (.ref c.objs.size):=by simp[H]
 have bC:ao A a8 d f {s with heap:=c.push q} d (f.Q B<|.bd k l) {s with heap:=(c.push q).update n.1<|Obj.mapFields (·.setIfInBounds 1 (.ref c.objs.size)),toks:=s.toks}:=ao.ls W.aH M t (λg z NV _ e=>(O.2 g NV).trans e) (P2 O.1.symm) ⟨y,_,_,I,(Obj.cls_mapFields ..).trans NT,L,by simp[H],by refine Z (QY #[]) ?_;exact NU,.inr<|kc _ NS (jC q E G (by refine ad u ?_;rfl) (by refine ad (u ..) ?_;rfl) NN) K NQ,by cases l<;>(dsimp only at N⊢;exact Z (yh ..) N)⟩ (λOb Oa C=>by cases C;exact⟨l,rfl⟩);rw[V.fZ t] at bC;exact b _ ((D.q W).q bC) ⟨_,_,_,q,E,I,L,NS,G,by refine ad u ?_;rfl,by refine ad (u ..) ?_;rfl,NN,K,NQ⟩
theorem qe(R:aC A c g s.heap)(q:c[r]?=some t)(p:g.r r=some (.bd k l))(S:gX A j)(b:∀a,ao A a8 c g s c g a->kX c a.heap t.1->Q () a):wpAny (model aI aj.x) A (noteFrame (.ref t.1) j) Q i s:=by
 refine aZ λNR X=>?_;have L:=S;obtain⟨G,K,NN,o,I,NP,NO⟩:=L;obtain⟨NQ,D,y,z,vs,h,Y,m,U,J,n,N⟩:=R.cQ r _ p;refine X ?_;rw[q] at D;obtain rfl:=P0 D;unfold noteFrame;simp only[o];rcases n with n|⟨T,v,⟨P,u,d,H,e,f⟩,w,B⟩
 exact R_<|QL h m n<|Z (P4 #[])<|xr R q p S o b;refine R_<|QL h m v<|Z (P8 (rfl:(Value.ref T !=Value.none)=true)) ?_;obtain⟨C,O⟩:∃x,u[3]?=some x:=⟨u[3],by simp[f]⟩;refine R_<|QL d e O ?_;by_cases E:(C==rawInt K)=true;exact Z (P8 E)<|P7<|b _ (by exact ao.iH R s.toks) ⟨_,_,_,P,u,h,m,v,d,H,e,f,w,B⟩;refine Z (P4 E)<|R_<|wpAny_setField d e f ?_;have F:=ao.t0 R d H e f w B (·.setIfInBounds 3 .none) (by simp);exact xr F.aH q p S o λa W M=>b a (F.q W) M
theorem mb(R:aC A f r s.heap)(u:kX f s.heap e)(b:∀q,ao A a8 f r s f r q->kX f q.heap e->Q () q):wpAny (model aI aj.x) A (setFlight (.ref e) o) Q i s:=by refine aZ λz w=>?_;obtain⟨v,vs,T,x,y,h,c,j,d,k,a,g,m,n⟩:=u;refine w<|R_<|QL h c j<|Z (P8 (rfl:(Value.ref T !=Value.none)=true))<|wpAny_setField d a g<|b _ (ao.t0 R d k a g m n _<|by simp) ?_;have p:=QD (Obj.mapFields (·.setIfInBounds 3 (o.elim .none λl=>rawInt l))) d<|Obj.isFreed_of_fields<|QO a _;by_cases t:e=T;subst t;rw[h] at d;obtain rfl:=P0 d;replace a:=c▸a;cases a;refine⟨_,_,e,_,_,p,QO c _,Z (QY #[]) ?_,p,(Obj.cls_mapFields ..).trans k,QO c _,by simp[g],m,n⟩;exact j;exact⟨v,vs,T,_,_,((Qv s.heap T<|Obj.mapFields (·.setIfInBounds 3 (o.elim .none λl=>rawInt l))).2 e t).trans h,c,j,p,(Obj.cls_mapFields ..).trans k,QO a _,by simp[g],m,n⟩
theorem sC(R:aC A c d s.heap)(q:c[f]?=some a)(p:d.r f=some (.bd k l))(S:gX A j)(b:∀g,ao A a8 c d s c d g->i (.ref a.1) g):notedBy (model aI aj.x) A j (cameBackBy (model aI aj.x) A j i) (.ref a.1) s:=by refine qe R q p S λt h e=>?_;show cameBackBy (model aI aj.x) A j i (.ref a.1) t;exact yC (id e) λv vs T u x m n o _=>R_<|QL m n o<|Z (P4 (by simp:¬((Value.ref T==Value.none)=true)))<|mb h.aH e λw r _=>b _<|h.q r
end
abbrev al(j:Env):Addr->Prop:=(·=j.locals)
structure U(A:Around)(m:ak)(n:V)(s:Shared)(g:Scope)(j:Env)(h:ai->aa)(Q:Flow->Shared->Prop)(i:Value->Shared->Prop):Prop where
 f:∀d c b a,h (.f d) c->ao A (al j) m n s b c a->bB b g d j a.heap->Q .next a
 b0:∀v d c b a p,h (.b0 v d) c->ao A (al j) m n s b c a->bB b g d j a.heap->aw b v p->Q (.ret p) a
 bd:∀e k l d c b a o,h (.bd (.a e) d) c->c.r e=some (.bd k l)->b[e]?=some o->ao A (al j) m n s b c a->bB b g d j a.heap->i (.ref o.1) a
section
theorem U.aU(k:U A o q s m j h Q i)(g:ao A (al j) o q s p r n):U A p r n m j h Q i:=⟨λa f e c b d=>k.f a f e c b<|g.q d,λv a f e c z b d=>k.b0 v a f e c z b<|g.q d,λw x l a f e c y b t u d=>k.bd w x l a f e c y b t u<|g.q d⟩
theorem ao.gB{d:V}(g:ao A a8 b d s c e a):ao A (al j) b d s c e a:=g.b4 λ_ f=>f.elim
theorem U.hj{f:V}(k:U A c e s a j h Q i)(g:ao A a8 c e s d f b):U A d f b a j h Q i:=k.aU g.gB
theorem En(b:(o.casesOn false q1:Bool)=true):∃k l,o=some (.bd k l):=by induction o with|none=>exact gz b|some o=>induction o using af.casesOn with|bd k l=>exact⟨k,l,rfl⟩|_=>exact gz b
theorem I4(b:oT e d=true):∃c k l,e=.a c/\d.r c=some (.bd k l):=by induction e using Y.casesOn with|a c=>exact eU (En b) λk l f=>l0 c k l rfl f|_=>exact gz b
theorem U.nz(k:U A c g s d j h Q i)(m:bB c d a j s.heap):bc A a8 c g s aw (bb a h) i:=λe B z w C f r b=>by obtain⟨n,o⟩:=b;refine jT (I4 n) λt u l y p=>?_;subst y;exact ah r λv q x=>Z x<|k.bd t u l a B z w v o p q f.gB<|m.a7 f
theorem Iz(H:hV A s.heap)(b:PyProof.Rows.IsTup s.heap j fl)(r:∀d,Heap.ExtBut s.heap.objs.size s.heap d->s.heap.objs.size<=d.objs.size->Q fl.toList {s with heap:=d}):wpAny (model prog w) A (unpackItems (.ref j) fl.size none) Q i s:=by
 have l:j≠s.heap.objs.size:=ah b λo x _=>(Q6<|Q5 x);refine R_<|R_<|wpAny_specialOf b.typeIs slot_tuple_iter.lookup<|P7 ?_;skip;refine R_<|Qb<|iter_tuple b<|R_<|Qb<|draw_tuple l fl.size 0 _ _ (cp _ (Q' _ rfl) rfl rfl) (b.push _) (an [] (.h (.e 0)<|.b 0) (.b 0) rfl [fl.size]) λh v c=>?_;have t:List.take fl.size (List.drop 0 fl.toList)=fl.toList:=by exact Z Qq<|List.take_of_length_le<|P5 _
 refine Z t<|Z (P4<|by simp) ?_;have p:hV A h:=λy f=>by exact h' (H y f) λe m n E a g q=>Z E<|kN e m n rfl ((c.2 e<|Q6<|Q5 a).trans<|P_ _ a) g q
 refine R_<|Qb<|uz (s:={s with heap:=h}) p (λe m f K C=>?_) v ((b.push _).extBut c.extBut l) (by simp) λB u z=>?_;refine h' (H _ f) λF L n D a _ _=>?_;cases D;exact Q6 (Q5 a) C;exact P7<|r B (λg o k e=>u g o k<|c.extBut g o k<|P_ _ e)<|P9 (Z (c.1 ..)<|Z (Q2 ..)<|Q4 _:s.heap.objs.size<=h.objs.size) z
def KF(A:Around)(b:ak)(f:V)(s:Shared)(e:Scope)(j:Env)(h:ax->aa)(Q:Unit->Shared->Prop):Prop:=∀c d a,ao A (al j) b f s b d a->bB b e c j a.heap->h c d->Q () a
theorem Ei:∀{c:List Expr} {vs:List Y} {a:ax} {e:V} {s:Shared} {d:List Value},aC A g e s.heap->bB g f a j s.heap->aR (aw g) vs d->hl f c vs a h e->KF A g e s f j h Q->wpAny (model aI aj.x) A (assignInOrder ((assignEach c j).map (·.2)) d) Q i s:=by intro c;induction c with|nil=>intro vs a e s d R l m b k;(induction vs with|nil=>cases m.hX;exact P7 (k a e s (by exact ao.iH R s.toks) l b)|cons _ _=>exact False.elim b)|cons B c u=>intro vs a e s d R l m b k;induction B using PySem.Expr.casesOn with|Name x D=>(induction vs with|nil=>exact False.elim b|cons v vs=>refine c5 m.fV λC d E r w=>(Z E ?_);have b:f4 f a x v (λa=>hl f c vs a h) e:=b;exact(R_<|Qb<|wpAny_assign_Name<|kq R l r b λH L K n o t=>(u n.aH o w t λq F z y p=>k q F z (n.q y) p):wpAny _ _ (do holding d (assign (.Name x D) j C);assignInOrder ((assignEach c j).map (·.2)) d) _ _ _))|_=>exact False.elim b
theorem sm(b:f4 a d x v h i):∃e c,h e c:=by delta f4 at b;cases y:a.names.lookup x with|none=>rw[y] at b;exact b.elim|some g=>rw[y] at b;induction g with|«local»=>exact g' _ _ b|cell=>obtain⟨k,j,_,c,_,f⟩:=iY b;exact g' _ _ f|_=>exact b.elim
theorem BH:∀{c:List Expr} {vs:List Y} {d:ax} {e:V},hl f c vs d h e->c.length=vs.length/\(assignEach c j).length=c.length/\(assignEach c j).findIdx? (·.1)=none:=by intro c;induction c with|nil=>(intro vs d e b;induction vs with|nil=>exact b9 rfl rfl rfl|cons _ _=>exact False.elim b)|cons m c l=>intro vs d e b;induction m using PySem.Expr.casesOn with|Name x p=>(induction vs with|nil=>exact False.elim b|cons v vs=>refine aZ λq n=>(eU (sm<|show f4 f d x v (λd=>hl f c vs d h) e from b) λo r k=>eN (l k) λa g i=>n<|b9 (Q3 (·+1) a) (Q3 (·+1) g) (Z List.findIdx?_cons ?_:List.findIdx? (·.1) ((false,_)::assignEach c j)=none));exact Z i rfl)|_=>exact False.elim b
theorem ta(B:cy)(R:aC A f p s.heap)(C:bB f c l j s.heap)(L:aw f v y)(b:J (dz v) (λz=>iW z λm=>hl c d m l h) p)(k:KF A f p s c j h Q):wpAny (model aI aj.x) A (assign (.Tuple d W X) j y) Q i s:=by refine aZ λU n=>?_;obtain⟨o,_,⟨rfl,e⟩,a⟩:=b;obtain⟨I,q⟩:=eJ B R L e;refine n<|Z q.d1 ?_;induction o with|A m=>refine aZ λU n=>(ah q.c6 λvs F r=>?_);have a:hl c d m l h _:=a;refine eN (BH (j:=j) a) λM O P=>(n<|Z (arm_assign_Tuple ..)<|R_<|Qr ?_);unfold unpack;(have H:(assignEach d j).length=vs.toArray.size:=by refine Z O<|Z M<|Z r.d6 ?_;simp);refine Z H<|Z P<|R_<|Qb<|Iz R.cE (rf F) λE K t=>?_;have u:∀g z,s.heap.get? g=some z->E.get? g=some z:=λg z w=>K g z (Q6<|Q5 w) w;have x:=ao.h4 (i:=a8) (p:=s.toks) R u t;exact Ei x.aH (C.bn u t) r a λD N T S N2=>k D N T (x.gB.q S) N2|_=>exact False.elim a
theorem xp(n:cy)(R:aC A a e s.heap)(f:bB a c g j s.heap)(l:aw a v m)(b:jU c d v g h e)(k:KF A a e s c j h Q):wpAny (model aI aj.x) A (assign d j m) Q i s:=by induction d using PySem.Expr.casesOn with|Name x _=>exact wpAny_assign_Name (kq R f l b k)|Tuple o _ _=>exact ta n R f l b k|_=>exact False.elim b
theorem vh(y:gn x s.heap h C g)(f:aw x v p)(b:Q () s):wpAny (model aI aj.x) A (letOwnedTupleGo w (.ref h) p) Q i s:=by
  have main:wpAny (model aI aj.x) A (do
      let(.ref r,.ref a):=((Value.ref h,p):Value×Value)|return
      let o<-load r
      match o.cls,o.data with
      |.type n,.fields vs=>
        if["enumerate","zip","dict_itemiterator","dict_reverseitemiterator","odict_iterator","itertools.zip_longest","itertools.pairwise"].contains n&&vs[0]?==some (rawInt a) then
          rule "for.unpacks-the-owned-tuple"
          updateField r 0 .none
      |_,_=>pure ()) Q i s:=by
    have t:∀a o,s.heap.get? h=some o->(∃n vs,o.cls=.type n/\o.data=.fields vs/\["enumerate","zip","dict_itemiterator","dict_reverseitemiterator","odict_iterator","itertools.zip_longest","itertools.pairwise"].contains n=false)->p=.ref a->wpAny (model aI aj.x) A (do
      let(.ref r,.ref a):=((Value.ref h,p):Value×Value)|return
      let o<-load r
      match o.cls,o.data with
      |.type n,.fields vs=>
        if["enumerate","zip","dict_itemiterator","dict_reverseitemiterator","odict_iterator","itertools.zip_longest","itertools.pairwise"].contains n&&vs[0]?==some (rawInt a) then
          rule "for.unpacks-the-owned-tuple"
          updateField r 0 .none
      |_,_=>pure ()) Q i s:=by
      rintro a o e ⟨n,vs,j,k,z⟩ rfl
      refine R_ (wpAny_load e<|Z j<|Z k ?_)
      dsimp only
      exact Z z (P7 b)
    have cQ:∃o,s.heap.get? h=some o/\∃n vs,o.cls=.type n/\o.data=.fields vs/\["enumerate","zip","dict_itemiterator","dict_reverseitemiterator","odict_iterator","itertools.zip_longest","itertools.pairwise"].contains n=false:=by
      induction y with
      |d _ m=>obtain⟨o,e,j,k⟩:=m;exact⟨o,e,_,_,j,k,rfl⟩
      |A _ m=>obtain⟨o,e,j,k⟩:=m;exact⟨o,e,_,_,j,k,rfl⟩
      |cf _ m=>exact⟨_,m,_,_,rfl,rfl,rfl⟩
    refine ah cQ λo e u=>?_
    induction v with
    |B g q=>cases f;exact t _ o e u rfl
    |ay g=>cases f;exact t _ o e u rfl
    |cO g=>cases f;exact t _ o e u rfl
    |a a=>obtain⟨D,_,rfl⟩:=f;exact t _ o e u rfl
    |c g=>obtain⟨w,rfl⟩:=f;exact P7 b
    |l g=>obtain⟨w,rfl⟩:=f;exact P7 b
    |a' g=>obtain⟨_,rfl⟩:=f;exact P7 b
    |_=>cases f;exact P7 b
  induction w using PySem.Expr.casesOn with
  |Tuple _ _ _=>exact main
  |List _ _=>exact main
  |_=>exact P7 b
end
end R
namespace R
open PySem.W PySem.Calls PyProof.Rows
structure he(A:Around)(m u:I)(p:Bool)(e:Nat):Prop where
 Dh:∀{a d g j b c s Q i} {h:ai->aa},aC A b c s.heap->bB b a d j s.heap->gX A j->lm u m p e a d g h c->U A b c s a j h Q i->wpAny (model aI aj.x) A (PySem.exec g j) Q i s
 ib:∀{a d f j b c s Q i} {h:ai->aa},aC A b c s.heap->bB b a d j s.heap->gX A j->br u m p e a d f h c->U A b c s a j h Q i->wpAny (model aI aj.x) A (PySem.execs f j) Q i s
section
theorem gn.dm{A:Around}(k:ao A n m y s t z l)(q:fA m s.heap a)(x:gg A a)(w:¬n a)(b:gn m s.heap a r p):gn t l.heap a r p:=by have h:∀(T:String) (o:Obj),T≠"traceback"->o.cls=.type T->s.heap.get? a=some o->l.heap.get? a=some o:=λT o u c g=>k.er a o x q.bH q.ck w (λe=>by have e:=e.1;rw[c] at e;injection e with e;exact u e) g;induction b with|d j f=>obtain⟨o,g,c,i⟩:=f;exact .d (k.c_ j) (cp o (h _ o #[] c g) c i)|A j f=>obtain⟨o,g,c,i⟩:=f;exact .A (k.c_ j) (cp o (h _ o #[] c g) c i)|cf v f=>exact .cf v<|h "range_iterator" _ #[] rfl f
abbrev sL(j:Env)(a:Addr):Addr->Prop:=λx=>x=j.locals\/x=a
theorem ao.st{m:ak}(T:ao A (sL j a) l n s m o k)(b:s.heap.objs.size<=a):ao A (al j) l n s m o k:={T with S:=λg z e h i f d=>T.S g z e h (λc=>c.elim i λc=>Qn _<|Ra (Q5 d)<|c▸b) f d,er:=λg z p e h i f d=>T.er g z p e h (λc=>c.elim i λc=>Qn _<|Ra (Q5 d)<|c▸b) f d}
theorem xO(b:∀a g d,c≠.Set a g d):foldedSetIterable c j x=pure x:=by induction c using PySem.Expr.casesOn with|Set a g d=>exact(b a g d rfl).elim|_=>rfl
theorem uv(b:kb m (c+1) j f d h i k):∀a g e,d≠.Set a g e:=by rintro a g e rfl;cases c<;>exact(b:False)
abbrev ng(u m:I)(p:Bool)(c:Nat)(b:Scope)(d:Expr)(g:List Stmt):ax->Y->(RI.ai->aa)->aa:=λa x h=>jU b d x a λa=>br u m p c b a g h
inductive vc(A:Around)(k:ak)(l:V)(s:Shared)(i:Scope)(j:Env)(a:Addr)(d:bI)(e:ax->Y->(RI.ai->aa)->aa)(h:RI.ai->aa)(n:Nat)(b:Shared):Prop
 |mk (g:Nat) (f:ax) (c:ak) (m:V):ao A (sL j a) k l s c m b->bB c i f j b.heap->gn c b.heap a d g->fA c b.heap a->ci d e n g f h m->vc A k l s i j a d e h n b
inductive wi(A:Around)(e:ak)(g:V)(s:Shared)(d:Scope)(j:Env)(T:ax->(Bool->aa)->aa)(b:ax->(RI.ai->aa)->aa)(h:RI.ai->aa)(n:Nat)(a:Shared):Prop
 |mk (c:ax) (f:ak) (i:V):ao A (al j) e g s f i a->bB f d c j a.heap->iy T b n c h i->wi A e g s d j T b h n a
theorem IO{A:Around}{NN H:ak}{NO NP:V}{s D:Shared}{o:Scope}{d:ax}{j:Env}{Q:Flow->Shared->Prop}{i:Value->Shared->Prop}{m u:I}{p:Bool}{w:Nat}{h:RI.ai->aa}{E:Expr}{g:List Stmt}{a:Addr}{B:bI}{n:Nat}(NQ:cy)(N3:he A m u p w)(S:gX A j)(W:s.heap.objs.size<=a)(N6:aj.co.objs.size<=a)(Y:gg A a)(M:j.locals≠a)(C:ao A (sL j a) NN NO s H NP D)(L:bB H o d j D.heap)(T:gn H D.heap a B 0)(O:fA H D.heap a)(b:ci B (ng u m p w o E g) n 0 d h NP)(k:U A NN NO s o j h Q i):codeAny (model aI aj.x) A (.forLoop E (.ref a) g [] j) (λr N=>match r with|.ok l=>Q l N|.error e=>cameBackBy (model aI aj.x) A j i e N) D:=by refine codeAny_forLoop_any (vc A NN NO s o j a B (ng u m p w o E g) h) ?_ n ⟨0,d,H,NP,C,L,T,O,b⟩;rintro n N ⟨X,d,Ob,NZ,C,L,T,O,b⟩;induction n with|zero=>exact False.elim b|succ Z=>have b:J (dv B X) (pL (h<|.f d) λx=>ng u m p w o E g d x<|mZ (λd=>ci B (ng u m p w o E g) Z (X+1) d h) h) NZ:=b;refine u5 NQ C.aH O N6 Y T b (λx Oe NY R q NU NR=>?_) λNY R q=>?_;have N2:=L.dm q M;have NV:=q.bX O;refine vh NR NU<|xp NQ q.aH N2 NU R λOc Of Od bC N4 N5=>?_;have P:=(C.q<|q.b4 λx c=>.inr c).q<|bC.b4 λx c=>.inl c;have NW:=bC.bX NV;refine N3.ib P.aH N4 S N5 ⟨λy K F G z f t=>?_,λv y K F G Oa z f t N7=>?_,λN8 N9 l y K F G N_ z NS NT f t=>?_⟩;exact⟨Z,P' Z,X+1,y,F,K,P.q<|f.b4 λx c=>.inl c,t,(NR.dm bC NV Y λc=>M c.symm).dm f NW Y λc=>M c.symm,f.bX NW,z⟩;exact k.b0 v y K F G Oa z ((P.q<|f.b4 λx c=>.inl c).st W) t N7;exact sC f.aH NT NS S λN' NX=>(k.bd N8 N9 l y K F N' N_ z NS NT (((P.q<|f.b4 λx c=>.inl c).q<|NX.b4 λx c=>c.elim).st W)<|t.a7 NX);exact wpAny_execs_nil<|k.f d NZ Ob NY R ((C.q<|q.b4 λx c=>.inr c).st W)<|L.dm q M
theorem J'(q:cy)(y:∀k<c,d' A m k)(z:he A m u p c)(R:aC A l o s.heap)(e:bB l d f j s.heap)(S:gX A j)(b:kb m c d f r (λt=>ci t (ng u m p c d w g) aJ 0 f h) aB o)(k:U A l o s d j h Q i):wpAny (model aI aj.x) A (PySem.exec (.For w r g [] C) j) Q i s:=by induction c using Nat.casesOn with|zero=>exact False.elim b|succ c=>exact wpAny_For (rG q (y c<|P' c) R e b (λt H F E a B v n=>IO q z S n.f_ n.d0 n.eD (Q6<|Ra e.bX.f8 n.f_) (v.b4 λx D=>D.elim) (e.a7 v) n.hj n.bX B k) bc.aB) λx=>xO<|uv b
theorem HW{J:Pos}(O:d' A m d)(P:he A m u p d)(R:aC A t y s.heap)(B:bB t c a j s.heap)(S:gX A j)(b:iy (λa h=>h8 m d c a r h aB) (λa h=>br u m p d c a g h) aJ a h y)(k:U A t y s c j h Q i):wpAny (model aI aj.x) A (PySem.exec (.While r g [] J) j) Q i s:=by refine wpAny_While<|codeAny_whileLoop (wi A t y s c j (λa h=>h8 m d c a r h aB) (λa h=>br u m p d c a g h) h) ?_ _ ⟨a,t,y,by exact ao.iH R s.toks,B,b⟩;rintro n NS ⟨a,NT,NQ,L,B,b⟩;induction n using Nat.casesOn with|zero=>exact False.elim b|succ n=>have b:h8 m d c a r (λx=>if x then br u m p d c a g (mZ (λa=>iy (λa h=>h8 m d c a r h aB) (λa h=>br u m p d c a g h) n a h) h) else h<|.f a) aB NQ:=b;refine O.lB L.aH B b (λx NR NP N NO E W F=>?_) bc.aB;cases(W:x=NO);have C:=L.q E.gB;have N1:=B.a7 E;induction x with|false=>exact wpAny_execs_nil (k.f a NR NP N F C N1)|true=>refine P.ib E.aH N1 S F ⟨λo z w D q e f=>?_,λv o z w D NN q e f T=>?_,λX Z l o z w D Y q H K e f=>?_⟩;exact⟨n,P' n,o,w,z,C.q e,f,q⟩;exact k.b0 v o z w D NN q (C.q e) f T;exact sC e.aH K H S λG M=>k.bd X Z l o z w G Y q H K ((C.q e).q M.gB)<|f.a7 M
end
end R
namespace R
open PySem.W PySem.Calls PyProof.Rows
set_option tactic.hygienic true
section
theorem FS{o c:Expr}{d:Pos}{j:Env}{v:Value}:assign (.Subscript o c d) j v=(do
 let a<-holding [v] (PySem.eval o j)
 let b<-holding [v,a] (PySem.eval c j)
 standAt d
 holding [v,a,b] (setItem a b v)
 release (match c with|.Slice _ _ none _=>[b,v,a]|_=>[v,a,b]) []):=rfl
theorem MQ(b:j.scope.kind=.function):interactive j=false:=by unfold interactive;exact Z b rfl
theorem tJ(b:qJ a=false):swapsWith a c f j=pure false:=by cases a<;>first|rfl|cases b
theorem ao.oS(R:aC A a b s.heap):ao A c a b s a b s:=by exact ao.iH R s.toks
theorem U.rr(k:U A a d s c j h Q i):KF A a d s c j (λf=>h<|.f f) λ_=>Q .next:=λg n l m e b=>k.f g n a l b m e
theorem GF(B:cy)(q:d' A m D)(R:aC A p z s.heap)(d:bB p w g j s.heap)(n:aw p v f)(b:vV m D w y v g h z)(k:U A p z s w j h Q i):wpAny (model aI aj.x) A (assign y j f) (λ_=>Q .next) i s:=by induction y using PySem.Expr.casesOn with|Name x NU=>exact wpAny_assign_Name (kq (h:=λg=>h<|.f g) R d n b k.rr)|Attribute o x C=>have b:=b;refine bs (fs b) λL b=>?_;have e:assign (.Attribute o x C) j f=(do let l<-holding [f] (PySem.eval o j);standAt C.atName;holding [f,l]<|setAttr l x f;release [f,l] []):=rfl;exact Z e (R_<|Qb<|q.dl R d b (λl N X P M a r t=>R_<|Qr<|R_<|Qb<|sX B a.aH (by simpa using L) r (a.c_ n) t λT H F E W c _ u=>wpAny_release<|k.f g H F E u (a.q c).gB<|(d.a7 a).a7 c) bc.aB)|Subscript o NN NO=>exact Z FS (R_<|Qb<|q.dl R d b (λl N X P M a r t=>R_<|Qb<|q.dl a.aH (d.a7 a) t (λNP H F E NQ c O u=>R_<|Qr<|R_<|Qb<|u6 c.aH (c.c_ r) O (c.c_<|a.c_ n) u λT G J S W bC _ K=>wpAny_release<|k.f g G J S K ((a.q c).q bC).gB<|((d.a7 a).a7 c).a7 bC) bc.aB) bc.aB)|Tuple NT NR NS=>exact ta B R d n b k.rr|_=>exact False.elim b
theorem tH{l:b->Option e}{f:List b}{x:b}(a:x∈f)(c:l x=none):(f.filterMap l).length<f.length:=by induction f with|nil=>exact(Rc a).elim|cons t f d=>(rcases RD.1 a with rfl|a);exact Z List.filterMap_cons<|Z c<|Nat.lt_succ_of_le<|List.length_filterMap_le ..;have:=d a;refine Z List.filterMap_cons ?_;cases l t with|none=>exact Rb this|some g=>exact Nat.succ_lt_succ this
theorem wg[Decidable c](b:¬c->r=a):(if c then a else r)=a:=by by_cases d:c;exact P8 d;exact(P4 d).trans<|b d
theorem GR(f:sO d j)(b:sQ d a e=false):swappedStores [a] e j=pure none:=by induction a using PySem.Expr.casesOn with|List l h=>exact gU b|Tuple l k h=>(induction e using PySem.Expr.casesOn with|Tuple vs m n=>refine ah (List.any_eq_true.1<|(Bool.not_eq_false' _).mp (b:(!_)=false)) λa g c=>?_;(induction a using PySem.Expr.casesOn with|Name x o=>have c:=beq_iff_eq.mp<|show(d.names.lookup x==some .cell)=true from c;refine wg λ_=>wg λ_=>P8<|(Bool.or_eq_true _ _).mpr<|.inl<|bne_iff_ne.2<|Q6<|tH g ?_;refine(?_:(if(j.kindOf x==_&&_)=true then _ else none)=none);refine Z ((f x _ c).resolve_right λi=>by cases i.1) ?_;rfl|_=>cases c)|_=>rfl)|_=>rfl
end
end R
namespace R
open PySem.W PySem.Calls PyProof.Rows
section
theorem o5{au:List Value}(m:b.get? a=some (excClassObj w x a d h c n y au e j l p q r t u v))(g:Value):Looks M b (isSubtype (.ref a) g) ((Value.ref a::c).contains g):=by intro A Q i s k o;obtain⟨C,B,z,D,f⟩:=s;exact wpAny_isSubtype_exc (k _ _ m) o
theorem z6{au:List Value}(d:b.get? a=some (excClassObj r s a e g c k t au f h i l m n o p q))(j:c.contains (.type "BaseException")=true):Looks M b (isExcClass<|.ref a) true:=by refine((Looks.ld d).andThen .now).andThen ?_;have:=o5 (M:=M) d<|.type "BaseException";rw[QP,j,Bool.or_true] at this;exact this
theorem ug{au:List Value}(i:b.get? a=some (excClassObj q r a c f e j s au d g h k l m n o p)):Looks M b (typeOf<|.ref a) (.type "type"):=(Looks.ld i).andThen .now
theorem ps(d:b.get? a=some o)(c:o.cls=v):Looks M b (typeOf<|.ref a) v:=by subst c;exact(Looks.ld d).andThen .now
end
section
theorem Fx(D:cy)(r:A.handled=none)(b:wpAny (model aI aj.x) A x (λv s=>∃(c:ak) (d:V) (h k:Nat) (l:Option Nat) (a:Addr×Addr),v=.ref a.1/\aC A c d s.heap/\c[h]?=some a/\d.r h=some (.bd k l)/\∀C,ao A a8 c d s c d C->i (.ref a.1) C) i s):wpAny (model aI aj.x) A (raiseStmt j (some x) none) Q i s:=by
 refine R_<|QC b (λv o S=>aZ λNN p=>?_) λ_ _ e=>e;obtain⟨c,d,h,k,l,a,rfl,R,P,O,q⟩:=S;obtain⟨X,u,y,z,vs,f,E,m,NP,NQ,n,NR⟩:=R.cQ h _ O;refine p ?_;rw[P] at u;obtain rfl:=P0 u;refine aZ λNN p=>?_;obtain⟨N6,X,NO,NU,NT,NX,N7,au,NS,NV,NW,NY,NZ,N3,N4,N5,g,L,_⟩:=D.kz k y.2;refine p ?_;have g:=R.bn _ _ g;have B:Looks (model aI aj.x) o.heap (typeOf<|.ref a.1) (.ref<|cb.ay k):=ps f E;have t:Looks (model aI aj.x) o.heap (isType<|.ref a.1) false:=by exact(Looks.ld f).andThen<|Z m .now
 have w:=o5 (M:=model aI aj.x) g<|.type "BaseException";rw[QP,L,Bool.or_true] at w;refine R_<|P7<|R_<|Qb ?_;delta excFromValue isExcClass;refine R_<|R_<|t.here<|Z (P4 Qt)<|P7<|Z (P4 Qt)<|R_<|R_<|B.here<|w.here<|Z (P8 rfl)<|P7<|R_<|t.here<|Z (P4 Qt)<|R_<|R_<|B.here<|R_<|(ug g).here<|Z (P8<|rfl)<|P7 ?_;rcases n with n|⟨T,F,⟨W,G,U,J,N,I⟩,H,K⟩
 unfold setFlight;exact R_<|R_<|QL f m n<|Z (P4 #[])<|P7<|wpAny_raiseNew_none r<|q _ (by exact ao.iH R o.toks);exact R_<|mb R ⟨_,_,T,W,G,f,m,F,U,J,N,I,H,K⟩ λN8 Y _=>wpAny_raiseNew_none r<|q _ Y
end
section
theorem IQ(j:cy)(R:aC A a c s.heap)(r:aw a v g)(y:aw a k f)(b:J (nm v k) h c)(u:bc A l a c s aw h Q):wpAny (model aI aj.x) A (getItem g f) Q i s:=by refine aZ λF z=>?_;obtain⟨w,_,⟨rfl,t,B,e,x⟩,m⟩:=b;obtain⟨D,d⟩:=eJ j R r e;exact ah d.c6 λC p q=>z<|Z d.d1<|ah (oI q x) λE n o=>wpAny_getItem_of (j6 t y) p.mapOf n<|u.b0 R m o _
theorem IU{K:Scope}(T:cy)(x:d' A m z)(R:aC A L M s.heap)(q:bB L K B j s.heap)(b:lm u m p (z+1) K B (.AugAssign (.Subscript o v D) E e F) h M)(k:U A L M s K j h Q i):wpAny (model aI aj.x) A (PySem.exec (.AugAssign (.Subscript o v D) E e F) j) Q i s:=by
 have b:=b;have N:(∀c w y,augStore v c w y=(do holding [y,c,w] (setItem c w y);release [y,c,w] [];pure .next))->wpAny (model aI aj.x) A (PySem.exec (.AugAssign (.Subscript o v D) E e F) j) Q i s:=λO=>by exact wpAny_AugAssign_SubscriptAny (x.dl R q b (λc NT NR NP G f H C=>x.dl f.aH (q.a7 f) C (λw Og Oc N7 NX n P J=>IQ T n.aH (n.c_ H) P J λa Od N' N4 NV d r W=>x.dl d.aH (((q.a7 f).a7 n).a7 d) W (λg Oe Oa N5 NW l NN X=>rK (l:=a8) l.aH (l.c_ r) NN X λt Of Ob N6 N_ bC NO Z=>u6 (M:=a8) bC.aH (bC.c_<|l.c_<|d.c_<|n.c_ H) (bC.c_<|l.c_<|d.c_ P) NO Z λN8 NU NS NQ N9 S _ Y=>k.f B NU NS NQ Y (((((f.q n).q d).q l).q bC).q S).gB<|(((((q.a7 f).a7 n).a7 d).a7 l).a7 bC).a7 S) bc.aB) bc.aB) bc.aB) O
 induction v using PySem.Expr.casesOn with|Slice NY O N3 NZ=>refine R_<|Qr<|R_<|x.dl R q b (λc NT NR NP G f H C=>?_) bc.aB;cases z<;>exact False.elim C|_=>exact N λ_ _ _=>rfl
end
end R
noncomputable def V.b8(b:V)(a:Pos):V:={b with L:=(a.line,a.col)::b.L}
namespace R
open PySem.W PySem.Calls PyProof.Rows
set_option tactic.hygienic true
theorem Gv(t:aR (fa n) g.dg j.cells):∀{l:List (Str×NameKind)} {d:List (Str×Nat)} {f:List (Str×Addr)} {h:List (Str×Nat)},aR (fa n) d f->py g l d=some h->∃i,aR (fa n) h i/\(forIn l f λ(x:Str×NameKind) (cs:List (Str×Addr))=>if(x.2==.free)=true then(do let a<-cellOf j x.1;pure<|ForInStep.yield<|(x.1,a)::cs) else pure<|ForInStep.yield cs:Sem (List<|Str×Addr))=pure i:=by intro l;induction l with|nil=>intro d f h k e;obtain rfl:=P0 e;exact am f k rfl|cons b r o=>intro d f h k e;have e:(if(b.2==.free)=true then(Option.casesOn (g.dg.lookup b.1) Option.none λc=>py g r<|(b.1,c)::d:Option (List<|Str×Nat)) else py g r d)=some h:=e;refine Z (List.forIn_cons ..) ?_;by_cases y:(b.2==NameKind.free)=true;rw[P8 y] at e⊢;(cases m:g.dg.lookup b.1 with|none=>rw[m] at e;exact bm e|some w=>rw[m] at e;refine aZ λA z=>(ah (aR.xA t m) λp v u=>ah (o (d:=(b.1,w)::d) (f:=(b.1,p.1)::f) (.aY ⟨rfl,p,v,rfl⟩ k) e) λi q s=>z<|am i q ?_);unfold cellOf;exact Z u s);rw[P4 y] at e⊢;exact o k e
theorem wu(k:aR (fa g) f.dg j.cells)(e:jz c f=some d):∃b,aR (fa g) d b/\closureFor c j=pure b:=by refine ah (Gv k (f:=[]) .aP e) λb h i=>(am b h ?_);have l:closureFor c j=((forIn c.names [] λ(x:Str×NameKind) (cs:List (Str×Addr))=>if(x.2==.free)=true then(do let a<-cellOf j x.1;pure<|ForInStep.yield<|(x.1,a)::cs) else pure<|ForInStep.yield cs:Sem (List<|Str×Addr))>>=λcs=>pure cs):=rfl;exact Z l<|Z i rfl
theorem I6(f:List Value)(b:TriplesOk f)(c:codeAmong d f=none)(i:(d.line,d.col)≠(a,g)):codeAmong d (f++[rawInt a,rawInt g,x])=none:=by fun_induction TriplesOk f with|case1=>dsimp only[List.nil_append,codeAmong,rawInt];rw[P4];intro e;apply i;simp only[Bool.and_eq_true,beq_iff_eq,Int.natCast_inj,Prod.mk.injEq] at e⊢;exact⟨e.1.symm,e.2.symm⟩|case2 k p l q t o j=>dsimp only[List.cons_append,codeAmong] at c⊢;split at c;exact h2 c;rename_i h;exact Z (P4 h) (j b c)|case3 f m n=>exact b.elim
section
theorem ao.tA{d:Addr×Addr}{m:Pos}(R:aC A x i s.heap)(z:d∈f0)(H:s.heap.get? d.2=some (tabObj v))(I:TriplesOk v.toList)(N5:∀m:Pos,(m.line,m.col)∉i.L->codeAmong m v.toList=none)(N':Heap.ExtBut d.2 s.heap c)(C:s.heap.objs.size<=c.objs.size)(Y:s.heap.objs.size<=h)(N4:h<c.objs.size)(lw:c.CodeRec (.ref h) qual)(N_:c.get? d.2=some (tabObj<|v++#[rawInt m.line,rawInt m.col,.ref h]))(NY:j.cls=.type "function")(X:j.data=.func ⟨name,qual,D,n.kj,n.eg,mainGlobals,E,.none,.none,Q,NO,none,.ref h,P,builtinsNs⟩)(N6:kn D=true)(N7:n.ka=D.args.map (·.arg))(NW:aR (fa x) p E):ao A a8 x i s (x++[(c.objs.size,h)]) ((i.b8 m).z<|.cl n p) {s with heap:=c.push j,toks:=Oh}/\aw (x++[(c.objs.size,h)]) (.a i.f) (.ref c.objs.size):=by
 have NZ:j.isFreed=false:=by obtain⟨a,g,Ok,e⟩:=j;subst X;rfl
 have u:∀g o,g≠d.2->s.heap.get? g=some o->(c.push j).get? g=some o:=λg o K e=>P_ _<|N' g o K e;have Oa:∀w,¬s.heap.Ns d.2 w:=λw ⟨o,W,S,e,NX,_⟩=>by rw[H] at e;obtain rfl:=P0 e;cases NX
 have J:∀g,aj.co.objs.size<=g->g≠d.2:=λg K=>(kO K (R.hk d z).1).symm;have N9:(c.push j).CodeRec (.ref h) qual:=by exact mn lw λNR Oc vs Oj Og NT NU=>mx NR Oc vs Oj Og (P_ _ NT) NU
 have G:∀a k l,i.r a=some (.bd k l)->((i.b8 m).z<|.cl n p).r a=some (.bd k l):=λa k l b=>by refine(?_:(if a=i.f then some (af.cl n p) else i.r a)=_);rw[P4 λf=>?_];exact b;subst f;refine ah (R.cQ _ _ b) λr N8 _=>?_;exact(ff (P1.1 N8).1 R.cq.symm).elim
 have aH:=R.tk (C:=(i.b8 m).z<|.cl n p) (r:=c.push j) (·=d.2) [(c.objs.size,h)] (by simp) (by simp only[List.mem_singleton,forall_eq];exact iN C Y (by exact(Z (Q2 ..)<|P' _:c.objs.size<(c.push j).objs.size)) (by show h<(c.push j).objs.size;exact Z (Q2 ..)<|Rb N4)) u (λg f=>Z f<|(R.hk d z).2.1) (Z (Q2 ..)<|eP C) (by simp[V.z,V.b8]) (λM o q=>by have B:(if M=i.f then some (af.cl n p) else i.r M)=some o:=q;clear q;by_cases f:M=i.f;rw[P8 f] at B;refine Z f ?_;obtain rfl:=P0 B;refine .inr ⟨(c.objs.size,h),by refine ad R.cq ?_;simp,j,name,qual,D,Q,NO,none,P,E,Q' c NZ,NY,X,N6,N7,N9,NW.bD λ_ _=>fa.cj _⟩;rw[P4 f] at B;exact .inl ⟨B,λNN N=>⟨J _ (R.al NN<|eB N).1,J _ (R.al NN<|eB N).2.1⟩⟩) (λNS Ol Od F NV y=>by by_cases f:NS.2=d.2;rw[f] at y⊢;rw[H] at y;refine Z y<|cp _ (P_ _ N_) (by simpa using TriplesOk_snoc m.line m.col (.ref h) v.toList I) λO t=>?_;simp only[V.z,V.b8,List.mem_cons,not_or] at t;simpa using I6 v.toList I (N5 O t.2) t.1;refine cp Od (u _ _ f y) F λO t=>NV O ?_;simp only[V.z,V.b8,List.mem_cons,not_or] at t;exact t.2) (λNQ w _ _ _ U=>⟨w,by have N3:NQ≠d.2:=λf=>Oa w<|f▸U;exact jT U λo W S e r=>l0 o W S (u _ _ N3 e) r⟩) (λT F _=>by refine hU F λOb Oi e NP Oe Of=>(jC Ob Oi (u _ _ (λf=>?_) e) NP Oe Of);subst f;rw[H] at e;obtain rfl:=P0 e;cases NP) λa k l b=>⟨l,G a k l b⟩;refine⟨⟨aH,am _ rfl (by simp[C,Y]),λa o _ L _ _ q=>⟨o.slots,u a o (L d z) q⟩,λa o _ _ L _ _ q=>u a o (L d z) q,by refine(Z (Q2 ..) ?_:s.heap.objs.size<=(c.push j).objs.size);exact eP C,rfl,rfl,λa k l b=>?_⟩,am (c.objs.size,h) (by refine ad R.cq ?_;simp) rfl⟩;exact⟨l,G a k l b⟩
theorem sf(b:kn a=true):a.posonlyargs=[]/\a.vararg=none/\a.kwonlyargs=[]/\a.kw_defaults=[]/\a.kwarg=none/\a.defaults=[]/\∀x∈a.args,x.annotation=none:=by unfold kn at b;simp only[Bool.and_eq_true,List.isEmpty_iff,Option.isNone_iff_eq_none,List.all_eq_true] at b;refine aZ λl k=>?_;obtain⟨⟨⟨⟨⟨⟨c,d⟩,e⟩,f⟩,g⟩,h⟩,i⟩:=b;exact k ⟨c,d,e,f,g,h,λx j=>by exact i x j⟩
theorem Ir:∀{f:List Arg},(∀x∈f,x.annotation=none)->annotationsOf f j=[]:=by intro d;induction d with|nil=>intro _;exact rfl|cons e r c=>intro b;obtain⟨n,g,h⟩:=e;have:=b _ Qi;dsimp only at this;exact Z this (c λx a=>b x<|Qs _ a:annotationsOf r j=[])
theorem xD{s:Shared}(d:cy)(R:aC A i p s.heap)(l:bB i F f j s.heap)(B:jz n f=some m)(D:f.ck=some k):∃a c b,a∈f0/\j.code=.ref a.1/\aR (fa i) m c/\closureFor n j=pure c/\CodeHd s.heap a.1 a.2/\s.heap.BuiltinsAt aj.hn a.2/\mainGlobals≠a.2/\s.heap.Ns mainGlobals aj.hn/\s.heap.get? a.2=some (tabObj b)/\TriplesOk b.toList/\∀h:Pos,(h.line,h.col)∉p.L->codeAmong h b.toList=none:=by refine aZ λK H=>(ah (l.ck k D) λa q r=>?_);have g:=PW q;refine ah (wu l.k8 B) λc t u=>(bs (d.wS a g) λv w=>?_);obtain⟨_,C,b,x,y,z⟩:=R.hk a g;refine H ⟨a,c,b,g,r,t,u,v.keeps R.bn,w.keeps R.bn,λE=>jT d.fS λo _ _ e _=>?_,d.fS.keeps R.bn,x,y,z⟩;rw[E,C] at e;exact bm e
theorem xQ(b:hd a.line a.col e l f h c):(a.line,a.col)∉c.L/\e=false/\h (.a c.f) ((c.b8 a).z<|.cl l f):=by unfold hd at b;split at b;exact b.elim;rename_i d;simp only[Bool.or_eq_true,not_or,Bool.not_eq_true] at d;refine aZ λk j=>?_;obtain⟨_,_,⟨rfl,rfl⟩,g⟩:=b;exact j<|b9 (λi=>(by have:=Ql.2 i;rw[d.1] at this;exact gz this)) d.2 g
theorem vK{d:List (Str×Nat)->aa}(b:(Option.casesOn (jz f c) ae λa=>Option.casesOn c.ck ae λ_=>d a:aa) e):∃a k,jz f c=some a/\c.ck=some k/\d a e:=by cases g:jz f c with|none=>rw[g] at b;exact b.elim|some a=>cases h:c.ck with|none=>rw[g] at b;replace b:=h▸(show(Option.casesOn c.ck ae λ_=>d a:aa) e from b);exact b.elim|some k=>rw[g] at b;replace b:=h▸(show(Option.casesOn c.ck ae λ_=>d a:aa) e from b);exact eb a k rfl rfl b
theorem MO{bind:Str}(O:cy)(R:aC A t v s.heap)(f:bB t r w j s.heap)(b:lm u m p (X+1) r w (.FunctionDef x a g [] none [] c none bind n) h v)(k:U A t v s r j h Q i):wpAny (model aI aj.x) A (PySem.exec (.FunctionDef x a g [] none [] c none bind n) j) Q i s:=by
 refine c5 (vK b) λN7 Oa NV y b=>(eN (xQ b) λNX l N=>?_);obtain⟨l,d⟩:=Bool.or_eq_false_iff.1 l;obtain rfl:x=bind:=by simpa using l
 have d:kn a=true:=by simpa using d
 obtain⟨N8,T,Oe,NW,NN,NO,NP,NQ,NR,NS,NT,C,z,B⟩:=xD O R f NV y;refine tx (sf d) λF H K o L q M=>?_;have NU:annTrees a none j=[]:=by obtain⟨Od,P,Of,Ob,N',Oc,N9⟩:=a;dsimp only at F H K o L q M;subst F H K o L q;refine(?_:annotationsOf (P++[]++[]++[]++[]) j++[]=[]);simp only[List.append_nil];exact Ir M
 refine Z (exec_def ..)<|Z (defaultsOf_eq ..)<|Z (o ..)<|Z (q ..)<|Z (NU ..)<|R_<|Qr<|R_<|R_<|P7<|R_<|P7<|R_<|P7<|makeFunction_K NP f.nZ NT NN NQ C z (B n NX) NS NR λS W Y N_ N5 NZ D E lw NY=>?_;have e:=ao.tA (Oh:=N5) (n:=kS a (.stmts g) c) R NW C z B NZ (Nat.le_of_lt<|Nat.lt_of_le_of_lt D E) D E lw NY (j:=fnMade x (qualnameIn j x x) a g c T Y ((aj.hn "__name__").getD .none) S W) rfl rfl d rfl NO;exact R_<|Qr<|R_<|wpAny_bindName<|kq e.1.aH (f.a7 e.1) e.2 N λJ N6 N4 N3 N2 G=>P7<|k.f J N6 _ N4 G (e.1.gB.q N3) N2
end
section
theorem aC.b8(R:aC A d e b)(h:d[a]?=some c)(f:e.r a=some (.bd k l)):aC (A.mark<|some<|.ref c.1) d e b:={R with dU:=λi g=>by obtain rfl:=P0 g;exact mx a k l c rfl h f}
theorem ao.xP{A:Around}{e:Addr->Prop}{c g:ak}{d h:V}{s f:Shared}{b:Value}(T:ao (A.mark<|some b) e c d s g h f)(R:aC A c d s.heap):ao A e c d s g h f where
 aH:={T.aH with
  cH:=T.aH.cH
  dU:=λb q=>by
   exact mn (R.dU b q) λa k l r j n o=>(bA (T.gr a k l o) λi p=>(mx a k i r j (T.r n) p))}
 m:=T.m
 S:=T.S
 er:=T.er
 cq:=T.cq
 go:=T.go
 e7:=T.e7
 gr:=T.gr
theorem aw.ru(b:aw c v a)(e:n5 v=true):∃k,v=.ay k/\ba.dV k=true/\a=.ref (cb.ay k):=by induction v with|ay k=>exact cp k rfl e b|_=>cases e
theorem vP(h:cy)(R:aC A f v s.heap):∀{e:List Y} {vs:List Value},aR (aw f) e vs->e.all n5=true->∀{Q:PUnit->Shared->Prop},Q ⟨⟩ s->wpAny (model aI aj.x) c (forIn vs PUnit.unit λl x=>do let j<-isExcClass l;if(!j)=true then do rule "try.except-non-exception-class";raiseErrorWords "TypeError" "catching classes that do not inherit from BaseException is not allowed";pure (ForInStep.yield PUnit.unit) else pure<|ForInStep.yield PUnit.unit) Q i s:=by intro _ _ q;induction q with|aP=>intro _ Q b;exact P7 b|@aY a g _ _ r W o=>intro d Q b;rw[List.all_cons,Qm] at d;refine aZ λX p=>(cM (r.ru d.1) λk t y u=>Z t ?_);subst u;obtain⟨P,S,w,C,B,F,T,au,z,D,E,H,K,L,M,O,m,n,_⟩:=h.kz k y;exact p<|Z (List.forIn_cons ..)<|R_<|R_<|(z6 (R.bn _ _ m) n).here<|Z (P4 #[])<|P7<|o d.2 b
theorem wF(j:cy)(R:aC A h B s.heap)(y:ba.dV k=true):∀{e:List Y} {vs:List Value},aR (aw h) e vs->e.all n5=true->∀{Q:(Option Bool×Unit)->Shared->Prop},Q (if e.any (nS k) then(some true,()) else(none,())) s->wpAny (model aI aj.x) c (forIn vs ((none,()):Option Bool×Unit) λm D=>do let l<-isSubtype (.ref<|cb.ay k) m;if l=true then pure (ForInStep.done (some true,())) else pure<|ForInStep.yield (none,())) Q i s:=by intro _ _ w;induction w with|aP=>intro _ Q b;exact P7 b|@aY a g _ _ r N u=>intro d Q b;rw[List.all_cons,Qm] at d;refine aZ λI v=>(cM (r.ru d.1) λq x o z=>?_);subst x;subst z;obtain⟨U,f,C,H,F,O,J,au,E,K,L,P,S,T,W,X,n,M,_,_,_,t⟩:=j.kz k y;refine v<|Z (List.forIn_cons ..)<|R_<|R_<|(o5 (R.bn _ _ n) _).here<|Z (t q o) ?_;rw[List.any_cons] at b;have p:nS k (.ay q)=ba.au k q:=rfl;rw[p] at b;cases f:ba.au k q with|true=>rw[f] at b;exact P7 (P7 b)|false=>rw[f] at b;exact P7<|u d.2 b
theorem Gr(d:cy)(R:aC A p t s.heap)(x:p[n]?=some o)(w:t.r n=some (.bd k l))(h:aR (aw p) j vs)(f:mY k j=some g)(C:(vs=[spec]/\Looks (model aI aj.x) s.heap (isInstance spec<|.type "tuple") false)\/(Looks (model aI aj.x) s.heap (isInstance spec<|.type "tuple") true/\Looks (model aI aj.x) s.heap (seqItems? spec) (some vs.toArray)))(b:Q g s):wpAny (model aI aj.x) c (excMatches (.ref o.1) spec) Q i s:=by
 unfold mY at f;split at f;rename_i e;obtain rfl:=P0 f;refine aZ λO D=>?_;obtain⟨a,q,y,z,M,u,v,E,F,H,K,L⟩:=R.cQ n _ w;refine D ?_;rw[x] at q;obtain rfl:=P0 q;have r:Looks (model aI aj.x) s.heap (typeOf<|.ref o.1) (.ref<|cb.ay k):=ps u v;rcases C with⟨rfl,m⟩|⟨m,B⟩
 refine R_<|m.here<|Z (P4 Qt)<|R_<|P7<|R_<|vP d R h e<|R_<|r.here<|R_<|wF d R y.2 h e ?_;cases a:j.any (nS k) with|true=>rw[a] at b;exact P7 b|false=>rw[a] at b;exact P7 b
 refine R_<|m.here<|Z (P8 rfl)<|R_<|B.here<|R_<|P7 ?_;skip;refine R_<|vP d R h e<|R_<|r.here<|R_<|wF d R y.2 h e ?_;cases a:j.any (nS k) with|true=>rw[a] at b;exact P7 b|false=>rw[a] at b;exact P7 b
 exact bm f
theorem wR(b:g9 d a x h e):(x==("__debug__":Str))=false:=by cases c:(x==("__debug__":Str)) with|false=>rfl|true=>unfold g9 at b;rw[P8<|by simp[c]] at b;exact b.elim
theorem Ft(m:cy)(R:aC A d e s.heap)(n:bB d l f j s.heap)(g:Pos):∀{a:List Expr} {h:List Y->aa} {Q:List Value->Shared->Prop},qq l f a h e->(∀c vs,aR (aw d) c vs->h c e->Q vs s)->wpAny (model aI aj.x) A (spliced<|backTo g<|starEach a j) Q i s:=by intro a;induction a with|nil=>intro h Q b k;exact spliced_nil (k [] [] .aP b)|cons u a t=>intro h Q b k;induction u using PySem.Expr.casesOn with|Name x y=>have b:=b;exact(spliced_cons<|wpAny_Name (nV m R n b λv w q o=>t o λc vs r p=>k (v::c) (w::vs) (.aY q r) p)<|wR b:wpAny _ _ (spliced<|(false,PySem.eval (.Name x y) j)::backTo g (starEach a j)) _ _ _)|_=>exact False.elim b
end
end R
namespace R
open PySem.W PySem.Calls PyProof.Rows
theorem KV:findCls [] (.type "Exception") (.type "type") ("__init__":Str)=some (.val<|.builtin "Exception.__init__"):=∅
section
theorem y7(b:Q (.builtin "Exception.__init__",[]) {s with toks:=s.toks+1}):wpAny (model prog w) A (getMethod (.type "Exception") ("__init__":Str) l) Q i s:=by
 have c:Frag.In [] s.heap:=λa o e=>bm e;have k:typeOf (.type "Exception")=pure (.type "type"):=∅
 have h:Manifest.isStub "Exception"=false:=by decide+kernel
 have j:opaqueClassAbove (.type "Exception")=pure none:=by unfold opaqueClassAbove;refine Z h ?_;rfl
 have f:Looks (model prog w) s.heap (typeOf<|.type "Exception") (.type "type"):=Looks.of_pure k;have g:=type_tga;delta getMethod specialOf;refine R_<|R_<|f.here<|(looks_findIn c g).here ?_;dsimp only;refine Z (P8 canon_tga)<|R_<|QC ?_ (λ_ _ d=>P7 d) λ_ _ d=>d;refine cls_open c (Looks.of_pure j) f g (looks_hook c<|by rfl) (by show subIn [] _ _=_;rfl) KV<|P7 (by refine(?_:wpAny _ _ (handedOut _) _ _ _);exact Z (handedOut_of<|by decide+kernel)<|P7 b)
theorem Ef{au:List Value}{K:Option Value}(l:b.get? c=some (excClassObj P R c q s h z S au r t u D E H K L O))(B:b.get? e=some m)(y:m.cls=.ref c)(v:h.contains (.type "Exception")=true)(C:Q () ⟨b,k,j,p,f⟩):wpAny M A (checkBuiltinCall "Exception.__init__" ⟨.ref e::o,[]⟩) Q i ⟨b,k,j,p,f⟩:=by
 have d:=PySem.F.excBase_Exception;have w:(Value.ref c::h).contains (.type "Exception")=true:=by refine Z (QP ..)<|Z (v ..)<|Z (Bool.or_true ..) ?_;rfl
 simp only[checkBuiltinCall,d.initKind,d.initSplit,d.initRow];repeat (first|(with_reducible refine QK B ?_;refine Z y ?_)|with_reducible refine QK l ?_|(with_reducible refine wpAny_isSubtype_exc l ?_;refine Z w ?_)|wp_step)
 refine wpAny_onRaise ?_;rw[show∀(a g:String) (n:Nat),Bind.check ⟨.positional,"*","Exception",.self,[⟨"args",.varPos,false⟩]⟩ a g n (List.map (λx=>x.fst) ({pos:=Value.ref e::o}:Args).kw)=pure () from λa g n=>check_star_args _ _ _ _ _ _];exact P7 C
theorem Bp{K:Str}{au:List Value}(q:s.heap.get? a=some (excClassObj H K a l n f u L au m o p v y B C D E))(r:f.contains (.type "Exception")=true)(j:s.heap.get? e=some z)(t:z.cls=.ref a)(h:z.data=.fields vs)(g:vs[0]?=some c)(b:Q .none {s with heap:=(s.heap.push {cls:=.type "tuple",data:=.seq ([x]:List Value).toArray}).update e<|Obj.mapFields (·.setIfInBounds 0 (.ref s.heap.objs.size))}):wpAny (model prog w) A (call (.builtin "Exception.__init__") [.ref e,x]) Q i s:=by have d:=PySem.F.excBase_Exception;refine wpAny_call<|codeAny_call_builtin d.init.plain d.initEntry<|Ef q j t r ?_;unfold Builtin.«BaseException.__init__»;dsimp only;refine Z (P4<|by simp) ?_;delta newTuple Builtin.BaseException.bexcPut;have k:=P_ {cls:=.type "tuple",data:=.seq ([x]:List Value).toArray} j;refine R_<|wpAny_newObj_type (R_<|R_<|QL k h g<|R_<|wpAny_setField k h ((Array.getElem?_eq_some_iff.1 g).1) ?_) (by size_fits);cases c<;>first|exact wpAny_letGo (P7 b)|exact P7<|P7 b
end
section
theorem GW{h:aa}(b:wM c e g):∃a x,c=[.a a,.l x]/\e a g:=by induction c using List.casesOn with|nil=>exact False.elim b|cons d f=>induction f using List.casesOn with|nil=>cases d<;>exact False.elim b|cons v f=>induction f using List.casesOn with|cons _ _=>(cases d<;>first|exact False.elim b|(cases v<;>exact False.elim b))|nil=>induction d with|a a=>(induction v with|l x=>exact bq a x rfl b|_=>exact False.elim b)|_=>exact False.elim b
theorem HE(NR:cy)(NS:d' A m X):tf A m X Od NX j args f:=by intro NP NQ s E' Q h i R NT K b N8 N7 OC;refine y7<|callWith_of (P:=λ_=>True) (by refine Z (k7 K) ?_;rfl) (λb _=>am .machine (.inr<|.inl rfl)<|Looks.of_pure rfl)<|rd (k7 K) ?_;have G:ao A a8 NP NQ s NP NQ {s with toks:=s.toks+1}:=ao.iH R _;refine NS.mJ K R NT b (λOj u p d Ok B N_ q=>⟨Qd,aZ λNO t=>?_⟩)<|N7.a7 G;obtain⟨a,x,rfl,o,OH,⟨e,w⟩,q⟩:=GW (h:=ae) (e:=λa=>J (dz<|.a a) λz=>iU z<|h .s) q;refine t ?_;rw[e] at q;refine c5 (aR.fV N_) λOF Oz O Ob N'=>(Z O<|c5 N'.fV λOG OA O Oc Oa=>Z O<|Z Oa.hX<|bA Oc λn Og=>Z Og ?_);induction o with|bd k l=>refine aZ λNO t=>?_;obtain⟨f,rfl,L,y,z,vs,C,D,E,F,S,v,H⟩:=B.aH.aU Ob w;obtain⟨OB,OD,Oh,Om,Ol,Os,OE,au,Oi,On,Oo,Ou,Ov,Ow,Ox,Oy,NZ,Oq,N3,_⟩:=NR.kz k y.2;obtain⟨c,N6⟩:∃c,vs[0]?=some c:=⟨vs[0],by simp[F]⟩;refine t<|Bp (B.aH.bn _ _ NZ) N3 C D E N6 ?_;have bC:ao A a8 p u d p u {d with heap:=d.heap.push {cls:=.type "tuple",data:=.seq ([Value.str x n]:List Value).toArray},toks:=d.toks}:=ao.h4 B.aH (λg o e=>P_ _ e)<|Z (Q2 ..)<|Q4 _;refine ah (bC.aH.cQ a _ w) λN U N5=>?_;rw[L] at U;obtain rfl:=P0 U;refine aZ λNO t=>?_;obtain⟨y,z,vs,C,D,E,F,S,v,H⟩:=N5;refine t ?_;have M:=Qv (d.heap.push {cls:=.type "tuple",data:=.seq ([Value.str x n]:List Value).toArray}) f.1<|Obj.mapFields (·.setIfInBounds 0 (.ref d.heap.objs.size));have Y:=QO E (·.setIfInBounds 0 (.ref d.heap.objs.size));have Oe:∀T,g3 (d.heap.push {cls:=.type "tuple",data:=.seq ([Value.str x n]:List Value).toArray}) T->ec p T->g3 ((d.heap.push {cls:=.type "tuple",data:=.seq ([Value.str x n]:List Value).toArray}).update f.1<|Obj.mapFields (·.setIfInBounds 0 (.ref d.heap.objs.size))) T:=λT ⟨N9,Of,e,r⟩ N4=>bq N9 Of ((M.2 T (N4 f<|eB L).1).trans e) r;have NN:ao A a8 p u {d with heap:=d.heap.push {cls:=.type "tuple",data:=.seq ([Value.str x n]:List Value).toArray}} p (u.Q a<|.bd k l) {d with heap:=(d.heap.push {cls:=.type "tuple",data:=.seq ([Value.str x n]:List Value).toArray}).update f.1<|Obj.mapFields (·.setIfInBounds 0 (.ref d.heap.objs.size)),toks:=d.toks}:=ao.ls bC.aH L w (λg z NY _ e=>(M.2 g NY).trans e) (P2 M.1.symm) ⟨y,_,_,QD (Obj.mapFields (·.setIfInBounds 0 (.ref d.heap.objs.size))) C<|Obj.isFreed_of_fields Y,(Obj.cls_mapFields ..).trans D,Y,by simp[F],by refine Z (QY #[]) ?_;exact S,by(rcases v with v|⟨T,NU,NV,W,NW⟩);exact .inl<|Z (QY #[]) v;exact .inr<|kc T (by refine Z (QY #[]) ?_;exact NU) (Oe T NV W) W NW,by cases l<;>(dsimp only at H⊢;exact Z (yh ..) H)⟩ (λOt Op N=>by cases N;exact⟨l,rfl⟩);rw[V.fZ w] at NN;exact N8 .s u p _ .none ((G.q B).q<|bC.q NN) rfl q|_=>exact False.elim q
end
theorem BB{P:List Str}:∀{vs:List Value},n∉P->(P.zip vs).lookup n=none:=by induction P with|nil=>exact λ_=>rfl|cons x P c=>intro vs b;induction vs using List.casesOn with|nil=>rfl|cons v vs=>exact Z Qg<|Z (Qk.2 λa=>b<|Z a Qi:(n==x)=false)<|c λa=>b<|Qs _ a
theorem ME{P:List Str}:∀{vs:List Value},P.length=vs.length->n∈P->((P.zip vs).lookup n).isSome=true:=by induction P with|nil=>exact λ_ b=>(Rc b).elim|cons x P c=>intro vs a b;induction vs using List.casesOn with|nil=>exact(QQ _ a).elim|cons v vs=>refine Z Qg ?_;cases d:n==x with|true=>rfl|false=>(rcases RD.1 b with e|b);exact(ne_of_beq_false d e).elim;exact c (Nat.succ.inj a) b
theorem KH{P:List Str}:∀{vs:List Value} {pre:List (Str×Value)},P.length=vs.length->P.Nodup->(∀n∈P,pre.lookup n=none)->P.filterMap (λn=>((pre++P.zip vs).lookup n).map (n,·))=P.zip vs:=by induction P with|nil=>exact λ_ _ _=>rfl|cons x P a=>intro vs pre b g d;induction vs using List.casesOn with|nil=>exact(QQ _ b).elim|cons v vs=>refine bs (List.nodup_cons.1 g) λe f=>?_;have a:=a (pre:=pre++[(x,v)]) (Nat.succ.inj b) f λn c=>Z List.lookup_append<|Z (d n<|Qs _ c)<|Z Qg<|Z (Qk.2 λi=>e<|i▸c:(n==x)=false) rfl;rw[Qf] at a;have h:(pre++(x,v)::P.zip vs).lookup x=some v:=Z (List.lookup_append ..)<|Z (d x Qi ..)<|Z (Qg ..)<|Z (Qz ..) rfl;exact Z List.filterMap_cons<|Z h<|Q3 ((x,v)::·) a
section
theorem EQ:∀{a:List Value} {l:List Str} {vs:List Value},l.length=vs.length->b.length=a.length->(l++b).Nodup->(forIn (b.zip a) (l.zip vs) λ(x:Str×Value) (g:List (Str×Value))=>if(g.lookup x.1).isNone=true then pure (ForInStep.yield<|g++[(x.1,x.2)]) else pure<|ForInStep.yield g:Sem (List<|Str×Value))=pure ((l++b).zip<|vs++a):=by induction b with|nil=>intro a l vs d c _;(induction a using List.casesOn with|nil=>exact Z (Q1 l) (Z (Q1 vs) rfl)|cons _ _=>exact(QQ _ c.symm).elim)|cons t b m=>intro a l vs d c i;induction a using List.casesOn with|nil=>exact(QQ _ c).elim|cons j a=>refine Z (List.forIn_cons ..) ?_;have k:t∉l:=λn=>(Qh.1 i).2.2 t n t Qi rfl;refine Z (BB k)<|Z (P8 (rfl:(none:Option Value).isNone=true)) ?_;have e:∀{h:Type} (f:List h) (x:h) (r:List h),(f++[x])++r=f++x::r:=λf x r=>Qf f [x] r;have:=m (l:=l++[t]) (vs:=vs++[j]) (Z P3<|Z P3<|Q3 (·+1) d) (Nat.succ.inj c)<|Z (e ..) i;rw[List.zip_append d,e,e] at this;exact this
theorem zF(h:d.params.posonlyargs=[])(j:d.params.kwonlyargs=[])(k:d.params.vararg=none)(m:d.params.kwarg=none)(g:(d.params.args.map (·.arg)).Nodup)(f:vs.length+a.length=(d.params.args.map (·.arg)).length)(p:∀{Q:Option (Array Value)->Shared->Prop},(∀o:Option (Array Value),(o.getD ([].toArray)).toList=a->Q o s)->wpAny M A (seqItems? d.defaults) Q i s)(b:Q ((d.params.args.map (·.arg)).zip<|vs++a) s):wpAny M A (bindArgs d ⟨vs,[]⟩) Q i s:=by
 obtain⟨_,_,⟨_,r,_,_,_,_,_⟩,_,_,_,_,D,_,_,_,_,_,_,_⟩:=d;dsimp only at h j k m g f p b;subst h j k m;generalize t:r.map (·.arg)=P at*;delta bindArgs;refine R_<|P7 ?_;dsimp only[List.map_nil,List.nil_append];rw[t];refine R_<|p λo y=>(Z y<|Z (P4 (by simp;exact y_ f)) ?_);have v:a.drop (a.length - P.length)=a:=by refine Z (show a.length - P.length=0 by exact Nat.sub_eq_zero_of_le<|aM (ix a.length vs.length)<|dw f) ?_;rfl
 refine Z v<|Z (rH f) ?_;obtain⟨l,c,rfl,e⟩:∃l c,P=l++c/\l.length=vs.length:=bq (P.take vs.length) (P.drop vs.length) ((List.take_append_drop ..).symm) (by simp;exact Nat.min_eq_left<|aM (fw vs.length a.length)<|dw f);have B:(l++c).zip vs=l.zip vs:=by have:=List.zip_append (r₁:=c) (r₂:=[]) e;simpa using this
 have z:(l++c).take vs.length=l:=by refine ad e<|Z List.take_left ?_;rfl
 have u:(l++c).drop vs.length=c:=by refine ad e<|Z List.drop_left ?_;rfl
 refine Z B<|Z z<|Z u ?_;have w:List.filter (λn=>(List.lookup n<|l.zip vs).isNone) l=[]:=by rw[List.filter_eq_nil_iff];intro n x;have:=ME e x;cases C:List.lookup n (l.zip vs) with|none=>rw[C] at this;exact gz this|some _=>simp
 refine Z w<|Z (P4 #[]) ?_;have q:c.length=a.length:=by simp at f;exact Q0 (an [⟨1,.h (.b 2)<|.b 3,.h (.b 0)<|.b 1⟩,⟨1,.b 0,.b 2⟩] (.b 3) (.b 1) rfl [vs.length,a.length,l.length,c.length] (P2 f.symm) (P2 e.symm))<|an [⟨1,.h (.b 0)<|.b 1,.h (.b 2)<|.b 3⟩,⟨1,.b 2,.b 0⟩] (.b 1) (.b 3) rfl [vs.length,a.length,l.length,c.length] (P2 f) (P2 e)
 refine Z (EQ e q g)<|R_<|P7<|R_<|P7<|Z (P4 Qt)<|P7 ?_;refine(?_:Q (List.filterMap _<|(l++c)++[]) s);rw[Q1];exact Z (KH (pre:=[]) (by simp[e,q]) g λ_ _=>rfl) b
end
theorem GN:∀{f:List (Str×Y)} {v:Y},(ki x f).lookup t=some v->t≠x/\f.lookup t=some v:=by intro i;induction i with|nil=>intro _ b;exact bm b|cons j f g=>intro v b;obtain⟨a,w⟩:=j;unfold ki at b;rw[List.filter_cons] at b;by_cases c:a=x;subst c;simp only[beq_self_eq_true,Bool.not_true,Bool.false_eq_true,if_false] at b;exact bs (g b) λe h=>⟨e,Z Qg<|Z (Qk.2 e) h⟩;rw[P8<|by simp[c]] at b;rw[Qg] at b⊢;cases d:t==a with|true=>rw[d] at b;obtain rfl:=P0 b;have:=beq_iff_eq.mp d;exact Z this ⟨c,rfl⟩|false=>rw[d] at b;exact g b
section
theorem Cj(b:wpAny (model prog w) A (setFlight e none) (λ_ d=>wpAny (model prog w) A (storeName j n e) (λ_ f=>wpAny (model prog w) A (PySem.execs a j) (λl g=>R (.ok l) g) (λ_ _=>False) f) (λ_ _=>False) d) (λ_ _=>False) s):codeAny (model prog w) A (.handlers e [.ExceptHandler none (some n) a c] j) R s:=by exact codeAny_of_tree (R_<|wpAny_noted<|R_<|Qr<|R_<|QC b (λ_ d h=>R_<|wpAny_bindName<|QC h (λ_ f i=>R_<|wpAny_attempt<|QC i (λl g k=>P7<|P7 k) λ_ _ l=>l.elim) λ_ _ l=>l.elim) λ_ _ l=>l.elim:wpAny _ A (do return Fin.done (<-(handleWith e j [.ExceptHandler none (some n) a c]).onRaise (λx=>do noteFrame x j;theTreesLotGoes x))) _ _ s)
end
section
theorem kX.bn{c:ak}{b a:Heap}{e:Addr}(x:kX c b e)(k:∀g o,b.get? g=some o->a.get? g=some o):kX c a e:=by refine aZ λp n=>?_;obtain⟨l,vs,T,j,m,d,f,h,i,r⟩:=x;exact n ⟨l,vs,T,j,m,k _ _ d,f,h,k _ _ i,r⟩
def ua(d:ak)(b:Heap)(c:List Y)(spec:Value):Prop:=∃vs,aR (aw d) c vs/\((vs=[spec])\/∃a,spec=.ref a/\b.get? a=some (mh vs.toArray 0))
theorem CK(p:cy)(R:aC c m n s.heap)(q:bB m u r j s.heap)(e:sp u r l h n)(b:∀f spec d B,(∀g o,s.heap.get? g=some o->d.get? g=some o)->s.heap.objs.size<=d.objs.size->ua m d f spec->h f n->Q spec {s with heap:=d,toks:=B}):wpAny (model aI aj.x) c (PySem.eval l j) Q i s:=by induction l using PySem.Expr.casesOn with|Name x D=>have e:=e;refine wpAny_Name (nV p R q e λv w z a=>?_)<|wR e;have:=b [v] w s.heap s.toks (λ_ _ e=>e) (P5 _) (am [w] (.aY z .aP)<|.inl rfl) a;exact this|Tuple C k A=>have e:=e;exact wpAny_Tuple_spliced (Ft p R q A e λf vs t a=>bs (ij a) λy a=>⟨by refine ad t.d6<|Z QG ?_;exact cv<|RC y,b f _ _ _ (λg o e=>P_ _ e) (Z (Q2 ..)<|Q4 _) (am vs t<|.inr<|am _ rfl (Q' _ rfl)) a⟩)|_=>exact False.elim e
theorem BQ(f:cy)(R:aC A e p s.heap)(w:e[n]?=some o)(u:p.r n=some (.bd k l))(y:ua e s.heap d spec)(a:mY k d=some g)(b:Q g s):wpAny (model aI aj.x) c (excMatches (.ref o.1) spec) Q i s:=by
 obtain⟨vs,m,z⟩:=y;refine Gr f R w u m a ?_ b;rcases z with rfl|⟨B,rfl,j⟩
 refine .inl ⟨rfl,?_⟩;have h:d.all n5=true:=by unfold mY at a;split at a;assumption;exact bm a
 cases m with|aY r B=>rw[List.all_cons,Qm] at h;refine aZ λG C=>(cM (r.ru h.1) λq D v E=>Z D ?_);subst E;obtain⟨J,N,F,L,K,P,I,au,H,M,O,S,T,W,X,U,t,_⟩:=f.kz q v;exact C<|(ug<|R.bn _ _ t).andThen<|Looks.of_pure tc_notTuple
 refine .inr ⟨?_,?_⟩;unfold isInstance;exact(ps j rfl).andThen<|Looks.of_pure (by refine Z (isSubtype_type ..) ?_;kernel_rfl);unfold seqItems?;intro A Q i s k x;exact R_<|wpAny_load (k _ _ j)<|P7 x
theorem L1(NW:cy)(S:gX A j):∀{L:List ExceptHandler} {r:Nat} {f:ak} {o:V} {s:Shared} {a:ax} {l:Option Nat},(∀q<r,∀v,he (A.mark<|some v) u u true q)->aC A f o s.heap->bB f C a j s.heap->f[H]?=some M->o.r H=some (.bd k l)->kX f s.heap M.1->jB u m p r C a (.a H) k L h o->U A f o s C j h Q i->wpAny (model aI aj.x) A (handleBy (.ref M.1) j L) Q i s:=by intro L;induction L with|nil=>intro r f o s a l NN R Y K P J b W;(induction r with|zero=>exact False.elim b|succ r=>exact wpAny_handleBy_nil<|yC (id J) λOJ vs T OI OM Oc Od Oe _=>R_<|QL Oc Od Oe<|Z (P4 (by simp:¬((Value.ref T==Value.none)=true)))<|R_<|mb R J λOB G _=>wpAny_throw<|(λOA X=>W.bd H k l a o f OA M b P K X.gB<|Y.a7 X) _ G)|cons Ok L Ox=>intro r f o s a l NN R Y K P J b W;induction r using Nat.casesOn with|zero=>exact False.elim b|succ r=>obtain⟨NU,n,g,Oy⟩:=Ok;induction NU with|none=>exact False.elim b|some NU=>induction n with|none=>exact False.elim b|some n=>have b:sp C a NU (λN9=>if(!(C.names.lookup n==some NameKind.local))=true then ae else jA (mY k N9) λt=>if t then f4 C a n (.a H) λa=>br u u true r C a g (ni (λa=>h<|.f {a with ct:=ki n a.ct}) λv a=>h<|.b0 v {a with ct:=ki n a.ct}) else jB u m p r C a (.a H) k L h) o:=b;have NX:=R.b8 K P;refine wpAny_handleBy_cons (codeAny_handlers_test<|CK NW NX Y b λN9 spec Og OC y Ov Oo F=>bs (fs F) λNR F=>?_)<|ref_ne_byPass _;(have NR:C.names.lookup n=some .local:=by simpa using NR);refine ah (iY F) λN_ NQ F=>?_;have X:∀{c:Around},aC c f o s.heap->ao c a8 f o s f o {s with heap:=Og,toks:=OC}:=λR=>ao.h4 R y Ov;have N:=X R;have N0:=Y.a7 N;have N8:=J.bn y;refine BQ NW N.aH K P Oo NQ ?_;induction N_ with|false=>exact Ox (λq Ol=>NN q<|Rb Ol) N.aH N0 K P N8 F (W.hj N)|true=>rw[P8 rfl] at F;have Oa:=X NX;refine Cj<|mb Oa.aH N8 λOL NS _=>(kq NS.aH (N0.a7 NS) (v:=.a H) (am M K rfl) F λOE OO OB G N2 Of=>?_);have Ob:=(Oa.gB.q NS.gB).q G;(have NY:∀(D:ax) (x:V) (d:ak) (w:Shared) (NP:Shared->Prop),ao A (al j) f o s d x w->bB d C D j w.heap->(∀E,ao A (al j) f o s d x E->bB d C {D with ct:=ki n D.ct} j E.heap->NP E)->wpAny (model aI aj.x) A (do bindName j n .none;unbindBehindTheSuite j n Oy) (λ_ E=>NP E) i w:=by intro D x d w NP bC B Oj;have NZ:=(B.i' n _ NR).resolve_right (λOz=>by cases Oz.1);have N6:(j.scope.kind==.class||(j.scope.kind==.module&&j.locals !=j.globals))=false:=Z B.gq rfl;refine ah B.ct λN_ N3 Om=>(R_<|wpAny_bindName<|wpAny_storeName_local NZ N3 (λOF On Op=>wpAny_onRaise<|wpAny_unbindName_local NZ On (Z (P8 rfl) rfl) N6 λOw ON N5 Oq=>?_) N6);have N7:=Op.trans Oq;have N':ao A (al j) d x w d x {w with heap:=Ow,toks:=w.toks+1}:=ao.kE bC.aH B.bX B.d0 (jZ.mL N3) (λg z NQ e=>(N7.2 g NQ).trans e) (P2 N7.1.symm) λ_ _ _=>⟨_,N5⟩;exact Oj _ (bC.q N') {B with ct:=am _ N5 λt v Ot=>bs (GN Ot) λN4 Ou=>ah (Om t v Ou) λNV Oh Oi=>am NV (by exact Z (P4 N4)<|Z (P4 N4) Oh) Oi,bX:=N'.bX B.bX});refine(NN r (P' r)<|.ref M.1).ib G.aH N2 S Of ⟨λD x d w O bC B=>?_,λv D x d w NV O bC B Os=>?_,λOG OH OD D x d w OK O _ _ _ _=>False.elim O⟩;exact NY D x d w _ ((Ob.q bC).xP R) B λE NT NO=>W.f _ x d E O NT NO;exact NY D x d w _ ((Ob.q bC).xP R) B λE NT NO=>W.b0 v _ x d E NV O NT NO Os
end
section
theorem r3{A:Around}{q:ak}{r:V}{s:Shared}{o:Scope}{w:ax}{j:Env}{i:Value->Shared->Prop}{m u:I}{p:Bool}{t:Nat}{Q:Flow->Shared->Prop}{h:RI.ai->aa}{y:Stmt}{x:List Stmt}(D:he A m u p t)(R:aC A q r s.heap)(E:bB q o w j s.heap)(S:gX A j)(b:br u m p t o w (y::x) h r)(k:U A q r s o j h Q i):wpAny (model aI aj.x) A (PySem.execs (y::x) j) (λa c=>match a with|.next=>Q .next c|a=>Q a c) (notedBy (model aI aj.x) A j<|cameBackBy (model aI aj.x) A j i) s:=D.ib R E S b ⟨λf n g c a d e=>k.f f n g c a d e,λv f n g c O a d e F=>k.b0 v f n g c O a d e F,λH K l f n g c L a z B d e=>sC d.aH B z S λM C=>k.bd H K l f n g M L a z B (d.q C.gB)<|e.a7 C⟩
theorem ry{A:Around}{e:ak}{l:V}{s:Shared}{f:Scope}{c:ax}{j:Env}{i:Value->Shared->Prop}{m u:I}{p:Bool}{n:Nat}{Q:Flow->Shared->Prop}{h:RI.ai->aa}{q:Stmt}{o:List Stmt}{v:Y}{g:Value}(t:he A m u p n)(R:aC A e l s.heap)(w:bB e f c j s.heap)(S:gX A j)(z:aw e v g)(b:br u m p n f c (q::o) (ni (λc=>h<|.b0 v c) λ_ _=>ae) l)(k:U A e l s f j h Q i):wpAny (model aI aj.x) A (PySem.execs (q::o) j) (λa d=>match a with|.next=>Q (.ret g) d|a=>Q a d) (notedBy (model aI aj.x) A j<|cameBackBy (model aI aj.x) A j i) s:=t.ib R w S b ⟨λy C B d a r x=>k.b0 v y C B d g a r x<|r.c_ z,λ_ _ _ _ _ _ a _ _ _=>False.elim a,λ_ _ _ _ _ _ _ _ a _ _ _ _=>False.elim a⟩
theorem vG(F:cy)(H:∀q<x,∀v,he (A.mark<|some v) u u true q)(S:gX A j)(R:aC A f c s.heap)(K:bB f n y j s.heap)(C:f[a]?=some d)(g:c.r a=some (.bd k l))(b:J (dz<|.a a) (λz=>sl z λL=>jB u m p x n y (.a a) L D h) c)(P:U A f c s n j h Q i):wpAny (model aI aj.x) A (noteFrame (.ref d.1) j) (λ_ E=>wpAny (model aI aj.x) A (setFlight (.ref d.1) none) (λ_ W=>wpAny (model aI aj.x) A (handleBy (.ref d.1) j D) Q i W) w E) w s:=by refine aZ λY X=>?_;obtain⟨o,N,⟨T,e⟩,B⟩:=b;refine X ?_;rw[T] at B;have e:c.r a=some o:=e;rw[g] at e;obtain rfl:=P0 e;exact qe R C g S λZ r M=>mb r.aH M λE t O=>L1 F S H t.aH ((K.a7 r).a7 t) C g O B<|(P.hj r).hj t
theorem Kp(O:cy)(w:he A m u p B)(P:∀q<B,∀v,he (A.mark<|some v) u u true q)(R:aC A L M s.heap)(K:bB L F T j s.heap)(S:gX A j)(b:(if(x.isEmpty&&bf.isEmpty)=true then ae else br u m p B F T g<|iG u m p B F x bf h) M)(k:U A L M s F j h Q i):wpAny (model aI aj.x) A (PySem.exec (.Try g x [] bf NP) j) Q i s:=by refine bs (fs b) λNN b=>?_;induction bf using List.casesOn with|nil=>(induction x with|nil=>cases NN|cons NO x=>exact wpAny_Try_except<|w.ib R K S b ⟨λf t r n c a d=>wpAny_execs_nil<|k.f f t r n c a d,λv f t r n H c a d y=>k.b0 v f t r n H c a d y,λX Z l f t r n Y c D E a d=>vG (h:=h) O P S a.aH d E D c<|k.aU a⟩)|cons NS NR=>cases x with|nil=>refine wpAny_Try_finally<|w.ib R K S b ⟨λf t r n c a d=>wpAny_execs_nil<|r3 w a.aH d S c<|k.aU a,λv f t r n H c a d y=>ry w a.aH d S y c<|k.aU a,λX Z l f t r n Y c D E a d=>aZ λNZ NQ=>?_⟩;obtain⟨o,_,⟨rfl,e⟩,c⟩:=c;refine NQ ?_;(induction o with|bd _ _=>cases B<;>exact False.elim c|_=>exact False.elim c)|cons NO x=>refine wpAny_Try_except_finally<|w.ib R K S b ⟨λf t r n c a d=>wpAny_execs_nil<|r3 w a.aH d S c<|k.aU a,λv f t r n H c a d y=>ry w a.aH d S y c<|k.aU a,λX Z l f t r n Y c D E a d=>vG O P S a.aH d E D c ⟨λW G N J C z N2=>?_,λv W G N J H C z N2 y=>?_,λNW NX NT W G N J NY C NU NV z N2=>False.elim C⟩⟩;exact r3 w z.aH N2 S C<|(k.aU a).aU z;exact ry w z.aH N2 S y C<|(k.aU a).aU z
end
section
noncomputable abbrev mF(a:List Expr)(j:Env)(g:Bool):Sem Bool:=forIn a g λc r=>if r=true then do let b<-PySem.isTrue c j (PySem.eval c j);pure (ForInStep.yield b) else pure<|ForInStep.yield r
def sS(prog:Program)(w:World)(A:Around)(f:Expr)(h:List Comprehension)(u:Scope)(t:Pos)(k:Nat)(o d:Value)(j:Env)(m:Expr)(n:List Expr)(v:Value)(Q:Shared->Prop)(i:Value->Shared->Prop)(s:Shared):Prop:=
 wpAny (model prog w) A (letOwnedTupleGo m o v) (λ_ y=>wpAny (model prog w) A (assign m j v) (λ_ z=>wpAny (model prog w) A (mF n j true) (λq a=>if q=true then(match h[k+1]? with
  |some g=>wpAny (model prog w) A (PySem.eval g.iter j) (λx b=>foldedSetIterable g.iter j x=pure x/\wpAny (model prog w) A (pyIter x) (λp c=>codeAny (model prog w) A (.compStart (.ListComp f h u t) (k+1) p d j) (λr l=>match r with
   |.ok _=>Q l
   |.error e=>cameBackBy (model prog w) A j i e l) c) i b) i a
  |none=>wpAny (model prog w) A (PySem.eval f j) (λx b=>wpAny (model prog w) A (call (.builtin "list.append") [d,x]) (λ_ c=>Q c) i b) i a) else Q a) i z) i y) i s
theorem Eg{prog:Program}{w:World}{A:Around}{h:Expr}{c:List Comprehension}{q:Scope}{p:Pos}{k:Nat}{g d:Value}{j:Env}{B iter:Expr}{z:List Expr}{i:Value->Shared->Prop}{s:Shared}{Q:PySem.Fin->Shared->Prop}(D:c[k]?=some ⟨B,iter,z,0⟩)(E:∀f,c[k+1]?=some f->f.is_async=0)(b:wpAny (model prog w) A (pyNext g) (λr t=>match r with|none=>Q (.done .next) t|some v=>sS prog w A h c q p k g d j B z v (λs=>Q (.again<|.compLoop (.ListComp h c q p) k g d j) s) i t) i s):wpAny (model prog w) A (compTurn (.ListComp h c q p) k g d j) Q i s:=by unfold compTurn;dsimp only;refine Z D ?_;dsimp only;refine R_<|Qr<|Z (P4 #[])<|R_<|QC b (λr t u=>?_) λ_ _ e=>e;induction r with|none=>exact P7 u|some v=>skip;refine R_<|QC u (λ_ P F=>R_<|QC F (λ_ R H=>R_<|QC H (λK S a=>?_) λ_ _ e=>e) λ_ _ e=>e) λ_ _ e=>e;induction K with|false=>rw[P4 Qt] at a⊢;exact P7 a|true=>rw[P8 rfl] at a⊢;cases m:c[k+1]? with|none=>replace a:=m▸a;skip;refine R_ (R_<|QC a (λx L n=>R_<|QC n (λ_ M o=>P7<|P7 o) λ_ _ e=>e) λ_ _ e=>e)|some f=>rw[m] at a;skip;refine R_<|QC a (λx L ⟨C,n⟩=>R_<|Qr<|Z (E f m)<|Z (P4 #[])<|Z C<|R_<|P7<|Z (P4 #[])<|R_<|Qb<|QC n (λO M o=>R_<|wpAny_runOwn<|codeAny_mono o λr T y=>?_) λ_ _ e=>e) λ_ _ e=>e;induction r with|ok l=>exact P7 y|error e=>exact y
theorem tw(o:∀k,f[a]?=some k->k.is_async=0)(n:∀{Q:Value->Shared->Prop} {c:Around} {i:Value->Shared->Prop},Q g s->wpAny (model prog w) c (pyIter g) Q i s)(b:codeAny (model prog w) A (.compLoop (.ListComp h f m l) a g d j) R s):codeAny (model prog w) A (.compStart (.ListComp h f m l) a g d j) R s:=by
 refine codeAny_of_tree (wpAny_notedAt ?_:wpAny _ _ ((compStart (.ListComp h f m l) a g d j).onRaise (λx=>do noteFrame x j;standAt theWindowsPlace)) _ _ s);unfold compStart;have p:((clausesOf<|.ListComp h f m l)[a]?).elim false (·.is_async !=0)=false:=by refine(?_:(f[a]?).elim false _=false);cases e:f[a]? with|none=>rfl|some k=>simp[o k e]
 refine Z p (R_<|wpAny_askSetting<|wpAny_ite ?_:wpAny _ _ (ask>>=_) _ _ s);split;exact R_<|P7<|P7<|And.intro rfl b;refine R_<|wpAny_rule ?_;split;exact R_<|Qr<|R_<|n<|P7<|And.intro rfl b;exact R_<|n<|P7<|And.intro rfl b
end
section
theorem zO:∀f:List Expr,(mF f j false:Sem Bool)=pure false:=λf=>by unfold mF;induction f with|nil=>rfl|cons t f a=>exact Z (List.forIn_cons ..)<|Z (P4 Qt ..) a
theorem KJ:∀{c:List Expr} {a:Nat} {e:V} {s:Shared} {d:ak},(∀k<a,d' A m k)->aC A d e s.heap->bB d r p j s.heap->nW m a r p c h i e->bc A a8 d e s lc h Q->bc A a8 d e s aw i E'->wpAny (model aI aj.x) A (mF c j true) Q E' s:=by intro c;induction c with|nil=>intro a e s d l R n b g o;(induction a with|zero=>exact False.elim b|succ a=>exact P7<|g.g4 R b rfl)|cons x c v=>intro a e s d l R n b g o;induction a with|zero=>exact False.elim b|succ a=>unfold mF;refine Z (List.forIn_cons ..)<|Z (P8 rfl)<|R_<|R_<|(l a<|P' a).lB R n b (λt C B z w f u q=>P7 ?_) o;cases(u:t=w);induction t with|true=>exact v (λk y=>l k<|Rb y) f.aH (n.a7 f) q (g.a7 f) (o.a7 f)|false=>exact(Z (zO ..)<|P7<|g _ _ _ _ _ f rfl q:wpAny _ _ (mF c j false) _ _ _)
end
end R
namespace R
open PySem.W PySem.Calls PyProof.Rows
set_option tactic.hygienic true
structure iI(A:Around)(c:ak)(b:Heap)(a:Addr)(e:Env)(f:Scope)(g:ax)(d:List Y):Prop where
 j:bB c f g e b
 bP:∃(vs:List Value) (n:Nat),b.get? a=some (listOf vs.toArray n)/\aR (aw c) d vs
 bX:fA c b a
 d0:aj.co.objs.size<=a
 eD:gg A a
 eW:e.locals≠a
abbrev ri(b:Env)(a:Addr):Addr->Prop:=λx=>x=b.locals\/x=a
abbrev tO(c:Env)(b a:Addr):Addr->Prop:=λx=>(x=c.locals\/x=b)\/x=a
structure kJ(a b:ax):Prop where
 dg:b.dg=a.dg
 ck:b.ck=a.ck
 ct:∀t w,a.ct.lookup t=some w->b.ct.lookup t=some w
section
theorem vz(j:(e.ct.lookup x).isNone=true)(f:kJ e a)(b:f4 d a x v h i)(k:∀g c,kJ e g->h g c->q g c):f4 d a x v q i:=by delta f4 at b⊢;cases y:d.names.lookup x with|none=>rw[y] at b;exact b.elim|some p=>rw[y] at b;induction p with|«local»=>exact k _ _ ⟨f.dg,f.ck,λt w l=>by refine(Z x0 ?_:(cN x v a.ct).lookup t=some w);split;rename_i r;subst r;rw[l] at j;exact gz j;exact f.ct t w l⟩ b|cell=>refine aZ λA u=>?_;obtain⟨z,o,s,c,m,n⟩:=iY b;exact u (Z o<|bq s c m<|k _ _ f n:jA (a.dg.lookup x) _ i)|_=>exact b.elim
theorem Au:∀{a:List Expr} {vs:List Y} {d:ax} {g:V},a.all (lz false λx=>(c.ct.lookup x).isNone)=true->kJ c d->hl i a vs d h g->(∀e l,kJ c e->h e l->q e l)->hl i a vs d q g:=by intro a;induction a with|nil=>(intro vs d g _ f b k;induction vs with|nil=>exact k _ _ f b|cons _ _=>exact False.elim b)|cons o a n=>intro vs d g j f b k;rw[List.all_cons,Qm] at j;induction o using PySem.Expr.casesOn with|Name x r=>(induction vs with|nil=>exact False.elim b|cons v vs=>exact vz (h:=λc=>hl i a vs c h) j.1 f b λe l p m=>n j.2 p m k)|_=>exact False.elim b
theorem yQ(j:sx c a.ct=true)(b:jU g c v a h l)(k:∀e d,kJ a e->h e d->q e d):jU g c v a q l:=by have f:kJ a a:=⟨rfl,rfl,λ_ _ b=>b⟩;induction c using PySem.Expr.casesOn with|Name x s=>exact vz j f b k|Tuple r n p=>refine bZ b λo d m i=>(bq o d m ?_);(induction o with|A t=>exact Au j f i k|_=>exact False.elim i)|_=>exact False.elim b
theorem Kr:∀{c:List Expr} {vs:List Y} {a:ax} {d:V},hl e c vs a h d->∃f k,h f k:=by intro c;induction c with|nil=>(intro vs a d b;induction vs with|nil=>exact g' _ _ b|cons _ _=>exact False.elim b)|cons j c i=>intro vs a d b;induction j using PySem.Expr.casesOn with|Name x l=>(induction vs with|nil=>exact(show False from b).elim|cons v vs=>obtain⟨_,_,g⟩:=sm<|show f4 e a x v (λa=>hl e c vs a h) d from b;exact i g)|_=>exact(show False from b).elim
theorem vt(b:jU e c v f h i):∃g d,h g d:=by induction c using PySem.Expr.casesOn with|Name x n=>exact sm b|Tuple m k l=>refine bZ b λo d j a=>?_;(induction o with|A p=>exact Kr a|_=>exact False.elim a)|_=>exact False.elim b
theorem u7(b:g9 f g x h d):∃v c,h v c:=by delta g9 at b;by_cases e:(x==("__debug__":Str)||x==("__classdict__":Str))=true;rw[P8 e] at b;exact b.elim;rw[P4 e] at b;cases y:f.names.lookup x with|none=>rw[y] at b;exact b.elim|some i=>rw[y] at b;induction i with|«local»=>obtain⟨v,_,a⟩:=iY b;exact⟨v,d,a⟩|cell=>obtain⟨_,_,v,c,_,a⟩:=iY b;exact⟨v,c,a⟩|free=>obtain⟨_,_,v,c,_,a⟩:=iY b;exact⟨v,c,a⟩|globalExplicit=>exact b.elim|globalImplicit=>obtain⟨v,_,a⟩:=iY b;exact⟨v,d,a⟩
theorem qm(m:∀{x h c},f x h aB c->∃e d,h e d):∀{j:Nat} {h:List Y->aa} {c:V},bo q f n j h aB c->∃e d,h e d:=by induction n with|zero=>exact λb=>False.elim b|succ n p=>intro j h c b;refine bZ b λo d _ i=>?_;induction o with|none=>exact g' _ _ i|some t=>exact eU (m i) λa r k=>eU (p k) λg s l=>g' _ _ l
def ub(m:I)(b:Nat)(a:Scope)(e:Expr)(f:List Comprehension)(c:ax)(h:List Y->aa)(i:Y->aa):aa:=f.casesOn (cw m b a c e (λv=>h [v]) i) λd r=>kb m b a c d.iter (λg=>bo g (λt h i=>iv m b a d.target d.ifs r e t c h i) aJ 0 h i) i
theorem qB(b:iv m (e+1) d j l f k t c h i n):sx j c.ct=true/\jU d j t c (λc=>nW m e d c l (λg=>if g then ub m e d k f c h i else h []) i) n:=by induction f using List.casesOn with|nil=>obtain⟨a,g⟩:=fs b;exact⟨by simpa using a,g⟩|cons o r=>obtain⟨_,_,_,_⟩:=o;exact bs (fs b) λa g=>⟨by simpa using a,g⟩
theorem qj(b:iv m c e j [] [] (.Name f l) t g h aB n):∃k d,h k d:=by induction c using Nat.casesOn with|zero=>exact False.elim b|succ c=>refine eU (vt (qB b).2) λi d a=>?_;induction c using Nat.casesOn with|zero=>exact False.elim a|succ c=>have a:g9 e i f (λv=>h [v]) d:=a;exact eU (u7 a) λv o a=>g' _ _ a
theorem HH(b:iv m c e r [] [⟨j,.Name w s,[],k⟩] (.Name l n) t p h aB y):∃x f,h x f:=by induction c using Nat.casesOn with|zero=>exact False.elim b|succ c=>refine eU (vt (qB b).2) λg f a=>?_;induction c using Nat.casesOn with|zero=>exact False.elim a|succ c=>induction c using Nat.casesOn with|zero=>exact False.elim a|succ c=>have a:g9 e g w (λv=>bY v λq=>bo q (λt h i=>iv m (c+1+1) e j [] [] (.Name l n) t g h i) aJ 0 h aB) f:=a;refine KC (u7 a) λv z o B _ a=>?_;induction o with|d u=>exact qm (λb=>qj b) a|A u=>exact qm (λb=>qj b) a|_=>exact False.elim a
end
section
theorem iI.yB{j:Scope}(e:ao A c g p s h q f)(x:iI A g s.heap b i j k d)(o:¬c b):∃(vs:List Value) (n:Nat),f.heap.get? b=some (listOf vs.toArray n)/\aR (aw h) d vs:=by exact bZ x.bP λvs n l m=>bq vs n (e.er b _ x.eD x.bX.bH x.bX.ck o (λa=>by have a:=a.1;injection a with a;exact absurd a #[]) l)<|e.q' m
theorem iI.dm(e:ao A b i n s k o h)(x:iI A i s.heap a c f g d)(l:¬b c.locals)(m:¬b a):iI A k h.heap a c f g d:={x with j:=x.j.dm e l,bP:=x.yB e m,bX:=e.bX x.bX}
theorem ao.l8{m:ak}(T:ao A i l n s m o k)(b:∀x,i x->j x\/s.heap.objs.size<=x):ao A j l n s m o k:={T with S:=λg z d f h e c=>T.S g z d f (λa=>(b g a).elim h λa=>Qn _<|Ra (Q5 c) a) e c,er:=λg z p d f h e c=>T.er g z p d f (λa=>(b g a).elim h λa=>Qn _<|Ra (Q5 c) a) e c}
theorem bB.d2(a:bB i d h c b)(f:kJ g h):bB i d g c b:=by exact ah a.ct λl j m=>{a with ck:=λk e=>a.ck k<|Z f.ck e,k8:=f.dg▸a.k8,ct:=am l j λx v e=>m x v<|f.ct x v e}
def v5(d:List Y)(a:List Comprehension)(h:List Y->aa):Prop:=(a=[]->d.length<=bl)/\(a≠[]->∀b c,h b c->d.length+b.length<=bl)
def qF(A:Around)(m:I)(e:Addr)(f:Env)(g:Scope)(n:Expr)(j:List Comprehension)(D:Pos)(y:Nat):Prop:=∀{k:Nat} {q C:Expr} {l:List Expr} {b:List Comprehension} {x:Y} {u:Value} {o:ax} {c:ak} {t:V} {s:Shared} {a:Addr} {E:bI} {B:Nat} {d:List Y} {h:List Y->aa} {Q:Shared->Prop} {i:Value->Shared->Prop},j[k]?=some ⟨q,C,l,0⟩->j.drop (k+1)=b->(∀z∈j,z.is_async=0)->lf n l b=true->aC A c t s.heap->iI A c s.heap e f g o d->gn c s.heap a E B->aw c x u->iv m y g q l b n x o h aB t->v5 d b h->(∀r w v p,h r w->(b=[]->r.length<=1)->ao A (ri f e) c t s v w p->iI A v p.heap e f g o (d++r)->Q p)->sS aI aj.x A n j g D k (.ref a) (.ref e) f q l u Q i s
abbrev kD(m:I)(b:Nat)(a:Scope)(g:Expr)(e:List Expr)(f:List Comprehension)(c:Expr)(d:ax):Y->(List Y->aa)->(Y->aa)->aa:=λt h i=>iv m b a g e f c t d h i
structure k4(m:I)(i:Nat)(f:Scope)(n:Expr)(l:List Expr)(c:List Comprehension)(j:Expr)(k:ax)(q:bI)(e:List Y->Nat->(List Y->aa)->Prop):Prop where
 fL:∀{d:List Y} {b p:Nat} {h:List Y->aa} {t:Y} {r:V},e d (b+1) h->iv m i f n l c j t k (λa=>bo q (kD m i f n l c j k) b (p+1) (λg=>h<|a++g) aB) aB r->
  v5 d c (λa=>bo q (kD m i f n l c j k) b (p+1) (λg=>h<|a++g) aB)
 dm:∀{d o:List Y} {b:Nat} {h:List Y->aa},e d (b+1) h->(c=[]->o.length<=1)->e (d++o) b λg=>h<|o++g
inductive tD(A:Around)(q:ak)(r:V)(s:Shared)(f:Addr)(i:Env)(m:Scope)(o:ax)(d:List Y)(a:Addr)(j:bI)(k:Y->(List Y->aa)->(Y->aa)->aa)(l:List Y->Nat->(List Y->aa)->Prop)(h:List Y->aa)(n:Nat)(b:Shared):Prop
 |mk (p:Nat) (c:List Y) (e:ak) (t:V):ao A (tO i f a) q r s e t b->bo j k n p (λg=>h<|c++g) aB t->l (d++c) n (λg=>h<|c++g)->iI A e b.heap f i m o (d++c)->gn e b.heap a j p->fA e b.heap a->tD A q r s f i m o d a j k l h n b
theorem v3(NX:cy)(H:qF A m i f b j w T v)(NQ:w[k]?=some ⟨z,N',q,0⟩)(N8:w.drop (k+1)=r)(NO:∀p∈w,p.is_async=0)(cE:lf j q r=true)(N:k4 m v b z q r j o y L)(NY:aC A u C s.heap)(E:iI A u s.heap i f b o d)(P:gn u s.heap a y 0)(F:fA u s.heap a)(N4:aj.co.objs.size<=a)(NT:gg A a)(M:f.locals≠a)(O:i≠a)(e:bo y (kD m v b z q r j o) n 0 h aB C)(N_:L d n h)(N3:∀l K D B,h l D->ao A (tO f i a) u C s K D B->iI A K B.heap i f b o (d++l)->R (.ok .next) B):codeAny (model aI aj.x) A (.compLoop (.ListComp j w b T) k (.ref a) (.ref i) f) R s:=by refine codeAny_loop rfl (tD A u C s i f b o d a y (kD m v b z q r j o) L h) ?_ n ⟨0,[],u,C,by exact ao.iH NY s.toks,e,by simpa using N_,by simpa using E,P,F⟩;rintro n B ⟨Q,l,K,D,W,e,NR,E,P,F⟩;refine(wpAny_noted<|Eg NQ (λNZ N5=>NO NZ<|PW N5) ?_:wpAny _ A ((compTurn (.ListComp j w b T) k (.ref a) (.ref i) f).onRaise (λx=>do noteFrame x f;theTreesLotGoes x)) _ _ B);induction n using Nat.casesOn with|zero=>exact False.elim e|succ S=>have e:J (dv y Q) (pL (h<|l++[]) λx=>iv m v b z q r j x o (λa=>bo y (kD m v b z q r j o) S (Q+1) (λg=>h<|l++(a++g)) aB) aB) D:=e;refine u5 NX W.aH F N4 NT P e (λx Od NV p t N9 NP=>?_) λNV p t=>?_;have NW:=E.dm t M O;have NU:=t.bX F;refine H NQ N8 NO cE t.aH NW NP N9 p (N.fL NR p) λX Ob Oa Oc NN N6 bC U=>?_;have N7:¬ri f i a:=λc=>c.elim (λc=>M c.symm) λc=>O c.symm;have G:(λg=>h<|l++(X++g))=λg=>h<|l++X++g:=funext λg=>Z (Qf ..) rfl;have NS:=N.dm NR N6;rw[G] at NN;simp only[G,List.append_assoc d] at NS;rw[Qf] at U;exact⟨rfl,S,P' S,Q+1,l++X,Oa,Ob,(W.q<|t.b4 λx c=>.inr c).q<|bC.b4 λx c=>.inl c,NN,NS,U,NP.dm bC NU NT N7,bC.bX NU⟩;rw[Q1] at p;exact N3 l K D NV p (W.q<|t.b4 λx c=>.inr c)<|E.dm t M O
theorem vJ(g:gn l b e k j)(h:b=s.heap)(f:Q (.ref e) s):wpAny (model aI aj.x) c (pyIter<|.ref e) Q i s:=by subst h;induction g with|d _ a=>exact wpAny_pyIter_listiter a f|A _ a=>exact wpAny_pyIter_tupleiter a f|cf _ a=>exact wpAny_pyIter_rangeiter a f
theorem tn(b:pS e=true):∃a c,e=.Name a c:=by induction e using PySem.Expr.casesOn with|Name a c=>exact g' a c rfl|_=>exact gz b
theorem ts(b:lf c d (a::r)=true):r=[]/\d=[]/\a.ifs=[]/\(∃k m,c=.Name k m)/\∃w j,a.iter=.Name w j:=by unfold lf at b;simp only[Bool.and_eq_true,List.isEmpty_iff] at b;refine aZ λn l=>?_;obtain⟨⟨⟨⟨⟨e,f⟩,g⟩,h⟩,i⟩,_⟩:=b;exact l<|pt e f g (tn h)<|tn i
abbrev x3(d:List Y)(_:Nat)(h:List Y->aa):Prop:=∀g a,h g a->d.length+g.length<=bl
theorem k4.k2(w:∀{t h f},iv m l k v s u n t o h aB f->∃j i,h j i):k4 m l k v s u n o y x3:=by
 have x:∀{d a:List Y} {e r:Nat} {h:List Y->aa} {f:V},x3 d (e+1) h->bo y (kD m l k v s u n o) e (r+1) (λg=>h<|a++g) aB f->d.length+a.length<=bl:=λ{d a e r h f} c q=>by refine eU (qm (λb=>w b) q) λg i p=>?_;have:=c _ _ p;rw[P3] at this;exact an [⟨1,.h (.b 0)<|.h (.b 1)<|.b 2,.b 3⟩] (.h (.b 0)<|.b 1) (.b 3) rfl [d.length,a.length,g.length,bl] this
 refine⟨λ{d e r h t f} c q=>⟨λ_=>?_,λ_ j i A=>x c A⟩,λ{d j e h} c _ g i z=>?_⟩;exact eU (w q) λa i p=>(P9 (Q_ ..)<|x c p);have:=c _ _ z;simp only[List.length_append] at this⊢;exact an [⟨1,.h (.b 0)<|.h (.b 1)<|.b 2,.b 3⟩] (.h (.h (.b 0)<|.b 1)<|.b 2) (.b 3) rfl [d.length,j.length,g.length,bl] this
theorem k4.fo{a:Scope}{f:ax}{m:I}{e:Expr}{k:Expr}{h:List Expr}{c:Nat}{j:bI}:k4 m c a k h [] e f j λd n _=>d.length+n<=bl:=⟨λb _=>⟨λ_=>aM (fw _ _) b,λi=>(i rfl).elim⟩,λb g=>by have:=g rfl;exact Z P3<|He b this⟩
theorem BL{J:Pos}(T:cy)(l:Nat)(K:∀k<l,d' A m k):qF A m E F u W C J l:=by induction l with|zero=>exact λ_ _ _ _ _ _ _ _ e=>False.elim e|succ l U=>have U:qF A m E F u W C J l:=U λk y=>K k<|Rb y;intro k OP OJ Ot N5 x OR Of OB OD s a N6 OG d h Q i NU M X cE Od D Ok N3 e NX Y;refine bs (qB e) λOn e=>?_;have e:=yQ (q:=λL Oc=>kJ Of L/\nW m l u L Ot (λg=>if g then ub m l u W N5 L h aB else h []) aB Oc) On e λL Oc f B=>⟨f,B⟩;refine vh Ok N3<|xp T Od D.j N3 e λNS OS ON O N1 ⟨f,B⟩=>(KJ (λk y=>K k<|Rb y) O.aH N1 B (λN4 NO Ob N7 Ov P y q=>?_) bc.aB);cases(y:N4=Ov);have o:=({D with j:=N1,bP:=D.yB O λc=>D.eW c.symm,bX:=O.bX D.bX}).dm P id id;have G:ao A (ri F E) OB OD s Ob NO N7:=(O.b4 λx c=>.inl c).q<|P.b4 λx c=>c.elim;induction N4 with|false=>rw[P4 Qt] at q⊢;exact Y [] NO Ob N7 q (λ_=>Qp _) G (Z (Q1 ..) {o with j:=o.j.d2 f})|true=>rw[P8 rfl] at q⊢;induction N5 using List.casesOn with|nil=>(have Oo:C[k+1]?=none:=by rw[List.drop_eq_nil_iff] at M;exact List.getElem?_eq_none M);refine Z Oo<|(K l<|P' l).dl P.aH o.j q (λv NP S R Oy bC Os B=>?_) bc.aB;have p:=o.dm bC id id;refine bZ p.bP λvs n NT NZ=>(append_at NT (λOj NY Op=>?_)<|by exact Z Qe<|ad NZ.d6<|Z QG<|m8<|NX.1 rfl);have H:ao A (·=E) S NP R S NP {R with heap:=Oj,toks:=R.toks}:=ao.kE bC.aH p.bX p.d0 (λ⟨OL,OQ,c,N,_⟩=>by rw[NT] at c;obtain rfl:=P0 c;injection N with N;exact absurd N #[]) (λg z Om Oe=>(NY.2 g Om).trans Oe) (P2 NY.1.symm) λOK c _=>(c p.eD).elim;refine Y [v] NP S _ B (λ_=>P5 _) ((G.q<|bC.b4 λx c=>c.elim).q<|H.b4 λx c=>.inr c) {p with j:=(p.j.dm H p.eW).d2 f,bP:=bq (vs++[Oy]) (n+1) (by simpa using Op)<|NZ.jI<|.aY Os .aP,bX:=H.bX p.bX}|cons Og OF=>refine aZ λOz NN=>?_;obtain⟨rfl,rfl,NV,⟨N',Oa,rfl⟩,w,N_,NW⟩:=ts cE;obtain⟨N9,OI,OH,NR⟩:=Og;refine NN ?_;dsimp only at NV NW;refine aZ λOz NN=>?_;subst NV NW;(have V:C[k+1]?=some ⟨N9,.Name w N_,[],NR⟩:=by have:=Q3 (·[0]?) M;simpa using this);have Ol:NR=0:=X _<|PW V;subst Ol;refine NN ?_;(have Oq:C.drop (k+1+1)=[]:=by have:=Q3 (List.drop 1) M;simpa using this);refine Z V ?_;induction l with|zero=>exact False.elim q|succ l=>have q:kb m (l+1) u NS (.Name w N_) (λN6=>bo N6 (kD m (l+1) u N9 [] [] (.Name N' Oa) NS) aJ 0 h aB) aB NO:=q;refine QC (rG T (K l<|Rb<|P' l) P.aH o.j q (Q:=λOu Ox=>codeAny (model aI aj.x) A (.compStart (.ListComp (.Name N' Oa) C u J) (k+1) Ou (.ref E) F) (λr N8=>match r with|.ok _=>Q N8|.error e=>cameBackBy (model aI aj.x) A F i e N8) Ox) (λOM OT S R g Oh bC t=>?_) bc.aB) (λx OO b=>⟨rfl,b⟩) λ_ _ c=>c;refine tw (λB NU=>X B<|PW NU) (λc=>vJ t.hj rfl c)<|v3 T U V Oq X rfl (k4.k2 λb=>qj b) bC.aH (o.dm bC id id) t.hj t.bX t.d0 t.eD (Q6<|Ra o.j.bX.f8 t.f_) (Q6<|Ra o.bX.f8 t.f_) Oh (NX.2 nofun) λOA OC OE Ow Oi H NQ=>(Y OA OE OC Ow Oi nofun (G.q<|ao.l8 ((bC.b4 λx c=>c.elim).q H) λx c=>?_) {NQ with j:=NQ.j.d2 f});(rcases c with c|c);exact .inl c;exact .inr<|c▸t.f_
end
end R
namespace R
open PySem.W PySem.Calls PyProof.Rows
theorem si{j:Env}{d:List (Str×NameKind)}(b:d.lookup x=some k):(d.map λ(n,k)=>if(k==NameKind.free&&j.scope.kind==.function&&j.kindOf n==some .cell) then(n,NameKind.cell) else(n,k)).lookup x=some k\/(k=.free/\(d.map λ(n,k)=>if(k==NameKind.free&&j.scope.kind==.function&&j.kindOf n==some .cell) then(n,NameKind.cell) else(n,k)).lookup x=some .cell):=by induction d with|nil=>exact bm b|cons g r e=>obtain⟨n,f⟩:=g;rw[Qg] at b;refine Z QM ?_;dsimp only;by_cases c:(f==NameKind.free&&j.scope.kind==.function&&j.kindOf n==some .cell)=true;refine Z (P8 c)<|Z Qg ?_;(cases a:x==n with|true=>rw[a] at b;obtain rfl:=P0 b;simp only[Bool.and_eq_true,beq_iff_eq] at c;exact .inr ⟨c.1.1,rfl⟩|false=>rw[a] at b;exact e b);refine Z (P4 c)<|Z Qg ?_;cases a:x==n with|true=>rw[a] at b;obtain rfl:=P0 b;exact .inl rfl|false=>rw[a] at b;exact e b
section
structure qU(A:Around)(f:ak)(g:V)(s:Shared)(c:ak)(h:V)(b:Shared)(v:Y)(e:Value)(a:Addr):Prop where
 dm:ao A a8 f g s c h b
 c_:aw c v e
 bX:fA c b.heap a
 d0:aj.co.objs.size<=a
 eD:gg A a
 f_:s.heap.objs.size<=a
 bm:∃d,b.heap.Ns a d
theorem qU.aX(x:qU A j k s c d a v p f)(i:Heap.SameBut f a.heap h):ao A a8 j k s c d {a with heap:=h}:=by refine bA x.bm λn m=>?_;have o:ao A (·=f) c d a c d {a with heap:=h,toks:=a.toks}:=ao.kE x.dm.aH x.bX x.d0 (jZ.mL m) (λg z l e=>(i.2 g l).trans e) (P2 i.1.symm) λn b _=>(b x.eD).elim;exact ao.l8 ((x.dm.b4 λx b=>b.elim).q o) λq b=>.inr<|Z b x.f_
structure IT(m:I)(e:Nat)(p:Scope)(g:ax)(f k j:Expr)(c:List Expr)(n:Int)(b:List Comprehension)(a:Scope)(h i:Y->aa)(r:V)(d:List (Str×Nat)):Prop where
 gq:a.kind=.function
 h1:∀x∈a.names,x.2≠.cell
 i':∀x∈a.names,x.2=.local->a.names.lookup x.1=some .local
 sw:∀o∈(⟨k,j,c,n⟩::b:List Comprehension),o.is_async=0
 jx:lf f c b=true
 AN:jz a g=some d
 bV:kb m e p g j (λq=>bo q (kD m e a k c b f {ct:=[],dg:=d}) aJ 0 (λl=>if Nat.ble l.length bl then J (a4<|.d l) h else ae) aB) i r
theorem C5(b:cw m (r+1) u l (.ListComp k (⟨v,t,p,g⟩::f) e y) h i w):∃j,IT m r u l k v t p g f e h i w j:=by
 refine bs (fs b) λcE a=>?_;have cE:(ro e&&g==0&&f.all (·.is_async==0)&&lf k p f)=true:=by simpa using cE
 simp only[Bool.and_eq_true,beq_iff_eq] at cE;obtain⟨⟨⟨d,rfl⟩,s⟩,c⟩:=cE;unfold ro at d;simp only[Bool.and_eq_true,beq_iff_eq,List.all_eq_true] at d;cases n:jz e l with|none=>rw[n] at a;exact a.elim|some j=>rw[n] at a;refine⟨j,d.1,λx o q=>?_,λx o q=>?_,λa c=>?_,c,n,a⟩;have:=(d.2 x o).1;rw[q] at this;exact gz this;have:=(d.2 x o).2;rw[q] at this;simpa using this;(rcases RD.1 c with rfl|c);rfl;rw[QU] at s;simpa using s a c
theorem yE{U:ak}(NN:cy)(NW:∀k<q,d' A m k)(R:aC A U N s.heap)(P:bB U N9 NZ j s.heap)(b:cw m (q+1) N9 NZ (.ListComp S (⟨B,F,z,C⟩::r) l W) h i N)(Oj:∀v NV OD N8 N' O,h v NV->qU A U N s OD NV N8 v N' O->compPost (model aI aj.x) A E' use Q N' O (.ok .next) N8)(Ow:bc A a8 U N s aw i E'):wpAny (model aI aj.x) A (comprehension (.ListComp S (⟨B,F,z,C⟩::r) l W) l j (firstIterPos (⟨B,F,z,C⟩::r) W) (newList []) (firstAsync<|⟨B,F,z,C⟩::r) (firstIter (⟨B,F,z,C⟩::r) j) use) Q E' s:=by refine bA (C5 b) λNO f=>(ah (wu P.k8 f.AN) λNP On Om=>?_);obtain rfl:C=0:=f.sw _ Qi;induction q using Nat.casesOn with|zero=>exact False.elim f.bV|succ q=>refine wpAny_comprehension_free rfl (λx=>xO<|uv f.bV) Om f.gq f.i' (rG NN (NW q<|P' q) R P f.bV (λOB G K d a L p n=>?_) Ow);have N4:=Q' d.heap (o:={cls:=.type "list",dict:=none,data:=.seq ([]:List Value).toArray}) rfl;have H:ao A a8 K G d K G {d with heap:=d.heap.push {cls:=.type "list",dict:=none,data:=.seq ([]:List Value).toArray},toks:=d.toks}:=ao.h4 p.aH (λg o e=>P_ _ e)<|Z (Q2 ..)<|Q4 _;refine wpAny_newObj_type<|wpAny_newFunctionEnv f.h1 (by intro t Ou;simp at Ou) (λE NS T=>?_) f.gq;dsimp only at NS T⊢;generalize Oh:d.heap.push {cls:=.type "list",dict:=none,data:=.seq ([]:List Value).toArray}=H2 at NS T N4 H⊢;(have M:H2.objs.size=d.heap.objs.size+1:=by exact ad (Oh ..)<|Z (Q2 ..) rfl);have N6:∀g o,H2.get? g=some o->E.get? g=some o:=λg o e=>T.extBut g o (Q6<|Q5 e)<|P_ _ e;have NT:H2.objs.size<E.objs.size:=Z (T.1 ..)<|Z (Q2 ..)<|P' _;have bC:ao A a8 K G {d with heap:=H2} K G {d with heap:=E,toks:=d.toks+0}:=ao.h4 H.aH N6<|Nat.le_of_lt NT;have X:=H.q bC;have NR:H2.objs.size≠d.heap.objs.size:=Z M<|Nat.succ_ne_self _;(have Of:bB K l {ct:=[],dg:=NO} (compEnvC l NP H2.objs.size j) E:=by exact⟨f.gq,λx k y=>si y,P.nZ,P.qI,(by intros;contradiction),bA p.cj λOe OC=>Z OC<|On.bD λ_ _=>fa.cj Oe,am _ NS (by intros;contradiction),H.aH.bX (P5 _) NT,H.aH.d0⟩);have Od:iI A K E d.heap.objs.size (compEnvC l NP H2.objs.size j) l {ct:=[],dg:=NO} []:=⟨Of,bq [] 0 (N6 _ _ N4) .aP,p.aH.bX (P5 _)<|Nat.lt_of_le_of_lt (M▸Q4 _) NT,p.aH.d0,p.aH.eD<|P5 _,NR⟩;have N5:=n.hj.dm X n.bX n.eD id;(have Oi:H2.objs.size≠a:=by have:=n.bX.f8;exact Z M<|QN<|Rb this);(have N7:∀{NX:List Y->Nat->(List Y->aa)->Prop},k4 m (q+1) l B z r S {ct:=[],dg:=NO} OB NX->NX [] aJ (λOa=>if Nat.ble Oa.length bl then J (a4<|.d Oa) h else ae)->codeAny (model aI aj.x) A (.compLoop (.ListComp S (⟨B,F,z,0⟩::r) l W) 0 (.ref a) (.ref d.heap.objs.size)<|compEnvC l NP H2.objs.size j) (compPost (model aI aj.x) A E' use Q (.ref d.heap.objs.size) H2.objs.size) {d with heap:=E,toks:=d.toks+0}:=λO Ov=>by refine v3 NN (BL NN (q+1) NW) rfl rfl f.sw f.jx O X.aH Od N5 (X.bX n.bX) n.d0 n.eD Oi (QN n.bX.f8) L Ov λOb OE Oc NU NQ N_ u=>?_;obtain⟨_,_,_,⟨rfl,rfl⟩,NQ⟩:=ij NQ;(have Ok:=ao.l8 (((p.q X).b4 λx c=>c.elim).q N_) λx c=>by(rcases c with(c|c)|c);exact .inr<|Z c<|P9 p.cq (Z M<|Q4 _:_<=H2.objs.size);exact .inl c;exact .inr<|Z c n.f_);refine bZ u.bP λvs Oy N3 Ot=>?_;have NY:=ao.ms (NP:=a8) N_.aH (o:=.d Ob) NU.toks u.bX u.d0 u.eD N3 (λc=>by have c:=c.1;injection c with c;exact absurd c #[])<|bq vs Oy N3<|Ot.bD λ_ _=>.cj _;(have OA:fA (OE++[(d.heap.objs.size,d.heap.objs.size)]) NU.heap H2.objs.size:=by have c:=u.j.bX;refine⟨λOz D=>?_,c.ck,c.f8⟩;(rcases PY.1 D with D|D);exact c.bH Oz D;simp at D;exact Z D ⟨NR,NR⟩);exact ah u.j.ct λOx Os _=>Oj (.a Oc.f) (Oc.z<|.d Ob) _ NU (.ref d.heap.objs.size) H2.objs.size NQ ⟨ao.s' Ok p.cq NY.1,NY.2,OA,u.j.d0,H.aH.eD<|P5 _,P9 p.cq<|Z M<|Q4 _,Ox,Os⟩);refine tw (λL Oo=>f.sw L<|PW Oo) (λc=>vJ N5 rfl c) ?_;induction r using List.casesOn with|nil=>exact N7 .fo (by simpa using(n3▸QT (Qw (Classical.choose_spec pu).2) 5))|cons Og OG=>obtain⟨rfl,rfl,Op,⟨OL,OM,rfl⟩,w,OK,Oq⟩:=ts f.jx;obtain⟨OJ,OI,OH,OF⟩:=Og;skip;subst Op Oq;exact N7 (.k2 λb=>HH b) λg NV L=>by refine bs (ij L) λOl _=>?_;simpa using RC Ol
end
section
theorem EH(J:cy)(N:d' A m l)(NW:∀k<l,d' A m k)(R:aC A D F s.heap)(d:bB D W t j s.heap)(b:lm u m p (l+1) W t (.Assign [f] e q) h F)(k:U A D F s W j h Q E'):wpAny (model aI aj.x) A (PySem.exec (.Assign [f] e q) j) Q E' s:=by
 refine bs (fs b) λNT b=>?_;have Y:swapsWith e (some f) q.line j=pure false->wpAny (model aI aj.x) A (PySem.exec (.Assign [f] e q) j) Q E' s:=λN4=>by(have NZ:(assignEach [f] j).map (·.2)=[assign f j]:=by cases f<;>first|rfl|exact gU NT);exact wpAny_Assign_stores (N.dl R d b (λv N' N9 N8 N7 X r n=>Z NZ<|GF J N X.aH (d.a7 X) r n<|k.hj X)<|k.nz d) N4<|GR d.i' NT
 by_cases NP:qJ e=false;exact Y<|tJ NP;·induction l using Nat.casesOn with|zero=>exact False.elim b|succ l=>induction e using PySem.Expr.casesOn with|ListComp NN o L G=>(induction o using List.casesOn with|nil=>exact False.elim b|cons n o=>obtain⟨S,P,O,M⟩:=n;induction f using PySem.Expr.casesOn with|Name x NV=>have i:∃g,swapsWith (.ListComp NN (⟨S,P,O,M⟩::o) L G) (some<|.Name x NV) q.line j=pure g:=⟨_,rfl⟩;refine bA i λg i=>?_;(induction g with|false=>exact Y i|true=>refine Z (exec_Assign_Name_used _ _ _ _ i)<|R_<|Qr<|R_ (R_<|QC (yE (Q:=λ_ T=>Q .next T) J (λk y=>NW k<|Rb y) R d b (λv N_ E T N7 K n B=>?_)<|k.nz d) (λ_ T N5=>P7<|P7 N5) λ_ _ e=>e:wpAny _ A (do let _<-comprehension (.ListComp NN (⟨S,P,O,M⟩::o) L G) L j _ (newList []) _ (firstIter (⟨S,P,O,M⟩::o) j) (some<|assign (.Name x NV) j)) _ _ s);have NR:K≠j.locals:=QN<|Ra d.bX.f8 B.f_;refine wpAny_assign_Name<|kq (h:=λt=>h<|.f t) B.dm.aH (d.a7 B.dm) B.c_ n λNX H C w N2 NY=>?_;obtain⟨NU,N3⟩:=B.bm;have NQ:=w.bm B.bX NR N3;refine am NU NQ λNO NS=>?_;have bC:ao A (·=K) E H C E H {C with heap:=NO,toks:=C.toks}:=ao.kE w.aH (w.bX B.bX) B.d0 (jZ.mL NQ) (λg z i e=>(NS.2 g i).trans e) (P2 NS.1.symm) λNU c _=>(c B.eD).elim;have N6:ao A (al j) D F s E H {C with heap:=NO}:=ao.l8 (i:=λa=>a=j.locals\/a=K) (((B.dm.b4 λa c=>c.elim).q<|w.b4 λa c=>.inl c).q<|bC.b4 λa c=>.inr c) λa c=>c.elim .inl λc=>.inr<|Z c B.f_;exact k.f NX H E _ NY N6<|N2.dm bC<|Qy NR)|_=>exact Y rfl)|SetComp _ _ _ _=>exact False.elim b|DictComp _ _ _ _ _=>exact False.elim b|_=>exact(NP rfl).elim
end
section
theorem tb(c:∀k<a,d' A m k):ov A m a g d j f:=by induction a with|zero=>exact λ_ _ b _ _=>False.elim b|succ a e=>exact Ay (c a<|P' a)<|e λk y=>c k<|Rb y
theorem Bh{U:V}(E:cy)(Ow:i1 A)(Of:g5 A m)(NX:∀k<M+1,d' A m k)(R:aC A NW U s.heap)(q:bB NW X O j s.heap)(b:cw m (M+1) X O e h i U)(t:bc A a8 NW U s aw h Q)(u:bc A a8 NW U s aw i E'):wpAny (model aI aj.x) A (PySem.eval e j) Q E' s:=by have C:=NX M<|P' M;have L:False->wpAny (model aI aj.x) A (PySem.eval e j) Q E' s:=False.elim;induction e using PySem.Expr.casesOn with|Constant k O7 B=>exact(by induction k with|none=>exact wpAny_Constant_none (t.g4 R b rfl)|bool g=>exact wpAny_Constant_bool (t.g4 R b rfl)|int N=>exact wpAny_Constant_int (t.b0 R b ⟨_,rfl⟩ _)|str x=>exact wpAny_Constant_str (t.b0 R b ⟨_,rfl⟩ _)|_=>exact False.elim b)|Name x B=>exact(by have b:g9 X O x h U:=b;refine wpAny_Name (nV E R q b λ_ _ r p=>t.g4 R p r) ?_;cases F:(x==("__debug__":Str)) with|false=>rfl|true=>unfold g9 at b;rw[P8<|by simp[F]] at b;exact b.elim)|Attribute v x B=>exact(by refine aZ λNV K=>?_;have b:=b;exact bs (fs b) λH b=>bs (Bool.or_eq_false_iff.1 H) λH N6=>K<|Z (arm_eval_Attribute ..)<|Z (vi H ..)<|R_<|C.dl R q b (λa Ou Os G NY d r p=>R_<|Qr<|R_<|Qb<|xu E d.aH (by simpa using N6) r p λg Oe Od Ob NQ D W S=>R_<|wpAny_letTemporaryGo<|P7<|t g Oe Od Ob NQ (d.q D) W S) u)|Subscript v N B=>have NR:xN N=false->cw m M X O v (λo=>cw m M X O N (λk=>J (ce o k) h) i) i U->wpAny (model aI aj.x) A (PySem.eval (.Subscript v N B) j) Q E' s:=λH p=>(Z (eval_Subscript ..)<|R_<|C.dl R q p (λo Ou Os G N8 d r p=>R_<|Qb<|C.dl d.aH (q.a7 d) p (λk Oe Od Ob O6 D W S=>R_<|Qr<|IM E D.aH (D.c_ r) W S (t.a7<|d.q D)<|Lp H)<|u.a7 d) u);(induction N using PySem.Expr.casesOn with|Slice O9 O3 d F=>(induction d with|none=>exact(by refine Z (eval_Subscript ..)<|R_<|C.dl R q b (λo Ou Os G N8 d r p=>R_<|Qb<|wpAny_Slice<|C.u2 d.aH (q.a7 d) p (λa Oe Od Ob NY D W S=>C.u2 D.aH ((q.a7 d).a7 D) S (λg Ov Ot NN NQ bC OU OD=>?_)<|u.a7<|d.q D)<|u.a7 d) u;show wpAny _ _ (evalPart none j) _ _ _;refine P7<|aZ λNV K=>?_;have Oo:ao A a8 Ot Ov NN Ot Ov {NN with heap:=NN.heap.push {cls:=.type "slice",data:=.fields #[NY,NQ,.none]},toks:=NN.toks}:=ao.h4 bC.aH (λg z e=>P_ _ e)<|Z (Q2 ..)<|Q4 _;have On:=bC.c_<|D.c_ r;obtain⟨w,NO,⟨OX,e,N3⟩,OM⟩:=OD;obtain⟨O',NP⟩:=eJ E bC.aH On e;refine bZ NP.c6 λvs n OE _=>(K<|R_<|Qr<|tail_any (Z NP.d1<|am _ (P_ _ OE) rfl) slot_list_getitem.lookup ?_ rfl);exact J3 E Oo.aH On W OU (Heap.IsSliceOf.new NN.heap NY NQ .none) (bq w NO (am OX e N3) OM)<|t.a7<|((d.q D).q bC).q Oo)|some _=>exact NR rfl b)|_=>exact NR rfl b)|BinOp f N9 r B=>exact As E C R q b t u|UnaryOp N9 x B=>(induction N9 with|USub=>exact(by refine wpAny_UnaryOp<|C.dl R q (h:=λv=>s4 v h) b (λv _ _ _ _ d r p=>?_) u;induction v with|c N=>obtain⟨Op,rfl⟩:=r;exact PySem.P.neg_int ((t.a7 d).b0 d.aH p ⟨_,rfl⟩ _)|_=>exact False.elim p)|_=>exact L b)|Compare f N_ N' B=>(induction N_ using List.casesOn with|nil=>exact L b|cons N9 N_=>induction N_ using List.casesOn with|cons _ _=>exact L b|nil=>induction N' using List.casesOn with|nil=>exact L b|cons r N'=>induction N' using List.casesOn with|cons _ _=>exact L b|nil=>exact(by have b:=b;exact bs (fs b) λT b=>wpAny_Compare1 (C.dl R q b (λ_ _ _ _ _ d r p=>C.dl d.aH (q.a7 d) p (λ_ _ _ _ _ D W S=>yd E Ow D.aH (D.c_ r) W S<|t.a7<|d.q D)<|u.a7 d) u) T))|IfExp Op a g B=>exact(by refine wpAny_IfExp<|C.lB R q b (λo _ _ _ N8 d r p=>?_) u;cases(r:o=N8);induction o with|true=>exact C.dl d.aH (q.a7 d) p (t.a7 d) (u.a7 d)|false=>exact C.dl d.aH (q.a7 d) p (t.a7 d)<|u.a7 d)|List OB B=>exact(by have b:=b;refine bs (fs b) λN5 b=>(wpAny_List_spliced<|C.mJ (by simpa using N5) R q b (λvs _ _ G Oq d r p=>aZ λNV K=>?_) u);obtain⟨N4,_,_,⟨rfl,rfl⟩,p⟩:=ij p;exact K ⟨by refine ad (aR.d6 r)<|Z QG ?_;exact cv<|RC N4,(t.a7 d).bf p<|pI d.aH r G.toks⟩)|Tuple OB k B=>exact(by have b:=b;refine bs (fs b) λN5 b=>(wpAny_Tuple_spliced<|C.mJ (by simpa using N5) R q b (λvs _ _ G Oq d r p=>aZ λNV K=>?_) u);obtain⟨N4,_,_,⟨rfl,rfl⟩,p⟩:=ij p;exact K ⟨by refine ad (aR.d6 r)<|Z QG ?_;exact cv<|RC N4,(t.a7 d).bf p<|pv d.aH rfl λNZ e=>am Oq e<|r.bD λ_ _=>.cj _⟩)|Dict O8 vs B=>refine bs (fs b) λNS b=>?_;simp only[Bool.not_eq_false',Bool.and_eq_true,beq_iff_eq] at NS;exact I' E (tb λk y=>NX k<|Rb y) NS.1.1 NS.1.2 (RC NS.2) R q b t u|ListComp O2 Oh O0 B=>(induction Oh using List.casesOn with|nil=>exact L b|cons p Oh=>obtain⟨Op,O5,O4,a⟩:=p;exact Z (eval_ListComp ..)<|yE E (λk y=>NX k<|Rb y) R q b (λv NO Oc Oa OW NP p x=>bA x.bm λN7 T=>am N7 T λNZ H=>t v NO Oc _ OW (by refine bA x.bm λN7 T=>?_;have d:ao A (·=NP) Oc NO Oa Oc NO {Oa with heap:=NZ,toks:=Oa.toks}:=ao.kE x.dm.aH x.bX x.d0 (jZ.mL T) (λg z N3 e=>(H.2 g N3).trans e) (P2 H.1.symm) λN7 F _=>(F x.eD).elim;exact ao.l8 ((x.dm.b4 λx F=>F.elim).q d) λPb F=>.inr<|Z F x.f_) x.c_ p) u)|Lambda a g NU B=>exact(by refine aZ λNV K=>(c5 (vK b) λOZ k ON y b=>eN (xQ b) λOO NT p=>?_);(have NT:kn a=true:=by simpa using NT);obtain⟨O1,Oz,Pa,T,OF,OG,OH,OI,OJ,OK,OL,Ok,Oi,Oj⟩:=xD E R q ON y;refine tx (sf NT) λ_ _ O_ OS _ OT _=>(K ?_);have e:PySem.eval (.Lambda a g NU B) j=(do let Og<-evalAll (defaultsOf a j).1;let OQ<-holding Og (evalAllOpt (defaultsOf a j).2);makeFunction "<lambda>" (j.qual++"<lambda>") a (.expr g) NU j Og OQ [] B B.line):=rfl;refine Z (e ..)<|Z (defaultsOf_eq ..)<|Z (OS ..)<|Z (OT ..)<|R_<|P7<|R_<|P7<|kla_makeFunction OH q.nZ OL OF OI Ok Oi (Oj B OO) OK OJ λOy OA NZ OV N6 Ol Om lw OP=>?_;have F:=ao.tA (Oh:=OV) (n:=kS a (.expr g) NU) R T Ok Oi Oj N6 (Nat.le_of_lt<|Nat.lt_of_le_of_lt Ol Om) Ol Om lw OP (j:=kla_obj "<lambda>" (j.qual++"<lambda>") a g NU Oz ((aj.hn "__name__").getD .none) Oy OA) rfl rfl NT rfl OG;exact t _ _ _ _ _ F.1 F.2 p)|Call l args OR B=>(induction OR using List.casesOn with|cons _ _=>cases l<;>exact L b|nil=>have NR:wU l=false->(if(!gd args)=true then ae else cw m M X O l (λOC=>hr m M X O args (λOx=>m OC Ox h i) i) i) U->wpAny (model aI aj.x) A (PySem.eval (.Call l args [] B) j) Q E' s:=λH p=>Ce Of C H R q p t u;induction l using PySem.Expr.casesOn with|Attribute o x OY=>exact LM E Of C (HE E C) R q b t u|_=>exact NR rfl b)|_=>exact L b
theorem su(h:cy)(i:i1 A)(j:g5 A m)(e:Nat):d' A m e:=by induction e using Nat.strongRecOn with|ind e g=>induction e using Nat.casesOn with|zero=>exact⟨λ_ _ b _ _=>False.elim b,λ_ _ _ b _ _=>False.elim b,λ_ _ b _ _=>(b:False).elim,λ_ _ b _ _=>b.elim,λ_ _ b _ _=>(show False from b).elim⟩|succ e=>have f:=g e<|P' e;exact⟨λR a b d c=>Bh h i j g R a b d c,λl R a b d c=>z3 f l R a b d c,λR a b d c=>GC f R a b d c,λR a b d c=>LG h i f (λk y=>g k<|Rb y) R a b d c,λR a b d c=>GZ f R a b d c⟩
theorem x5(y:he A m u p n)(R:aC A t g s.heap)(z:bB t e o j s.heap)(S:gX A j)(b:br u m p (n+1) e o f h g)(k:U A t g s e j h Q i):wpAny (model aI aj.x) A (PySem.execs f j) Q i s:=by induction f using List.casesOn with|nil=>exact wpAny_execs_nil (k.f o g t s b (ao.oS R) z)|cons K f=>have b:lm u m p n e o K (cF u m p n e f h) g:=b;exact wpAny_execs_cons<|y.Dh R z S b ⟨λq x w r d a c=>y.ib a.aH c S d<|k.aU a,λv q x w r L d a c D=>k.b0 v q x w r L d a c D,λE F l q x w r H d B C a c=>k.bd E F l q x w r H d B C a c⟩
theorem xZ(B:cy)(NU:∀k<H+1,d' A m k)(Ob:p=false->A.handled=none)(M:he A m u p H)(N5:∀q<H,∀v,he (A.mark<|some v) u u true q)(R:aC A NO X s.heap)(d:bB NO G D j s.heap)(S:gX A j)(b:lm u m p (H+1) G D c h X)(k:U A NO X s G j h Q i):wpAny (model aI aj.x) A (PySem.exec c j) Q i s:=by have C:=NU H<|P' H;have NV:∀k<H,d' A m k:=λk y=>NU k<|Rb y;have n:False->wpAny (model aI aj.x) A (PySem.exec c j) Q i s:=False.elim;induction c using PySem.Stmt.casesOn with|Expr e E=>exact(by have b:=b;exact bs (fs b) λOa b=>wpAny_Expr_any (C.dl R d b (λv Y K P W c r f=>k.f D Y K P f c.gB<|d.a7 c)<|k.nz d) (by unfold interactive;exact Z d.gq rfl)<|tJ Oa)|Return e E=>(induction e with|none=>exact(wpAny_Return_none<|k.b0 .s D X NO s .none b (ao.oS R) d rfl)|some e=>exact wpAny_Return_some<|C.dl R d b (λv Y K P W c r f=>k.b0 v D Y K P W f c.gB (d.a7 c) r)<|k.nz d)|Assign NT e E=>(induction NT using List.casesOn with|nil=>exact n b|cons T NT=>induction NT using List.casesOn with|nil=>exact EH B C NV R d b k|cons _ _=>exact n b)|AugAssign T OA e E=>(induction T using PySem.Expr.casesOn with|Name x OG=>exact(wpAny_AugAssign_Name<|nV B R d b λa N7 r f=>C.dl R d f (λg Oq On Of N8 F NR NP=>rK F.aH (F.c_ r) NR NP λt Os Oo Og Ok bC NS NQ=>kq bC.aH ((d.a7 F).a7 bC) NS NQ (k.hj<|F.q bC).rr) bc.aB)|Attribute o x Ou=>exact(by have b:=b;refine bs (fs b) λL b=>?_;(have L:ba.fC x=true:=by simpa using L);exact wpAny_AugAssign_AttributeAny<|C.dl R d b (λOB OJ OI OD OC NN NZ N_=>xu B NN.aH L NZ N_ λa Y K P N7 c r f=>C.dl c.aH ((d.a7 NN).a7 c) f (λg Oq On Of N8 F NR NP=>rK (l:=a8) F.aH (F.c_ r) NR NP λt Os Oo Og Ok bC NS NQ=>sX (NN:=a8) B bC.aH L (bC.c_<|F.c_<|c.c_ NZ) NS NQ λOE Ot Op Oh OF N4 _ N'=>k.f D Ot Op Oh N' ((((NN.q c).q F).q bC).q N4).gB<|((((d.a7 NN).a7 c).a7 F).a7 bC).a7 N4) bc.aB) bc.aB)|Subscript o Ox Oy=>exact IU B C R d b k|_=>exact n b)|If T a g E=>exact(by refine wpAny_If<|C.lB R d b (λv _ _ _ W c r f=>?_) bc.aB;cases(r:v=W);induction v with|true=>exact M.ib c.aH (d.a7 c) S f (k.hj c)|false=>exact M.ib c.aH (d.a7 c) S f<|k.hj c)|While T g O E=>(induction O using List.casesOn with|nil=>exact HW C M R d S b k|cons _ _=>exact n b)|For T Oz g O E=>(induction O using List.casesOn with|nil=>exact J' B NV M R d S b k|cons _ _=>exact n b)|Raise e cs E=>(induction e with|none=>exact n b|some e=>induction cs with|none=>exact(by have b:(if p=true then ae else cw m H G D e (λv=>J (dz v) λz=>iU z<|h<|.bd v D)<|bb D h) X:=b;refine bs (fs b) λOc b=>(Z (arm_exec_Raise ..)<|R_<|Qr<|Fx B (Ob Oc)<|R_<|C.dl R d b (λv Y K P W c r f=>R_<|Qr<|P7<|aZ λOH Ol=>?_)<|k.nz d);obtain⟨o,_,⟨rfl,N⟩,f⟩:=f;obtain⟨E,N6⟩:=eJ B c.aH r N;refine Ol ?_;induction o with|bd NX l=>(rcases N6.al with⟨a,rfl⟩|L);exact cM (c.aH.aU r N) λNY Om NW _=>(Z Om ⟨K,w,a,NX,l,NY,rfl,c.aH,NW,N,λOe N3=>k.bd a NX l D _ K Oe NY f N NW (c.q N3).gB<|(d.a7 c).a7 N3⟩);exact absurd rfl (L _ _)|_=>exact False.elim f)|some _=>exact n b)|FunctionDef x a g N9 Od Oi Ov Oj bind E=>(induction N9 using List.casesOn with|cons _ _=>exact n b|nil=>induction Od with|some _=>exact n b|none=>induction Oi using List.casesOn with|cons _ _=>exact n b|nil=>induction Oj with|some _=>exact n b|none=>exact MO B R d b k)|Try g Ow O bf E=>(induction O using List.casesOn with|nil=>exact Kp B M N5 R d S b k|cons _ _=>exact n b)|_=>exact n b
theorem xX:he A m u p 0:=⟨λ_ _ _ b _=>False.elim b,λ_ _ _ b _=>False.elim b⟩
theorem i1.b8(a:i1 A)(v:Option Value):i1 (A.mark v):=⟨a.cH,a.n4⟩
theorem Hu(d:cy)(h:i1 A)(g:∀v,g5 (A.mark<|some v) u)(a:Nat):∀v,he (A.mark<|some v) u u true a:=by induction a using Nat.strongRecOn with|ind a e=>intro v;induction a using Nat.casesOn with|zero=>exact xX|succ a=>have f:=e a (P' a) v;exact⟨λR c S b k=>xZ d (λk _=>(su d (h.b8<|some v)<|g v) k) (λj=>gU j) f (λq i l=>e q (Rb i) l) R c S b k,λR c S b k=>x5 f R c S b k⟩
theorem DT(a:cy)(e:i1 A)(g:g5 A m)(h:∀v,g5 (A.mark<|some v) u)(i:p=false->A.handled=none)(d:Nat):he A m u p d:=by induction d with|zero=>exact xX|succ d f=>exact⟨λR c S b k=>xZ a (λk _=>su a e g k) i f (λq _ v=>Hu a e h q v) R c S b k,λR c S b k=>x5 f R c S b k⟩
end
section
theorem aC.mr(g:c.frames=A.frames)(h:c.handled=A.handled)(R:aC A a d b):aC c a d b:={R with cH:=λf e=>R.cH f<|g▸e,dU:=λi e=>R.dU i<|h▸e}
theorem ao.mr(d:c.frames=A.frames)(l:c.handled=A.handled)(T:ao A b g i s h j f):ao c b g i s h j f:={T with aH:=T.aH.mr d l,er:=λa o m=>T.er a o λk e=>m k<|d.trans e}
theorem aC.np(R:aC A g l b)(y:j.scope.kind=.function)(o:j.frame=some a)(p:aj.co.objs.size<=a)(r:b.Ns a i)(q:ec g a):aC (A.deeper j) g l b:={R with cH:=λh e n d=>by(obtain⟨c,m,rfl⟩:∃c,A.frames=some c/\h=j::c:=by have e:A.frames.map (j::·)=some h:=e;cases k:A.frames with|none=>rw[k] at e;exact bm e|some f=>rw[k] at e;obtain rfl:=P0 e;exact am f rfl rfl);(rcases RD.1 d with rfl|d);exact⟨y,a,i,o,p,r,q⟩;exact R.cH c m n d,dU:=R.dU}
theorem ao.wq{A:Around}{D:Addr->Prop}{L M:ak}{P Q:V}{s H:Shared}{O:ak}{W:V}{K:Shared}{j:Env}{C:Addr}(c:ao A a8 L P s O W K)(T:ao (A.deeper j) D O W K M Q H)(E:∀a,D a->s.heap.objs.size<=a)(N:j.frame=some C)(I:s.heap.objs.size<=C):ao A a8 L P s M Q H where
  aH:=have R:=T.aH;{R with
      cH:=λu e y p=>R.cH (j::u) (Z e rfl:A.frames.map _=_) y (Qs _ p)
      dU:=R.dU}
  m:=by
    refine ah c.m λe g n=>?_
    subst g
    refine ah T.m λX g w=>(Z g<|am (e++X) (Z (Qf ..) rfl) λB h=>Or.elim (PY.1 h) (λh=>?_) λh=>?_)
    · exact n B h
    · exact⟨P9 c.cq (w B h).1,P9 c.cq (w B h).2⟩
  S:=λa o q t _ r d=>by
    refine ah c.m λe g n=>?_
    subst g
    obtain⟨G,w⟩:=c.S a o q t id r d
    exact T.S a {o with slots:=G} (q.cj n<|Q5 d) t (λi=>Qn _<|Ra (Q5 d)<|E a i) r w
  er:=λa o F q t _ r d=>by
    refine ah c.m λe g n=>?_
    subst g
    refine T.er a o (λu e y p z=>?_) (q.cj n<|Q5 d) t (λi=>Qn _<|Ra (Q5 d)<|E a i) r (c.er a o F q t id r d)
    obtain⟨v,Y,rfl⟩:∃v,A.frames=some v/\u=j::v:=by
      have e:A.frames.map (j::·)=some u:=e
      cases i:A.frames with
      |none=>rw[i] at e;cases e
      |some f=>rw[i] at e;obtain rfl:=P0 e;exact am f rfl rfl
    rcases RD.1 p with rfl|p
    · rw[N] at z
      obtain rfl:=P0 z
      exact Qn _ (Ra (Q5 d) I)
    · exact F v Y y p z
  cq:=P9 c.cq T.cq
  go:=T.go.trans c.go
  e7:=T.e7.trans c.e7
  gr:=λx k l b=>bA (c.gr x k l b) λU J=>T.gr x k U J
theorem zP:∀{t:List (Str×NameKind)} {d:List (Str×Nat)} {f:List (Str×Addr)} {g:ak} {c:V} {s:Shared} {h:List (Str×Nat)->aa} {Q:List (Str×Addr)->Shared->Prop},aC A g c s.heap->aR (fa g) d f->mm t d h c->(∀n p m dg j,ao A a8 g c s n p m->aR (fa n) dg j->h dg p->Q j m)->wpAny (model aI aj.x) A (forIn t f λ(x:Str×NameKind) (j:List (Str×Addr))=>if(x.2==.cell)=true then(do let a<-alloc {cls:=.type "cell",data:=.cell none};pure<|ForInStep.yield<|(x.1,a)::j) else pure<|ForInStep.yield j) Q i s:=by intro B;induction B with|nil=>intro d f g c s h Q R l e b;exact P7 (b g c s d f (ao.oS R) l e)|cons C r q=>intro d f g c s h Q R l e b;obtain⟨x,k⟩:=C;refine Z (List.forIn_cons ..) ?_;by_cases y:k=.cell;subst y;refine aZ λE z=>?_;obtain⟨_,_,⟨rfl,rfl⟩,e⟩:=(e:J d3 (λa=>mm r ((x,a)::d) h) c);refine z<|Z (P8 (rfl:((x,NameKind.cell).snd==NameKind.cell)=true))<|R_<|R_<|wpAny_alloc<|P7 ?_;have u:=pv (d:=a8) R (o:=.h1 none) (z:={cls:=.type "cell",data:=.cell none}) (i:=s.toks) rfl λD e=>am none (am _ e rfl) Qd;exact q u.1.aH (.aY (⟨rfl,(s.heap.objs.size,s.heap.objs.size),by refine(ad R.cq ?_:(g++_)[c.f]?=_);simp,rfl⟩:fa (g++[(s.heap.objs.size,s.heap.objs.size)]) (x,c.f) (x,s.heap.objs.size))<|l.bD λ_ _=>fa.cj _) e λn p m dg j w v=>b n p m dg j (u.1.q w) v;(have e:mm r d h c:=by cases k<;>first|exact absurd rfl y|exact e);exact Z (P4<|by simpa using y)<|R_<|P7<|q R l e b
theorem Hr(F:aR (λa g=>a.1=g.1/\aw k a.2 g.2) n o):∀{d:ax} {c:V} {s:Shared} {h:ax->aa} {Q:PUnit->Shared->Prop},aC A k c s.heap->bB k m d j s.heap->nA m n d h c->KF A k c s m j h Q->wpAny (model aI aj.x) A (forIn o PUnit.unit λ(x:Str×Value) (_:PUnit)=>do storeName j x.1 x.2;pure<|ForInStep.yield PUnit.unit) Q i s:=by induction F with|aP=>exact λ{d c s _ _} R l e b=>P7 (b d c s (ao.oS R) l e)|@aY a g f _ r _ C=>intro d c s h Q R l e b;obtain⟨x,v⟩:=a;obtain⟨t,w⟩:=g;obtain⟨rfl,B⟩:=r;exact Z (List.forIn_cons ..)<|R_<|R_<|kq R l B e λK M L p q z=>P7<|C p.aH q z λy H E D u=>b y H E (p.q D) u
theorem Df{c:ed}(R:aC A d m s.heap)(y:c.eg.kind=.function)(T:∀k,c.ck=some k->∃w,f0[k]?=some w/\q=.ref w.1)(P:aR (fa d) u v)(S:aR (λa g=>a.1=g.1/\aw d a.2 g.2) B C)(e:mm c.eg.names u (λdg=>nA c.eg B {ct:=[],dg:=dg,ck:=c.ck} h) m)(b:∀j F p l n,j.frame=some j.locals->s.heap.objs.size<=j.locals->ao A a8 d m s F p l->bB F c.eg n j l.heap->h n p->Q j l):wpAny (model aI aj.x) A (newFunctionEnv c.eg mainGlobals v C qual func q none builtinsNs) Q i s:=by dsimp only[newFunctionEnv,Option.isSome_none,Bool.false_eq_true,if_false];refine R_<|wpAny_alloc ?_;have D:ao A a8 d m s d m {s with heap:=s.heap.push {cls:=.type "frame",data:=.dict ([].toArray)},toks:=s.toks}:=ao.h4 R (λg o e=>P_ _ e)<|Z (Q2 ..)<|Q4 _;have M:(s.heap.push {cls:=.type "frame",data:=.dict ([].toArray)}).Ns s.heap.objs.size λ_=>none:=Heap.Ns.new ..;have z:fA d (s.heap.push {cls:=.type "frame",data:=.dict ([].toArray)}) s.heap.objs.size:=R.bX (P5 _)<|Z (Q2 ..)<|P' _;refine R_<|zP D.aH P e λE J U dg H t O K=>?_;have r:=D.q t;have N1:bB E c.eg {ct:=[],dg:=dg,ck:=c.ck} {scope:=c.eg,locals:=s.heap.objs.size,globals:=mainGlobals,cells:=H,qual:=qual,func:=func,code:=q,frame:=some s.heap.objs.size,builtins:=builtinsNs} U.heap:=⟨y,λx k W=>.inl W,rfl,rfl,T,O,am _ (t.bm z id M) (by intros;contradiction),t.bX (s:={s with heap:=s.heap.push {cls:=.type "frame",data:=.dict ([].toArray)}}) z,R.d0⟩;exact R_<|Hr (S.bD λ_ _ f=>⟨f.1,r.c_ f.2⟩) r.aH N1 K λn p l X N2 L=>P7<|b _ E p l n rfl (P5 _) (ao.l8 ((r.b4 λ_ f=>f.elim).q X) λa f=>.inr<|Z f<|P5 _) N2 L
end
theorem aR.w7{P:List Str}(b:aR (aw d) vs c):aR (λ(a:Str×Y) (g:Str×Value)=>a.1=g.1/\aw d a.2 g.2) (P.zip vs) (P.zip c):=by induction b generalizing P with|aP=>(induction P using List.casesOn with|nil=>exact .aP|cons _ _=>exact .aP)|aY r f e=>induction P using List.casesOn with|nil=>exact .aP|cons _ _=>exact .aY ⟨rfl,r⟩ e
section
theorem tC{A:Around}{L:ak}{X:V}{s:Shared}{E':Value->Shared->Prop}{m u:I}{p:Bool}{Q:Value->Shared->Prop}{h i:Y->aa}{a:Addr}{NQ:ed}{NV:List (Str×Nat)}{NP args:List Y}{NO:List Value}(NN:cy)(NT:∀j,i1<|A.deeper j)(Oj:A.depth<recursionLimit)(OF:p=false->A.handled=none)(N7:∀j,g5 (A.deeper j) m)(Oq:∀j v,g5 ((A.deeper j).mark<|some v) u)(R:aC A L X s.heap)(N:oL L s.heap a NQ NV NP)(Od:aR (aw L) args NO)(b:e' m u p NQ NV NP args h i X)(N4:bc A a8 L X s aw h Q)(OQ:bc A a8 L X s aw i E'):codeAny (model aI aj.x) A (.call (.ref a) ⟨NO,[]⟩) (λr w=>match r with|.ok (.ret v)=>Q v w|.ok _=>False|.error e=>E' e w) s:=by
 refine aZ λOV N6=>?_;obtain⟨z,name,qual,Om,N',Ow,OR,Os,N9,Ov,N_,Og,_,Of,⟨OK,OL,OM,ON⟩,G,Oe,OC,sv,Ok⟩:=N;refine bs (fs b) λcE b=>(N6 ?_);simp only[Bool.not_eq_false',Bool.and_eq_true,beq_iff_eq] at cE;obtain⟨N,OH⟩:=cE;unfold xi at N;simp only[Bool.and_eq_true,beq_iff_eq,Bool.not_eq_true',decide_eq_true_eq] at N;refine aZ λOV N6=>?_;obtain⟨⟨⟨y,NY⟩,NZ⟩,dU⟩:=N;obtain⟨U,NR,OG⟩:∃U,aR (aw L) NP U/\∀{c:Around} {E':Value->Shared->Prop} {Q:Option (Array Value)->Shared->Prop},(∀o:Option (Array Value),(o.getD ([].toArray)).toList=U->Q o s)->wpAny (model aI aj.x) c (seqItems? N') Q E' s:=by(rcases sv with⟨rfl,rfl⟩|⟨T,o,U,n,rfl,OA,OB,NR⟩);exact am [] .aP λb=>P7<|b _ rfl;exact am U NR λb=>wpAny_seqItems OA OB<|b _<|rfl
 have Oi:=aR.w7 (P:=NQ.ka)<|Od.jI NR;have OI:NO.length+U.length=(Om.args.map (·.arg)).length:=ad Od.d6<|ad NR.d6<|ad G OH;obtain⟨Oa,NW,H,Oc⟩:=NQ;refine N6 ?_;dsimp only at y NY NZ dU G Ok Oi;have frame:∀{q:ax->aa} {NU:Env->Shared->Prop} {E':Value->Shared->Prop} {t:Str} {l:Option Addr},mm H.names NV (λdg=>nA H (Oa.zip<|args++NP) {ct:=[],dg:=dg,ck:=Oc} q) X->(∀j M O C B,j.frame=some j.locals->s.heap.objs.size<=j.locals->ao A a8 L X s M O C->aC (A.deeper j) M O C.heap->bB M H B j C.heap->gX (A.deeper j) j->q B O->NU j C)->wpAny (model aI aj.x) A.in1 (bindArgs ⟨name,qual,Om,NW,H,mainGlobals,N_,N',.none,Ow,OR,Os,.ref N9,Ov,builtinsNs⟩ ⟨NO,[]⟩) (λOt Op=>wpAny (model aI aj.x) A.in1 (newFunctionEnv H mainGlobals N_ Ot t l (.ref N9) none builtinsNs) NU E' Op) E' s:=by intro q NU E' t l e b;refine zF OK OL OM ON (G▸dU) OI OG<|Df (c:=⟨Oa,NW,H,Oc⟩) (aC.mr (A:=A) (c:=A.in1) rfl rfl R) y (λk y=>ah (Ok k y) λOu Oy Oz=>am Ou Oy<|Z Oz rfl) OC (G▸Oi) (G▸e) λj M O C B K J W F d=>?_;have On:=ao.mr (A:=A.in1) (c:=A) rfl rfl W;obtain⟨Ox,NS⟩:=(NT j).cH;(obtain⟨NX,OE⟩:∃NX,A.frames=some NX:=by have NS:A.frames.map (j::·)=some Ox:=NS;cases t:A.frames with|none=>rw[t] at NS;exact bm NS|some f=>exact⟨f,rfl⟩);exact ah F.ct λOW OJ _=>b j M O C B K J On (On.aH.np F.gq K F.d0 OJ F.bX.bH) F ⟨j::NX,j.locals,by refine(Z OE ?_:A.frames.map _=_);rfl,K,j,Qi,K⟩ d
 induction NW with|stmts g=>refine codeAny_call_function Oj Og Of NY NZ rfl Oe (frame (q:=λB=>br u m p mC H B g<|de h i) b λj M O C B K J W R2 F S d=>⟨NN.k2.keeps W.aH.bn,codeAny_func ?_⟩);have d2:∀{E:V} {D:ak} {w:Shared},ao (A.deeper j) (al j) M O C D E w->ao A a8 L X s D E w:=λbC=>ao.wq W bC (λx t=>Z t J) K J;exact(DT NN (NT j) (N7 j) (Oq j) (λt=>OF t) mC).ib R2 F S d ⟨λOb E D w d bC N8=>N4 .s E D w .none (d2 bC) rfl d,λv Ob E D w N5 d bC N8 N3=>N4 v E D w N5 (d2 bC) N3 d,λOP k l Ob E D w Ol d OD Oh bC N8=>R_<|qe bC.aH Oh OD S λOp Oo OO=>mb Oo.aH OO λC OS _=>(λOU OT=>OQ (.a OP) E D OU (.ref Ol.1) (d2<|bC.q<|OT.b4 λ_ t=>t.elim) (am Ol Oh rfl) d) _<|Oo.q OS⟩|expr e=>exact kla_callFunE Oj Og Of NY NZ rfl Oe (frame (q:=λB=>cw m mC H B e h aB) b λj M O C B K J W R2 F S d=>⟨NN.k2.keeps W.aH.bn,kla_codeExpr<|(su NN (NT j) (N7 j) mC).dl R2 F d (λv E D w N5 bC N3 d=>N4 v E D w N5 (ao.wq W bC (λx t=>t.elim) K J) N3 d) bc.aB⟩)
end
section
theorem Je{au:List Value}(c:b.get? a=some (excClassObj y z a k m e r C au l n o t u v w x "Exception.__new__"))(p:e.contains (.type "Exception")=true)(s:Q () ⟨b,h,g,j,f⟩):wpAny M A (checkBuiltinCall "Exception.__new__" ⟨.ref a::B,[]⟩) Q i ⟨b,h,g,j,f⟩:=by
 have d:=PySem.F.excBase_Exception;have q:(Value.ref a::e).contains (.type "Exception")=true:=by refine Z (QP ..)<|Z (p ..)<|Z (Bool.or_true ..) ?_;rfl
 simp only[checkBuiltinCall,d.newKind,d.newSplit,d.newRow];repeat (first|refine QK c ?_|(refine wpAny_isSubtype_exc c ?_;refine Z q ?_)|refine wpAny_staticBase_exc c ?_|refine wpAny_madeBy_exc c ?_|simp only[bne_self_eq_false,Bool.false_eq_true,if_false]|wp_step)
 exact s
theorem J7{K:List Str}{au:List Value}(e:b.get? a=some (excClassObj E H a k m c v K au l n o y z B C D "Exception.__new__"))(r:c.contains (.type "Exception")=true)(p:c.contains (.type "AttributeError")=false)(q:c.contains (.type "NameError")=false)(x:R (.ok<|.ret<|.ref<|b.objs.size+1) ⟨(b.push {cls:=.type "tuple",data:=.seq g.toArray}).push {cls:=.ref a,data:=.fields #[.ref b.objs.size,.none,.none,.none,.bool false,.none]},i,h,j,f⟩)(M:g.length<=sizeLine):codeAny (model prog w) A (.builtin "Exception.__new__" ⟨.ref a::g,[]⟩) R ⟨b,i,h,j,f⟩:=by
 have d:=PySem.F.excBase_Exception;have L:=d.ends;have t:(Value.ref a::c).contains (.type "Exception")=true:=by refine Z (QP ..)<|Z (r ..)<|Z (Bool.or_true ..) ?_;rfl
 have s:(Value.ref a::c).contains (.type "AttributeError")=false:=by refine Z QP<|Z p ?_;rfl
 have u:(Value.ref a::c).contains (.type "NameError")=false:=by refine Z QP<|Z q ?_;rfl
 refine codeAny_builtinAt d.entry<|PySem.wpAt_bind (PySem.wpAt_bind<|PySem.wpAt_stack λO below=>PySem.wpAt_of_wpAny ?_:PySem.wpAt _ _ _ (stack>>=_) _ _ _);wp_walk;refine PySem.wpAt_of_wpAny<|Z d.owner ?_;repeat (first|with_reducible refine wpAny_madeHere_exc d.canon e ?_|with_reducible refine QK e ?_|(with_reducible refine wpAny_isSubtype_exc e ?_;first|rw[t]|rw[s]|rw[u])|wp_step)
 refine(?_:R _ _);exact Z (Q2 ..) x
theorem CA{J:Str}{I:List Str}{au:List Value}{Y V U:Option Value}(x:h.In b)(d:b.get? a=some (excClassObj J N a u z i L I au y B C W X Y V U "Exception.__new__"))(q:i.contains (.type "Exception")=true)(D:i.contains (.type "AttributeError")=false)(H:i.contains (.type "NameError")=false)(Q:findIn h (.ref a) "__init__"=some (some<|.ref l))(O:typeIn h (.ref l)=some (.type "function"))(T:c.length<=sizeLine)(S:codeAny (model prog w) (A.under<|.builtin "type.__call__" ⟨.ref a::c,[]⟩) (.call (.ref l) ⟨.ref (b.objs.size+1)::c,[]⟩) (InitBack (b.objs.size+1) R) ⟨(b.push {cls:=.type "tuple",data:=.seq c.toArray}).push {cls:=.ref a,data:=.fields #[.ref b.objs.size,.none,.none,.none,.bool false,.none]},m,k,n,f⟩):codeAny (model prog w) A (.call (.ref a) ⟨c,[]⟩) R ⟨b,m,k,n,f⟩:=by
 have NN:=tc_lookup;have NO:=tc_bind<|.ref a;have NP:(⟨b,m,k,n,f⟩:Shared).TypeIs (.ref a) "type":=am _ d rfl;refine codeAny_of_tree (?_:wpAny _ _ (callAny (.ref a) _) _ _ _);repeat (any_goals (first|assumption|with_reducible refine QK d ?_|wp_step))
 refine⟨rfl,codeAny_call_builtin_at (Code.quiet_builtin _<|by decide+kernel) entry_typeCall<|wpAny_check_type_call_sub d ?_⟩;repeat (first|with_reducible refine QK d ?_|with_reducible refine wpAny_madeBy_exc d ?_|wp_step)
 refine codeAny_call_builtin_code (Code.quiet_builtin _ PySem.F.excBase_Exception.quiet)<|Je d q<|J7 d q D H (?_:wpAny _ _ _ _ _ _) T;have E:=P_ {cls:=.ref a,data:=.fields #[.ref b.objs.size,.none,.none,.none,.bool false,.none]}<|P_ {cls:=.type "tuple",data:=.seq c.toArray} d;have P:((b.push {cls:=.type "tuple",data:=.seq c.toArray}).push {cls:=.ref a,data:=.fields #[.ref b.objs.size,.none,.none,.none,.bool false,.none]}).get? (b.objs.size+1)=some {cls:=.ref a,data:=.fields #[.ref b.objs.size,.none,.none,.none,.bool false,.none]}:=by heap_get
 have K:(Value.ref a::i).contains (.ref a)=true:=by simp
 have p:h.In ((b.push {cls:=.type "tuple",data:=.seq c.toArray}).push {cls:=.ref a,data:=.fields #[.ref b.objs.size,.none,.none,.none,.bool false,.none]}):=x.keeps λg o e=>P_ _<|P_ _ e;have t:Looks (model prog w) ((b.push {cls:=.type "tuple",data:=.seq c.toArray}).push {cls:=.ref a,data:=.fields #[.ref b.objs.size,.none,.none,.none,.bool false,.none]}) (typeOf<|.ref<|b.objs.size+1) (.ref a):=ps P rfl;have s:=o5 (M:=model prog w) E<|.ref a;rw[K] at s;refine R_<|R_<|t.here<|s.here<|Z (P4 #[])<|R_<|Qb ?_;delta callSpecial? specialOf;refine R_<|R_<|t.here<|(looks_findIn p Q).here ?_;refine Qb<|R_<|(bind_fn p _ O).here<|R_<|wpAny_call ?_;refine codeAny_mono S λr NQ j=>?_;rcases r with e|(v|_|_|_)<;>first|exact j|exact j.elim|skip
 exact bs j λG j=>Z G<|P7<|P7 j
end
end R
namespace R
open PySem.W PySem.Calls PyProof.Rows
set_option tactic.hygienic true
structure l6(A:Around)(n:Nat):Prop where
 cH:∃a,A.frames=some a
 n4:A.units+200+20*n<=cLine
 wO:A.depth+n<recursionLimit
section
theorem l6.np(a:l6 A (n+1))(j:Env):l6 (A.deeper j) n:=by obtain⟨⟨d,b⟩,e,c⟩:=a;refine⟨⟨j::d,(Z b rfl:A.frames.map _=_)⟩,?_,?_⟩;exact(an [⟨1,.h (.h (.b 0)<|.e 200)<|.x 20<|.h (.b 1)<|.e 1,.b 2⟩] (.h (.h (.h (.b 0)<|.e 3)<|.e 200)<|.x 20<|.b 1) (.b 2) rfl [A.units,n,cLine] e:A.units+3+200+20*n<=cLine);exact(vn c:A.depth+1+n<recursionLimit)
theorem l6.b8(a:l6 A n)(v:Option Value):l6 (A.mark v) n:=⟨a.cH,a.n4,a.wO⟩
theorem yF(d:b.get? a=some o)(c:o.data=.func l):qr b (.ref a):=by exact am .frame (.inl rfl) λM A Q i s k e=>R_<|wpAny_load (k _ _ d)<|Z c<|P7 e
theorem vj(b:ag (n+1) p (.B a q) args h i c):∃f d,ba.cl a q=some (f,d)/\e' (ag n p) (ag n true) p f [] d args h i c:=by have b:(Option.casesOn (ba.cl a q) ae λj=>e' (ag n p) (ag n true) p j.1 [] j.2 args h i:aa) c:=b;cases g:ba.cl a q with|none=>rw[g] at b;exact b.elim|some e=>rw[g] at b;exact bq e.1 e.2 rfl b
theorem w3(b:ag (n+1) p (.a a) args h i e):∃c d,e.r a=some (.cl c d)/\c.ck=none/\e' (ag n p) (ag n true) p c d [] args h i e:=by have b:(Option.casesOn (e.r a) False λo=>rN o λc d=>if c.ck.isSome then False else e' (ag n p) (ag n true) p c d [] args h i e:Prop):=b;cases g:e.r a with|none=>rw[g] at b;exact b.elim|some o=>rw[g] at b;induction o with|cl c d=>have b:(if c.ck.isSome=true then False else e' (ag n p) (ag n true) p c d [] args h i e):=b;(cases f:c.ck with|some _=>rw[f] at b;exact b.elim|none=>rw[f] at b;exact eb c d rfl f b)|_=>exact b.elim
theorem uV(b:ag (n+1) p (.ay a) args h i c):∃l,args.length<=1000/\ba.i4 a=true/\ba.ex a ("__init__":Str)=some l/\ag n p l (.a c.f::args) (m_<|h<|.a c.f) i (c.z<|if ba.dV a then .bd a none else .aD a []):=by refine bs (fs b) λd b=>?_;simp only[Bool.not_eq_false',Bool.and_eq_true] at d;refine aZ λg f=>?_;obtain⟨_,_,⟨rfl,rfl⟩,b⟩:=b;refine f ?_;cases e:ba.ex a ("__init__":Str) with|none=>rw[e] at b;exact b.elim|some l=>rw[e] at b;exact kc l (RC d.1) d.2 rfl b
theorem Ii(C:cy):∀(n:Nat) (A:Around) (p:Bool),l6 A n->(p=false->A.handled=none)->g5 A (ag n p):=by intro O8;induction O8 with|zero=>intro A p _ _;exact⟨λ_ _ b=>False.elim b,λ_ _ _ b _ _=>False.elim b,λ_ _ b _ _=>(b:False).elim⟩|succ n Om=>intro A p W NO;(have Ou:A.depth<recursionLimit:=by have:=W.wO;exact wA this);have O:∀j,g5 (A.deeper j)<|ag n p:=λj=>Om _ p (W.np j) NO;have Oo:∀j v,g5 ((A.deeper j).mark<|some v)<|ag n true:=λj v=>Om _ true ((W.np j).b8 _) λu=>gU u;have Oy:∀O args,g5 (A.under<|.builtin "type.__call__" ⟨.ref O::args,[]⟩)<|ag n p:=λO args=>Om _ p (by obtain⟨⟨OK,b⟩,O7,Oa⟩:=W;refine⟨⟨OK,b⟩,?_,?_⟩;exact(an [⟨1,.h (.h (.b 0)<|.e 200)<|.x 20<|.h (.b 1)<|.e 1,.b 2⟩,⟨1,.b 3,.e 1⟩] (.h (.h (.h (.b 0)<|.b 3)<|.e 200)<|.x 20<|.b 1) (.b 2) rfl [A.units,n,cLine,(Code.builtin "type.__call__" {pos:=Value.ref O::args}).cUnits] O7 (P2 rfl):A.units+(Code.builtin "type.__call__" ⟨.ref O::args,[]⟩).cUnits+200+20*n<=cLine);exact(an [⟨1,.h (.h (.b 0)<|.h (.b 1)<|.e 1)<|.e 1,.b 2⟩,⟨1,.b 3,.e 1⟩] (.h (.h (.h (.b 0)<|.b 3)<|.b 1)<|.e 1) (.b 2) rfl [A.depth,n,recursionLimit,(Code.builtin "type.__call__" {pos:=Value.ref O::args}).weight] Oa (P2 rfl):A.depth+(Code.builtin "type.__call__" ⟨.ref O::args,[]⟩).weight+n<recursionLimit)) NO;have Op:∀j,i1<|A.deeper j:=λj=>have W:=W.np j;⟨W.cH,by have:=W.n4;exact aM (fw _ _) this⟩;(have B:∀{d q:Nat} {args:List Y} {D:ak} {E:V} {s:Shared} {X:List Value} {Q E':Value->Shared->Prop} {h i:Y->aa},aC A D E s.heap->aR (aw D) args X->ag (n+1) p (.B d q) args h i E->bc A a8 D E s aw h Q->bc A a8 D E s aw i E'->codeAny (model aI aj.x) A (.call (.ref<|cb.cl d q) ⟨X,[]⟩) (λr w=>match r with|.ok (.ret v)=>Q v w|.ok _=>False|.error e=>E' e w) s:=by intro d q args D E s X Q E' h i R L b S NX;exact bZ (vj b) λOd OH F b=>tC C Op Ou NO O Oo R (by have k:=R.bn;refine aZ λNR H=>?_;obtain⟨z,name,qual,NZ,Oq,NU,NY,NS,N',NT,N6,N,NV,I,Oe,Of,Og,Oh,Oi,OM⟩:=(C.cl _ _ _ _ F);refine H ?_;cases Oh;refine⟨z,name,qual,NZ,Oq,NU,NY,NS,N',NT,[],k _ _ N,NV,I,Oe,Of,Og.keeps k,.aP,?_,OM⟩;(rcases Oi with Oi|⟨T,o,OI,n,e,NN,Oa,r⟩);exact .inl Oi;exact .inr<|pW T o OI n e (k _ _ NN) Oa<|r.bD λ_ _ u=>by exact u.cj D) L b S NX);refine⟨λ{l args D E s OJ h i} R F b=>?_,λ{l args D E s OJ X Q E' h i} R F L b S NX=>?_,B⟩;(induction l with|B d q=>refine aZ λNR H=>?_;subst F;refine bZ (vj b) λOd OH F _=>?_;obtain⟨z,name,qual,NZ,Oq,NU,NY,NS,N',NT,N6,N,NV,I,_⟩:=C.cl _ _ _ _ F;exact H (yF (R.bn _ _ N) I)|ay d=>subst F;refine nv (uV b) λl _ _ N8 _=>?_;(cases P:ba.dV d with|true=>exact(by refine aZ λNR H=>?_;obtain⟨O4,u,Oz,OC,OB,OR,O5,au,OA,OF,OG,OY,OZ,O0,O1,O2,Oj,_⟩:=C.kz d P;exact H<|am .machine (.inr<|.inl rfl) λM A Q i s O3 u=>wpAny_keeperOf_exc (O3 _ _<|R.bn _ _ Oj) u)|false=>exact(by refine am .machine (.inr<|.inl rfl) λM=>(aZ λNR H=>?_);obtain⟨⟨O_,O',N',Pa,NP,_⟩,_,_,_,_,OD,_⟩:=makes_of (C.dH.keeps R.bn)<|C.re d _ N8 P;refine H ?_;intro A Q i s k u;exact R_<|wpAny_load (k _ _ NP)<|R_<|OD A _ i s k<|P7 u))|a a=>refine aZ λNR H=>(bZ (w3 b) λOd OE Ok _=>?_);obtain⟨m,rfl,N9,z,name,qual,NZ,NU,NY,NS,NT,N6,N,NV,I,_⟩:=R.aU F Ok;exact H (yF N I)|a' OW=>obtain⟨_,rfl⟩:=F;exact am .machine (.inr<|.inl rfl) (λ_=>Looks.of_pure rfl)|_=>exact False.elim b);induction l with|B d q=>cases F;exact wpAny_call (B R L b S NX)|ay d=>cases F;exact wpAny_call (by refine nv (uV b) λl Ot Os N8 b=>?_;rw[L.d6] at Ot;refine bZ (C.ex _ _ _ N8) λOV OX K N4=>?_;subst K;generalize NP:(if ba.dV d=true then af.bd d none else af.aD d [])=o at b;(have bf:∀(m:Addr×Addr) (N_:Shared),ao A a8 D E s (D++[m]) (E.z o) N_->codeAny (model aI aj.x) (A.under<|.builtin "type.__call__" ⟨.ref (cb.ay d)::X,[]⟩) (.call (.ref<|cb.cl OV OX) ⟨.ref m.1::X,[]⟩) (InitBack m.1 λr w=>match r with|.ok (.ret v)=>Q v w|.ok _=>False|.error e=>E' e w) N_:=by intro m N_ On;(have N9:(D++[m])[E.f]?=some m:=by refine ad R.cq ?_;simp);have d2:∀{N3:ak} {G:V} {w:Shared},ao (A.under<|.builtin "type.__call__" ⟨.ref (cb.ay d)::X,[]⟩) a8 (D++[m]) (E.z o) N_ N3 G w->ao A a8 D E s N3 G w:=λNQ=>On.q<|ao.mr (A:=A.under<|.builtin "type.__call__" ⟨.ref (cb.ay d)::X,[]⟩) (c:=A) rfl rfl NQ;refine codeAny_mono ((Oy _ _).f1 (aC.mr (A:=A) rfl rfl On.aH) (.aY (show aw (D++[m]) (.a E.f) (.ref m.1) from am m N9 rfl)<|On.q' L) (Q:=λv w=>v=.none/\Q (.ref m.1) w) (E':=E') b (λv G N3 w Ow NQ Ol NN=>?_) λv G N3 w Ow NQ Ol NN=>NX v G N3 w Ow (d2 NQ) Ol NN) λr w Ox=>?_;(induction v with|s=>exact Z Ol ⟨rfl,S (.a E.f) G _ w (.ref m.1) (d2 NQ) (am m (NQ.r N9) rfl) NN⟩|_=>exact False.elim NN);rcases r with e|(v|_|_|_)<;>first|exact Ox|exact Ox.elim);have N5:=C.dH.keeps R.bn;cases P:ba.dV d with|true=>rw[P8 P] at NP;refine aZ λNR H=>?_;subst NP;obtain⟨O4,u,Oz,OC,OB,OR,O5,au,OA,OF,OG,OY,OZ,O0,O1,O2,Oj,O9,OP,ON,OO,_⟩:=C.kz d P;refine H<|CA N5 (R.bn _ _ Oj) OP ON OO N4.sg N4.b7 (P9 Ot (by refine Z QG ?_;decide))<|bf (s.heap.objs.size+1,s.heap.objs.size+1) _ ?_;refine ao.o7 R (λg o e=>P_ _<|P_ _ e) (Q4 _) (Q4 _) (by simp[Heap.size_push]) (by simp[Heap.size_push]) ⟨⟨Os,P⟩,_,_,by rw[<-Q2];exact Q' _ rfl,rfl,rfl,rfl,rfl,.inl rfl,rfl⟩|false=>rw[P4 (by refine Z P ?_;decide)] at NP;subst NP;have OT:=C.re d _ N8 P;refine make_core (makes_of N5 OT) (looks_findIn N5 N4.sg) (λself=>bind_fn N5 self N4.b7) (.inl rfl)<|bf (s.heap.objs.size+1,s.heap.objs.size) _<|ao.o7 R (λg o e=>P_ _<|P_ _ e) (Q4 _) (P5 _) (by simp[Heap.size_push]) (by simp only[Heap.size_push];exact Rb<|P' _) ⟨⟨Os,P⟩,_,_,by rw[<-Q2];exact Q' _ rfl,P_ _<|Q' _ rfl,.aP⟩)|a' OW=>obtain⟨_,rfl⟩:=F;exact(by obtain⟨r,G,b,N7⟩:=b;induction b with|a5 e NW OQ=>exact c5 L.fV λx f K U J=>(Z K<|Z J.hX<|Kt C R U e NW OQ λd Ov O6 u=>S.b0 R N7 (u▸l7) O6)|x7 b=>exact c5 L.fV λx f K U J=>(Z K<|c5 J.fV λt f K Ob Oc=>Z K<|Z Oc.hX<|LK C R U Ob b λOv=>S.b0 R N7 r2 Ov)|wB NW=>exact c5 L.fV λx f K U J=>(Z K<|c5 J.fV λt f K Ob Oc=>Z K<|Z Oc.hX<|DP R (NO NW) U Ob S N7)|hW NW e OS OL=>exact c5 L.fV λx f K U J=>Z K<|Z J.hX<|KU C R (NO NW) U e OS OL S N7)|a a=>refine aZ λNR H=>(c5 (w3 b) λOd OE Ok OU b=>?_);obtain⟨m,rfl,N9,z,name,qual,NZ,NU,NY,NS,NT,N6,N,NV,I,Oe,Of,Og,Oh⟩:=R.aU F Ok;refine H<|wpAny_call<|tC C Op Ou NO O Oo R ⟨z,name,qual,NZ,.none,NU,NY,NS,m.2,NT,N6,N,NV,I,?_,Of,Og,Oh,.inl ⟨rfl,rfl⟩,λk y=>?_⟩ L b S NX;have u:=sf Oe;exact iN u.1 u.2.2.1 u.2.1 u.2.2.2.2.1;rw[OU] at y;exact bm y|_=>exact False.elim b
end
end R
namespace H
open PySem.W PySem.Calls PyProof.Rows R
section
variable(P:Params)
theorem ez{l c:a->e}{f:List a}(b:f.map l=f.map c){x:a}(d:x∈f):l x=c x:=List.map_inj_left.1 b x d
set_option maxHeartbeats 0 in
theorem Dd:oi.map (λa=>(db P).get? a)=oi.map λa=>some<|cQ P a:=∅
theorem sY{f:List Nat}(b:(f.map λa=>(a,cQ P a)).lookup a=some o):a∈f/\o=cQ P a:=by induction f with|nil=>cases b|cons g f h=>rw[QM,Qg] at b;cases c:a==g with|true=>rw[c] at b;obtain rfl:=P0 b;obtain rfl:=eq_of_beq c;exact⟨Qi,rfl⟩|false=>rw[c] at b;exact bs (h b) λd e=>⟨Qs _ d,e⟩
theorem JZ:(gQ P).In (db P):=λa o b=>by exact bs (sY P b) λc d=>Z d<|ez (Dd P) c
noncomputable def no(k:Nat):Bool:=34<=k&&k<=39
def fD:List Nat:=lL.filter λk=>!no k
def pV(f:List Nat):List (Nat×Str):=f.flatMap λk=>yn.map λx=>(k,x)
noncomputable def fK:List Nat:=[2,3,4,5,6,7,8,44,49,58,89]
def mH:List (Nat×Str×Nat):=((2::34::lL).map λc=>(c,("__init__":Str),1))++rY.flatMap λa=>a.2.map λb=>(a.1,b.1,b.2+1)
def mG:List (Nat×Nat):=fK.flatMap λk=>fK.map λa=>(k,a)
section
variable(h:Frag)
def jg(k:Nat):=(findIn h (.ref<|cm k) "__getattribute__",findIn h (.ref<|cm k) "__getattr__",findIn h (.ref<|cm k) "__setattr__",hasDictIn h<|cm k)
def nE(a:Nat×Str×Nat):=(findIn h (.ref<|cm a.1) a.2.1,typeIn h<|.ref<|dX a.1 a.2.2,specialIn h (.ref<|cm a.1) "__getattribute__",readsIn h (cm a.1)<|.type "type",findCls h (.ref<|cm a.1) (.type "type") a.2.1)
def lY(k:Nat):=((W.clsIn h<|cm k).isSome,typeIn h<|.ref<|cm k,instIn h (.ref<|cm k)<|.type "type",findIn h (.ref<|cm k) "__getattribute__",findIn h (.ref<|cm k) "__getattr__",findIn h (.ref<|cm k) "__class__",subIn h (.ref<|cm k)<|.type "object")
def nt(k:Nat):=((subIn h (.ref<|cm k)<|.type "str",subIn h (.ref<|cm k)<|.type "list",subIn h (.ref<|cm k)<|.type "tuple"),isNotIn h "int"<|cm k,isNotIn h "str"<|cm k,isNotIn h "NoneType"<|cm k,isNotIn h "list"<|cm k,isNotIn h "tuple"<|cm k)
def mB(a:Nat×Nat):Bool:=(rh a.1).contains a.2
def lT(a:Nat×Nat):=if mB a then(isIn h (.ref<|cm a.1)<|cm a.2,none) else(true,subIn h (.ref<|cm a.1)<|.ref<|cm a.2)
end
set_option maxHeartbeats 0 in
theorem zi:(fD.map<|jg<|gQ P,fD.map λk=>plainOver (gQ P)<|cm k,(pV fD).map λb=>findIn (gQ P) (.ref<|cm b.1) b.2,(["value","text"]:List Str).map λx=>findIn (gQ P) (.ref<|cm 36) x,jg (gQ P) 36,(W.clsIn (gQ P)<|cm 36).any λc=>kf c.mro,mH.map<|nE<|gQ P,fK.map<|lY<|gQ P,fK.map<|nt<|gQ P,mG.map<|lT<|gQ P,(2::fD).map λk=>makesIn (gQ P)<|cm k)=(fD.map λ_=>(some<|some<|.builtin "object.__getattribute__",some none,some<|some<|.builtin "object.__setattr__",true),fD.map λ_=>true,(pV fD).map λ_=>some none,(["value","text"]:List Str).map λ_=>some none,(some<|some<|.builtin "BaseException.__getattribute__",some none,some<|some<|.builtin "object.__setattr__",true),true,mH.map λa=>(some<|some<|.ref<|dX a.1 a.2.2,some<|.type "function",some<|some<|.builtin "type.__getattribute__",true,some<|.val<|.ref<|dX a.1 a.2.2),fK.map λ_=>(true,some<|.type "type",some true,some<|some<|.builtin "object.__getattribute__",some none,some<|some<|.builtin "object.__class__",some true),fK.map λ_=>((some false,some false,some false),true,true,true,true,true),mG.map λb=>if mB b then(true,none) else(true,some false),(2::fD).map λ_=>true):=∅
end
noncomputable def iQ:Value->Value|.int a _=>.int a 0|.str s _=>.str s 0|v=>v
def jS:Y->Value|.B a q=>.ref (dX a q)|.ay a=>.ref (cm a)|.cO k=>.ref (eV k)|.c a=>.int a 0|.l s=>.str s 0|.b' g=>.bool g|.a' s=>.builtin s|.b7 s=>.type s|_=>.none
def mM:Y->Bool|.a' s=>q9 s|.a _=>false|_=>true
theorem se(y:mM v=true)(b:iQ d=jS v):aw [] v d:=by induction v with|a a=>cases y|c e=>cases d<;>cases b;exact⟨_,rfl⟩|l s=>cases d<;>cases b;exact⟨_,rfl⟩|a' s=>cases d<;>cases b;exact⟨y,rfl⟩|_=>cases d<;>cases b<;>rfl
noncomputable def ev:Data->FuncData|.func l=>l|_=>⟨"","",⟨[],[],none,[],[],none,[]⟩,.stmts [],default,0,[],.none,.none,.none,.none,none,.none,.none,0⟩
noncomputable def ys:Data->Bool|.func _=>true|_=>false
noncomputable def kv:Data->Nat->Option Value|.fields vs,a=>vs[a]?|_,_=>none
def qa(o a:Obj):=(o.cls,ys o.data,((ev o.data).params.posonlyargs,(ev o.data).params.kwonlyargs,(ev o.data).params.vararg,(ev o.data).params.kwarg),(ev o.data).params.args.map (·.arg),(ev o.data).body,(ev o.data).scope,((ev o.data).globals,(ev o.data).closure,(ev o.data).kwdefaults,(ev o.data).code,(ev o.data).builtins),(ev o.data).defaults,(kv a.data 1).map iQ==some (.str (ev o.data).qualname 0))
noncomputable def tB(a:Nat×Nat):Value:=if a.1=8 then .ref 145 else if a.1=96 then .ref 870 else .none
def sG(b:Nat×Nat)(a:ed):=((.type "function":Value),true,(([]:List Arg),([]:List Arg),(none:Option Arg),(none:Option Arg)),a.ka,a.kj,a.eg,((3:Nat),([]:List (Str×Addr)),(.none:Value),(.ref<|dX b.1 b.2 - 1:Value),(0:Nat)),tB b,true)
def nP(a:Nat×Nat):ed:=match pc a.1 a.2 with|some (l,_)=>l|Option.none=>⟨[],.stmts [],default,Option.none⟩
def oe(a:Nat×Nat):List Y:=match pc a.1 a.2 with|some (_,b)=>b|Option.none=>[]
noncomputable def qx(c:Heap)(x:Str):Option Value:=match c.nsMap mainGlobals x with
 |some v=>some v
 |none=>c.nsMap builtinsNs x
section
variable(P:Params)
set_option maxHeartbeats 0 in
theorem Ih:(iZ.map λa=>qa (cQ P<|dX a.1 a.2)<|cQ P<|dX a.1 a.2 - 1,mO.map λa=>(qx (db P) a.1).map iQ)=(iZ.map λa=>sG a<|nP a,mO.map λa=>some<|jS a.2):=∅
end
noncomputable def ku:Data->ClassData|.cls c=>c|_=>{name:="",bases:=[],mro:=[],ns:=0,qualname:=""}
noncomputable def iz:List Nat:=[34,35,36,37,38,39]
def xy(o:Obj)(k:Nat):Obj:=excClassObj (ku o.data).name (ku o.data).qualname (cm k) (cm k - 1) (ku o.data).bases (lQ 112 k).iP (ku o.data).hasDict (ku o.data).slotNames (ku o.data).subclasses (ku o.data).abstract (ku o.data).collection o.dict (o.slots.getD 0 none) (o.slots.getD 1 none) (o.slots.getD 2 none) (o.slots.getD 3 none) (o.slots.getD 5 none) "Exception.__new__"
def w9(k:Nat):=((lQ 112 k).iP.contains<|.type "BaseException",(lQ 112 k).iP.contains<|.type "Exception",(lQ 112 k).iP.contains<|.type "AttributeError",(lQ 112 k).iP.contains<|.type "NameError",iz.map λa=>(Value.ref (cm k)::(lQ 112 k).iP).contains<|.ref<|cm a)
noncomputable def n6:Data->List (Str×Nat×Value)
 |.dict a _=>a.toList.map λe=>match e.key with|.str s b=>(s,b,e.val)|_=>("",0,.none)
 |_=>[]
noncomputable def p3:Data->List Value|.seq a _=>a.toList|_=>[]
def ol(k:Nat):List (Y×Y):=match k6 [] k with|some (.K a)=>a|_=>[]
def pF(k:Nat):List Y:=match k6 [] k with|some (.A a)=>a|_=>[]
section
variable(P:Params)
set_option maxHeartbeats 0 in
theorem Ck:(iz.map λk=>(db P).get?<|cm k,[0,1,2].map λk=>(db P).get?<|eV k,[0,1,2].map λk=>(n6 (cQ P<|eV k).data).map λa=>(Y.l a.1,iQ a.2.2),[3,4].map λk=>(db P).get?<|eV k,[3,4].map λk=>(p3 (cQ P<|eV k).data).map iQ,((db P).get? 990,(db P).get? 995,(db P).get? 986,(db P).get? 993,(db P).get? 4),((db P).isNs 3,(db P).isNs 0,(db P).isNs 2,(db P).objs.size),(db P).nsMap 2 "sys.recursionlimit",((db P).nsMap 3 "range",(db P).nsMap 0 "range",(db P).nsMap 3 "__builtins__"))=(iz.map λk=>some<|xy (cQ P<|cm k) k,[0,1,2].map λk=>some<|jV<|(n6 (cQ P<|eV k).data).map λa=>gD P a.1 a.2.1 a.2.2,[0,1,2].map λk=>(ol k).map λe=>(e.1,jS e.2),[3,4].map λk=>some<|mh (p3 (cQ P<|eV k).data).toArray 0,[3,4].map λk=>(pF k).map jS,(some<|j2 "_law_handlers" "_law_handlers" 644 5 3 true 985 986 (.ref 987) (.ref 988) (.ref 989) 1784 1802,some<|j2 "_law_package" "_law_package" 669 2 3 true 992 993 .none .none (.ref 994) 1805 1808,some<|tabObj ([].toArray),some<|tabObj ([].toArray),some ⟨.type "module",some 0,.plain,([].toArray)⟩),(true,true,true,1012),none,(none,some<|.type "range",some<|.ref 4)):=∅
end
theorem pz:(iz.map w9,[0,1,2].map λk=>(decide ((ol k).map (·.1)).Nodup,(ol k).all λe=>mM e.2),[3,4].map λk=>(pF k).all mM,mO.all λb=>mM b.2)=(iz.map λk=>(true,true,false,false,iz.map λa=>(rh k).contains a),[0,1,2].map λ_=>(true,true),[3,4].map λ_=>true,true):=∅
theorem rc[BEq a][LawfulBEq a]{f:List (a×d)}{x:a}{v:d}(b:f.lookup x=some v):(x,v)∈f:=by induction f with|nil=>cases b|cons g f e=>obtain⟨t,w⟩:=g;rw[Qg] at b;cases c:x==t with|true=>rw[c] at b;obtain rfl:=P0 b;obtain rfl:=eq_of_beq c;exact Qi|false=>rw[c] at b;exact Qs _<|e b
theorem tj(b:vs.map iQ=a.map jS)(k:a.all mM=true):aR (aw []) a vs:=by induction a generalizing vs with|nil=>(induction vs using List.casesOn with|nil=>exact .aP|cons _ _=>cases b)|cons x a e=>induction vs using List.casesOn with|nil=>cases b|cons v vs=>rw[List.all_cons,Qm] at k;rw[QM,QM] at b;(injection b with c d);exact .aY (se k.1 c)<|e d k.2
theorem ui{f:List (Str×Nat×Value)}(b:(f.map λa=>(Y.l a.1,iQ a.2.2))=(c.map λe=>(e.1,jS e.2)))(k:(c.all λe=>mM e.2)=true):aR (gv []) c (f.map λa=>(Y.l a.1,a.2.2)):=by induction c generalizing f with|nil=>(induction f using List.casesOn with|nil=>exact .aP|cons _ _=>cases b)|cons x l j=>induction f using List.casesOn with|nil=>cases b|cons v vs=>rw[List.all_cons,Qm] at k;rw[QM,QM] at b;(injection b with d g);(injection d with h i);exact .aY ⟨h.symm,se k.1 i⟩<|j g k.2
theorem BD{b:Heap}{f:List (Str×Nat×Value)}(e:b.get? a=some (jV<|f.map λc=>gD w.params c.1 c.2.1 c.2.2))(d:(f.map (·.1)).Nodup):b.DictOf (kx aI w) a (f.map λc=>(Y.l c.1,c.2.2)):=by
 refine s3 _ _ _ e (b9 rfl rfl rfl) rfl (λx h=>?_) ?_ ?_;exact ah (Qa.1<|List.mem_toArray.1 h) λc _ j=>(ad j<|am (.l c.1) (Qz _) rfl);show Pairs _ (f.map _)<|f.map _;clear e d;induction f with|nil=>exact .nil|cons c f i=>exact .cons (Qz _) rfl i
 refine Z List.map_map ?_;have:=List.Pairwise.map (S:=λa g:Y=>a≠g) Y.l (λa g b k=>b<|by injection k) d;rwa [List.map_map] at this
theorem yt(b:nM c x=some l):∃q,l=.B c q/\(c,x,q)∈mH:=by
 unfold nM at b;by_cases d:x="__init__";rw[P8 d] at b;refine Z d ?_;by_cases a:(c==2||c==34||lL.contains c)=true;rw[P8 a] at b;obtain rfl:=P0 b;refine am 1 rfl (Q9 _<|Qa.2<|am c ?_ rfl);simp only[Bool.or_eq_true,beq_iff_eq,List.contains_iff_mem] at a;rcases a with(rfl|rfl)|a
 exact Qi;exact Qs _ Qi;exact Qs _<|Qs _ a;rw[P4 a] at b;exact bm b;replace b:=(P4 d)▸b;cases e:rY.lookup c with|none=>rw[e] at b;exact bm b|some f=>rw[e] at b;exact ah (QV.1 b) λq g h=>ad h<|am (q+1) rfl (PZ _<|List.mem_flatMap.2<|am _ (rc e)<|Qa.2<|am _ (rc g) rfl)
theorem B4:mH.all (λa=>a.1==2||no a.1||fD.contains a.1)=true:=∅
theorem Ie:oi.all (λa=>a !=986&&a !=993)=true:=∅
theorem IG:mG.all (λa=>mB a||cm a.1 !=cm a.2)=true:=∅
theorem Ej:iZ.all (λa=>(match(nP a).ck with|some k=>(f0[k]?).map (·.1)==some (dX a.1 a.2 - 1)|none=>true)&&(dX a.1 a.2 !=986&&dX a.1 a.2 !=993&&dX a.1 a.2 - 1 !=986&&dX a.1 a.2 - 1 !=993)&&(a.1==8||a.1==96||(oe a).isEmpty))=true:=∅
theorem Ew:(oe (8,1),oe (96,1),iZ.all λa=>(a.1 !=8&&a.1 !=96)||a.2==1)=([.b' false],[.c 64,.c 50,.c 1000000,.c 100000,.c 10000],true):=∅
section
variable(P:Params)
set_option maxHeartbeats 0 in
theorem KI:((db P).get? 145,(db P).get? 870,iZ.map λa=>((db P).get?<|dX a.1 a.2,(db P).get?<|dX a.1 a.2 - 1))=(some<|hz [.bool false],some<|hz [.int 64 1595,.int 50 1596,.int 1000000 1599,.int 100000 1602,.int 10000 1605],iZ.map λa=>(some<|cQ P<|dX a.1 a.2,some<|cQ P<|dX a.1 a.2 - 1)):=∅
end
section
end
structure kW(P:Params)(h:Frag)(c:Heap)(z:Nat->Obj):Prop where
 cG:∀a o,h.lookup a=some o->a∈oi/\c.get? a=some o
 jg:fD.map (jg h)=fD.map λ_=>(some<|some<|.builtin "object.__getattribute__",some none,some<|some<|.builtin "object.__setattr__",true)
 mS:fD.map (λk=>plainOver h<|cm k)=fD.map λ_=>true
 bO:(pV fD).map (λb=>findIn h (.ref<|cm b.1) b.2)=(pV fD).map λ_=>some none
 B':(["value","text"]:List Str).map (λx=>findIn h (.ref<|cm 36) x)=(["value","text"]:List Str).map λ_=>some none
 Lr:H.jg h 36=(some<|some<|.builtin "BaseException.__getattribute__",some none,some<|some<|.builtin "object.__setattr__",true)
 DA:(W.clsIn h<|cm 36).any (λg=>kf g.mro)=true
 nE:mH.map (nE h)=mH.map λf=>(some<|some<|.ref<|dX f.1 f.2.2,some<|.type "function",some<|some<|.builtin "type.__getattribute__",true,some<|.val<|.ref<|dX f.1 f.2.2)
 lY:fK.map (lY h)=fK.map λ_=>(true,some<|.type "type",some true,some<|some<|.builtin "object.__getattribute__",some none,some<|some<|.builtin "object.__class__",some true)
 nt:fK.map (nt h)=fK.map λ_=>((some false,some false,some false),true,true,true,true,true)
 lT:mG.map (lT h)=mG.map λb=>if mB b then(true,none) else(true,some false)
 ut:(2::fD).map (λk=>makesIn h<|cm k)=(2::fD).map λ_=>true
 qb:iZ.map (λb=>qa (z<|dX b.1 b.2)<|z<|dX b.1 b.2 - 1)=iZ.map λb=>sG b (nP b)
 i':mO.map (λb=>(qx c b.1).map iQ)=mO.map λb=>some (jS b.2)
 bd:iz.map (λk=>c.get?<|cm k)=iz.map λk=>some (xy (z<|cm k) k)
 cO:[0,1,2].map (λk=>c.get?<|eV k)=[0,1,2].map λk=>some (jV<|(n6 (z<|eV k).data).map λd=>gD P d.1 d.2.1 d.2.2)
 It:[0,1,2].map (λk=>(n6 (z<|eV k).data).map λd=>(Y.l d.1,iQ d.2.2))=[0,1,2].map λk=>(ol k).map λe=>(e.1,jS e.2)
 A:[3,4].map (λk=>c.get?<|eV k)=[3,4].map λk=>some (mh (p3 (z<|eV k).data).toArray 0)
 Ec:[3,4].map (λk=>(p3 (z<|eV k).data).map iQ)=[3,4].map λk=>(pF k).map jS
 vw:c.get? 990=some (j2 "_law_handlers" "_law_handlers" 644 5 3 true 985 986 (.ref 987) (.ref 988) (.ref 989) 1784 1802)
 u_:c.get? 995=some (j2 "_law_package" "_law_package" 669 2 3 true 992 993 .none .none (.ref 994) 1805 1808)
 tY:c.get? 986=some (tabObj ([].toArray))
 wa:c.get? 993=some (tabObj ([].toArray))
 KG:c.get? 4=some ⟨.type "module",some 0,.plain,([].toArray)⟩
 td:c.isNs 3=true
 AS:c.isNs 0=true
 IL:c.isNs 2=true
 cq:c.objs.size=1012
 k2:c.nsMap 2 "sys.recursionlimit"=none
 jK:c.nsMap 3 "range"=none
 HA:c.nsMap 0 "range"=some (.type "range")
 Bl:c.nsMap 3 "__builtins__"=some (.ref 4)
 Ge:c.get? 145=some (hz [.bool false])
 Gk:c.get? 870=some (hz [.int 64 1595,.int 50 1596,.int 1000000 1599,.int 100000 1602,.int 10000 1605])
 CQ:iZ.map (λb=>(c.get?<|dX b.1 b.2,c.get?<|dX b.1 b.2 - 1))=iZ.map λb=>(some<|z<|dX b.1 b.2,some<|z<|dX b.1 b.2 - 1)
theorem wv(P:Params):kW P (gQ P) (db P) (cQ P):=by have a:=zi P;have g:=Ih P;have c:=Ck P;have e:=KI P;simp only[Prod.mk.injEq] at a g c e;refine aZ λO M=>?_;obtain⟨d,i,j,k,l,m,n,p,q,f,h⟩:=a;obtain⟨r,B,C,D,E,⟨F,H,K,L,s⟩,⟨t,u,v,w⟩,x,y,z,A⟩:=c;exact M ⟨λa o b=>⟨(sY P b).1,JZ P a o b⟩,d,i,j,k,l,m,n,p,q,f,h,g.1,g.2,r,B,C,D,E,F,H,K,L,s,t,u,v,w,x,y,z,A,e.1,e.2.1,e.2.2⟩
section
variable{b c:Heap}{z:Nat->Obj}(T:kW aj.x.params aj.dH c z)(y:∀g o,c.get? g=some o->b.get? g=some o)(m:aj.co=hideAll b [986,993])
include y m
theorem gM(e:c.get? a=some o)(b:(a !=986&&a !=993)=true):aj.co.get? a=some o:=by simp only[Bool.and_eq_true,bne_iff_ne] at b;exact m▸hideAll_get [986,993] (y a o e) (by simp[b.1,b.2])
theorem rJ(e:c.isNs a=true)(g:(a !=986&&a !=993)=true):aj.co.Ns a (c.nsMap a):=by obtain⟨o,d,b,f,r⟩:=Heap.Ns.of_isNs e;exact l0 o d b (gM y m f g) r
omit y m
theorem oy(b:lL.contains k=true)(e:ba.dV k=false):k∈fD:=List.mem_filter.2 ⟨Ql.1 b,(Z e rfl:(!ba.dV k)=true)⟩
include T
omit T
theorem j9(c:nM k x=some l)(b:no k=false):k=2\/k∈fD:=by refine ah (yt c) λq e d=>(Z e ?_);have a:=QU.1 B4 _ d;dsimp only at a;rw[b,Bool.or_false,Bool.or_eq_true,beq_iff_eq,Ql] at a;exact a
include T
theorem BM(b:nM k "__init__"=some l)(a:no k=false):makesIn aj.dH (cm k)=true:=by
 rcases j9 b a with rfl|c
 exact ez T.ut Qi;exact ez T.ut<|Qs _ c
end
end H
namespace H
open PySem.W PySem.Calls PyProof.Rows R
set_option tactic.hygienic true
theorem Ex(b:ys a=true):a=.func (ev a):=by cases a<;>first|rfl|cases b
theorem Lz(b:kv a c=some v):∃vs,a=.fields vs/\vs[c]?=some v:=by cases a<;>first|exact am _ rfl b|cases b
theorem A0(b:iQ v=.str s 0):∃a,v=.str s a:=by cases v<;>cases b;exact⟨_,rfl⟩
section
variable{b c:Heap}{z:Nat->Obj}(T:kW aj.x.params aj.dH c z)(y:∀g o,c.get? g=some o->b.get? g=some o)(m:aj.co=hideAll b [986,993])
include T
theorem CO(d:k∈fK)(e:a∈fK)(c:mB (k,a)=true):isIn aj.dH (.ref<|cm k) (cm a)=true:=by have b:=ez T.lT<|List.mem_flatMap.2<|am k d<|Qa.2<|am a e rfl;unfold lT at b;rw[P8 c,P8 c] at b;exact(Prod.mk.inj b).1
theorem C6(e:k∈fK)(f:a∈fK)(b:mB (k,a)=false):subIn aj.dH (.ref<|cm k) (.ref<|cm a)=some false/\cm k≠cm a:=by have d:(k,a)∈mG:=List.mem_flatMap.2<|am k e<|Qa.2<|am a f rfl;have c:=ez T.lT d;unfold lT at c;rw[P4 (by rw[b];decide),P4 (by rw[b];decide)] at c;have n:=QU.1 IG _ d;dsimp only at n;rw[b,Bool.false_or,bne_iff_ne] at n;exact⟨(Prod.mk.inj c).2,n⟩
omit T in
theorem wI(T:kW P h c z)(g:w_ x=some v):∃b,aw [] v b/\(c.nsMap 3 x=some b\/(c.nsMap 3 x=none/\c.nsMap 0 x=some b)):=by have d:=rc g;refine ah (QV.1<|ez T.i' d) λb a f=>(am b (se (QU.1 (Prod.mk.inj (Prod.mk.inj (Prod.mk.inj pz).2).2).2 _ d) f) ?_);unfold qx at a;cases e:c.nsMap mainGlobals x with|some i=>rw[e] at a;obtain rfl:=P0 a;exact .inl e|none=>rw[e] at a;exact .inr ⟨e,a⟩
include y m
theorem zw(b:k∈iz):rB k:=by
 have c:=ez (Prod.mk.inj pz).1 b;unfold w9 at c;simp only[Prod.mk.injEq] at c;obtain⟨e,f,g,h,i⟩:=c;refine⟨_,_,_,_,_,_,_,_,_,_,_,_,_,_,_,_,gM y m (ez T.bd b) ?_,e,f,g,h,λd a=>ez i ?_⟩;simp only[iz,List.mem_cons,List.not_mem_nil,or_false] at b;rcases b with rfl|rfl|rfl|rfl|rfl|rfl<;>rfl
 have a:(decide (34<=d)&&decide (d<=39))=true:=a;simp only[Bool.and_eq_true,decide_eq_true_eq] at a;simp only[iz,List.mem_cons,List.not_mem_nil,or_false];exact s1 a.1 a.2
theorem Gw(t:b.get? 1012=some (listOf vs.toArray n))(u:aR (aw []) (dI.map .c) vs)(f:k6 dI k=some o):∃c,f' [] aj.co o (eV k,c)/\eV k≠sysModules/\∀a l,o≠.bd a l:=by
 have j:∀k∈[0,1,2],∀h,ol k=h->k6 dI k=some (.K h)->(eV k !=986&&eV k !=993)=true->∃c,f' [] aj.co (.K h) (eV k,c):=λk e h p s q=>by have v:=ez T.It e;have d:=ez (Prod.mk.inj (Prod.mk.inj pz).2).1 e;simp only[Prod.mk.injEq,decide_eq_true_eq] at d;rw[p] at v d;refine bq 0 _ (BD (gM y m (ez T.cO e) q) ?_)<|ui v d.2;have n:=Q3 (List.map Prod.fst) v;simp only[List.map_map] at n;have r:=d.1;rw[<-(Z List.map_map n:((n6 (z<|eV k).data).map (·.1)).map Y.l=h.map (·.1))] at r;exact List.Pairwise.imp (λ{a g} b c=>b<|by exact Z c rfl)<|List.pairwise_map.1 r
 have A:∀k∈[3,4],∀i,pF k=i->k6 dI k=some (.A i)->(eV k !=986&&eV k !=993)=true->∃c,f' [] aj.co (.A i) (eV k,c):=λk e i p s q=>by have v:=ez T.Ec e;have d:=ez (Prod.mk.inj (Prod.mk.inj (Prod.mk.inj pz).2).2).1 e;rw[p] at v d;exact bq 0 _ (gM y m (ez T.A e) q)<|tj v d
 rcases k with _|_|_|_|_|_|n
 cases f;obtain⟨c,b⟩:=j 0 #[] _ rfl rfl rfl;exact cp c b #[] nofun;cases f;obtain⟨c,b⟩:=j 1 #[] _ rfl rfl rfl;exact cp c b #[] nofun;cases f;obtain⟨c,b⟩:=j 2 #[] _ rfl rfl rfl;exact cp c b #[] nofun;cases f;obtain⟨c,b⟩:=A 3 #[] _ rfl rfl rfl;exact cp c b #[] nofun;cases f;obtain⟨c,b⟩:=A 4 #[] _ rfl rfl rfl;exact cp c b #[] nofun;cases f;exact cp 0 (bq vs n (m▸hideAll_get [986,993] t #[]) u) #[] nofun;cases f
theorem GT{c:ed}(d:p6 a q=some (c,i)):oL [] aj.co (dX a q) c [] i:=by
 unfold p6 at d;split at d;rotate_left;exact bm d;rename_i b;have b:=Ql.1 b;have D:nP (a,q)=c:=by unfold nP;exact Z d rfl
 have p:oe (a,q)=i:=by unfold oe;exact Z d rfl
 have s:=ez T.qb b;have j:=ez T.CQ b;have t:=QU.1 Ej _ b;unfold qa sG at s;simp only[Prod.mk.injEq] at s j;dsimp only at t;rw[Qm,Qm] at t;obtain⟨⟨g,e⟩,h⟩:=t;simp only[Bool.and_eq_true] at e;rw[D] at s g;replace h:=p▸h;refine aZ λNS NP=>?_;obtain⟨L,X,⟨V,U,J,N⟩,I,G,NN,⟨M,O,P,Q,R⟩,S,W⟩:=s;refine NP ?_;have B:=Ex X;generalize ev (z<|dX a q).data=l at*;have A:(z<|dX a q).data=.func ⟨l.name,l.qualname,l.params,c.kj,c.eg,mainGlobals,[],l.defaults,.none,l.doc,l.pyModule,l.annotations,.ref<|dX a q - 1,l.closureTuple,builtinsNs⟩:=by exact Z B<|ad G<|ad NN<|ad O<|ad P<|ad Q (ad M<|ad R rfl:Data.func l=.func ⟨_,_,_,_,_,3,_,_,_,_,_,_,_,_,0⟩)
 refine ah (QV.1<|eq_of_beq W) λv K C=>(bA (A0 C) λNO NQ=>?_);subst NQ;refine ah (Lz K) λNR E H=>⟨z<|dX a q,l.name,l.qualname,l.params,l.defaults,l.doc,l.pyModule,l.annotations,dX a q - 1,l.closureTuple,[],gM y m j.1<|Z (Qm ..) ⟨e.1.1.1,e.1.1.2⟩,L,A,iN V U J N,I.symm,?_,.aP,?_,λk F=>?_⟩;exact pW _ _ _ NO rfl (gM y m j.2<|Z (Qm ..) ⟨e.1.2,e.2⟩) E H;refine Z S ?_;have f:=Ew;simp only[Prod.mk.injEq] at f;have fo:=QU.1 f.2.2 _ b;dsimp only at fo;unfold tB;by_cases n:a=8;subst n;have r:q=1:=by simpa using fo
 subst r;exact Z (P8 rfl)<|.inr<|pW 145 _ [.bool false] 0 rfl (gM y m T.Ge rfl) rfl (ad p<|Z f.1<|.aY rfl .aP);by_cases o:a=96;subst o;have r:q=1:=by simpa using fo
 subst r;exact Z (P4 #[])<|Z (P8 rfl)<|.inr<|pW 870 _ _ 0 rfl (gM y m T.Gk rfl) rfl (ad p<|Z f.2.1<|.aY ⟨_,rfl⟩<|.aY ⟨_,rfl⟩<|.aY ⟨_,rfl⟩<|.aY ⟨_,rfl⟩<|.aY ⟨_,rfl⟩ .aP);refine Z (P4 n)<|Z (P4 o) ?_;simp only[Bool.or_eq_true,beq_iff_eq,n,o,false_or,List.isEmpty_iff] at h;exact .inl ⟨rfl,h⟩;replace g:=F▸g;exact ah (QV.1<|eq_of_beq g) λu w x=>am u w x.symm
end
end H
namespace H
open PySem.W PySem.Calls PyProof.Rows R
section
theorem w2(e:b.get? c=some (j2 j qual h a f g A P v d r k l))(i:c≠P):CodeHd b c P:=⟨_,_,r',_,_,_,_,_,_,e,rfl,rfl,rfl,rfl,rfl,rfl,rfl,rfl,i⟩
theorem dY{b c:Heap}{z:Nat->Obj}(m:aj.co=hideAll b [986,993])(u:aj.hn=c.nsMap 3)(B:aj.lS=c.nsMap 0)(T:kW aj.x.params aj.dH c z)(y:∀g o,c.get? g=some o->b.get? g=some o)(M:c.objs.size<=b.objs.size){vs:List Value}{n:Nat}(L:b.get? 1012=some (listOf vs.toArray n))(j:aR (aw []) (dI.map .c) vs):cy where
  dH a o e:=by
    exact bs (T.cG a o e) λp r=>(gM y m r<|QU.1 Ie a p)
  fS:=u▸rJ y m T.td rfl
  jc:=B▸rJ y m T.AS rfl
  fC k x s E f:=(by
      have h:=oy s f
      have d:=ez T.jg h
      simp only[jg,Prod.mk.injEq] at d
      exact⟨d.1,d.2.1,d.2.2.1,d.2.2.2,ez T.mS h,ez T.bO (List.mem_flatMap.2 (am k h (Qa.2 (am x (Ql.1 E) rfl))))⟩)
  oY k x s E f j:=by
    have:k=36:=by
      have d:∀q∈lL,no q=true->q=36:=#[]
      exact d k (Ql.1 s) f
    exact Z this ((by
        have d:=T.Lr
        simp only[jg,Prod.mk.injEq] at d
        refine⟨d.1,d.2.1,d.2.2.1,d.2.2.2,T.DA,ez T.B' ?_⟩
        unfold ks at j
        simp only[Bool.or_eq_true,beq_iff_eq] at j
        rcases j with rfl|rfl
        · exact Qi
        · exact Qs _ Qi))
  yw:=by
    exact m▸(Z (hideAll_size ..)<|Ra (by refine Z T.cq ?_;decide) M:sysModules<(hideAll b [986,993]).objs.size)
  ex k x l i:=(by
      refine ah (yt i) λq O h=>(Z O ?_)
      have d:=ez T.nE h
      simp only[nE,Prod.mk.injEq] at d
      exact⟨k,q,rfl,d.1,d.2.1,d.2.2.1,d.2.2.2.1,d.2.2.2.2⟩)
  uC k x l i f:=(by
      rcases j9 i f with rfl|h
      · have d:=ez T.lY Qi
        simp only[lY,Prod.mk.injEq] at d
        exact⟨d.2.2.2.1,d.2.2.2.2.1⟩
      · have d:=ez T.jg h
        simp only[jg,Prod.mk.injEq] at d
        exact⟨d.1,d.2.1⟩)
  n0 k s:=(by
      have h:=Ql.1 (s:fK.contains k=true)
      have d:=ez T.lY h
      have C:=ez T.nt h
      simp only[lY,nt,Prod.mk.injEq] at d C
      exact⟨d.1,d.2.1,d.2.2.1,d.2.2.2.1,d.2.2.2.2.1,d.2.2.2.2.2.1,∅,∅,d.2.2.2.2.2.2,C.1,C.2⟩)
  tW k w p r A:=CO T (Ql.1<|show fK.contains k=true from p) (Ql.1<|show fK.contains w=true from r) A
  uy k w p r A:=C6 T (Ql.1<|show fK.contains k=true from p) (Ql.1<|show fK.contains w=true from r) A
  cO k o K:=Gw T y m L j K
  mj x v j:=u▸B▸wI T j
  kz k f:=zw T y m (by
    have f:(decide (34<=k)&&decide (k<=39))=true:=f
    simp only[Bool.and_eq_true,decide_eq_true_eq] at f
    simp only[iz,List.mem_cons,List.not_mem_nil,or_false]
    exact s1 f.1 f.2)
  cl S q R Q i:=GT T y m i
  k2:=am _ (rJ y m T.IL rfl) T.k2
  re k l i f:=BM T i f
  wS F t:=by
    have D:∀P,(4:Nat)≠P->aj.co.BuiltinsAt aj.hn P:=λP H=>⟨4,_,u▸T.Bl,#[],#[],H,gM y m T.KG rfl,rfl,rfl,rfl⟩
    have t:F∈f0:=t
    simp only[f0,List.mem_cons,List.not_mem_nil,or_false] at t
    rcases t with rfl|rfl
    · exact⟨w2 (gM y m T.vw rfl) #[],D _ #[]⟩
    · exact⟨w2 (gM y m T.u_ rfl) #[],D _ #[]⟩
  cf:=⟨u▸T.jK,B▸T.HA⟩
end
end H
section
variable(b l:I)(k:Bool)(f g:Y->aa)(v:Bool->aa)(t:List Y->aa)(q:bI)(d i n u:Nat)(a c e h j m o p r s:Y)
def DN:aa:=aT a "blessed" .s λ_=>cJ [] λb=>aT a "weak" b λ_=>aT a "is_destroyed" (.b' false) λ_=>aT a "is_freed" (.b' false) λ_=>f .s
def DL:aa:=aT a "name" c λ_=>aT a "scalar" .s λ_=>aT a "array" .s λ_=>aT a "hash" .s λ_=>aT a "code" .s λ_=>f .s
def zd:aa:=aq a "heap" λe=>aq e "zero" λh=>aQ b h "append" (λd=>d [c]) (λi=>f .s)<|aS g
def L4:aa:=aq a "heap" λe=>aq e "zero" λh=>aQ b h "append" (λd=>d [c]) (λi=>f .s)<|aS g
def FY:aa:=aQ b a "hold" (λd=>aq c "target" λe=>d [e]) (λl=>aq c "is_weak" λh=>a1 h λj=>if j then(aq c "target" λi=>b (.ay 8) [i] (λk=>f k)<|aS g) else f c)<|aS g
def Iy:aa:=bo q (λD b E10=>aq D "number" λe=>aN d λl=>aq l "number" λg=>bL .NotEq e g λi=>a1 i λj=>if j then(b [D]) else b []) aJ 0 (λc=>if Nat.ble c.length bl then J (a4<|.d c) (λk=>aq a "target" λh=>aT h "weak" k λ_=>f .s) else ae) aB
def Jd:aa:=aq a "target" λb=>aq b "weak" λc=>bY c λe=>Iy f e d a
def Gy:aa:=aQ b a "let_go" (λd=>aq c "target" λe=>d [e]) (λh=>f .s)<|aS g
def BN:aa:=aq a "is_weak" λe=>a1 e λh=>if h then(Jd f d a) else Gy b f g c a
def NK:aa:=aq a "magic" λe=>aQ b e "put" (λd=>d [c]) (λh=>f .s)<|aS g
def Cf:aa:=aq a "value" λi=>aQ b c "take" (λd=>d [e]) (λj=>aT a "value" j λ_=>aQ b c "put_off" (λh=>h [a,i]) (λk=>f .s)<|aS g)<|aS g
def JA:aa:=aQ b a "pop" (λd=>aq c "number" λi=>d [i,.s]) (λm=>aq c "magic" λj=>bL .IsNot j .s λk=>a1 k λl=>if l then(NK b f g c e) else Cf b f g c h e)<|aS g
def Hj:aa:=aq a "count" λe=>J (fg .Add e<|.c 1) λi=>aT a "count" i λ_=>aQ b c "destroy" (λd=>d [a]) (λk=>aq a "count" λh=>J (fg .Sub h<|.c 1) λj=>aT a "count" j λ_=>f .s)<|aS g
def AO:aa:=dc .Or k v<|aq a "is_destroyed" λb=>a1 b λf=>dc .Or f v<|aq c "destroy" λd=>bL .Is d .s λe=>a1 e λg=>dc .Or g v<|v false
def FM:aa:=bL .NotEq a (.c 0) λd=>a1 d λg=>dc .Or g v<|aq c "blessed" λb=>bL .Is b .s λf=>a1 f λh=>AO h v c e
def Bo:aa:=bY a λd=>ci d (bg l b k 57 (as 94 12) (bv (ab 94 12) 1)<|au (ab 94 12) 1 0) aJ 0 (Nn c e)<|cF l b k 58 (as 94 12) (List.drop 2<|ab 94 12)<|de f g
def zS:aa:=aQ b a "new_glob" (λd=>d [c]) (λk=>aq e "globs" λi=>jr i c k λ_=>aq e "globs" λj=>aO j c λh=>f h)<|aS g
def zH:aa:=bL .NotIn a c λi=>a1 i λj=>if j then(aq e "heap" λh=>zS b f g h a e) else aq e "globs" λd=>aO d a λk=>f k
def Aw:aa:=aT a "array" c λ_=>aq a "array" λb=>aq b "count" λd=>J (fg .Add d<|.c 1) λg=>aT b "count" g λ_=>aq a "array" λe=>f e
def Ku:aa:=aq a "heap" λe=>aQ b e "new_array" (λd=>d []) (λh=>Aw f c h)<|aS g
def BI:aa:=aT a "args" c λ_=>aT a "want" e λ_=>aT a "code" h λ_=>aT a "package" j λ_=>aT a "line" m λ_=>f .s
def HR:aa:=aT a "patterns" c λ_=>aT a "steps" (.c 0) λ_=>aT a "methods" .s λ_=>aT a "call_code" .s λ_=>aT a "compile_text" .s λ_=>f .s
def HU:aa:=cJ [] λc=>aT a "saves" c λ_=>cJ [] λd=>aT a "frames" d λ_=>aT a "match" .s λ_=>fX (.K []) λb=>HR f a b
def GX:aa:=fX (.K []) λb=>aT a "operators" b λ_=>cJ [] λc=>aT a "out" c λ_=>cJ [] λd=>aT a "err" d λ_=>HU f a
def I_:aa:=fX (.K []) λb=>aT a "lvs" b λ_=>fX (.K []) λc=>aT a "statements" c λ_=>fX (.K []) λd=>aT a "funcs" d λ_=>GX f a
def EP:aa:=aT a "counter" c λ_=>aT a "stash" e λ_=>aT a "limits" h λ_=>fX (.K []) λb=>aT a "nodes" b λ_=>I_ f a
def y4:aa:=bL .IsNot a .s λi=>a1 i λj=>if j then(aq c "magic" λe=>aQ b e "get" (λd=>d []) (λk=>f k)<|aS g) else aq c "value" λh=>f h
def AE:aa:=aq a "counter" λe=>aQ b e "let_go" (λd=>d [c]) (λh=>f .s)<|aS g
def Iv:aa:=if k then ae else b (.ay 35) [.l "no such expression"] (λa=>J (dz a) λc=>iU c<|f a)<|aS f
def DQ:aa:=aq a "nodes" λd=>aO c (.c 0) λD=>aO d D λh=>b h [a,c,e] (λi=>f i)<|aS g
def IF:aa:=iy (fU b 55 (as 59 0)<|bv (ab 59 0) 3) (hc l b k 55 (as 59 0)<|au (ab 59 0) 3 0) aJ (Nu a (.c 0) (.c 0) c d)<|cF l b k 56 (as 59 0) (List.drop 4<|ab 59 0)<|de f g
def Fc:aa:=b (.a' "isinstance") [a,.b7 "tuple"] (λi=>a1 i λe=>if e then(aq c "sub" λd=>aO d (.c 2) λj=>b (.B 59 0) [j] (λh=>g h)<|aS f) else g<|.cO 3)<|aS f
def I5:aa:=b (.a' "isinstance") [a,.ay 49] (λk=>a1 k λi=>if i then(aq c "sub" λd=>aq d "weights" λe=>f e) else cU (λl=>f l) λj=>aq c "sub" λh=>Fc b g j h c) aB
def GL:aa:=aq a "known" λh=>aq c "number" λb=>jr h b e λ_=>aq a "known" λd=>aq c "number" λg=>aO d g λi=>f i
def LD:aa:=aq a "known" λb=>aq c "number" λd=>aO b d λe=>f e
def Cb:aa:=aq a "number" λd=>aq c "known" λe=>bL .NotIn d e λh=>a1 h λi=>if i then(b (.B 60 0) [a] (λj=>GL f c a j)<|aS g) else LD f c a
def C':aa:=aq a "piled" λb=>aq a "weights" λc=>aO c (.c 0) λA=>J (bW .Add b A) λd=>J (bW .Add d<|.c 4) λe=>f e
def Ik:aa:=if k then ae else b (.ay 35) [.l "Deep recursion"] (λa=>J (dz a) λc=>iU c<|f a)<|aS f
def BX:aa:=b (.B 61 0) [a,c] (λl=>aO l (.c 1) λA=>J (bW .Add e A) λi=>J (bW .Add i<|.c 10) λj=>bL .Gt j (.c 880) λd=>a1 d λh=>if h then(Ik b k g) else f .s) aB
def De:aa:=aq a "known" λd=>aT c "known" d λ_=>b (.B 62 0) [a] (λi=>aT c "piled" i λ_=>b (.B 61 0) [c,e] (λh=>aT c "weights" h λ_=>f c)<|aS g)<|aS g
def Gj:aa:=b (.B 62 0) [a] (λd=>aT c "piled" d λ_=>b (.B 61 0) [c,e] (λh=>aT c "weights" h λ_=>f c)<|aS g)<|aS g
def AL:aa:=aq a "line" λi=>b (.ay 58) [c,e,h,j,m,i] (λd=>b (.a' "isinstance") [a,.ay 58] (λl=>a1 l λk=>if k then(De b f g a d j) else Gj b f g a d j) aB)<|aS g
def Fd:aa:=if k then ae else aq a "steps" λd=>b (.ay 39) [d] (λc=>J (dz c) λe=>iU e<|f c)<|aS f
def JE:aa:=if k then ae else b (.ay 35) [.l "no such statement"] (λa=>J (dz a) λc=>iU c<|f a)<|aS f
def Hm:aa:=aq a "counter" λh=>aQ b h "settle" (λd=>d [c]) (λi=>f e)<|aS g
def DR:aa:=aq a "zero" λi=>b (.a' "len") [i] (λl=>b (.B 72 0) [c,e,h] (λd=>bL .Eq h (.c 0) λj=>a1 j λk=>if k then(Hm b f g c l d) else f d)<|aS g)<|aS g
def Ke:aa:=aO a (.c 0) λj=>aq c "statements" λd=>bL .NotIn j d λi=>a1 i λl=>if l then(JE b k g) else aq c "heap" λh=>DR b f g h c a e
def AB:aa:=ci q (bg l b k 56 (as 74 0) (bv (ab 74 0) 2)<|au (ab 74 0) 2 0) aJ 0 (Nt a c e h j)<|cF l b k 57 (as 74 0) (List.drop 3<|ab 74 0)<|de f g
def IP:aa:=aO a (.c 1) λj=>b (.a' "len") [j] (λi=>J (bW .Sub i<|.c 1) λd=>aO a (.c 1) λA=>b (.a' "len") [A] (λm=>fB m λn=>AB b l k f g n c a e h d) aB)<|aS g
def MV:aa:=aq a "heap" λi=>aQ b i "new_scalar" (λe=>e [.s]) (λd=>aq a "counter" λj=>aQ b j "store" (λh=>h [d,c]) (λk=>f d)<|aS g)<|aS g
def C9:aa:=aQ b a "new_scalar" (λi=>i [.s]) (λd=>aq c "counter" λk=>aQ b k "store" (λj=>j [d,e]) (λn=>aq c "counter" λl=>aQ b l "note" (λh=>h [d]) (λm=>f e)<|aS g)<|aS g)<|aS g
def Cq:aa:=bY a λj=>bo j (λm e E8=>aN d λk=>b (.B 11 0) [m] (λh=>b (.B 78 0) [k,h] (λi=>e [i]) E8) E8) aJ 0 (λc=>if Nat.ble c.length bl then J (a4<|.d c) (λg=>f g) else ae) aB
def LW:aa:=aN d λh=>b (.B 11 0) [a] (λc=>b (.B 78 0) [h,c] (λe=>f e)<|aS g)<|aS g
def Ar:aa:=bL .Eq a (.c 2) λe=>a1 e λh=>if h then(Cq b f d c) else LW b f g d c
def DJ:aa:=ci q (bg l b k 57 (as 82 0) (bv (ab 82 0) 1)<|au (ab 82 0) 1 0) aJ 0 (Ny a c e)<|cF l b k 58 (as 82 0) (List.drop 2<|ab 82 0)<|de f g
def Ga:aa:=aQ b a "glob_of" (λd=>d [.l "main::_"]) (λh=>aq c "stash" λg=>aQ b g "array_of" (λe=>e [.l "main::_"]) (λi=>dK [.l "array",h,i] λj=>t [j])<|aS f)<|aS f
def Ln:aa:=aQ b a "hold" (λd=>d [c]) (λk=>aq e "stash" λi=>aQ b i "glob_of" (λh=>h [.l "main::_"]) (λj=>aT j "array" c λ_=>f .s) aB)<|aS g
def Br:aa:=br l b k 56 (as 84 0) (nd a c e h j) (au (ab 84 0) 2 0)<|iG l b k 56 (as 84 0) (h0 (ab 84 0) 2) (au (ab 84 0) 2 2)<|cF l b k 57 (as 84 0) (List.drop 3<|ab 84 0)<|de f g
def Hw:aa:=if k then ae else b (.ay 35) [.l "Deep recursion"] (λa=>J (dz a) λc=>iU c<|f a)<|aS f
def Hp:aa:=if k then ae else b (.ay 35) [.l "Undefined subroutine called"] (λa=>J (dz a) λc=>iU c<|f a)<|aS f
def F6:aa:=aq a "sub" λd=>bL .Is d .s λe=>a1 e λh=>if h then(Hp b k g) else b (.B 63 0) [c,a] (λi=>f .s)<|aS g
def IV:aa:=b (.a' "len") [a] (λl=>aq c "limits" λd=>aq d "depth" λh=>bL .Gt l h λi=>a1 i λj=>if j then(Hw b k g) else F6 b k f g e c) aB
def C0:aa:=ci q (bg l b k 55 (as 86 0) (bv (ab 86 0) 3)<|au (ab 86 0) 3 0) aJ 0 (NC a c e h j m o p r s)<|cF l b k 56 (as 86 0) (List.drop 4<|ab 86 0)<|de f g
def Mv:aa:=J (dz a) λp=>iW p λd=>e_ d λs d=>e_ d λt d=>e_ d λu d=>e_ d λi d=>e_ d λm d=>jl d<|cJ [.s] λn=>J (bW .Mult n i) λo=>b (.a' "len") [m] (λq=>fB q λr=>C0 b l k f g r c e h j s t u i m o) aB
def IW:aa:=cU (λj=>if j then(cJ [a] λi=>f i) else f a) λd=>bL .Eq c (.c 2) λe=>a1 e λg=>dc .And g d<|b (.a' "isinstance") [a,.b7 "list"] (λk=>a1 k λh=>dc .And (!h) d<|d true) aB
def AC:aa:=aQ b a "builtin" (λd=>d [c,e,h]) (λi=>IW b f i h)<|aS g
def zA:aa:=b (.B 85 0) [a,c] (λj=>b (.B 82 0) [a,e] (λd=>b (.B 86 0) [a,c,d,h] (λi=>f i)<|aS g)<|aS g)<|aS g
def I2:aa:=aq a "magic" λc=>cU (λk=>f k) λd=>b (.a' "isinstance") [c,.ay 89] (λj=>a1 j λi=>if i then(aq c "line" λe=>aq e "holder" λh=>d h) else d .s)<|aS g
def H':aa:=aq a "tied" λc=>cU (λk=>f k) λd=>b (.a' "isinstance") [c,.ay 89] (λj=>a1 j λi=>if i then(aq c "line" λe=>aq e "holder" λh=>d h) else d .s)<|aS g
def Bz:aa:=cU (λi=>f i) λa=>b (.a' "isinstance") [.s,.ay 89] (λh=>a1 h λe=>if e then(aq .s "line" λc=>aq c "holder" λd=>a d) else a .s)<|aS g
def ER:aa:=cU (λh=>if h then(H' b f g a) else Bz b f g) λc=>b (.a' "isinstance") [a,.ay 4] (λi=>a1 i λd=>dc .Or d c<|b (.a' "isinstance") [a,.ay 5] (λj=>a1 j λe=>dc .Or e c<|c false) aB) aB
def MP:aa:=bY a λi=>bo i (λc b j=>bL .IsNot c .s λe=>a1 e λg=>if g then(b [c]) else b []) aJ 0 (λd=>if Nat.ble d.length bl then J (a4<|.d d) (λh=>f h) else ae) aB
def F_:aa:=aN d λi=>aq i "items" λa=>aN d λj=>b (.B 90 0) [j] (λh=>cJ [h] λc=>J (bW .Add a c) λe=>MP f e)<|aS g
def I7:aa:=bY a λi=>bo i (λc b j=>bL .IsNot c .s λe=>a1 e λg=>if g then(b [c]) else b []) aJ 0 (λd=>if Nat.ble d.length bl then J (a4<|.d d) (λh=>f h) else ae) aB
def IJ:aa:=bo q (λn c p=>aN d λl=>aq l "table" λe=>aO e n λo=>c [o]) aJ 0 (λa=>if Nat.ble a.length bl then J (a4<|.d a) (λh=>aN d λm=>b (.B 90 0) [m] (λk=>cJ [k] λi=>J (bW .Add h i) λj=>I7 f j)<|aS g) else ae) aB
def Bv:aa:=aN d λe=>aq e "table" λa=>bY a λc=>IJ b f g c d
def HP:aa:=bY a λi=>bo i (λc b j=>bL .IsNot c .s λe=>a1 e λg=>if g then(b [c]) else b []) aJ 0 (λd=>if Nat.ble d.length bl then J (a4<|.d d) (λh=>f h) else ae) aB
def HY:aa:=aN d λi=>aq i "captures" λa=>aN d λj=>b (.B 90 0) [j] (λh=>cJ [h] λc=>J (bW .Add a c) λe=>HP f e)<|aS g
def Kh:aa:=bY a λi=>bo i (λc b j=>bL .IsNot c .s λe=>a1 e λg=>if g then(b [c]) else b []) aJ 0 (λd=>if Nat.ble d.length bl then J (a4<|.d d) (λh=>f h) else ae) aB
def CG:aa:=aq a "code" λi=>cJ [c,e,h,i] λj=>aN d λn=>b (.B 90 0) [n] (λm=>cJ [m] λk=>J (bW .Add j k) λl=>Kh f l)<|aS g
def JS:aa:=aq a "scalar" λc=>aN d λi=>aq i "array" λe=>aN d λj=>aq j "hash" λh=>aN d λk=>CG b f g d k c e h
def Ms:aa:=bY a λi=>bo i (λc b j=>bL .IsNot c .s λe=>a1 e λg=>if g then(b [c]) else b []) aJ 0 (λd=>if Nat.ble d.length bl then J (a4<|.d d) (λh=>f h) else ae) aB
def Li:aa:=cJ [] λa=>aN d λi=>b (.B 90 0) [i] (λh=>cJ [h] λc=>J (bW .Add a c) λe=>Ms f e)<|aS g
def Di:aa:=aN d λe=>b (.a' "isinstance") [e,.ay 7] (λc=>a1 c λa=>if a then(aN d λh=>JS b f g d h) else Li b f g d) aB
def GU:aa:=aN d λe=>b (.a' "isinstance") [e,.ay 6] (λc=>a1 c λa=>if a then(HY b f g d) else Di b f g d) aB
def B1:aa:=aN d λe=>b (.a' "isinstance") [e,.ay 5] (λc=>a1 c λa=>if a then(Bv b f g d) else GU b f g d) aB
def EZ:aa:=fX (.K []) λb=>aT a "table" b λ_=>aT a "at" (.c 0) λ_=>f .s
def A7:aa:=aT a "scalar" .s λ_=>aT a "array" .s λ_=>aT a "hash" .s λ_=>aT a "code" .s λ_=>f .s
def Hd:aa:=b (.a' "isinstance") [a,.ay 7] (λd=>a1 d λc=>if c then(A7 f a) else f .s) aB
def Hi:aa:=b (.a' "isinstance") [a,.ay 6] (λe=>a1 e λc=>if c then(cJ [] λd=>aT a "captures" d λ_=>f .s) else Hd b f a) aB
def Mq:aa:=b (.a' "isinstance") [a,.ay 5] (λd=>a1 d λc=>if c then(EZ f a) else Hi b f a) aB
def z9:aa:=aT a "magic" .s λ_=>b (.a' "isinstance") [a,.ay 4] (λe=>a1 e λc=>if c then(cJ [] λd=>aT a "items" d λ_=>f .s) else Mq b f a) aB
def z4:aa:=fX (.K []) λb=>aT a "table" b λ_=>aT a "at" (.c 0) λ_=>f .s
def Ch:aa:=aT a "scalar" .s λ_=>aT a "array" .s λ_=>aT a "hash" .s λ_=>aT a "code" .s λ_=>f .s
def Db:aa:=b (.a' "isinstance") [a,.ay 7] (λd=>a1 d λc=>if c then(Ch f a) else f .s) aB
def Fq:aa:=b (.a' "isinstance") [a,.ay 6] (λe=>a1 e λc=>if c then(cJ [] λd=>aT a "captures" d λ_=>f .s) else Db b f a) aB
def Id:aa:=b (.a' "isinstance") [a,.ay 5] (λd=>a1 d λc=>if c then(z4 f a) else Fq b f a) aB
def Jp:aa:=aT a "tied" .s λ_=>b (.a' "isinstance") [a,.ay 4] (λe=>a1 e λc=>if c then(cJ [] λd=>aT a "items" d λ_=>f .s) else Id b f a) aB
def Lw:aa:=fX (.K []) λb=>aT a "table" b λ_=>aT a "at" (.c 0) λ_=>f .s
def Ea:aa:=aT a "scalar" .s λ_=>aT a "array" .s λ_=>aT a "hash" .s λ_=>aT a "code" .s λ_=>f .s
def An:aa:=b (.a' "isinstance") [a,.ay 7] (λd=>a1 d λc=>if c then(Ea f a) else f .s) aB
def Mm:aa:=b (.a' "isinstance") [a,.ay 6] (λe=>a1 e λc=>if c then(cJ [] λd=>aT a "captures" d λ_=>f .s) else An b f a) aB
def Fw:aa:=b (.a' "isinstance") [a,.ay 5] (λd=>a1 d λc=>if c then(Lw f a) else Mm b f a) aB
def LT:aa:=b (.a' "isinstance") [a,.ay 4] (λe=>a1 e λc=>if c then(cJ [] λd=>aT a "items" d λ_=>f .s) else Fw b f a) aB
def KE:aa:=b (.B 90 0) [a] (λe=>bL .IsNot e .s λc=>a1 c λd=>if d then(Jp b f a) else LT b f a) aB
def Mw:aa:=bY a λc=>ci c (bg l b k 57 (as 93 0) (bv (ab 93 0) 1)<|au (ab 93 0) 1 0) aJ 0 (NF a d)<|cF l b k 58 (as 93 0) (List.drop 2<|ab 93 0)<|de f g
def Ep:aa:=aO a (.l "cells") λD=>aO D c λh=>J (bW .Mod h e) λb=>f b
def FK:aa:=cU (λk=>J (bW .Mod k a) λi=>f i) λd=>b (.a' "len") [.cO 4] (λj=>bL .Lt c j λe=>a1 e λh=>if h then(aO (.cO 4) c λl=>d l) else d c)<|aS g
def Ha:aa:=J (nm a<|.l "spot") λd=>J (fg .Add d<|.c 1) λj=>jr a (.l "spot") j λ_=>aO a (.l "cells") λz=>b (.a' "len") [z] (λk=>bL .Lt c k λh=>a1 h λi=>if i then(Ep f a c e) else FK b f g e c) aB
def AI:aa:=b (.B 101 0) [a,c] (λi=>J (bW .Add e i) λh=>b (.B 101 0) [a,.c 3] (λj=>dK [h,j] λl=>cJ [l] λd=>dK [.l "asks",d] λk=>f k)<|aS g)<|aS g
def DE:aa:=J (bW .Add a<|.c 1) λd=>J (bW .Sub (.c 2) a) λe=>AI b f g c e d
def zD:aa:=cU (λi=>f i) λb=>bL .Eq a (.c 2) λd=>a1 d λe=>if e then(dK [.l "make",c] λg=>b g) else dK [.l "drop",c] λh=>b h
def EF:aa:=b (.B 101 0) [a,.c 3] (λd=>bL .Eq c (.c 1) λe=>a1 e λh=>if h then(b (.B 101 0) [a,.c 3] (λi=>dK [.l "move",d,i] λj=>f j)<|aS g) else zD f c d)<|aS g
def Ff:aa:=cU (λl=>if l then(DE b f g a c) else EF b f g c e) λd=>bL .Eq e (.c 3) λh=>a1 h λj=>dc .And j d<|bL .Lt a (.c 2) λi=>a1 i λk=>dc .And k d<|d true
def Ah:aa:=ci (.cf 3) (bg l b k 57 (as 103 0) (bv (ab 103 0) 1)<|au (ab 103 0) 1 0) aJ 0 (Nk a d i)<|cF l b k 58 (as 103 0) (List.drop 2<|ab 103 0)<|de f g
def Ct:aa:=bo q (λA c E7=>aN d λk=>b (.B 101 0) [k,.c 3] (λg=>aN d λl=>b (.B 101 0) [l,.c 3] (λh=>dK [g,h] λi=>c [i]) E7) E7) aJ 0 (λa=>if Nat.ble a.length bl then J (a4<|.d a) (λe=>dK [.l "asks",e] λj=>f j) else ae) aB
def CB:aa:=aQ b a "append" (λd=>aq c "counter" λl=>aQ b l "fresh" (λi=>J (bW .Add (.c 70) e) λm=>i [m]) (λo=>d [o])<|aS g) (λp=>aT h "blessed" (.l "P") λ_=>aq h "number" λk=>jr j k e λ_=>b (.ay 8) [h] (λn=>f n)<|aS g)<|aS g
def Iq:aa:=bY a λi=>bo i (λh d k=>aq h "value" λe=>d [e]) aJ 0 (λb=>if Nat.ble b.length bl then J (a4<|.d b) (λg=>dK [c,g] λj=>f j) else ae) aB
def F1:aa:=aq a "target" λb=>aq b "number" λd=>aO c d λA=>aq a "target" λe=>aq e "items" λg=>Iq f g A
def Mi:aa:=fX (.K [(.l "drop",a),(.l "move",c),(.l "make",e),(.l "gives",h),(.l "back",j),(.l "asks",m)]) λb=>aT o "nodes" b λ_=>fX (.K [(.l "expr",.B 75 0)]) λd=>aT o "statements" d λ_=>f .s
def Fz:aa:=ci q (bg l b k 54 (as 108 0) (bv (ab 108 0) 4)<|au (ab 108 0) 4 0) aJ 0 (Nw a c e h j d i n)<|cF l b k 55 (as 108 0) (List.drop 5<|ab 108 0)<|de f g
def G_:aa:=bo (.cf 3) (λu q p=>aN d λt=>aQ b t "new_scalar" (λo=>o [.s]) (λr=>q [r]) p) aJ 0 (λm=>if Nat.ble m.length bl then J (a4<|.d m) (λj=>bY j λs=>Fz b l k f g s i n d a c e h j) else ae) aB
def HO:aa:=aN d λq=>b (.ay 98) [q] (λo=>aN d λr=>aq r "limits" λm=>b (.ay 45) [a,c,o,m] (λp=>G_ b l k f g d i n e h j p)<|aS g)<|aS g
def Fh:aa:=fm d a λ_=>aN d λo=>aN d λp=>hd 672 34 false lq [("marks",i),("log",n)] λj=>b (.ay 94) [p,j] (λm=>HO b l k f g d i n o m c e h)<|aS g
def yJ:aa:=J (dz a) λj=>iW j λh=>e_ h λp h=>fm d p λ_=>e_ h λq h=>fm i q λ_=>e_ h λr h=>jl h<|b (.ay 96) [] (λm=>b (.ay 9) [m] (λo=>Fh b l k f g n d i o c e r)<|aS g)<|aS g
def MJ:aa:=ci q (bg l b k 58 (as 109 0) (bv (ab 109 0) 0)<|au (ab 109 0) 0 0) aJ 0 (Nj a c e d)<|cF l b k 59 (as 109 0) (List.drop 1<|ab 109 0)<|de f g
def Gs:aa:=bo q (λo f e=>J (dz o) λh=>iW h λa=>e_ a λk a=>e_ a λl a=>jl a<|aN d λm=>aN i λn=>b (.B 109 0) [m,n,k,l] (λj=>f [j]) e) aJ 0 (λc=>if Nat.ble c.length bl then J (a4<|.d c) (λg=>t [g]) else ae) aB
def ID:aa:=ci q (bg l b k 54 (as 110 0) (bv (ab 110 0) 4)<|au (ab 110 0) 4 0) aJ 0 (NA a c d i)<|cF l b k 55 (as 110 0) (List.drop 5<|ab 110 0)<|de f g
def Fi:aa:=bo q (λt j h=>bY t λp=>bo p (λv m w=>m [v]) aJ 0 j h) aJ 0 (λe=>if Nat.ble e.length bl then J (a4<|.d e) (λn=>J (bW .Add a n) λo=>aN d λs=>aO s (.l "made") λu=>fB u λr=>ID b l k f g r i d c o) else ae) aB
def EB:aa:=aQ b a "pop" (λe=>e []) (λp=>aN d λj=>aO j (.l "holds") λn=>aN d λm=>aO m (.l "kept") λo=>bY o λh=>Fi b l k f g h d i n c)<|aS g
def AM:aa:=aQ b a "extend" (λe=>aO c (.c 1) λm=>bY m λh=>Gs b e h d i) (λo=>aN d λj=>aO j (.l "kept") λn=>EB b l k f g d i n c)<|aS g
def Fn:aa:=aN d λc=>aO c (.l "log") λe=>AM b l k f g d i e a
def KN:aa:=ci q (bg l b k 54 (as 110 0) (bv (ab 110 0) 4)<|au (ab 110 0) 4 0) aJ 0 (Nm a c e d i)<|cF l b k 55 (as 110 0) (List.drop 5<|ab 110 0)<|de f g
def Be:aa:=bo q (λu m j=>bY u λr=>bo r (λw n x=>n [w]) aJ 0 m j) aJ 0 (λh=>if Nat.ble h.length bl then J (a4<|.d h) (λo=>J (bW .Add a o) λp=>aN d λt=>aO t (.l "made") λv=>fB v λs=>KN b l k f g s i d c e p) else ae) aB
def CR:aa:=aQ b a "pop" (λh=>h []) (λq=>aN d λm=>aO m (.l "holds") λo=>aN d λn=>aO n (.l "kept") λp=>bY p λj=>Be b l k f g j d i o c e)<|aS g
def yR:aa:=aO a (.l "holds") λj=>aO c (.c 1) λm=>jr j m e λ_=>aN d λh=>aO h (.l "kept") λn=>CR b l k f g d i n c e
def FG:aa:=aN d λc=>aO c (.l "holds") λh=>aO a (.c 2) λj=>aO h j λm=>aN d λe=>yR b l k f g d i e a m
def CJ:aa:=ci q (bg l b k 54 (as 110 0) (bv (ab 110 0) 4)<|au (ab 110 0) 4 0) aJ 0 (Nm a c e d i)<|cF l b k 55 (as 110 0) (List.drop 5<|ab 110 0)<|de f g
def GI:aa:=bo q (λu m j=>bY u λr=>bo r (λw n x=>n [w]) aJ 0 m j) aJ 0 (λh=>if Nat.ble h.length bl then J (a4<|.d h) (λo=>J (bW .Add a o) λp=>aN d λt=>aO t (.l "made") λv=>fB v λs=>CJ b l k f g s i d c e p) else ae) aB
def Ls:aa:=aQ b a "pop" (λh=>h []) (λq=>aN d λm=>aO m (.l "holds") λp=>aN d λn=>aO n (.l "kept") λo=>bY o λj=>GI b l k f g j d i p c e)<|aS g
def CP:aa:=aO a (.l "holds") λj=>aO c (.c 1) λm=>jr j m e λ_=>aN d λh=>aO h (.l "kept") λn=>Ls b l k f g d i n c e
def GA:aa:=J (nm a<|.l "made") λe=>J (fg .Add e<|.c 1) λh=>jr a (.l "made") h λ_=>aN d λm=>aO m (.l "made") λo=>J (bW .Sub o<|.c 1) λj=>aN d λn=>CP b l k f g d i n c j
def CD:aa:=ci q (bg l b k 54 (as 110 0) (bv (ab 110 0) 4)<|au (ab 110 0) 4 0) aJ 0 (Nm a (.c<|-1) c d i)<|cF l b k 55 (as 110 0) (List.drop 5<|ab 110 0)<|de f g
def LA:aa:=bo q (λt j h=>bY t λp=>bo p (λv m w=>m [v]) aJ 0 j h) aJ 0 (λe=>if Nat.ble e.length bl then J (a4<|.d e) (λn=>J (bW .Add a n) λo=>aN d λs=>aO s (.l "made") λu=>fB u λr=>CD b l k f g r i d c o) else ae) aB
def yV:aa:=aQ b a "pop" (λe=>e []) (λp=>aN d λj=>aO j (.l "holds") λn=>aN d λm=>aO m (.l "kept") λo=>bY o λh=>LA b l k f g h d i n c)<|aS g
def LB:aa:=aO a (.l "holds") λh=>aO c (.c 1) λj=>jr h j (.c<|-1) λ_=>aN d λe=>aO e (.l "kept") λm=>yV b l k f g d i m c
def CL:aa:=bL .Eq a (.l "make") λe=>a1 e λh=>if h then(aN d λm=>GA b l k f g d i m c) else aN d λj=>LB b l k f g d i j c
def zC:aa:=aO a (.c 0) λh=>bL .Eq h (.l "move") λc=>a1 c λe=>if e then(FG b l k f g d i a) else aO a (.c 0) λj=>CL b l k f g d i j a
def EJ:aa:=aQ b a "append" (λe=>cJ [] λn=>e [n]) (λo=>aO c (.c 0) λm=>bL .Eq m (.l "asks") λh=>a1 h λj=>if j then(Fn b l k f g d i c) else zC b l k f g d i c)<|aS g
def Et:aa:=ci q (bg l b k 54 (as 111 0) (bv (ab 111 0) 4)<|au (ab 111 0) 4 0) aJ 0 (NE a c e h d)<|cF l b k 55 (as 111 0) (List.drop 5<|ab 111 0)<|de f g
def C7:aa:=cJ [] λn=>fX (.K [(.l "holds",a),(.l "made",.c 3),(.l "gone",c),(.l "kept",e),(.l "log",n)]) λi=>bY h λo=>Et b l k f g o d j m h i
def Ed:aa:=bo q (λs i h=>aN d λr=>b (.B 104 0) [r] (λp=>i [p]) h) aJ 0 (λe=>if Nat.ble e.length bl then J (a4<|.d e) (λj=>cJ [.c 0,.c 1,.c 2] λm=>cJ [] λn=>cJ [] λo=>C7 b l k f g d m n o j a c) else ae) aB
def zt:aa:=aN d λj=>b (.B 103 0) [j] (λe=>aN d λm=>b (.B 101 0) [m,.c 3] (λh=>J (bW .Add (.c 1) h) λc=>fB c λi=>Ed b l k f g i d a e)<|aS g)<|aS g
def Mb:aa:=bo q (λC e E5=>J (bW .Pow (.c 10)<|.c 9) λj=>J (bW .Mod C j) λm=>e [m]) aJ 0 (λc=>if Nat.ble c.length bl then J (a4<|.d c) (λi=>fX (.K [(.l "cells",i),(.l "spot",.c 0)]) λh=>fm d h λ_=>zt b l k f g d a) else ae) aB
def GD:aa:=aO a (.c 1) λz=>aO c z λA=>aN d λe=>aO a (.c 2) λu=>aO e u λD=>aq D "value" λb=>t [A,b]
def Dq:aa:=aN d λh=>aO a (.c 1) λz=>aO h z λA=>aN i λj=>aN i λk=>b (.a' "len") [k] (λe=>b (.B 105 0) [c,j,e] (λg=>t [A,g])<|aS f)<|aS f
def Dw:aa:=aO a (.c 1) λC=>bY C λg=>bo g (λA c E7=>aN d λh=>aO h A λi=>c [i]) aJ 0 (λb=>if Nat.ble b.length bl then J (a4<|.d b) (λe=>f e) else ae) aB
def LF:aa:=a1 a λe=>if e then(aN d λg=>aO c (.c 1) λh=>aO h (.c<|-1) λi=>aO g i λj=>aq j "value" λb=>f b) else f .s
def K6:aa:=cU (λg=>f g) λe=>bL .Eq a (.c 1) λb=>LF e d b c
def FF:aa:=aq a "frames" λg=>aO g (.c<|-1) λC=>aq C "want" λh=>b c [a,e,h] (λj=>b (.ay 36) [j] (λd=>J (dz d) λi=>iU i<|f d)<|aS f)<|aS f
def z0:aa:=ci q (bg l b k 57 ((cD (ab 107 0) 5).eg) (bv (hK<|cD (ab 107 0) 5) 1)<|au (hK<|cD (ab 107 0) 5) 1 0) aJ 0 (ND a c e d i n u)<|cF l b k 58 ((cD (ab 107 0) 5).eg) (List.drop 2<|hK<|cD (ab 107 0) 5)<|de f g
def LH:aa:=bo q (λC m E5=>J (dz C) λp=>iW p λe=>e_ e λt e=>e_ e λv e=>jl e<|aN d λw=>aN i λx=>aO x t λy=>cJ [] λo=>b (.B 87 0) [w,y,o,v] (λr=>m [r]) E5) aJ 0 (λj=>if Nat.ble j.length bl then J (a4<|.d j) (λh=>bY h λs=>z0 b l k f g s d n u i a c h) else ae) aB
end
theorem B_:bQ p m u h i 2 1 [] [a,b]=(aT a "number" b λ_=>aT a "count" (.c 0) λ_=>DN h a):=∅
theorem F':bQ p m u h i 3 1 [] [a,b,c]=(aQ m (.ay 2) "__init__" (λd=>d [a,b]) (λe=>aT a "value" c λ_=>aT a "magic" .s λ_=>h .s)<|aS i):=∅
theorem zl:bQ p m u h i 4 1 [] [a,b]=(aQ m (.ay 2) "__init__" (λc=>c [a,b]) (λe=>cJ [] λd=>aT a "items" d λ_=>aT a "tied" .s λ_=>h .s)<|aS i):=∅
theorem CF:bQ p m u h i 6 1 [] [a,b,c,d]=(aQ m (.ay 2) "__init__" (λe=>e [a,b]) (λf=>aT a "sub" c λ_=>aT a "captures" d λ_=>aT a "builtin" .s λ_=>aT a "package" (.l "main") λ_=>h .s)<|aS i):=∅
theorem L2:bQ p m u h i 7 1 [] [a,b,c]=(aQ m (.ay 2) "__init__" (λd=>d [a,b]) (λe=>DL h a c)<|aS i):=∅
theorem Ho:bQ p m u h i 8 1 [.b' false] [a,b]=(aT a "target" b λ_=>aT a "is_weak" (.b' false) λ_=>h .s):=∅
theorem Hg:bQ p m u h i 9 1 [] [a,b]=(aT a "limits" b λ_=>aT a "last" (.c 0) λ_=>cJ [] λc=>aT a "zero" c λ_=>h .s):=∅
theorem L7:bQ p m u h i 9 2 [] [a]=(aq a "last" λb=>J (fg .Add b<|.c 1) λd=>aT a "last" d λ_=>aq a "last" λc=>h c):=∅
theorem JT:bQ p m u h i 9 3 [] [a,b]=(aQ m a "next_number" (λc=>c []) (λd=>m (.ay 3) [d,b] (λe=>h e)<|aS i)<|aS i):=∅
theorem Dy:bQ p m u h i 9 4 [] [a]=(aQ m a "next_number" (λb=>b []) (λc=>m (.ay 4) [c] (λd=>h d)<|aS i)<|aS i):=∅
theorem zX:bQ p m u h i 9 6 [] [a,b,c]=(aQ m a "next_number" (λd=>d []) (λe=>m (.ay 6) [e,b,c] (λf=>h f)<|aS i)<|aS i):=∅
theorem BK:bQ p m u h i 9 7 [] [a,b]=(aQ m a "next_number" (λc=>c []) (λd=>m (.ay 7) [d,b] (λe=>h e)<|aS i)<|aS i):=∅
theorem Ig:bQ p m u h i 94 1 [] [a,b,c]=(aT a "heap" b λ_=>aT a "destroy" c λ_=>fX (.K []) λd=>aT a "places" d λ_=>fX (.K []) λe=>aT a "empties" e λ_=>h .s):=∅
theorem zf:bQ p m u h i 94 2 [] [d,a]=(aq a "count" λb=>J (fg .Add b<|.c 1) λc=>aT a "count" c λ_=>h .s):=∅
theorem L9:bQ p m u h i 94 3 [] [b,a]=(aq a "count" λc=>J (fg .Sub c<|.c 1) λg=>aT a "count" g λ_=>aq a "count" λd=>bL .Eq d (.c 0) λe=>a1 e λf=>if f then(zd m h i b a) else h .s):=∅
theorem Do:bQ p m u h i 94 4 [] [b,a]=(aq a "count" λc=>bL .Eq c (.c 0) λd=>a1 d λe=>if e then(L4 m h i b a) else h .s):=∅
theorem Mp:bQ p m u h i 94 5 [] [b,a]=(m (.a' "isinstance") [a,.ay 8] (λd=>a1 d λc=>if(!c) then(h a) else FY m h i b a) aB):=∅
theorem BR:bQ p m u h i 94 6 [] [c,d,a]=(J d3 λb=>fm b d λ_=>m (.a' "isinstance") [a,.ay 8] (λf=>a1 f λe=>if(!e) then(h .s) else BN m h i b a c) aB):=∅
theorem Lj:bQ p m u h i 94 7 [] [a,b,c]=(aq a "places" λe=>aQ m e "pop" (λd=>aq b "number" λf=>d [f,.s]) (λj=>aq a "empties" λg=>JA m h i g b c a)<|aS i):=∅
theorem Kx:bQ p m u h i 94 8 [] [a,c]=(aq a "heap" λf=>aQ m f "new_scalar" (λd=>aQ m a "take" (λe=>e [c]) (λg=>d [g])<|aS i) (λb=>aT b "count" (.c 1) λ_=>h b)<|aS i):=∅
theorem rg:bQ p m u h i 94 10 [] [a,b]=(iy (fU m 58 (as 94 10)<|bv (ab 94 10) 0) (hc u m p 58 (as 94 10)<|au (ab 94 10) 0 0) aJ (M_ a b)<|cF u m p 59 (as 94 10) (List.drop 1<|ab 94 10)<|de h i):=∅
theorem s0:bQ p m u h i 94 11 [] [b,a]=(cU (λe=>if e then(h .s) else aT a "is_destroyed" (.b' true) λ_=>Hj m h i a b) λd=>aq a "count" λc=>FM d c a b):=∅
theorem wx:bQ p m u h i 94 12 [] [b,a]=(aT a "is_freed" (.b' true) λ_=>aq a "weak" λc=>Bo m u p h i c b a):=∅
theorem ES:bQ p m u h i 98 1 [] [a,b]=(aT a "heap" b λ_=>fX (.K []) λc=>aT a "globs" c λ_=>aT a "generation" (.c 0) λ_=>h .s):=∅
theorem x':bQ p m u h i 98 2 [] [a,b]=(aq a "globs" λc=>zH m h i b c a):=∅
theorem xx:bQ p m u h i 98 4 [] [b,c]=(aQ m b "glob_of" (λd=>d [c]) (λa=>aq a "array" λf=>bL .Is f .s λg=>a1 g λj=>if j then(Ku m h i b a) else aq a "array" λe=>h e)<|aS i):=∅
theorem Hc:bQ p m u h i 34 1 [] [a,b]=(aQ m (.b7 "Exception") "__init__" (λc=>c [a,b]) (λd=>aT a "text" b λ_=>h .s)<|aS i):=∅
theorem JJ:bQ p m u h i 36 1 [] [a,b]=(aQ m (.ay 34) "__init__" (λc=>c [a,.l "no sub to return from"]) (λd=>aT a "value" b λ_=>h .s)<|aS i):=∅
theorem vv:bQ p m u h i 44 1 [] [a,g,b,c,d,e,f]=(aT a "pad" g λ_=>BI h a b c d e f):=∅
theorem Bf:bQ p m u h i 45 1 [] [a,c,d,e,b]=(aT a "heap" c λ_=>EP h a d e b):=∅
theorem IR:bQ p m u h i 58 1 [] [a,g,b,c,d,e,f]=(aQ m (.ay 44) "__init__" (λj=>j [a,g,b,c,d,e,f]) (λl=>aT a "piled" (.c 0) λ_=>aT a "weights" (.cO 3) λ_=>fX (.K []) λk=>aT a "known" k λ_=>h .s)<|aS i):=∅
theorem BF:bQ p m u h i 96 1 [.c 64,.c 50,.c 1000000,.c 100000,.c 10000] [a]=(aT a "width" (.c 64) λ_=>aT a "depth" (.c 50) λ_=>aT a "steps" (.c 1000000) λ_=>aT a "text" (.c 100000) λ_=>aT a "items" (.c 10000) λ_=>h .s):=∅
theorem om:bQ p m u h i 11 0 [] [a]=(m (.a' "isinstance") [a,.ay 3] (λd=>a1 d λc=>if(!c) then(h a) else aq a "magic" λb=>y4 m h i b a) aB):=∅
theorem zn:bQ p m u h i 19 0 [] [b,a]=(bL .IsNot a .s λc=>a1 c λd=>if d then(AE m h i b a) else h .s):=∅
theorem Ka:bQ p m u h i 21 0 [] [b,a]=(aO a (.c 1) λB=>aq B "array" λc=>m (.B 19 0) [b,c] (λd=>aO a (.c 2) λz=>aO a (.c 1) λA=>aT A "array" z λ_=>h .s)<|aS i):=∅
theorem Mg:bQ p m u h i 32 0 [] [a,b]=(iy (fU m 58 (as 32 0)<|bv (ab 32 0) 0) (hc u m p 58 (as 32 0)<|au (ab 32 0) 0 0) aJ (Np a b)<|cF u m p 59 (as 32 0) (List.drop 1<|ab 32 0)<|de h i):=∅
theorem Gl:bQ p m u h i 46 0 [] [b,a,c]=(aO a (.c 0) λB=>aq b "nodes" λd=>bL .NotIn B d λe=>a1 e λf=>if f then(Iv m p i) else DQ m h i b a c):=∅
theorem Aq:bQ p m u h i 59 0 [] [a]=(J d3 λd=>aO a (.c 1) λB=>bY B λf=>bo f (λC c E5=>dK [C,.c 0] λg=>c [g]) aJ 0 (λb=>if Nat.ble b.length bl then J (a4<|.d b) (λe=>IF m u p h i d a e) else ae) aB):=∅
theorem EO:bQ p m u h i 60 0 [] [a]=(aq a "sub" λb=>I5 m h i b a):=∅
theorem tL:bQ p m u h i 61 0 [] [a,b]=(m (.a' "isinstance") [a,.ay 58] (λd=>a1 d λc=>if(!c) then(m (.B 60 0) [b] (λe=>h e)<|aS i) else Cb m h i b a) aB):=∅
theorem Mf:bQ p m u h i 62 0 [] [a]=(m (.a' "isinstance") [a,.ay 58] (λc=>a1 c λb=>if(!b) then(h<|.c 4) else C' h a) aB):=∅
theorem Dp:bQ p m u h i 63 0 [] [b,a]=(aq b "frames" λc=>aO c (.c<|-1) λj=>m (.B 62 0) [j] (λd=>BX m p h i j a d) aB):=∅
theorem IH:bQ p m u h i 64 0 [] [e,d,b,c,a]=(aq e "frames" λf=>aO f (.c<|-1) λj=>aq a "package" λg=>AL m h i j d b c a g):=∅
theorem B2:bQ p m u h i 69 0 [] [a]=(bL .Eq a (.c 2) λb=>a1 b λc=>if c then(cJ [] λd=>h d) else h .s):=∅
theorem Gc:bQ p m u h i 71 0 [] [a]=(aq a "steps" λb=>J (fg .Add b<|.c 1) λj=>aT a "steps" j λ_=>aq a "steps" λc=>aq a "limits" λd=>aq d "steps" λe=>bL .Gt c e λf=>a1 f λg=>if g then(Fd m p i a) else h .s):=∅
theorem FL:bQ p m u h i 72 0 [] [c,a,b]=(br u m p 58 (as 72 0) (Nr c a b) (au (ab 72 0) 0 0)<|iG u m p 58 (as 72 0) (h0 (ab 72 0) 0) (au (ab 72 0) 0 2)<|cF u m p 59 (as 72 0) (List.drop 1<|ab 72 0)<|de h i):=∅
theorem Jl:bQ p m u h i 73 0 [] [a,b,c]=(m (.B 71 0) [a] (λd=>Ke m p h i b a c)<|aS i):=∅
theorem zZ:bQ p m u h i 74 0 [] [c,b,a]=(m (.B 69 0) [a] (λd=>IP m u p h i b c a d)<|aS i):=∅
theorem II:bQ p m u h i 75 0 [] [b,a,c]=(aO a (.c 1) λB=>aq b "frames" λd=>aO d (.c<|-1) λC=>aT C "line" B λ_=>aO a (.c 2) λz=>m (.B 46 0) [b,z,c] (λe=>h e)<|aS i):=∅
theorem K7:bQ p m u h i 78 0 [] [b,a]=(m (.a' "isinstance") [a,.ay 8] (λe=>a1 e λd=>if d then(aq b "heap" λc=>C9 m h i c b a) else h a) aB):=∅
theorem AT:bQ p m u h i 81 0 [] [d,c,a]=(J d3 λb=>fm b d λ_=>bL .Eq a (.c 0) λe=>a1 e λf=>if f then(h .s) else Ar m h i b a c):=∅
theorem By:bQ p m u h i 82 0 [] [b,a]=(aq b "heap" λd=>aQ m d "new_array" (λc=>c []) (λe=>bY a λf=>DJ m u p h i f b a e)<|aS i):=∅
theorem FJ:bQ p m u h i 83 0 [] [a,b]=(aq a "saves" λd=>aQ m d "append" (λc=>aq a "stash" λf=>Ga m i c f a) (λg=>aq a "counter" λe=>Ln m h i e b a)<|aS i):=∅
theorem Lv:bQ p m u h i 84 0 [] [a,b,c,d]=(aq a "saves" λf=>m (.a' "len") [f] (λj=>aq a "frames" λg=>aQ m g "append" (λe=>e [b]) (λk=>Br m u p h i a b c d j)<|aS i)<|aS i):=∅
theorem HQ:bQ p m u h i 85 0 [] [a,b]=(aq a "frames" λc=>IV m p h i c a b):=∅
theorem EM:bQ p m u h i 86 0 [] [b,a,c,d]=(m (.B 85 0) [b,a] (λf=>aq a "sub" λe=>Mv m u p h i e b a c d)<|aS i):=∅
theorem KT:bQ p m u h i 87 0 [] [d,a,b,c]=(aq a "builtin" λe=>bL .IsNot e .s λf=>a1 f λg=>if g then(AC m h i a d b c) else zA m h i d a b c):=∅
theorem uG:bQ p m u h i 90 0 [] [a]=(m (.a' "isinstance") [a,.ay 3] (λc=>a1 c λb=>if b then(I2 m h i a) else ER m h i a) aB):=∅
theorem xE:bQ p m u h i 91 0 [] [b]=(J d3 λa=>fm a b λ_=>aN a λe=>m (.a' "isinstance") [e,.ay 4] (λd=>a1 d λc=>if c then(F_ m h i a) else B1 m h i a) aB):=∅
theorem ul:bQ p m u h i 92 0 [] [a]=(cU (λe=>if e then(z9 m h a) else KE m h a) λb=>m (.B 90 0) [a] (λf=>bL .IsNot f .s λjD=>a1 jD λc=>dc .And c b<|m (.a' "isinstance") [a,.ay 3] (λg=>a1 g λd=>dc .And d b<|b true) aB) aB):=∅
theorem J6:bQ p m u h i 93 0 [] [b]=(J d3 λa=>fX (.K []) λc=>fm a c λ_=>Mw m u p h i a b):=∅
theorem EU:bQ p m u h i 101 0 [] [a,b]=(aO a (.l "spot") λB=>Ha m h i a B b):=∅
theorem Bu:bQ p m u h i 102 0 [] [a,b]=(m (.B 101 0) [a,.c 4] (λc=>Ff m h i b a c)<|aS i):=∅
theorem KX:bQ p m u h i 103 0 [] [b]=(J d3 λa=>J d3 λc=>fm a b λ_=>cJ [] λd=>Ah m u p h i c a d):=∅
theorem yM:bQ p m u h i 104 0 [] [b]=(J d3 λa=>fm a b λ_=>aN a λf=>m (.B 101 0) [f,.c 3] (λd=>J (bW .Add (.c 1) d) λc=>fB c λe=>Ct m h e a)<|aS i):=∅
theorem zc:bQ p m u h i 105 0 [] [a,c,d]=(aq a "heap" λf=>aQ m f "new_array" (λe=>e []) (λb=>aq b "items" λg=>CB m h i g a d b c)<|aS i):=∅
theorem Eb:bQ p m u h i 106 0 [] [b,a]=(m (.a' "isinstance") [a,.ay 8] (λd=>a1 d λc=>if(!c) then(h<|.c<|-1) else F1 h a b) aB):=∅
theorem K4:bQ p m u h i 107 0 [] [l,g,j,f,k]=(J d3 λa=>J d3 λd=>J d3 λb=>J d3 λe=>J d3 λc=>fm a g λ_=>fm d j λ_=>fm b f λ_=>fm e k λ_=>hd 646 4 false (cD (ab 107 0) 0) [("holders",a)] λn=>hd 649 4 false (cD (ab 107 0) 1) [("holders",a)] λo=>hd 652 4 false (cD (ab 107 0) 2) [("marks",b),("holders",a)] λq=>hd 655 4 false (cD (ab 107 0) 3) [("holders",a)] λr=>fm c r λ_=>hd 660 4 false (cD (ab 107 0) 4) [("gives",c)] λs=>hd 663 4 false (cD (ab 107 0) 5) [("marks",b),("log",e),("codes",d)] λt=>aN c λv=>Mi h n o q v s t l):=∅
theorem My:bQ p m u h i 108 0 [] [a,b]=(J d3 λe=>J d3 λd=>J d3 λc=>fX (.K []) λf=>cJ [] λg=>cJ [] λj=>dK [f,g,j] λk=>yJ m u p h i c d e k a b):=∅
theorem Jt:bQ p m u h i 109 0 [] [d,a,b,e]=(J d3 λc=>fm c d λ_=>aO a b λB=>J (gW B none<|some<|-1) λf=>bY f λg=>MJ m u p h i g c a b e):=∅
theorem u1:bQ p m u h i 110 0 [] [d,c,e]=(J d3 λa=>J d3 λb=>fm a d λ_=>fm b c λ_=>aN a λf=>aO f (.l "kept") λj=>EJ m u p h i a b j e):=∅
theorem AW:bQ p m u h i 111 0 [] [a]=(J d3 λb=>J (gW a none<|some 60) λc=>bY c λd=>Mb m u p h i d b a):=∅
theorem H0:e' m u p (cD (ab 107 0) 0) [("holders",a)] [] [c,b,f] h i=(aq c "counter" λe=>aQ m e "store" (λd=>aN a λg=>aO b (.c 1) λz=>aO g z λA=>d [A,.c 0]) (λj=>h .s)<|aS i):=∅
theorem H1:e' m u p (cD (ab 107 0) 1) [("holders",a)] [] [c,b,f] h i=(aq c "counter" λe=>aQ m e "store" (λd=>aN a λg=>GD d a b g) (λj=>h .s)<|aS i):=∅
theorem H2:e' m u p (cD (ab 107 0) 2) [("marks",c),("holders",b)] [] [a,d,g] h i=(aq a "counter" λf=>aQ m f "store" (λe=>Dq m i e b c d a) (λj=>h .s)<|aS i):=∅
theorem H3:e' m u p (cD (ab 107 0) 3) [("holders",a)] [] [f,b,c] h i=(bL .Eq c (.c 2) λd=>a1 d λe=>if e then(Dw h a b) else K6 h a c b):=∅
theorem H4:e' m u p (cD (ab 107 0) 4) [("gives",a)] [] [c,b,d] h i=(if p then ae else aN a λe=>FF m i c e b):=∅
theorem H5:e' m u p (cD (ab 107 0) 5) [("marks",d),("log",e),("codes",c)] [] [g,a,f] h i=(J d3 λb=>fm b g λ_=>aO a (.c 1) λB=>bY B λj=>LH m u p h i j b c d e a f):=∅
theorem zk:e' m u p lq [("marks",a),("log",b)] [] [c] h i=(aN b λj=>aQ m j "append" (λd=>aN a λk=>aq c "number" λe=>aO k e λA=>dK [.l "gone",A] λg=>d [g]) (λf=>h f) aB):=∅
section
variable(b l:I)(k:Bool)(f:Y->aa)(g:ai->aa)(t:List Y->aa)(q:bI)(d i n u:Nat)(x:Option Int)(a c e h j m o p r s v w y:Y)
def Hq:aa:=ci q (bg l b k 52 (as 94 12) (bv (ab 94 12) 6)<|au (ab 94 12) 6 0) aJ 0 (Nv a c e h)<|cF l b k 53 (as 94 12) (List.drop 7<|ab 94 12) g
def IY:aa:=b (.B 91 0) [a] (λd=>b (.B 92 0) [a] (λh=>bY d λf=>Hq b l k g f c a e d)<|bb (Nv c a e d) g)<|bb (NH c a e) g
def Jh:aa:=aq a "value" λd=>aT a "value" .s λ_=>aQ b c "put_off" (λe=>e [a,d]) (λf=>IY b l k g a c d)<|bb (NH c a d) g
def Ad:aa:=aq a "empties" λf=>aQ b f "pop" (λd=>aq c "number" λe=>d [e,.s]) (λh=>Jh b l k g c a)<|bb (Nn a c) g
def HI:aa:=aq a "places" λe=>aQ b e "pop" (λd=>aq c "number" λf=>d [f,.s]) (λh=>Ad b l k g a c)<|bb (Nn a c) g
def LP:aa:=bY a λd=>ci d (bg l b k 52 (as 94 12) (bv (ab 94 12) 6)<|au (ab 94 12) 6 0) aJ 0 (Nl c e a)<|cF l b k 53 (as 94 12) (List.drop 7<|ab 94 12) g
def Av:aa:=b (.B 91 0) [a] (λd=>b (.B 92 0) [a] (λe=>LP b l k g d c a)<|bb (Nl c a d) g)<|bb (Nn c a) g
def HL:aa:=ci q (bg l b k 54 (as 94 10) (bv (au (ab 94 10) 0 0) 2)<|au (au (ab 94 10) 0 0) 2 0) aJ 0 (NI a c e)<|cF l b k 55 (as 94 10) (List.drop 3<|au (ab 94 10) 0 0) g
def KR:aa:=aq a "zero" λf=>kZ c λj=>J (gW f none j) λi=>aq e "heap" λd=>aT d "zero" i λ_=>bY h λm=>HL b l k g m e c h
def Kf:aa:=aq a "zero" λd=>kZ c λi=>J (gW d i none) λh=>b (.B 93 0) [h] (λj=>aq e "heap" λf=>KR b l k g f c e j)<|bb (M_ e c) g
def Kl:aa:=ci q (bg l b k 54 (as 94 10) (bv (au (ab 94 10) 0 0) 2)<|au (au (ab 94 10) 0 0) 2 0) aJ 0 (kQ a c e h)<|cF l b k 55 (as 94 10) (List.drop 3<|au (ab 94 10) 0 0) g
def B7:aa:=aq a "zero" λf=>kZ c λm=>J (gW f none m) λi=>aq e "heap" λd=>aT d "zero" i λ_=>bY h λn=>Kl b l k g n e c h j
def MB:aa:=J (gW a x none) λf=>b (.B 93 0) [f] (λi=>aq c "heap" λd=>B7 b l k g d e c i h)<|bb (kQ c e j h) g
def Lh:aa:=ci q (bg l b k 53 (as 94 10) (bv (au (ab 94 10) 0 0) 3)<|au (au (ab 94 10) 0 0) 3 0) aJ 0 (kQ a c e h)<|cF l b k 54 (as 94 10) (List.drop 4<|au (ab 94 10) 0 0) g
def J_:aa:=aQ b a "free" (λd=>d [c]) (λf=>g<|.f<|kQ a e h c)<|bb (kQ a e h c) g
def FO:aa:=aN d λe=>aq a "number" λb=>jr e b a λ_=>g<|.f<|Na c a d
def Fp:aa:=aN d λe=>aq a "number" λb=>jr e b a λ_=>g<|.f<|Na c a d
def Gh:aa:=bo q (λz f E6=>aN d λi=>aO i z λe=>f [e]) aJ 0 (λb=>if Nat.ble b.length bl then J (a4<|.d b) (λh=>g<|.b0 h<|Na a c d) else ae) aB
def Dx:aa:=aO a (.c 0) λz=>aO (.cO 0) z λA=>b A [c,a] (λd=>g<|.f<|Nh c e a)<|bb (Nh c e a) g
def MR:aa:=aO a (.c 0) λz=>aO (.cO 0) z λA=>b A [c,a] (λd=>g<|.f<|Nh c e a)<|bb (Nh c e a) g
def Gq:aa:=b (.B 81 0) [a,c,e] (λd=>g<|.b0 d<|nd a h j e m)<|bb (nd a h j e m) g
def Me:aa:=b (.B 83 0) [a,c] (λf=>b (.B 74 0) [a,e,h] (λd=>Gq b g a d h j e m)<|bb (nd a j e h m) g)<|bb (nd a j e h m) g
def Jo:aa:=b (.B 81 0) [a,c,e] (λd=>g<|.b0 d<|No a h j e m o)<|bb (No a h j e m o) g
def Gn:aa:=aQ b a "pop" (λd=>d []) (λf=>g<|.f<|nd c e h j m)<|bb (nd c e h j m) g
def Bw:aa:=br l b k 52 (as 86 0) (Nf a c e h j m o p r s v) (au (ab 86 0) 6 0)<|iG l b k 52 (as 86 0) (h0 (ab 86 0) 6) (au (ab 86 0) 6 2)<|cF l b k 53 (as 86 0) (List.drop 7<|ab 86 0) g
def Ko:aa:=aQ b a "hold" (λd=>d [c]) (λf=>Bw b l k g e c h j m o p r s v w)<|bb (Nf e c h j m o p r s v w) g
def Ac:aa:=aQ b a "let_go" (λd=>d [c]) (λf=>g<|.f<|Nf e c h j m o p r s v w)<|bb (Nf e c h j m o p r s v w) g
def Dr:aa:=aO a (.c 0) λj=>aO c j λC=>b C [e,a,h] (λd=>g<|.b0 d<|Nr e a h)<|bb (Nr e a h) g
def GO:aa:=b (.B 73 0) [a,c,e] (λd=>g<|.f<|Nd a h j d m o)<|bb (Nd a h j p m o) g
def GE:aa:=b (.B 73 0) [a,c,e] (λd=>g<|.f<|Nd a h j d m o)<|bb (Nd a h j p m o) g
def zV:aa:=if k then(bY a λq=>bo q (λD l E10=>aN d λr=>b (.B 106 0) [r,D] (λo=>l [o]) E10) aJ 0 (λj=>if Nat.ble j.length bl then J (a4<|.d j) (λm=>f m) else ae) aB) else aN d λs=>b (.B 106 0) [s,a] (λp=>f p)<|bb (Nb c e h a i d n u) g
def Fu:aa:=cU (λl=>t [l]) λj=>b (.a' "isinstance") [a,.b7 "list"] (λk=>a1 k λf=>zV b f j g d i n u a c e h)<|bb (Nb c e h a i d n u) g
def Ki:aa:=aQ b a "append" (λf=>Fu b g f d i n u c e h j) (λk=>g<|.f<|Nb e h j c i d n u)<|bb (Nb e h j c i d n u) g
def CV:aa:=if k then(bY a λq=>bo q (λD l E10=>aN d λr=>b (.B 106 0) [r,D] (λo=>l [o]) E10) aJ 0 (λj=>if Nat.ble j.length bl then J (a4<|.d j) (λm=>f m) else ae) aB) else aN d λs=>b (.B 106 0) [s,a] (λp=>f p)<|bb (Nb c e h a i d n u) g
def C3:aa:=cU (λl=>t [l]) λj=>b (.a' "isinstance") [a,.b7 "list"] (λk=>a1 k λf=>CV b f j g d i n u a c e h)<|bb (Nb c e h a i d n u) g
def Lx:aa:=aQ b a "append" (λf=>C3 b g f d i n u c e h j) (λk=>g<|.f<|Nb e h j c i d n u)<|bb (Nb e h j c i d n u) g
def F7:aa:=b (.a' "len") [a] (λf=>b (.B 105 0) [c,e,f] (λk=>t [h,k])<|bb (M6 j m o c p h d i n) g)<|bb (M6 j m o c p h d i n) g
def Da:aa:=aQ b a "store" (λf=>aN d λk=>aN d λl=>F7 b g f d i n l c k e h j m o) (λp=>g<|.f<|M6 h j m c o e d i n)<|bb (M6 h j m c o e d i n) g
def Hh:aa:=aQ b a "hold" (λf=>f [c]) (λl=>aq e "counter" λk=>Da b g d i n k e c h j m o)<|bb (M6 h j m e o c d i n) g
def Fk:aa:=b (.a' "len") [a] (λf=>b (.B 105 0) [c,e,f] (λk=>t [h,k])<|bb (M6 j m o c p h d i n) g)<|bb (M6 j m o c p h d i n) g
def EK:aa:=aQ b a "store" (λf=>aN d λk=>aN d λl=>Fk b g f d i n l c k e h j m o) (λp=>g<|.f<|M6 h j m c o e d i n)<|bb (M6 h j m c o e d i n) g
def KL:aa:=aQ b a "hold" (λf=>f [c]) (λl=>aq e "counter" λk=>EK b g d i n k e c h j m o)<|bb (M6 h j m e o c d i n) g
def BU:aa:=ci (.cf 3) (bg l b k 52 (as 108 0) (bv (ab 108 0) 6)<|au (ab 108 0) 6 0) aJ 0 (M6 a c e h j m d i n)<|cF l b k 53 (as 108 0) (List.drop 7<|ab 108 0) g
def D_:aa:=b (.B 107 0) [a,c,e,h,j] (λf=>BU b l k g d i n m o e a c p)<|bb (M6 m o e a c p d i n) g
def BY:aa:=aQ b a "new_code" (λf=>aO (.l "abc") c λv=>J (bW .Add (.l "main::s") v) λq=>cJ [] λk=>dK [.l "subdef",q,e,.c 0,k] λu=>cJ [] λl=>f [u,l]) (λs=>t [s])<|bb (JM h j m o p r c e d i n) g
def J8:aa:=aQ b a "hold" (λf=>aO c e λk=>f [k]) (λl=>g<|.f<|JM h j c m o p e r d i n)<|bb (JM h j c m o p e r d i n) g
def Ca:aa:=aQ b a "append" (λf=>aN d λl=>BY b g f i n d l c e h j a m o p) (λq=>aq m "counter" λk=>J8 b g i n d k a c h j m o p e)<|bb (JM h j a m o p c e i n d) g
def KQ:aa:=bo q (λC k E5=>dK [.l "expr",.c 5,C] λp=>k [p]) aJ 0 (λf=>if Nat.ble f.length bl then J (a4<|.d f) (λl=>dK [.l "block",l] λr=>Ca b g d i n a c r e h j m o) else ae) aB
def AA:aa:=aQ b a "new_code" (λf=>aO (.l "abc") c λv=>J (bW .Add (.l "main::s") v) λq=>cJ [] λk=>dK [.l "subdef",q,e,.c 0,k] λu=>cJ [] λl=>f [u,l]) (λs=>t [s])<|bb (JM h j m o p r c e d i n) g
def BA:aa:=aQ b a "hold" (λf=>aO c e λk=>f [k]) (λl=>g<|.f<|JM h j c m o p e r d i n)<|bb (JM h j c m o p e r d i n) g
def J4:aa:=aQ b a "append" (λf=>aN d λl=>AA b g f i n d l c e h j a m o p) (λq=>aq m "counter" λk=>BA b g i n d k a c h j m o p e)<|bb (JM h j a m o p c e i n d) g
def Ev:aa:=bo q (λC k E5=>dK [.l "expr",.c 5,C] λp=>k [p]) aJ 0 (λf=>if Nat.ble f.length bl then J (a4<|.d f) (λl=>dK [.l "block",l] λr=>J4 b g d i n a c r e h j m o) else ae) aB
def Hy:aa:=b (.ay 44) [a,c,.c 0,.s,.l "main",.c 1] (λf=>t [f])<|bb (JM e h j m o p r s d i n) g
def Fg:aa:=aQ b a "array_of" (λf=>f [.l "main::_"]) (λk=>Hy b g t d i n c k e h j m o p r s)<|bb (JM e h j m o p r s d i n) g
def Du:aa:=ci q (bg l b k 50 (as 108 0) (bv (ab 108 0) 8)<|au (ab 108 0) 8 0) aJ 0 (JM a c e h j m o p d i n)<|cF l b k 51 (as 108 0) (List.drop 9<|ab 108 0) g
def Hv:aa:=aQ b a "append" (λf=>cJ [] λs=>aq c "stash" λq=>Fg b g f d i n q s e h j c m o p r) (λu=>bY h λt=>Du b l k g t d i n e h j c m o p r)<|bb (JM e h j c m o p r d i n) g
def Ai:aa:=b (.B 73 0) [a,c,.c 0] (λf=>g<|.f<|Nc e h j a m o p r s d i n)<|bb (Nc e h j a m o p r s d i n) g
def EG:aa:=b (.B 73 0) [a,c,.c 0] (λf=>g<|.f<|Nc e h j a m o p r s d i n)<|bb (Nc e h j a m o p r s d i n) g
def EC:aa:=dK [a,c,e,h] λb=>g<|.b0 b<|Nc j m o p r s v w y d i n
def CT:aa:=b (.a' "len") [a] (λk=>aq c "saves" λf=>EC g d i n e h k f j m o c p r s v w)<|bb (Nc j m o c p r s v w d i n) g
def F3:aa:=bo q (λC k E5=>aN d λw=>aq C "value" λt=>b (.B 106 0) [w,t] (λv=>k [v]) E5) aJ 0 (λf=>if Nat.ble f.length bl then J (a4<|.d f) (λu=>aq a "frames" λl=>CT b g d i n l a c u e h j m o p r s) else ae) aB
def Fy:aa:=bo q (λn g f=>aN d λm=>b (.B 101 0) [m,.c 3] (λk=>g [k]) f) aJ 0 (λe=>if Nat.ble e.length bl then J (a4<|.d e) (λh=>dK [a,h] λl=>cJ [l] λi=>J (bW .Add c i) λj=>t [j]) else ae) aB
def Cy:aa:=aN d λk=>b (.B 101 0) [k,.c 2] (λh=>J (bW .Add (.c 1) h) λf=>fB f λj=>Fy b t j d a c)<|bb (M7 e c a i d) g
def El:aa:=aQ b a "append" (λf=>Cy b g f d i c e a) (λh=>g<|.f<|M7 a e c i d)<|bb (M7 a e c i d) g
def Iu:aa:=dK [.l "gives",.l "back"] λf=>aN d λh=>b (.B 101 0) [h,.c 2] (λe=>aO f e λj=>El b g d i a j c)<|bb ⟨[("subs",a),("rows",c)],[("me",i),("pail",d)],none⟩ g
def LX:aa:=bo q (λz e E6=>aN d λk=>aN i λj=>b (.B 102 0) [k,j] (λh=>e [h]) E6) aJ 0 (λc=>if Nat.ble c.length bl then J (a4<|.d c) (λf=>Iu b g d i a f) else ae) aB
def LE:aa:=bo q (λn g f=>aN d λm=>b (.B 101 0) [m,.c 3] (λk=>g [k]) f) aJ 0 (λe=>if Nat.ble e.length bl then J (a4<|.d e) (λh=>dK [a,h] λl=>cJ [l] λi=>J (bW .Add c i) λj=>t [j]) else ae) aB
def Ao:aa:=aN d λk=>b (.B 101 0) [k,.c 2] (λh=>J (bW .Add (.c 1) h) λf=>fB f λj=>LE b t j d a c)<|bb (M7 e c a i d) g
def Hk:aa:=aQ b a "append" (λf=>Ao b g f d i c e a) (λh=>g<|.f<|M7 a e c i d)<|bb (M7 a e c i d) g
def HV:aa:=aN d λj=>b (.B 101 0) [j,.c 2] (λf=>aO a f λk=>Hk b g d i c k e)<|bb (M7 c e h i d) g
def CW:aa:=bo q (λz f E6=>aN d λm=>aN i λl=>b (.B 102 0) [m,l] (λj=>f [j]) E6) aJ 0 (λe=>if Nat.ble e.length bl then J (a4<|.d e) (λh=>dK [.l "gives",.l "back"] λk=>HV b g d i k a h c) else ae) aB
def F9:aa:=cU (λk=>g<|.b0 k ⟨[("subs",a),("which",c),("want",e),("marks",h),("shown",j)],[("own",d)],none⟩) λb=>bL .Eq e (.c 2) λf=>a1 f λi=>if i then(b j) else aO j (.c 0) λl=>b l
def Hn:aa:=bo q (λb j s=>cU (λr=>j [r]) λf=>bL .Lt b (.c 0) λk=>a1 k λl=>if l then(f<|.c<|-1) else J (bW .Add (.c 70) b) λo=>cJ [o] λn=>dK [b,n] λp=>f p) aJ 0 (λi=>if Nat.ble i.length bl then J (a4<|.d i) (λm=>F9 g d a c e h m) else ae) aB
def BJ:aa:=aO a (.c<|-1) λk=>aQ b k "extend" (λf=>f [c]) (λl=>bY c λi=>Hn g i d e h j c)<|bb ⟨[("subs",e),("which",h),("want",j),("marks",c)],[("own",d)],none⟩ g
def y2:aa:=cU (λk=>aN d λl=>aO l (.l "kept") λm=>BJ b g d m k a c e) λf=>bL .Eq e (.c 2) λjD=>a1 jD λi=>if i then(f h) else J (gW h (some<|-1) none) λj=>f j
def Jc:aa:=bo q (λu h E9=>aN d λj=>aO j (.l "holds") λk=>aO k u λl=>h [l]) aJ 0 (λf=>if Nat.ble f.length bl then J (a4<|.d f) (λi=>y2 b g d a c e i) else ae) aB
def L0:aa:=aO a c λC=>aO C (.c<|-1) λz=>aO z (.c 1) λA=>bY A λf=>Jc b g f d a c e
def GV:aa:=cU (λk=>g<|.b0 k ⟨[("subs",a),("which",c),("want",e),("row",h),("marks",j),("shown",m)],[("own",d)],none⟩) λb=>bL .Eq e (.c 2) λf=>a1 f λi=>if i then(b m) else aO m (.c 0) λl=>b l
def C8:aa:=bo q (λb k t=>cU (λs=>k [s]) λf=>bL .Lt b (.c 0) λl=>a1 l λm=>if m then(f<|.c<|-1) else J (bW .Add (.c 70) b) λp=>cJ [p] λo=>dK [b,o] λr=>f r) aJ 0 (λi=>if Nat.ble i.length bl then J (a4<|.d i) (λn=>GV g d a c e h j n) else ae) aB
def EI:aa:=aQ b a "extend" (λf=>f [c]) (λk=>bY c λi=>C8 g i d e h j m c)<|bb ⟨[("subs",e),("which",h),("want",j),("row",m),("marks",c)],[("own",d)],none⟩ g
def Cr:aa:=cU (λl=>aN d λm=>aO m (.l "kept") λn=>aO n (.c<|-1) λo=>EI b g d o l a c e h) λf=>bL .Eq e (.c 2) λjD=>a1 jD λi=>if i then(f j) else J (gW j (some<|-1) none) λk=>f k
def zR:aa:=bo q (λu i E9=>aN d λk=>aO k (.l "holds") λl=>aO l u λm=>i [m]) aJ 0 (λf=>if Nat.ble f.length bl then J (a4<|.d f) (λj=>Cr b g d a c e h j) else ae) aB
def HT:aa:=aO a c λC=>aO C (.c<|-1) λz=>aO z (.c 1) λA=>bY A λf=>zR b g f d a c e h
def A6:aa:=aQ b a "append" (λf=>dK [.l "gone",c] λj=>f [j]) (λk=>g<|.f<|M9 e h c d i)<|bb (M9 e h c d i) g
def Mr:aa:=aQ b a "append" (λf=>f [c]) (λk=>aN d λj=>aO j (.l "log") λD=>A6 b g i d D c e h)<|bb (M9 e h c i d) g
def GM:aa:=aN d λf=>aO f (.l "gone") λz=>Mr b g d i z a c e
def EA:aa:=aQ b a "append" (λf=>dK [.l "gone",c] λj=>f [j]) (λk=>g<|.f<|M9 e h c d i)<|bb (M9 e h c d i) g
def LZ:aa:=aQ b a "append" (λf=>f [c]) (λk=>aN d λj=>aO j (.l "log") λD=>EA b g i d D c e h)<|bb (M9 e h c i d) g
def GS:aa:=aN d λf=>aO f (.l "gone") λz=>LZ b g d i z a c e
def KB:aa:=aQ b a "append" (λf=>dK [.l "gone",c] λk=>f [k]) (λl=>g<|.f<|M' e h j c d i)<|bb (M' e h j c d i) g
def Ix:aa:=aQ b a "append" (λf=>f [c]) (λl=>aN d λk=>aO k (.l "log") λD=>KB b g i d D c e h j)<|bb (M' e h j c i d) g
def yN:aa:=aN d λf=>aO f (.l "gone") λz=>Ix b g d i z a c e h
def ED:aa:=g<|.f<|M' a c e h d i
def A1:aa:=aQ b a "append" (λf=>dK [.l "gone",c] λk=>f [k]) (λl=>g<|.f<|M' e h j c d i)<|bb (M' e h j c d i) g
def yP:aa:=aQ b a "append" (λf=>f [c]) (λl=>aN d λk=>aO k (.l "log") λD=>A1 b g i d D c e h j)<|bb (M' e h j c i d) g
def Jb:aa:=aN d λf=>aO f (.l "gone") λz=>yP b g d i z a c e h
def J1:aa:=g<|.f<|M' a c e h d i
def HN:aa:=cJ [] λf=>dK [a,c,.c 1,f] λi=>bL .Eq e i λb=>g<|.b0 b<|NG h j m o p c d
def za:aa:=b (.B 108 0) [a,c] (λf=>aO e (.l "log") λi=>HN g d i h f j a c e m)<|bb (NG j a c e m h d) g
def AG:aa:=bo q (λC k E5=>cU (λs=>k [s]) λf=>bL .Lt C (.c 0) λl=>a1 l λm=>if m then(f<|.c<|-1) else J (bW .Add (.c 70) C) λp=>cJ [p] λn=>dK [C,n] λr=>f r) aJ 0 (λi=>if Nat.ble i.length bl then J (a4<|.d i) (λo=>za b g d a c e o h j) else ae) aB
end
theorem wJ:br u m p 58 (as 94 12) (Nn b a) (List.drop 2<|ab 94 12) U=(cJ [] λd=>aT a "weak" d λ_=>m (.a' "isinstance") [a,.ay 3] (λe=>a1 e λc=>if c then(HI m u p U b a) else Av m u p U a b) aB):=∅
theorem I8:bg u m p 52 (as 94 12) (bv (ab 94 12) 6) (au (ab 94 12) 6 0) (Nl a c b) x U=(aQ m a "let_go" (λd=>d [x]) (λe=>U<|.f<|Nq a c b x)<|bb (Nq a c b x) U):=∅
theorem zq:br u m p 53 (as 94 12) (Nq a d b c) (List.drop 7<|ab 94 12) U=(U<|.f<|Nq a d b c):=∅
theorem Ez:br u m p 53 (as 94 12) (Nl a c b) (List.drop 7<|ab 94 12) U=(U<|.f<|Nl a c b):=∅
theorem Gb:br u m p 53 (as 94 12) (Nv a d c b) (List.drop 7<|ab 94 12) U=(U<|.f<|Nv a d c b):=∅
theorem uZ:fU m 58 (as 94 10) (bv (ab 94 10) 0) (M_ b c) a=(aq b "heap" λd=>aq d "zero" λe=>m (.a' "len") [e] (λh=>bL .Gt h c λf=>a1 f λg=>a g) aB):=∅
theorem FV:hc u m p 58 (as 94 10) (au (ab 94 10) 0 0) (M_ a b) U=(aq a "heap" λc=>Kf m u p U c b a):=∅
theorem wY:fU m 58 (as 94 10) (bv (ab 94 10) 0) (kQ b c i j) a=(aq b "heap" λd=>aq d "zero" λe=>m (.a' "len") [e] (λh=>bL .Gt h c λf=>a1 f λg=>a g) aB):=∅
theorem K5:hc u m p 58 (as 94 10) (au (ab 94 10) 0 0) (kQ a b c d) U=(aq a "heap" λe=>aq e "zero" λf=>kZ b λg=>MB m u p U g f a b d c):=∅
theorem K_:bg u m p 54 (as 94 10) (bv (au (ab 94 10) 0 0) 2) (au (au (ab 94 10) 0 0) 2 0) (NI a c b) x U=(aQ m a "finish" (λd=>d [x]) (λe=>U<|.f<|kQ a c b x)<|bb (kQ a c b x) U):=∅
theorem AY:bg u m p 54 (as 94 10) (bv (au (ab 94 10) 0 0) 2) (au (au (ab 94 10) 0 0) 2 0) (kQ a c b e) x U=(aQ m a "finish" (λd=>d [x]) (λf=>U<|.f<|kQ a c b x)<|bb (kQ a c b x) U):=∅
theorem A8:br u m p 55 (as 94 10) (kQ b d a c) (List.drop 3<|au (ab 94 10) 0 0) U=(bY a λe=>Lh m u p U e b d a c):=∅
theorem JC:bg u m p 53 (as 94 10) (bv (au (ab 94 10) 0 0) 3) (au (au (ab 94 10) 0 0) 3 0) (kQ b d c k) x U=(cU (λj=>if j then(J_ m U b x d c) else U<|.f<|kQ b d c x) λa=>aq x "count" λe=>bL .Eq e (.c 0) λg=>a1 g λh=>dc .And h a<|aq x "is_freed" λf=>a1 f λi=>dc .And (!i) a<|a true):=∅
theorem J2:br u m p 54 (as 94 10) (kQ a d b c) (List.drop 4<|au (ab 94 10) 0 0) U=(U<|.f<|kQ a d b c):=∅
theorem up:br u m p 59 (as 94 10) (kQ a d b c) (List.drop 1<|ab 94 10) U=(U<|.f<|kQ a d b c):=∅
theorem Kk:br u m p 59 (as 94 10) (M_ a b) (List.drop 1<|ab 94 10) U=(U<|.f<|M_ a b):=∅
theorem Ap:bg u m p 57 (as 93 0) (bv (ab 93 0) 1) (au (ab 93 0) 1 0) (NF c a) x U=(cU (λi=>if i then(FO U a x c) else U<|.f<|Na c x a) λb=>aq x "count" λd=>bL .Eq d (.c 0) λf=>a1 f λg=>dc .And g b<|aq x "is_freed" λe=>a1 e λh=>dc .And (!h) b<|b true):=∅
theorem Ak:bg u m p 57 (as 93 0) (bv (ab 93 0) 1) (au (ab 93 0) 1 0) (Na c j a) x U=(cU (λi=>if i then(Fp U a x c) else U<|.f<|Na c x a) λb=>aq x "count" λd=>bL .Eq d (.c 0) λf=>a1 f λg=>dc .And g b<|aq x "is_freed" λe=>a1 e λh=>dc .And (!h) b<|b true):=∅
theorem Mz:br u m p 58 (as 93 0) (Na b c a) (List.drop 2<|ab 93 0) U=(aN a λf=>m (.a' "sorted") [f] (λd=>bY d λe=>Gh U e a b c)<|bb (Na b c a) U):=∅
theorem Dk:fU m 58 (as 32 0) (bv (ab 32 0) 0) (Np b c) a=(aq b "saves" λd=>m (.a' "len") [d] (λg=>bL .Gt g c λe=>a1 e λf=>a f) aB):=∅
theorem yU:hc u m p 58 (as 32 0) (au (ab 32 0) 0 0) (Np a b) U=(aq a "saves" λd=>aQ m d "pop" (λc=>c []) (λe=>Dx m U e a b)<|bb (Np a b) U):=∅
theorem Bd:fU m 58 (as 32 0) (bv (ab 32 0) 0) (Nh b c h) a=(aq b "saves" λd=>m (.a' "len") [d] (λg=>bL .Gt g c λe=>a1 e λf=>a f) aB):=∅
theorem Kv:br u m p 59 (as 32 0) (Nh a c b) (List.drop 1<|ab 32 0) U=(U<|.f<|Nh a c b):=∅
theorem JG:br u m p 56 (as 84 0) (nd d a b c e) (au (ab 84 0) 2 0) U=(aq a "args" λf=>Me m U d f b c a e):=∅
theorem MF:br u m p 55 (as 84 0) (No e c b d f a) (x1 (h0 (ab 84 0) 2) 0) U=(aq a "value" λg=>Jo m U e g d c b f a):=∅
theorem FA:br u m p 56 (as 84 0) (nd d b a c e) (au (ab 84 0) 2 2) U=(br u m p 54 (as 84 0) (nd d b a c e) (au (au (ab 84 0) 2 2) 0 0)<|iG u m p 54 (as 84 0) (h0 (au (ab 84 0) 2 2) 0) (au (au (ab 84 0) 2 2) 0 2)<|cF u m p 55 (as 84 0) (List.drop 1<|au (ab 84 0) 2 2) U):=∅
theorem y8:br u m p 54 (as 84 0) (nd a d c e b) (au (au (ab 84 0) 2 2) 0 0) U=(m (.B 32 0) [a,b] (λf=>U<|.f<|nd a d c e b)<|bb (nd a d c e b) U):=∅
theorem Lk:br u m p 54 (as 84 0) (nd a c b d e) (au (au (ab 84 0) 2 2) 0 2) U=(aq a "frames" λf=>Gn m U f a c b d e):=∅
theorem Dz:br u m p 56 (as 86 0) (NC a d b c g j f h i e) (List.drop 4<|ab 86 0) U=(m (.B 64 0) [a,e,b,c,d] (λl=>aq a "counter" λk=>Ko m u p U k d a b c g j f h i e l)<|bb (NC a d b c g j f h i e) U):=∅
theorem A2:br u m p 52 (as 86 0) (Nf d j i c e h a f g k b) (au (ab 86 0) 6 0) U=(m (.B 84 0) [d,b,a,c] (λl=>U<|.b0 l<|Nf d j i c e h a f g k b)<|bb (Nf d j i c e h a f g k b) U):=∅
theorem Fj:br u m p 52 (as 86 0) (Nf a j h i d g b e f k c) (au (ab 86 0) 6 2) U=(aq a "counter" λl=>Ac m U l j a h i d g b e f k c):=∅
theorem CI:br u m p 58 (as 72 0) (Nr a b c) (au (ab 72 0) 0 0) U=(aq a "statements" λd=>Dr m U b d a c):=∅
theorem K8:bg u m p 56 (as 74 0) (bv (ab 74 0) 2) (au (ab 74 0) 2 0) (Nt f a c e b) x U=(aO a (.c 1) λB=>aO B x λj=>cU (λi=>GO m U f j i a c b x e) λd=>bL .Eq x b λg=>a1 g λh=>if h then(d c) else d<|.c 0):=∅
theorem L6:bg u m p 56 (as 74 0) (bv (ab 74 0) 2) (au (ab 74 0) 2 0) (Nd f a c e b k) x U=(aO a (.c 1) λB=>aO B x λj=>cU (λi=>GE m U f j i a c b x e) λd=>bL .Eq x b λg=>a1 g λh=>if h then(d c) else d<|.c 0):=∅
theorem HZ:br u m p 57 (as 74 0) (Nd f b e a c d) (List.drop 3<|ab 74 0) U=(U<|.b0 a<|Nd f b e a c d):=∅
theorem Er:br u m p 58 (as 82 0) (Ny c b a) (List.drop 2<|ab 82 0) U=(U<|.b0 a<|Ny c b a):=∅
theorem F4:bg u m p 57 ((cD (ab 107 0) 5).eg) (bv (hK<|cD (ab 107 0) 5) 1) (au (hK<|cD (ab 107 0) 5) 1 0) (ND e g f b d a c) x U=(aN a λh=>Ki m U d b a c h x e g f):=∅
theorem Hs:bg u m p 57 ((cD (ab 107 0) 5).eg) (bv (hK<|cD (ab 107 0) 5) 1) (au (hK<|cD (ab 107 0) 5) 1 0) (Nb e g f h b d a c) x U=(aN a λi=>Lx m U d b a c i x e g f):=∅
theorem BO:bg u m p 54 (as 108 0) (bv (ab 108 0) 4) (au (ab 108 0) 4 0) (Nw g h f a e b c d) x U=(aq a "counter" λi=>Hh m U b c d i x a g h f e):=∅
theorem ML:bg u m p 54 (as 108 0) (bv (ab 108 0) 4) (au (ab 108 0) 4 0) (M6 g h f a e j b c d) x U=(aq a "counter" λi=>KL m U b c d i x a g h f e):=∅
theorem Gi:br u m p 55 (as 108 0) (M6 f g e i d h a b c) (List.drop 5<|ab 108 0) U=(aN a λj=>aN b λk=>D_ m u p U a b c i d e j k f g h):=∅
theorem Mc:bg u m p 52 (as 108 0) (bv (ab 108 0) 6) (au (ab 108 0) 6 0) (M6 a g f i e h b c d) x U=(aO a x λB=>bY B λj=>KQ m U j d b c f x a g i e h):=∅
theorem A_:bg u m p 52 (as 108 0) (bv (ab 108 0) 6) (au (ab 108 0) 6 0) (JM a g f i e h l k b c d) x U=(aO a x λB=>bY B λj=>Ev m U j d b c f x a g i e h):=∅
theorem IN:br u m p 53 (as 108 0) (JM h i g a f k j e b c d) (List.drop 7<|ab 108 0) U=(aq a "frames" λl=>Hv m u p U b c d l a h i g f k j e):=∅
theorem Kb:bg u m p 50 (as 108 0) (bv (ab 108 0) 8) (au (ab 108 0) 8 0) (JM g h f k e j i d a b c) x U=(dK [.l "expr",.c 9,x] λl=>Ai m U a b c k l g h f e j i d x):=∅
theorem Lc:bg u m p 50 (as 108 0) (bv (ab 108 0) 8) (au (ab 108 0) 8 0) (Nc g h f k e j i d n a b c) x U=(dK [.l "expr",.c 9,x] λl=>EG m U a b c k l g h f e j i d x):=∅
theorem MA:br u m p 51 (as 108 0) (Nc g h f l b k j e i c a d) (List.drop 9<|ab 108 0) U=(aN a λo=>bY b λn=>F3 m U n c a d l o g h f b k j e i):=∅
theorem HG:bg u m p 57 (as 103 0) (bv (ab 103 0) 1) (au (ab 103 0) 1 0) (Nk c a b) x U=(fm a x λ_=>aN b λf=>m (.B 101 0) [f,.c 3] (λd=>fB d λe=>LX m U e b a c)<|bb (Nk c a b) U):=∅
theorem z7:bg u m p 57 (as 103 0) (bv (ab 103 0) 1) (au (ab 103 0) 1 0) (M7 c e d a b) x U=(fm a x λ_=>aN b λh=>m (.B 101 0) [h,.c 3] (λf=>fB f λg=>CW m U g b a c d)<|bb (M7 c e d a b) U):=∅
theorem Jx:bg u m p 58 (as 109 0) (bv (ab 109 0) 0) (au (ab 109 0) 0 0) (Nj b c d a) x U=(aN a λe=>m (.B 110 0) [e,b,x] (λf=>U<|.f<|Ng b c d x a)<|bb (Ng b c d x a) U):=∅
theorem LR:bg u m p 58 (as 109 0) (bv (ab 109 0) 0) (au (ab 109 0) 0 0) (Ng b c d e a) x U=(aN a λf=>m (.B 110 0) [f,b,x] (λg=>U<|.f<|Ng b c d x a)<|bb (Ng b c d x a) U):=∅
theorem Cc:br u m p 59 (as 109 0) (Nj c d a b) (List.drop 1<|ab 109 0) U=(bL .Eq a (.c 0) λe=>a1 e λf=>if f then(U<|.b0 (.c<|-1)<|Nj c d a b) else L0 m U b c d a):=∅
theorem BW:br u m p 59 (as 109 0) (Ng c d a e b) (List.drop 1<|ab 109 0) U=(bL .Eq a (.c 0) λf=>a1 f λg=>if g then(U<|.b0 (.c<|-1)<|Ng c d a e b) else HT m U b c d a e):=∅
theorem Hb:bg u m p 54 (as 110 0) (bv (ab 110 0) 4) (au (ab 110 0) 4 0) (NA e b c a) x U=(cU (λj=>if j then(GM m U a c x e b) else U<|.f<|M9 e b x c a) λd=>bL .NotIn x b λf=>a1 f λh=>dc .And h d<|aN a λk=>aO k (.l "gone") λl=>bL .NotIn x l λg=>a1 g λi=>dc .And i d<|d true):=∅
theorem Mh:bg u m p 54 (as 110 0) (bv (ab 110 0) 4) (au (ab 110 0) 4 0) (M9 e b k c a) x U=(cU (λj=>if j then(GS m U a c x e b) else U<|.f<|M9 e b x c a) λd=>bL .NotIn x b λf=>a1 f λh=>dc .And h d<|aN a λl=>aO l (.l "gone") λn=>bL .NotIn x n λg=>a1 g λi=>dc .And i d<|d true):=∅
theorem AU:bg u m p 54 (as 110 0) (bv (ab 110 0) 4) (au (ab 110 0) 4 0) (Nm e f b c a) x U=(cU (λk=>if k then(yN m U a c x e f b) else ED U c a e f b x) λd=>bL .NotIn x b λg=>a1 g λi=>dc .And i d<|aN a λl=>aO l (.l "gone") λn=>bL .NotIn x n λh=>a1 h λj=>dc .And j d<|d true):=∅
theorem Ib:bg u m p 54 (as 110 0) (bv (ab 110 0) 4) (au (ab 110 0) 4 0) (M' e f b l c a) x U=(cU (λk=>if k then(Jb m U a c x e f b) else J1 U c a e f b x) λd=>bL .NotIn x b λg=>a1 g λi=>dc .And i d<|aN a λn=>aO n (.l "gone") λo=>bL .NotIn x o λh=>a1 h λj=>dc .And j d<|d true):=∅
theorem zK:bg u m p 54 (as 111 0) (bv (ab 111 0) 4) (au (ab 111 0) 4 0) (NE e a d b c) x U=(m (.B 110 0) [b,a,x] (λf=>U<|.f<|Ni e a d b x c)<|bb (Ni e a d b x c) U):=∅
theorem Kc:bg u m p 54 (as 111 0) (bv (ab 111 0) 4) (au (ab 111 0) 4 0) (Ni e a d b f c) x U=(m (.B 110 0) [b,a,x] (λg=>U<|.f<|Ni e a d b x c)<|bb (Ni e a d b x c) U):=∅
theorem zo:br u m p 55 (as 111 0) (Ni f c d a e b) (List.drop 5<|ab 111 0) U=(aO a (.l "holds") λB=>bY B λg=>AG m U g b c d a f e):=∅
theorem A4:fU m 55 (as 59 0) (bv (ab 59 0) 3) (Nu g h i b e) a=(cJ [] λf=>bL .NotEq b f λc=>a1 c λd=>a d):=∅
theorem MN:fU m 55 (as 59 0) (bv (ab 59 0) 3) (M8 g h i b j e) a=(cJ [] λf=>bL .NotEq b f λc=>a1 c λd=>a d):=∅
theorem GK:br u m p 56 (as 59 0) (M8 d a b e f c) (List.drop 4<|ab 59 0) U=(dK [a,b] λg=>U<|.b0 g<|M8 d a b e f c):=∅
section
theorem bJ{a:V}{g:Bool}{A:aa}(b:g=true)(k:A a):(if g=true then A else c) a:=Z (P8 b) k
theorem bx{c:V}{g:Bool}{A:aa}(b:g=false)(k:a c):(if g=true then A else a) c:=by refine Z (P4 (by refine Z b ?_;decide)) ?_;exact k
theorem eQ(b:l k c):cU k l c:=b
theorem jb(c:g=false)(b:k false a):dc .And g k R a:=Z c b
theorem hJ(c:g=true)(b:R a):dc .And g k R a:=Z c b
theorem m9(c:g=false)(b:R a):dc .Or g k R a:=Z c b
theorem uu(c:g=true)(b:k true a):dc .Or g k R a:=Z c b
theorem ir(b:e f a d)(k:h a d):J e h f:=bq a d b k
theorem g7(b:c.r a=some o)(k:h o c):J (dz<|.a a) h c:=bq o c ⟨rfl,b⟩ k
theorem aK(b:d.r a=some (.aD c e))(f:e.lookup x=some v)(k:h v d):J (ee (.a a) x) h d:=bq v d (.aD b f) k
theorem Cn(b:d.r a=some (.bd c<|some e))(g:d.r e=some (.hv f))(j:f.lookup x=some v)(k:h v d)(i:ks x=true):J (ee (.a a) x) h d:=bq v d (.bd i b g j) k
theorem eE(b:e.r a=some (.aD c d))(f:Nat.blt d.length 100=true)(k:h () (e.Q a<|.aD c<|cN x v d)):J (fN (.a a) x v) h e:=bq () _ (.aD b f) k
theorem KK(b:d.r a=some (.bd c none))(k:h () ((d.z<|.hv [(x,v)]).Q a<|.bd c<|some d.f))(e:ks x=true):J (fN (.a a) x v) h d:=bq () _ (.wz e b) k
theorem B3(b:d.r a=some (.bd c<|some e))(g:d.r e=some (.hv f))(i:Nat.blt f.length 100=true)(k:h () (d.Q e<|.hv<|cN x v f))(j:ks x=true):J (fN (.a a) x v) h d:=bq () _ (.bd j b g i) k
theorem bF(k:h (.a a.f) (a.z o)):J (a4 o) h a:=bq _ _ ⟨rfl,rfl⟩ k
theorem hg(k:h a.f (a.z<|.h1 none)):J d3 h a:=bq _ _ ⟨rfl,rfl⟩ k
theorem b2(b:c.r a=some (.h1<|some v))(k:h v c):J (b6 a) h c:=bq v c ⟨rfl,b⟩ k
theorem gR(b:c.r a=some (.h1 w))(k:h () (c.Q a<|.h1<|some v)):J (gi a v) h c:=bq () _ ⟨rfl,w,b⟩ k
theorem k0(b:cB x=true)(c:cB t=true)(k:h (.c<|x+t) a):J (fg .Add (.c x)<|.c t) h a:=bq _ _ (.rO b c) k
theorem xL(b:cB x=true)(c:cB t=true)(k:h (.c<|x - t) a):J (fg .Sub (.c x)<|.c t) h a:=bq _ _ (.au b c) k
theorem i0(b:cB x=true)(c:cB t=true)(k:h (.c<|x+t) a):J (bW .Add (.c x)<|.c t) h a:=bq _ _ (.c<|.rO b c) k
theorem qS(b:cB x=true)(c:cB t=true)(k:h (.c<|x - t) a):J (bW .Sub (.c x)<|.c t) h a:=bq _ _ (.c<|.au b c) k
theorem xt(b:0<t)(k:h (.c<|x % t) a):J (bW .Mod (.c x)<|.c t) h a:=bq _ _ (.fx b) k
theorem qh(e:b.r a=some (.d c))(f:b.r g=some (.d d))(i:Nat.ble (c.length+d.length) bl=true)(k:h (.a b.f) (b.z<|.d<|c++d)):J (bW .Add (.a a)<|.a g) h b:=bq _ _ (.cj e f i) k
theorem aL(k:h g a):J (dD<|.b' g) h a:=bq g a ⟨rfl,rfl⟩ k
theorem hF(b:gT c d a g r)(k:h (.b' r) c):J (cW d a g) h c:=bq _ c ⟨rfl,r,rfl,b⟩ k
theorem or(v:Y)(b:v≠.s)(k:h (.b' false) a):J (cW .Is v .s) h a:=hF (.wE b) k
theorem x8(k:h (.b' true) a):J (cW .Is .s .s) h a:=hF .oy k
theorem wP(v:Y)(b:v≠.s)(k:h (.b' true) a):J (cW .IsNot v .s) h a:=hF (.yr b) k
theorem kt(k:h (.b' false) a):J (cW .IsNot .s .s) h a:=hF .wh k
theorem nY(k:h (.b' (decide (x<t))) a):J (cW .Lt (.c x)<|.c t) h a:=hF .f8 k
theorem kH(k:h (.b' (decide (t<x))) a):J (cW .Gt (.c x)<|.c t) h a:=hF .jN k
theorem tN(k:h (.b'<|x !=t) a):J (cW .NotEq (.c x)<|.c t) h a:=hF .eW k
theorem ek(k:h (.b'<|x==t) a):J (cW .Eq (.c x)<|.c t) h a:=hF .yp k
theorem jw(k:h (.b'<|x==t) a):J (cW .Eq (.l x)<|.l t) h a:=hF .u' k
theorem g2(b:c.r a=some (.d d))(f:(g8 e d.length).bind (λg=>d[g]?)=some v)(k:h v c):J (ce (.a a)<|.c e) h c:=bq v c (.d b f) k
theorem cL(b:c.r a=some (.A d))(f:(g8 e d.length).bind (λg=>d[g]?)=some v)(k:h v c):J (ce (.a a)<|.c e) h c:=bq v c (.A b f) k
theorem gZ(b:c.r a=some (.K e))(y:gu d=true)(f:dn d e=some v)(k:h v c):J (ce (.a a) d) h c:=bq v c (.K b y f) k
theorem yA(b:c.r a=some (.K d))(y:gu e=true)(f:dn e d=some v)(k:h v c):J (nm (.a a) e) h c:=bq v c ⟨rfl,y,d,b,f⟩ k
theorem mc(b:e.r a=some (.K c))(y:gu d=true)(f:Nat.ble c.length bl=true)(k:h () (e.Q a<|.K<|e0 d v c)):J (jL (.a a) d v) h e:=bq () _ (.K b y f) k
theorem ne(b:d.r a=some (.K e))(y:gu c=true)(k:h (.b' (dn c e).isNone) d):J (cW .NotIn c<|.a a) h d:=hF (.tE b y) k
theorem uX(b:c.r a=some (.d e))(f:mv d e=some g)(k:h (.b'<|!g) c):J (cW .NotIn d<|.a a) h c:=hF (.x4 b f) k
theorem ow(b:d.r a=some (.d c))(g:Nat.ble c.length bl=true)(k:h (.a d.f) (d.z<|.d<|iD c f e)):J (gW (.a a) f e) h d:=bq _ _ (kc c b g rfl rfl) k
theorem dQ(b:c.r a=some (.d d))(k:h (.d<|.a a) c):bY (.a a) h c:=g7 b k
theorem sN(b:c.r a=some (.A d))(k:h (.A<|.a a) c):bY (.a a) h c:=g7 b k
theorem ep(b:c.r a=some (.d e))(k:h e[d]? c):J (dv (.d<|.a a) d) h c:=bq _ _ (.d b) k
theorem xI(b:c.r a=some (.A e))(k:h e[d]? c):J (dv (.A<|.a a) d) h c:=bq _ _ (.A b) k
theorem ho(k:h (if a<b then some (.c a) else none) c):J (dv (.cf b) a) h c:=bq _ _ .cf k
theorem jK{a:Nat}(b:a<=bl)(k:h (.cf a) c):fB (.c (a:Int)) h c:=by refine(?_:(if Nat.ble (a:Int).natAbs bl=true then h (.cf (a:Int).toNat) else ae) c);exact Z (P8 (Z (Int.natAbs_natCast ..)<|Z (Nat.ble_eq ..) b) ..)<|Z (Int.toNat_natCast ..) k
theorem bR{a c:aa}(e:a=c)(b:c d):a d:=e▸b
theorem jE(b:ci s g (fP+5) c a U d):ci s g aJ c a U d:=n3▸b
theorem oa(b:iy c g (fP+5) a U d):iy c g aJ a U d:=n3▸b
theorem bp(e:e' (ag n p) (ag n true) p (lJ a q) [] d c h i=g)(k:p6 a q=some (lJ a q,d))(b:g f):ag (n+1) p (.B a q) c h i f:=by exact(Z (show ba.cl a q=some (lJ a q,d) from k) (Z e b:e' (ag n p) (ag n true) p (lJ a q) [] d c h i f):(Option.casesOn (ba.cl a q) ae λj=>e' (ag n p) (ag n true) p j.1 [] j.2 c h i:aa) f)
theorem l2(k:c.r a=some (.cl l d))(m:l.ck=none)(e:e' (ag n p) (ag n true) p l d [] f h i=g)(b:g c):ag (n+1) p (.a a) f h i c:=by exact(Z k (Z m<|Z e b:if l.ck.isSome=true then False else e' (ag n p) (ag n true) p l d [] f h i c):Option.casesOn (c.r a) False λo=>rN o λj d=>if j.ck.isSome=true then False else e' (ag n p) (ag n true) p j d [] f h i c)
theorem nF(b:J (lE p c a) h d):ag (n+1) p (.a' c) a h i d:=b
theorem jH(e:(Nat.ble c.length 1000&&ba.i4 a)=true)(f:ba.ex a ("__init__":Str)=some l)(b:ag n p l (.a d.f::c) (m_<|h<|.a d.f) i (d.z<|if ba.dV a then .bd a none else .aD a [])):ag (n+1) p (.ay a) c h i d:=by refine(?_:(if(!(Nat.ble c.length 1000&&ba.i4 a))=true then ae else J (a4<|if ba.dV a=true then .bd a none else .aD a []) λself=>Option.casesOn (ba.ex a ("__init__":Str)) ae λl=>ag n p l (self::c) (m_<|h self) i:aa) d);exact Z e<|Z (P4 #[])<|bF<|Z f b
theorem qu(b:d.r a=some o)(e:qk o=some c)(f:Nat.ble c bl=true)(k:h (.c c) d):ag (n+1) p (.a' "len") [.a a] h i d:=nF<|bq _ _ (.a5 b e f) k
theorem i2(b:d.r a=some (.d c))(e:Nat.ble c.length bl=true)(k:h (.c c.length) d):ag (n+1) p (.a' "len") [.a a] h i d:=qu b rfl e k
theorem v2(b:d.r a=some (.K c))(e:Nat.ble c.length bl=true)(k:h (.c c.length) d):ag (n+1) p (.a' "len") [.a a] h i d:=qu b rfl e k
theorem tz(b:d.r a=some (.A c))(e:Nat.ble c.length bl=true)(k:h (.c c.length) d):ag (n+1) p (.a' "len") [.a a] h i d:=qu b rfl e k
theorem ii(b:ja a v c g)(k:h (.b' g) a):ag (n+1) p (.a' "isinstance") [v,c] h i a:=nF<|bq _ _ (.x7 b) k
theorem eq(b:e.r a=some (.aD c f))(g:ba.hq d=true)(j:ba.hq c=true)(k:h (.b'<|ba.au c d) e):ag (n+1) p (.a' "isinstance") [.a a,.ay d] h i e:=ii (.aD g b j) k
theorem lW(c:ba.hq a=true)(k:h (.b' false) b):ag (n+1) p (.a' "isinstance") [.s,.ay a] h i b:=ii (.ay c .s) k
theorem od(c:ba.hq a=true)(k:h (.b' false) b):ag (n+1) p (.a' "isinstance") [.c d,.ay a] h i b:=ii (.ay c .c) k
theorem c4(b:e.r a=some (.aD c f))(g:f.lookup x=none)(j:ba.ex c x=some l)(k:d (λd=>m l (.a a::d) h i) e):aQ m (.a a) x d h i e:=by exact g7 b (Z g<|Z j k:o3 m (.a a) x d h i (f.lookup x) (ba.ex c x) e)
theorem y3(b:e.r a=some (.aD c f))(g:f.lookup x=some l)(j:ba.ex c x=none)(n:ba.fC x=true)(k:d (λd=>m l d h i) e):aQ m (.a a) x d h i e:=by exact g7 b (Z g<|Z j (Z (P8 n) k:(if ba.fC x=true then d (λd=>m l d h i) else ae) e):o3 m (.a a) x d h i (f.lookup x) (ba.ex c x) e)
theorem fe(b:d.r a=some (.d f))(e:pK x=true)(k:c (λc=>J (h5 (.a a) x c) h) d):aQ m (.a a) x c h i d:=by exact g7 b (Z (P8 e) k:(if pK x=true then c (λc=>J (h5 (.a a) x c) h) else ae) d)
theorem pa(b:d.r a=some (.K f))(e:pB x=true)(k:c (λc=>J (jO (.a a) x c) h) d):aQ m (.a a) x c h i d:=by exact g7 b (Z (P8 e) k:(if pB x=true then c (λc=>J (jO (.a a) x c) h) else ae) d)
theorem hP(b:d.r a=some (.d c))(e:Nat.ble c.length bl=true)(k:h .s (d.Q a<|.d<|c++[v])):J (h5 (.a a) "append" [v]) h d:=bq _ _ (.jI b e) k
theorem ox(b:d.r a=some (.d<|c++[v]))(e:Nat.ble (c++[v]).length bl=true)(k:h v (d.Q a<|.d c)):J (h5 (.a a) "pop" []) h d:=bq _ _ (.lv b e) k
theorem rE(b:c.r a=some (.d d))(f:c.r g=some (.d e))(j:g≠a)(i:Nat.ble (d.length+e.length) bl=true)(k:h .s (c.Q a<|.d<|d++e)):J (h5 (.a a) "extend" [.a g]) h c:=bq _ _ (.xg b f j i) k
theorem pm(b:d.r a=some (.K f))(y:gu c=true)(g:dn c f=none)(k:h e d):J (jO (.a a) "pop" [c,e]) h d:=bq _ _ (.lv b y g) k
theorem uI(b:a.L.contains (f,c)=false)(k:h (.a a.f) (({a with L:=(f,c)::a.L}:V).z<|.cl l d)):hd f c false l d h a:=by unfold hd;exact Z b<|bF k
end
section
set_option genCtorIdx false
set_option genSizeOf false
inductive bK where
 |aV (c:Nat) (v:Y) (a:Nat)
 |az (c:Nat) (b e:Bool) (a f:Nat)
 |cx (c:Nat) (au:Y) (a d:Nat)
noncomputable def bK.ctorIdx(v:bK):Nat:=v.casesOn (λ_ _ _=>0) (λ_ _ _ _ _=>1) λ_ _ _ _=>2
noncomputable def bK.dd:bK->Nat|.aV c _ _=>c|.az c _ _ _ _=>c|.cx c _ _ _=>c
noncomputable def bK.jW(g:bK)(c:Nat):bK:=match g with
 |.aV _ v a=>.aV c v a
 |.az _ b e a f=>.az c b e a f
 |.cx _ s a d=>.cx c s a d
noncomputable def bK.ay:bK->Nat|.aV ..=>3|.az ..=>4|.cx ..=>6
noncomputable def hx(n:Nat):bK->List (Str×Y)|.aV c v a=>[("number",.c n),("count",.c c),("blessed",.s),("weak",.a a),("is_destroyed",.b' false),("is_freed",.b' false),("value",v),("magic",.s)]|.az c b e a f=>[("number",.c n),("count",.c c),("blessed",if b then .l "P" else .s),("weak",.a a),("is_destroyed",.b' e),("is_freed",.b' false),("items",.a f),("tied",.s)]|.cx c s a d=>[("number",.c n),("count",.c c),("blessed",.s),("weak",.a a),("is_destroyed",.b' false),("is_freed",.b' false),("sub",s),("captures",.a d),("builtin",.s),("package",.l "main")]
def eT(n:Nat)(a:bK):af:=.aD a.ay<|hx n a
theorem vM(n:Nat)(a:bK):Nat.blt (hx n a).length 100=true:=by cases a<;>rfl
theorem JP(n:Nat)(a:bK):(hx n a).lookup ("number":Str)=some (.c n):=by cases a<;>kernel_rfl
theorem lx(n:Nat)(a:bK):(hx n a).lookup ("count":Str)=some (.c a.dd):=by cases a<;>kernel_rfl
theorem wQ(n:Nat)(a:bK):(hx n a).lookup ("is_freed":Str)=some (.b' false):=by cases a<;>kernel_rfl
theorem ud(n:Nat)(a:bK)(c:Nat):af.aD a.ay (cN ("count":Str) (.c (c:Int))<|hx n a)=eT n (a.jW c):=by cases a<;>kernel_rfl
set_option genInjectivity false in
structure eM where
 (H R bN i m3 lH ln dp dW f6 hZ f5 h7 c7 di b1 hC:Nat)
 (Jg EE z_ J9 Dc KD sV kv fT hB:Nat)
 wW:Nat
inductive cn where
 |k|dC|bV|cH|gb|g_|E|fd|u|C|p (n:Nat)|cG (k:Nat)|aA (k:Nat)|aG (k:Nat)
noncomputable def cn.ctorIdx(v:cn):Nat:=v.casesOn 0 1 2 3 4 5 6 7 8 9 (λ_=>10) (λ_=>11) (λ_=>12) λ_=>13
noncomputable def cn.rb(v:cn):Nat:=v.casesOn 0 0 0 0 0 0 0 0 0 0 id id id id
noncomputable def cn.dN(a n:Nat):cn:=[.k,.dC,.bV,.cH,.gb,.g_,.E,.fd,.u,.C,.p n,.cG n,.aA n,.aG n].getD a .k
theorem cn.d2(a:cn):cn.dN a.ctorIdx a.rb=a:=by induction a using cn.casesOn<;>rfl
noncomputable instance:DecidableEq cn:=λa g=>decidable_of_iff (a.ctorIdx=g.ctorIdx/\a.rb=g.rb) ⟨λb=>a.d2.symm.trans<|b.1▸b.2▸g.d2,λb=>b▸⟨rfl,rfl⟩⟩
set_option genInjectivity false in
structure cY where
 o:Nat
 ay:Nat
 da:List (Str×Y)
set_option genInjectivity false in
structure ej where
 (bk du dt dS:Nat)
set_option genInjectivity false in
structure N where
 i:eM
 al:Nat->Option cn
 gE:Nat->af
 n:Nat
 bG:Nat
 fF:Nat
 u:List Nat
 p:Nat->Option bK
 t:Nat->Nat
 a6:Y
 O:List cY
 aE:List Y
 w:List ej
 E:List Y
 aA:List (Nat×List (Y×Y))
 C:Option (Nat×af)
 L:List (Nat×Nat)
 aG:Nat->Option (Nat×af)
noncomputable def mw(S:eM)(n fF:Nat):List (Str×Y):=[("limits",.a S.m3),("last",.c n),("zero",.a fF)]
noncomputable def gJ(S:eM)(bG:Nat):List (Str×Y):=[("heap",.a S.H),("counter",.a S.bN),("stash",.a S.i),("limits",.a S.m3),("nodes",.a S.hZ),("lvs",.a S.Jg),("statements",.a S.f6),("funcs",.a S.EE),("operators",.a S.z_),("out",.a S.J9),("err",.a S.Dc),("saves",.a S.h7),("frames",.a S.f5),("match",.s),("patterns",.a S.KD),("steps",.c bG),("methods",.s),("call_code",.s),("compile_text",.s)]
noncomputable def ig(S:eM)(a6:Y):List (Str×Y):=[("number",.c S.wW),("count",.c 0),("blessed",.s),("weak",.a S.sV),("is_destroyed",.b' false),("is_freed",.b' false),("name",.l "main::_"),("scalar",.s),("array",a6),("hash",.s),("code",.s)]
noncomputable def ht(mk:List ej):List (Y×Y):=mk.mapIdx λa k=>(.c k.bk,.c a)
def N.aF(W:N)(a:Nat):cn->af
 |.k=>W.gE a
 |.dC=>.aD 9 (mw W.i W.n W.fF)
 |.bV=>.aD 45 (gJ W.i W.bG)
 |.cH=>.d (W.O.map λl=>.a l.o)
 |.gb=>.d W.aE
 |.g_=>.K (ht W.w)
 |.E=>.d W.E
 |.fd=>.aD 7 (ig W.i W.a6)
 |.u=>.d (W.u.map λn=>.a<|W.t n)
 |.C=>match W.C with
  |some b=>b.2
  |none=>.d []
 |.p n=>match W.p n with
  |some c=>eT n c
  |none=>.d []
 |.cG k=>match W.O[k]? with
  |some l=>.aD l.ay l.da
  |none=>.d []
 |.aA k=>match W.aA[k]? with
  |some b=>.K b.2
  |none=>.d []
 |.aG k=>match W.aG k with
  |some b=>b.2
  |none=>.d []
noncomputable def N.o(W:N):cn->Nat
 |.k=>0
 |.dC=>W.i.H
 |.bV=>W.i.R
 |.cH=>W.i.f5
 |.gb=>W.i.h7
 |.g_=>W.i.c7
 |.E=>W.i.di
 |.fd=>W.i.dW
 |.u=>W.fF
 |.C=>match W.C with
  |some a=>a.1
  |none=>0
 |.p n=>W.t n
 |.cG k=>match W.O[k]? with
  |some l=>l.o
  |none=>0
 |.aA k=>match W.aA[k]? with
  |some a=>a.1
  |none=>0
 |.aG k=>match W.aG k with
  |some a=>a.1
  |none=>0
def N.bj(W:N):cn->Prop|.k=>False|.C=>∃a,W.C=some a|.p n=>∃b,W.p n=some b|.cG k=>k<W.O.length|.aA k=>k<W.aA.length|.fd=>W.i.dW≠0|.aG k=>∃a,W.aG k=some a|_=>True
structure iV(W:N):Prop where
 cA:∀n a,W.p n=some a->n<=W.n
 dE:∀n,n∈W.u->∃a,W.p n=some a
 dj:W.a6≠.s->W.i.dW≠0
structure G(W:N)(b:V):Prop where
 bw:∀a r,W.al a=some r->b.r a=some (W.aF a r)/\a<b.f
 bO:∀a r,W.al a=some r->r=.k\/(W.bj r/\a=W.o r)
 bj:∀r,W.bj r->W.al (W.o r)=some r
 a3:iV W
 L:b.L=W.L
def N.y(W:N)(a:Nat)(o:af):Prop:=W.al a=some .k/\W.gE a=o
section
theorem G.r{W:N}{c:V}(a:G W c){r:cn}(b:W.bj r):c.r (W.o r)=some (W.aF (W.o r) r):=(a.bw _ _<|a.bj r b).1
theorem G.k(d:G W c)(b:W.y a o):c.r a=some o:=b.2▸(d.bw _ _ b.1).1
theorem G.cr(d:G W c)(b:W.p n=some a):c.r (W.t n)=some (eT n a):=by have:=d.r (r:=.p n) ⟨a,b⟩;rw[show W.aF (W.o<|.p n) (.p n)=(match W.p n with|some a=>eT n a|none=>.d []) from rfl,b] at this;exact this
theorem G.dC(b:G W a):a.r W.i.H=some (.aD 9<|mw W.i W.n W.fF):=b.r (r:=.dC) Qd
theorem G.bV(b:G W a):a.r W.i.R=some (.aD 45<|gJ W.i W.bG):=b.r (r:=.bV) Qd
theorem G.cH(b:G W a):a.r W.i.f5=some (.d<|W.O.map λl=>.a l.o):=b.r (r:=.cH) Qd
theorem G.gb(b:G W a):a.r W.i.h7=some (.d W.aE):=b.r (r:=.gb) Qd
theorem G.g_(b:G W a):a.r W.i.c7=some (.K<|ht W.w):=b.r (r:=.g_) Qd
theorem G.E(b:G W a):a.r W.i.di=some (.d W.E):=b.r (r:=.E) Qd
theorem G.fd(b:G W a)(c:W.i.dW≠0):a.r W.i.dW=some (.aD 7<|ig W.i W.a6):=b.r (r:=.fd) c
theorem G.u(b:G W a):a.r W.fF=some (.d<|W.u.map λn=>.a<|W.t n):=b.r (r:=.u) Qd
theorem G.cG(d:G W c){k:Nat}(b:W.O[k]?=some l):c.r l.o=some (.aD l.ay l.da):=by have:=d.r (r:=.cG k) (P1.1 b).1;rw[show W.o (.cG k)=(match W.O[k]? with|some l=>l.o|none=>0) from rfl,show∀a,W.aF a (.cG k)=(match W.O[k]? with|some l=>.aD l.ay l.da|none=>.d []) from λ_=>rfl,b] at this;exact this
theorem G.aA(e:G W d){k:Nat}(b:W.aA[k]?=some c):d.r c.1=some (.K c.2):=by have:=e.r (r:=.aA k) (P1.1 b).1;rw[show W.o (.aA k)=(match W.aA[k]? with|some c=>c.1|none=>0) from rfl,show∀a,W.aF a (.aA k)=(match W.aA[k]? with|some c=>.K c.2|none=>.d []) from λ_=>rfl,b] at this;exact this
theorem hM(b:V)(a g:Nat)(o:af):(b.Q a o).r g=if g=a then some o else b.r g:=rfl
theorem hh(a:V)(g:Nat)(o:af):(a.z o).r g=if g=a.f then some o else a.r g:=rfl
theorem G.Q{W d:N}{n:V}(f:G W n)(r:cn)(l:W.bj r)(i:d.al=W.al)(j:∀c,W.bj c->d.o c=W.o c)(k:∀c,d.bj c↔W.bj c)(p:∀g c,W.al g=some c->c≠r->d.aF g c=W.aF g c)
    (s:iV d) (q:d.L=W.L) {o:af} (e:d.aF (W.o r) r=o):G d (n.Q (W.o r) o) where
  bw a c b:=by
    replace b:=i▸b
    refine⟨Z (hM ..) ?_,(f.bw a c b).2⟩
    rcases Classical.em (c=r) with h|h
    · subst h
      rcases f.bO a c b with rfl|⟨_,rfl⟩
      · exact l.elim
      · exact Z (P8 rfl) (Z e rfl)
    · have:a≠W.o r:=λx=>by subst x;rw[f.bj r l] at b;obtain rfl:=P0 b;exact h rfl
      exact Z (P4 this) (Z (p a c b h)<|(f.bw a c b).1)
  bO a c b:=by
    replace b:=i▸b
    rcases f.bO a c b with h|⟨m,t⟩
    · exact .inl h
    · exact .inr ⟨(k c).2 m,Z (j c m) t⟩
  bj c b:=by
    have:=(k c).1 b
    exact Z i (Z (j c this)<|f.bj c this)
  a3:=s
  L:=f.L.trans q.symm
theorem G.fi(c:G W e)(b:W.al a=none)(o:af):G W (e.Q a o):=⟨λg r d=>by(have:g≠a:=λx=>by subst x;rw[b] at d;exact bm d);refine Z (hM ..)<|Z (P4 this ..) ?_;exact c.bw g r d,c.bO,c.bj,c.a3,c.L⟩
theorem G.bH(d:G W c)(b:c.f<=a):W.al a=none:=by cases e:W.al a with|none=>rfl|some r=>exact absurd (d.bw a r e).2<|R'.2 b
theorem G.dh(a:G W c)(o:af):G W (c.z o):=⟨λg r d=>by have b:=a.bw g r d;refine Z (hh ..)<|Z (P4 (Q6 b.2) ..) ?_;exact⟨b.1,Rb b.2⟩,a.bO,a.bj,a.a3,a.L⟩
noncomputable def N.M(W:N)(a:Nat)(o:af):N:={W with al:=λg=>if g=a then some .k else W.al g,gE:=λg=>if g=a then o else W.gE g}
theorem G.n'{W:N}{h:V}(f:G W h){a:Nat}{o:af}(b:W.al a=none)(j:h.r a=some o)(i:a<h.f):G (W.M a o) h where
  bw g r c:=by
    change (if g=a then some cn.k else W.al g)=some r at c
    by_cases d:g=a
    · subst d
      rw[P8 rfl] at c
      obtain rfl:=P0 c
      exact⟨(Z (P8 rfl) j:_=some (if g=g then o else W.gE g)),i⟩
    · rw[P4 d] at c
      have:=f.bw g r c
      refine⟨this.1.trans ?_,this.2⟩
      cases r<;>first|rfl|(show _=some (if g=a then o else W.gE g);refine Z (P4 d) ?_;rfl)
  bO g r c:=by
    change (if g=a then some cn.k else W.al g)=some r at c
    by_cases d:g=a
    · rw[P8 d] at c;obtain rfl:=P0 c;exact .inl rfl
    · rw[P4 d] at c
      have:=f.bO g r c
      cases r<;>exact this
  bj r k:=by
    have e:(W.M a o).o r=W.o r:=by cases r<;>rfl
    have l:W.bj r:=by cases r<;>exact k
    have:=f.bj r l
    exact(Z e<|Z (P4 (λd=>by rw[d,b] at this;exact bm this)) this:(if(W.M a o).o r=a then some cn.k else W.al<|(W.M a o).o r)=_)
  a3:=⟨f.a3.cA,f.a3.dE,f.a3.dj⟩
  L:=f.L
theorem G.C(e:G W d)(b:W.C=some (a,o)):d.r a=some o:=by have:=e.r (r:=.C) ⟨_,b⟩;rw[show W.o .C=(match W.C with|some c=>c.1|none=>0) from rfl,show∀a,W.aF a .C=(match W.C with|some c=>c.2|none=>.d []) from λ_=>rfl,b] at this;exact this
noncomputable def N.cX(W:N)(a:Nat)(o:af):N:={W with C:=some (a,o),al:=λg=>if g=a then some .C else W.al g}
noncomputable def N.dq(W:N)(a:Nat)(o:af):N:={W with C:=some (a,o)}
noncomputable def N.ey(W:N)(a:Nat)(o:af):N:={W with C:=none,al:=λg=>if g=a then some .k else W.al g,gE:=λg=>if g=a then o else W.gE g}
theorem G.cX{W:N}{h:V}(d:G W h)(i:W.C=none){a:Nat}{o:af}(b:W.al a=none)(l:h.r a=some o)(k:a<h.f):G (W.cX a o) h where
  bw g r c:=by
    change (if g=a then some cn.C else W.al g)=some r at c
    by_cases f:g=a
    · subst f
      rw[P8 rfl] at c
      obtain rfl:=P0 c
      exact⟨l,k⟩
    · rw[P4 f] at c
      have:=d.bw g r c
      refine⟨this.1.trans<|Q3 some ?_,this.2⟩
      induction r with
      |C=>
        rcases d.bO g _ c with x|⟨⟨p,x⟩,_⟩
        · cases x
        · rw[i] at x;exact bm x
      |_=>rfl
  bO g r c:=by
    change (if g=a then some cn.C else W.al g)=some r at c
    by_cases f:g=a
    · rw[P8 f] at c;obtain rfl:=P0 c;exact .inr ⟨⟨_,rfl⟩,f⟩
    · rw[P4 f] at c
      rcases d.bO g r c with x|⟨x,t⟩
      · exact .inl x
      · induction r with
        |C=>obtain⟨p,x⟩:=x;rw[i] at x;exact bm x
        |_=>exact .inr ⟨x,t⟩
  bj r m:=by
    by_cases e:r=.C
    · exact Z e (P8 rfl)
    · have n:W.bj r:=by cases r<;>first|exact m|exact(e rfl).elim
      have j:(W.cX a o).o r=W.o r:=by cases r<;>first|rfl|exact(e rfl).elim
      have:=d.bj r n
      exact(Z j<|Z (P4 (λf=>by rw[f,b] at this;exact bm this)) this:(if(W.cX a o).o r=a then some cn.C else W.al<|(W.cX a o).o r)=_)
  a3:=⟨d.a3.cA,d.a3.dE,d.a3.dj⟩
  L:=d.L
theorem G.dq(c:G W f)(b:W.C=some (a,o))(d:af):G (W.dq a d) (f.Q a d):=by
 have e:W.o .C=a:=by refine(Z b ?_:(match W.C with|some h=>h.1|none=>0)=a);rfl
 have:=c.Q (d:=W.dq a d) .C ⟨_,b⟩ rfl (λr j=>by induction r with|C=>exact e.symm|_=>rfl) (λr=>by induction r with|C=>exact⟨λ_=>⟨_,b⟩,λ_=>⟨_,rfl⟩⟩|_=>exact Iff.rfl) (λg r _ i=>by cases r<;>first|rfl|exact(i rfl).elim) ⟨c.a3.cA,c.a3.dE,c.a3.dj⟩ rfl (o:=d) rfl;replace this:=e▸this;exact this
theorem G.ey(e:G W l)(b:W.C=some (a,o)):G (W.ey a o) l:=by
 have h:W.o .C=a:=(Z b rfl:(match W.C with|some j=>j.1|none=>0)=a);have i:=h▸e.bj .C ⟨_,b⟩;have bE:∀g r,g≠a->W.al g=some r->r≠.C:=λg r c f d=>by subst d;(rcases e.bO g _ f with x|⟨_,x⟩);cases x;exact c<|x.trans h
 refine⟨λg r c=>?_,λg r c=>?_,λr f=>?_,⟨e.a3.cA,e.a3.dE,e.a3.dj⟩,e.L⟩;change (if g=a then some cn.k else W.al g)=some r at c;by_cases d:g=a;subst d;rw[P8 rfl] at c;obtain rfl:=P0 c;have:=e.bw g _ i;exact⟨(e.C b).trans<|Q3 some<|(P8 rfl).symm,this.2⟩;rw[P4 d] at c;have:=e.bw g r c;refine⟨this.1.trans<|Q3 some ?_,this.2⟩;induction r with|k=>exact(P4 d).symm|C=>exact(bE g _ d c rfl).elim|_=>rfl
 change (if g=a then some cn.k else W.al g)=some r at c;by_cases d:g=a;rw[P8 d] at c;obtain rfl:=P0 c;exact .inl rfl;replace c:=(P4 d)▸c;have n:=bE g r d c;rcases e.bO g r c with x|⟨x,t⟩
 exact .inl x;induction r with|C=>exact(n rfl).elim|_=>exact .inr ⟨x,t⟩
 have n:r≠.C:=λd=>by subst d;exact bA f λj x=>bm x
 have p:W.bj r:=by cases r<;>first|exact f|exact(n rfl).elim
 have m:(W.ey a o).o r=W.o r:=by cases r<;>first|rfl|exact(n rfl).elim
 have:=e.bj r p;exact(Z m<|Z (P4 (λd=>by replace this:=i▸d▸this;exact n (P0 this).symm)) this:(if(W.ey a o).o r=a then some cn.k else W.al<|(W.ey a o).o r)=_)
theorem G.eK(b:G W a)(o:af):G (W.M a.f o) (a.z o):=(b.dh o).n' (b.bH<|P5 _) (Z (hh ..)<|Z (P8 rfl ..) rfl)<|P' _
end
end
theorem el{c:Nat}(b:c<=1000000):cB (c:Int)=true:=by unfold cB;exact Z (Int.natAbs_natCast ..)<|Nat.ble_eq_true_of_le<|fp b #[]
theorem b5(b:c<=1000000):Nat.ble c bl=true:=Nat.ble_eq_true_of_le b
noncomputable def N.a_(W:N)(n:Nat)(a:bK):N:={W with p:=λk=>if k=n then some a else W.p k}
noncomputable def N.gL(W:N)(n:Nat):N:={W with p:=λk=>if k=n then none else W.p k,al:=λa=>if W.al a=some (.p n) then none else W.al a}
noncomputable def N.d9(W:N)(n:Nat):N:={W with u:=W.u++[n]}
def N.bi(W:N)(n:Nat)(a:bK):N:=W.a_ n<|a.jW<|a.dd+1
def N.gA(W:N)(n:Nat)(a:bK):N:=if a.dd=1 then(W.a_ n<|a.jW 0).d9 n else W.a_ n<|a.jW<|a.dd - 1
noncomputable def N.hA(W:N)(k:Nat):N:={W with bG:=k}
noncomputable def N.ip(W:N)(v:Y):N:={W with E:=W.E++[v]}
noncomputable def N.hG(W:N)(v:Y):N:={W with a6:=v}
noncomputable def N.e2(W:N)(f:List Y):N:={W with aE:=f}
section
theorem G.a_(e:G W h)(b:W.p n=some f)(a:bK):G (W.a_ n a) (h.Q (W.t n)<|eT n a):=by
 refine e.Q (d:=W.a_ n a) (.p n) ⟨f,b⟩ rfl (λ_ _=>rfl) (λr=>by induction r with|p k=>refine(?_:(∃d,(if k=n then some a else W.p k)=some d)↔∃d,W.p k=some d);by_cases c:k=n;exact Z c<|Z (P8 rfl) ⟨λ_=>⟨_,b⟩,λ_=>⟨_,rfl⟩⟩;refine Z (P4 c) ?_;rfl|_=>exact Iff.rfl) (λg r l j=>?_) ?_ rfl ?_;induction r with|p k=>have:k≠n:=λc=>j (by refine Z c ?_;rfl);refine(?_:(match(if k=n then some a else W.p k) with|some a=>eT k a|none=>.d [])=_);refine Z (P4 this) ?_;rfl|_=>rfl
 refine⟨λk d y=>?_,λk y=>?_,e.a3.dj⟩;change (if k=n then some a else W.p k)=some d at y;by_cases c:k=n;subst c;exact e.a3.cA k f b;replace y:=(P4 c)▸y;exact e.a3.cA k d y;refine(?_:∃d,(if k=n then some a else W.p k)=some d);by_cases c:k=n;exact⟨a,P8 c⟩;exact bA (e.a3.dE k y) λd i=>⟨d,Z (P4 c) i⟩;refine(?_:(match(if n=n then some a else W.p n) with|some a=>eT n a|none=>.d [])=_);refine Z (P8 rfl) ?_;rfl
theorem G.fo{W:N}{c:V}(f:G W c)(d:N)(r:cn)(p:W.bj r)(i:d.al=W.al)(j:∀b,W.bj b->d.o b=W.o b)(k:∀b,d.bj b↔W.bj b)(l:∀g b,W.al g=some b->b≠r->d.aF g b=W.aF g b)(m:iV d)(n:d.L=W.L){a:Nat}{o:af}(h:W.o r=a)(e:∀g,d.aF g r=o):G d (c.Q a o):=by subst h;exact f.Q r p i j k l m n<|e _
theorem G.d9(a:G W d)(e:W.p n=some c):G (W.d9 n) (d.Q W.fF<|.d<|(W.u.map λn=>.a<|W.t n)++[.a<|W.t n]):=a.fo (W.d9 n) .u Qd rfl (λ_ _=>rfl) (λ_=>Iff.rfl) (λg r _ b=>by cases r<;>first|rfl|exact(b rfl).elim) ⟨a.a3.cA,λk y=>by(rcases PY.1 y with y|y);exact a.a3.dE k y;refine Z (Re.1 y) ?_;exact⟨c,e⟩,a.a3.dj⟩ rfl rfl λg=>by exact(Z Rd rfl:af.d ((W.u++[n]).map λn=>.a<|W.t n)=_)
theorem G.hA(a:G W c)(k:Nat):G (W.hA k) (c.Q W.i.R<|.aD 45<|gJ W.i k):=a.fo (W.hA k) .bV Qd rfl (λ_ _=>rfl) (λ_=>Iff.rfl) (λg r _ b=>by cases r<;>first|rfl|exact(b rfl).elim) ⟨a.a3.cA,a.a3.dE,a.a3.dj⟩ rfl rfl λg=>rfl
theorem G.ip(a:G W c)(v:Y):G (W.ip v) (c.Q W.i.di<|.d<|W.E++[v]):=a.fo (W.ip v) .E Qd rfl (λ_ _=>rfl) (λ_=>Iff.rfl) (λg r _ b=>by cases r<;>first|rfl|exact(b rfl).elim) ⟨a.a3.cA,a.a3.dE,a.a3.dj⟩ rfl rfl λg=>rfl
theorem G.hG(a:G W d)(c:W.i.dW≠0)(v:Y):G (W.hG v) (d.Q W.i.dW<|.aD 7<|ig W.i v):=a.fo (W.hG v) .fd c rfl (λ_ _=>rfl) (λ_=>Iff.rfl) (λg r _ b=>by cases r<;>first|rfl|exact(b rfl).elim) ⟨a.a3.cA,a.a3.dE,λ_=>c⟩ rfl rfl λg=>rfl
theorem G.e2(a:G W c)(f:List Y):G (W.e2 f) (c.Q W.i.h7<|.d f):=a.fo (W.e2 f) .gb Qd rfl (λ_ _=>rfl) (λ_=>Iff.rfl) (λg r _ b=>by cases r<;>first|rfl|exact(b rfl).elim) ⟨a.a3.cA,a.a3.dE,a.a3.dj⟩ rfl rfl λg=>rfl
theorem G.gL(f:G W j)(b:W.p n=some i)(m:n∉W.u):G (W.gL n) j/\(W.gL n).al (W.t n)=none:=by
 have al:∀a r,(W.gL n).al a=some r->W.al a=some r/\r≠.p n:=λa r c=>by change (if W.al a=some (.p n) then none else W.al a)=some r at c;by_cases e:W.al a=some (.p n);rw[P8 e] at c;exact bm c;replace c:=(P4 e)▸c;exact⟨c,λx=>e<|x▸c⟩
 have o:∀r,(W.gL n).bj r->W.bj r/\r≠.p n:=λr c=>by induction r with|p k=>obtain⟨d,c⟩:=c;change (if k=n then none else W.p k)=some d at c;by_cases e:k=n;rw[P8 e] at c;exact bm c;replace c:=(P4 e)▸c;exact⟨⟨d,c⟩,λx=>e (by cases x;rfl)⟩|_=>exact⟨c,λx=>by cases x⟩
 refine⟨⟨λa r c=>?_,λa r c=>?_,λr c=>?_,⟨λk d c=>?_,λk y=>?_,f.a3.dj⟩,f.L⟩,?_⟩;obtain⟨g,h⟩:=al a r c;have:=f.bw a r g;refine⟨this.1.trans<|Q3 some ?_,this.2⟩;induction r with|p k=>refine(?_:_=(match(if k=n then none else W.p k) with|some i=>eT k i|none=>.d []));refine Z (P4 λx=>h (by refine Z x ?_;rfl)) ?_;rfl|_=>rfl
 obtain⟨g,h⟩:=al a r c;rcases f.bO a r g with x|⟨x,t⟩
 exact .inl x;refine .inr ⟨?_,?_⟩;induction r with|p k=>exact bA x λd x=>⟨d,by refine(Z (P4 λq=>h (by refine Z q ?_;rfl)) ?_:(if k=n then none else W.p k)=_);exact x⟩|_=>exact x
 cases r<;>exact t;refine bs (o r c) λg h=>?_;have:=f.bj r g;have e:(W.gL n).o r=W.o r:=by cases r<;>rfl
 refine(Z e<|Z this<|Z (P4 λx=>h<|P0 x) ?_:(if W.al ((W.gL n).o r)=some (.p n) then none else W.al<|(W.gL n).o r)=_);rfl;change (if k=n then none else W.p k)=some d at c;by_cases e:k=n;rw[P8 e] at c;exact bm c;rw[P4 e] at c;exact f.a3.cA k d c;exact bA (f.a3.dE k y) λd l=>⟨d,(Z (P4 λe:k=n=>m<|ad e y) l:(if k=n then none else W.p k)=_)⟩;refine(Z (P8<|f.bj (.p n) ⟨i,b⟩) ?_:(if W.al (W.t n)=some (.p n) then none else W.al<|W.t n)=none);rfl
end
structure bt(W:N):Prop where
 bN:W.y W.i.bN (.aD 94 [("heap",.a W.i.H),("destroy",.a W.i.kv),("places",.a W.i.lH),("empties",.a W.i.ln)])
 kv:W.y W.i.kv (.cl lq [("marks",W.i.fT),("log",W.i.hB)])
 fT:W.y W.i.fT (.h1<|some<|.a W.i.c7)
 hB:W.y W.i.hB (.h1<|some<|.a W.i.di)
 i:W.y W.i.i (.aD 98 [("heap",.a W.i.H),("globs",.a W.i.dp),("generation",.c 0)])
 m3:W.y W.i.m3 (.aD 96 [("width",.c 64),("depth",.c 50),("steps",.c 1000000),("text",.c 100000),("items",.c 10000)])
 lH:W.y W.i.lH (.K [])
 ln:W.y W.i.ln (.K [])
 dp:W.i.dW≠0->W.y W.i.dp (.K [(.l "main::_",.a W.i.dW)])
section
theorem wK{W:N}:(W.a_ k a).p k=some a:=P8 rfl
theorem nl(c:G W d)(b:W.p k=some a)(f:a.dd<=100000)(g:∀e,G (W.bi k a) e->h .s e):ag (n+1) p (.B 94 2) [s,.a<|W.t k] h i d:=by exact bp zf ∅<|aK (c.cr b) (lx k a)<|k0 (el<|lA f) ∅<|eE (c.cr b) (vM k a)<|g _<|Z (rfl ..:((a.dd:Int)+1)=((a.dd+1:Nat):Int))<|Z (ud ..)<|c.a_ b _
theorem ot(g:G W j)(o:bt W)(b:W.p k=some a)(q:a.dd<=100000)(l:a.dd≠0)(r:W.u.length<=100000)(d:∀m,G (W.gA k a) m->h .s m):ag (n+1) p (.B 94 3) [.a W.i.bN,.a<|W.t k] h i j:=by
 refine bp L9 ∅<|aK (g.cr b) (lx k a)<|xL (el<|lA q) ∅<|eE (g.cr b) (vM k a)<|Z (((Int.ofNat_sub<|Nat.pos_of_ne_zero l).symm) ..:((a.dd:Int) - 1)=((a.dd - 1:Nat):Int))<|Z (ud ..) ?_;have c:=g.a_ b<|a.jW<|a.dd - 1;generalize j.Q (W.t k) (eT k<|a.jW<|a.dd - 1)=s at c;refine aK (c.cr wK) (lx k _)<|ek<|aL ?_;have e:(a.jW<|a.dd - 1).dd=a.dd - 1:=by cases a<;>rfl
 refine Z e ?_;unfold N.gA at d;by_cases f:a.dd=1;rw[P8 f] at d;rw[f] at c⊢;refine bJ rfl (aK (c.k o.bN) (v:=.a W.i.H) ∅<|aK c.dC ∅<|fe c.u ∅<|hP c.u (b5<|Z (P6 ..)<|P9 r #[])<|d _<|c.d9 wK);rw[P4 f] at d;exact bx (by rw[Qk];exact λb=>f<|Q0 (Nat.le_of_sub_eq_zero<|fr b)<|Nat.pos_of_ne_zero l)<|d _ c
end
theorem fZ(b:V)(a:Nat)(o:af):(b.Q a o).r a=some o:=P8 rfl
theorem f9{d:V}(b:d.r g=some c)(n:g≠a):(d.Q a o).r g=some c:=(P4 n).trans b
theorem c8(a:V)(o:af):(a.z o).r a.f=some o:=P8 rfl
theorem eC{a:V}(b:a.r g=some c)(n:g<a.f):(a.z o).r g=some c:=(P4<|Q6 n).trans b
noncomputable def N.ge(W:N):N:={W with n:=W.n+1}
noncomputable def N.b_(W:N)(a:Nat)(b:bK):N:={W with n:=W.n+1,al:=λg=>if g=a then some (.p<|W.n+1) else W.al g,p:=λk=>if k=W.n+1 then some b else W.p k,t:=λk=>if k=W.n+1 then a else W.t k}
section
theorem G.ge(a:G W c):G W.ge (c.Q W.i.H<|.aD 9<|mw W.i (W.n+1) W.fF):=a.fo W.ge .dC Qd rfl (λ_ _=>rfl) (λ_=>Iff.rfl) (λg r _ b=>by cases r<;>first|rfl|exact(b rfl).elim) ⟨λn d b=>QE<|a.a3.cA n d b,a.a3.dE,a.a3.dj⟩ rfl rfl λg=>rfl
theorem G.ms(i:G W.ge l)(h:iV W)(b:W.al a=none)(s:l.r a=some (eT (W.n+1) f))(q:a<l.f):G (W.b_ a f) l:=by
 have f_:∀k d,W.p k=some d->k≠W.n+1:=λk d c e=>by have:=h.cA k d c;exact xa e this
 have o:∀k,k∈W.u->k≠W.n+1:=λk c=>bA (h.dE k c) λd c=>(f_ k d c);have m:∀r,W.bj r->(W.b_ a f).o r=W.o r:=λr c=>by induction r with|p k=>obtain⟨d,c⟩:=c;exact P4 (f_ k d c)|_=>rfl
 refine⟨λg r c=>?_,λg r c=>?_,λr c=>?_,⟨λk d c=>?_,λk c=>?_,h.dj⟩,i.L⟩;change (if g=a then some (cn.p<|W.n+1) else W.al g)=some r at c;by_cases e:g=a;subst e;rw[P8 rfl] at c;obtain rfl:=P0 c;refine⟨s.trans (?_:_=some (match(if W.n+1=W.n+1 then some f else W.p _) with|some f=>eT _ f|none=>.d [])),q⟩;exact Z (P8 rfl) rfl;rw[P4 e] at c;have:=i.bw g r c;refine⟨this.1.trans<|Q3 some ?_,this.2⟩;induction r with|p k=>(have y:W.bj (.p k):=by(rcases i.bO g (.p k) c with x|⟨x,_⟩);cases x;exact x);refine bA y λd y=>(?_:_=(match(if k=W.n+1 then some f else W.p k) with|some f=>eT k f|none=>.d []));refine Z (P4<|f_ k d y) ?_;rfl|u=>refine(?_:af.d (W.u.map λn=>.a<|W.t n)=.d (W.u.map λn=>.a<|if n=W.n+1 then a else W.t n));congr 1;exact QB λk y=>Z (P4<|o k y) rfl|_=>rfl
 change (if g=a then some (cn.p<|W.n+1) else W.al g)=some r at c;by_cases e:g=a;subst e;rw[P8 rfl] at c;obtain rfl:=P0 c;exact .inr ⟨⟨f,P8 rfl⟩,(P8 rfl).symm⟩;replace c:=(P4 e)▸c;rcases i.bO g r c with x|⟨x,t⟩
 exact .inl x;refine .inr ⟨?_,Z (m r x) t⟩;induction r with|p k=>obtain⟨d,x⟩:=x;exact⟨d,(P4<|f_ k d x).trans x⟩|_=>exact x
 by_cases e:r=.p (W.n+1);exact Z e (Z (P8 rfl)<|Z (P8 rfl) rfl:(if(if W.n+1=W.n+1 then a else _)=a then some (cn.p<|W.n+1) else W.al _)=_);have j:W.bj r:=by induction r with|p k=>exact bA c λd c=>⟨d,ad c<|(P4 λx=>e (by refine Z x ?_;rfl)).symm⟩|_=>exact c
 have:=i.bj r j;exact(Z (m r j)<|Z (P4 (λx=>by rw[show W.ge.o r=W.o r from by cases r<;>rfl,x] at this;rw[show W.ge.al a=W.al a from rfl,b] at this;exact bm this)) this:(if(W.b_ a f).o r=a then some (cn.p<|W.n+1) else W.al<|(W.b_ a f).o r)=_);change (if k=W.n+1 then some f else W.p k)=some d at c;by_cases e:k=W.n+1;exact Z e<|P5 _;rw[P4 e] at c;exact QE<|h.cA k d c;exact bA (h.dE k c) λd j=>⟨d,(P4<|o k c).trans j⟩
end
section
theorem j9(b:ba.ex k x=some l)(d:a (λa=>m l a h i) c):aQ m (.ay k) x a h i c:=by unfold aQ;dsimp only;exact Z b d
noncomputable def rR(v:Y)(a:Nat):List (Str×Y):=[("number",v),("count",.c 0),("blessed",.s),("weak",.a a),("is_destroyed",.b' false),("is_freed",.b' false)]
theorem eF(g:G W d)(i:W.al a=none)(b:d.r a=some (.aD c f))(j:Nat.blt f.length 100=true)(k:∀e,G W e->e.r a=some (.aD c<|cN x v f)->e.f=d.f->h () e):J (fN (.a a) x v) h d:=eE b j<|k _ (g.fi i _) (fZ _ _ _) rfl
theorem o2(f:G W c)(k:∀a d,a=c.f->G (W.M a o) d->(∀g e,c.r g=some e->g<c.f->d.r g=some e)->d.f=c.f+1->h (.a a) d):J (a4 o) h c:=bF<|k _ _ rfl (f.eK o) (λg e b i=>eC b i) rfl
theorem h_{W:N}(b:W.al g=none)(n:g≠a):(W.M a o).al g=none:=(P4 n).trans b
theorem oF(m:G W g)(d:W.al a=none)(D:g.r a=some (.aD c []))(E:a<g.f)(H:∀b j,W.al b=none/\a≠b->G (W.M b<|.d []) j->(W.M b<|.d []).al a=none->j.r a=some (.aD c<|rR v b)->a<j.f->h .s j):ag (n+1) p (.B 2 1) [.a a,v] h i g:=by refine bp B_ ∅<|eF m d D ∅ λX q x K=>eF q d x ∅ λU r y L=>eF r d y ∅ λS l z M=>?_;have e:a<S.f:=Z M<|Z L<|Z K E;refine o2 l λb J k s F O=>?_;have f:=h_ (o:=.d []) d<|Q6<|k▸e;exact eF s f (F _ _ z e) ∅ λI t A P=>eF t f A ∅ λNN u B Q=>eF u f B ∅ λT w C R=>H b T ⟨l.bH<|k▸P5 _,Q6<|k▸e⟩ w f (C.trans ∅)<|Z R<|Z Q<|Z P<|Z O<|Rb e
theorem pX(a:G W b)(d:W.n<=100000)(e:∀c,G W.ge c->c.f=b.f->h (.c (W.n+1:Nat)) c):ag (n+1) p (.B 9 2) [.a W.i.H] h i b:=by refine bp L7 ∅<|aK a.dC ∅<|k0 (el<|lA d) ∅<|eE a.dC ∅<|aK (fZ _ _ _) ∅<|e _ a.ge rfl
theorem ra(d:G W k)(u:W.n<=100000)(x:∀a b l,W.al b=none/\W.al a=none/\a≠b->G ((W.M b<|.d []).b_ a<|.aV 0 v b) l->h (.a a) l):ag (n+4) p (.B 9 3) [.a W.i.H,v] h i k:=by refine bp JT ∅<|c4 d.dC ∅ ∅<|pX d u λA f C=>(jH (l:=.B 3 1) ∅ ∅ ?_);have c:=d.a3;have g:=f.bH<|P5 _;exact bp F' ∅<|j9 ∅<|oF (f.dh _) g (c8 _ _) (P' _) λb D j m e t w=>eF m e t ∅ λE o r y=>eF o e r ∅ λB q s z=>x A.f b B (b9 j.1 g j.2)<|G.ms (W:=W.M b<|.d []) q ⟨c.cA,c.dE,c.dj⟩ e (s.trans ∅)<|Z z<|Z y w
theorem r7(f:G W s)(x:W.C=none)(w:W.n<=100000)(y:∀a b d t,W.al b=none/\W.al a=none/\a≠b->((W.M b<|.d []).b_ a<|.az 0 false false b d).al d=none->G (((W.M b<|.d []).b_ a<|.az 0 false false b d).cX d<|.d []) t->h (.a a) t):ag (n+4) p (.B 9 4) [.a W.i.H] h i s:=by refine bp Dy ∅<|c4 f.dC ∅ ∅<|pX f w λu l z=>(jH (l:=.B 4 1) ∅ ∅ ?_);have e:=f.a3;have q:=l.bH<|P5 _;refine bp zl ∅<|j9 ∅<|oF (l.dh _) q (c8 _ _) (P' _) λb c r m k v g=>(bF ?_);have j:=(Q6 g).symm;refine eE (eC v g) ∅<|eE (fZ _ _ _) ∅ ?_;have o:((W.M b<|.d []).b_ u.f<|.az 0 false false b c.f).al c.f=none:=(P4 j).trans<|m.bH<|P5 _;exact y u.f b c.f _ (b9 r.1 q r.2) o<|(G.ms (W:=W.M b<|.d []) (((m.dh<|.d []).fi k<|.aD 4<|cN ("items":Str) (.a c.f)<|rR (.c (W.n+1:Nat)) b).fi k<|.aD 4<|cN ("tied":Str) .s<|cN ("items":Str) (.a c.f)<|rR (.c (W.n+1:Nat)) b) ⟨e.cA,e.dE,e.dj⟩ k ((fZ _ _ _).trans ∅)<|Rb g).cX x o (f9 (f9 (c8 _ _) j) j)<|P' _
end
structure av(W d:N):Prop where
 i:d.i=W.i
 k:∀a o,W.y a o->d.y a o
 n:W.n<=d.n
 t:∀k,k<=W.n->d.t k=W.t k
section
theorem av.cK:av W W:=⟨rfl,λ_ _ b=>b,P5 _,λ_ _=>rfl⟩
theorem av.q(a:av W c)(g:av c d):av W d:=⟨g.i.trans a.i,λx o b=>g.k _ _<|a.k _ _ b,P9 a.n g.n,λk b=>(g.t k<|P9 b a.n).trans<|a.t k b⟩
theorem av.dN(c:d.i=W.i)(e:d.al=W.al)(f:d.gE=W.gE)(g:d.n=W.n)(h:d.t=W.t):av W d:=⟨c,λa o b=>⟨by refine Z e ?_;exact b.1,Z f b.2⟩,g▸P5 _,λk _=>Z h rfl⟩
theorem av.a_{n:Nat}:av W (W.a_ n a):=.dN rfl rfl rfl rfl rfl
theorem av.bi{n:Nat}:av W (W.bi n a):=.dN rfl rfl rfl rfl rfl
theorem av.d9{n:Nat}:av W (W.d9 n):=.dN rfl rfl rfl rfl rfl
theorem av.gA{n:Nat}:av W (W.gA n a):=by unfold N.gA;split<;>exact .dN rfl rfl rfl rfl rfl
theorem av.gL{n:Nat}:av W (W.gL n):=⟨rfl,λa o b=>⟨(P4 (by refine Z b.1 ?_;intro c;cases c)).trans b.1,b.2⟩,P5 _,λ_ _=>rfl⟩
theorem av.M(b:W.al a=none):av W (W.M a o):=⟨rfl,λg d x=>by(have:g≠a:=λc=>by have t:=x.1;replace t:=b▸c▸t;exact bm t);exact⟨(P4 this).trans x.1,(P4 this).trans x.2⟩,P5 _,λ_ _=>rfl⟩
theorem av.b_(b:W.al a=none):av W (W.b_ a d):=⟨rfl,λg e x=>by(have:g≠a:=λc=>by have t:=x.1;replace t:=b▸c▸t;exact bm t);exact⟨(P4 this).trans x.1,x.2⟩,Q4 _,λk y=>P4<|jy y⟩
theorem av.cX(b:W.al a=none):av W (W.cX a o):=⟨rfl,λg d x=>by(have:g≠a:=λc=>by have t:=x.1;replace t:=b▸c▸t;exact bm t);exact⟨(P4 this).trans x.1,x.2⟩,P5 _,λ_ _=>rfl⟩
theorem av.dq:av W (W.dq a o):=.dN rfl rfl rfl rfl rfl
theorem av.ey{k:V}(e:G W k)(b:W.C=some (a,g)):av W (W.ey a o):=⟨rfl,λc o d=>by(have:c≠a:=λi=>by have t:=d.1;have f:W.o .C=a:=(Z b rfl:(match W.C with|some h=>h.1|none=>0)=a);have:=e.bj .C ⟨_,b⟩;rw[f] at this;rw[i,this] at t;exact absurd t λj=>by cases j);exact⟨(P4 this).trans d.1,(P4 this).trans d.2⟩,P5 _,λ_ _=>rfl⟩
theorem dA{W:N}:(W.M a o).y a o:=⟨P8 rfl,P8 rfl⟩
theorem bt.m(a:bt W)(e:av W d):bt d:=by obtain⟨c,f,g,h,i,j,k,l,m⟩:=a;exact⟨e.i▸e.k _ _ c,e.i▸e.k _ _ f,e.i▸e.k _ _ g,e.i▸e.k _ _ h,e.i▸e.k _ _ i,e.i▸e.k _ _ j,e.i▸e.k _ _ k,e.i▸e.k _ _ l,Z e.i λb=>e.k _ _<|m b⟩
end
def lP(W:N)(r k:Nat):Prop:=W.y r<|.aD 8 [("target",.a<|W.t k),("is_weak",.b' false)]
theorem lP.m(b:lP W r k)(e:av W d)(y:k<=W.n):lP d r k:=by have:=e.k _ _ b;replace this:=(e.t k y).symm▸this;exact this
inductive j5(W:N):Y->N->Prop
 |s:j5 W .s W
 |c g:j5 W (.c g) W
 |a {r k c b d f e}:lP W r k->W.p k=some (.az c b d f e)->c<=100000->j5 W (.a r) (W.bi k<|.az c b d f e)
inductive i7(W:N):Y->N->Prop
 |s:i7 W .s W
 |c g:i7 W (.c g) W
 |a {r k c b d f e}:lP W r k->W.p k=some (.az c b d f e)->c≠0->c<=100000->W.u.length<=100000->i7 W (.a r) (W.gA k<|.az c b d f e)
theorem j5.m(b:j5 W v d):av W d:=by cases b<;>first|exact .cK|exact .bi
theorem i7.m(b:i7 W v d):av W d:=by cases b<;>first|exact .cK|exact .gA
section
theorem K1(a:G W d)(f:bt W)(b:W.p k=some c)(g:c.dd=0)(j:W.u.length<=100000)(l:∀e,G (W.d9 k) e->h .s e):ag (n+1) p (.B 94 4) [.a W.i.bN,.a<|W.t k] h i d:=by refine bp Do ∅<|aK (a.cr b) (lx k c)<|ek<|aL<|bJ (by refine Z g ?_;rfl) ?_;exact aK (a.k f.bN) ∅<|aK a.dC ∅<|fe a.u ∅<|hP a.u (b5<|Z (P6 ..)<|P9 j #[])<|l _<|a.d9 b
theorem to(e:G W m)(o:bt W)(b:j5 W v d)(g:∀j,G d j->h v j):ag (n+2) p (.B 94 5) [.a W.i.bN,v] h i m:=by refine bp Mp ∅ ?_;induction b with|s=>exact lW ∅ (aL<|bJ rfl (g _ e))|c x=>exact od ∅ (aL<|bJ rfl (g _ e))|@a r k c u w z y f q t=>exact eq (e.k f) ∅ ∅<|aL<|bx ∅<|c4 (e.k o.bN) ∅ ∅<|aK (e.k f) ∅<|nl e q t λj l=>aK (l.k<|av.bi.k _ _ f) ∅<|aL<|bx rfl (g _ l)
theorem tv(e:G W m)(l:bt W)(b:i7 W v d)(g:∀j,G d j->h .s j):ag (n+2) p (.B 94 6) [.a W.i.bN,s,v] h i m:=by refine bp BR ∅<|hg<|gR (c8 _ _) ?_;have e:=(e.dh<|.h1 none).fi (e.bH<|P5 _)<|.h1<|some s;induction b with|s=>exact lW ∅ (aL<|bJ rfl (g _ e))|c z=>exact od ∅ (aL<|bJ rfl (g _ e))|@a r k c x y B A f t q u w=>exact eq (e.k f) ∅ ∅<|aL<|bx ∅<|aK (e.k f) ∅<|aL<|bx rfl (c4 (e.k l.bN) ∅ ∅<|aK (e.k f) ∅<|ot e l t u q w λj o=>g _ o)
theorem rx(b:G W x)(e:bt W)(f:W.p s=some (.aV c bE d))(j:j5 W v g)(A:i7 (g.a_ s<|.aV c v d) bE o)(z:∀y,G o y->h .s y):ag (n+3) p (.B 94 7) [.a W.i.bN,.a<|W.t s,v] h i x:=by
 refine bp Lj ∅ ?_;have k:=e.bN;refine aK (b.k k) ∅<|pa (b.k e.lH) ∅<|aK (b.cr f) (v:=.c s) ∅<|pm (b.k e.lH) rfl rfl (aK (b.k k) ∅<|pa (b.k e.ln) ∅<|aK (b.cr f) (v:=.c s) ∅<|pm (b.k e.ln) rfl rfl (aK (b.cr f) ∅<|kt<|aL<|bx rfl (aK (b.cr f) (v:=bE) ∅<|c4 (b.k k) ∅ ∅<|to b e j λF m=>?_)));have w:g.p s=some (.aV c bE d):=by induction j with|a D u E=>exact(P4 (λB=>by rw[<-B,f] at u;exact absurd u λC=>by cases C)).trans f|_=>exact f
 have r:g.t s=W.t s:=by cases j<;>rfl
 have t:=m.cr w;rw[r] at t;refine eE t ∅ ?_;have l:=m.a_ w<|.aV c v d;rw[r] at l;refine Z (∅:af.aD (bK.ay<|.aV c bE d) (cN ("value":Str) v<|hx s<|.aV c bE d)=eT s (.aV c v d)) ?_;have q:av W (g.a_ s<|.aV c v d):=j.m.q .a_;refine c4 (l.k<|q.k _ _ k) (l:=.B 94 6) ∅ ∅ ?_;have:=tv (n:=n) (p:=p) (i:=aS i) (s:=.a<|W.t s) l (e.m q) A z;rw[show(g.a_ s<|.aV c v d).i=W.i from j.m.i] at this;exact this
end
theorem qY:∀{c:List (Y×Y)},dn k c=none->e0 k v c=c++[(k,v)]:=by intro f;induction f with|nil=>intro _;exact rfl|cons g r e=>intro b;obtain⟨a,w⟩:=g;unfold dn at b;unfold e0;by_cases d:a=k;rw[P8 d] at b;exact h2 b;rw[P4 d] at b⊢;exact Z (e b) rfl
theorem uO:∀{c:List (Y×Y)},(∀e∈c,e.1≠k)->dn k c=none:=by intro g;induction g with|nil=>intro _;exact rfl|cons h r f=>intro b;obtain⟨a,w⟩:=h;unfold dn;exact Z (P4<|b _<|.head _)<|f λe d=>b e<|.tail _ d
noncomputable def N.j8(W:N)(k:ej):N:={W with w:=W.w++[k]}
theorem av.j8{k:ej}:av W (W.j8 k):=.dN rfl rfl rfl rfl rfl
theorem GG(f:List ej)(k:ej):ht (f++[k])=ht f++[(.c k.bk,.c f.length)]:=by unfold ht;refine Z List.mapIdx_append ?_;simp
theorem zh(b:e∈ht f):∃k∈f,e.1=.c k.bk:=by obtain⟨c,a,rfl⟩:=List.mem_mapIdx.1 b;exact am _ (List.getElem_mem a) rfl
theorem vo{f:List ej}(o:Nat)(e:f.Pairwise λa g=>a.bk<g.bk)(b:f[c]?=some k):dn (.c k.bk) (f.mapIdx λd k=>(Y.c k.bk,Y.c ((d+o:Nat):Int)))=some (.c ((c+o:Nat):Int)):=by induction f generalizing o c with|nil=>simp at b|cons a f h=>refine Z List.mapIdx_cons ?_;induction c using Nat.casesOn with|zero=>obtain rfl:=P0 b;exact P8 rfl|succ c=>have y:f[c]?=some k:=b;have:=h (o+1) (QH.1 e).2 y;rw[show c+(o+1)=c+1+o by exact w6] at this;refine(P4 λi=>?_).trans ?_;have:(a.bk:Int)=k.bk:=Y.c.inj i;exact ff ((QH.1 e).1 k<|PW y)<|fr this;refine ad this ?_;congr 1;exact List.mapIdx_eq_mapIdx_iff.2 λd _=>Z (show d+1+o=d+(o+1) by exact Nat.add_right_comm _ _ _) rfl
theorem vZ(b:f.Pairwise λa g=>a.bk<g.bk){c:Nat}(y:f[c]?=some k):dn (.c k.bk) (ht f)=some (.c c):=vo 0 b y
section
theorem G.j8(a:G W c)(k:ej):G (W.j8 k) (c.Q W.i.c7<|.K<|ht W.w++[(.c k.bk,.c W.w.length)]):=a.fo (W.j8 k) .g_ Qd rfl (λ_ _=>rfl) (λ_=>Iff.rfl) (λg r _ b=>by cases r<;>first|rfl|exact(b rfl).elim) ⟨a.a3.cA,a.a3.dE,a.a3.dj⟩ rfl rfl λg=>by refine(Z (GG ..) ?_:af.K (ht<|W.w++[k])=_);rfl
end
section
theorem IB(a:G W d)(b:W.p s=some (.aV c v f))(e:h v d):ag (n+2) p (.B 11 0) [.a<|W.t s] h i d:=by exact bp om ∅<|eq (a.cr b) ∅ ∅<|aL<|bx ∅<|aK (a.cr b) ∅<|kt<|aL<|bx rfl (aK (a.cr b) ∅ e)
theorem Lo(d:G W o)(g:bt W)(s:W.n<=100000)(u:∀a b q,W.al b=none/\W.al a=none/\a≠b->G (((W.M b<|.d []).b_ a<|.aV 0 (.c c) b).a_ (W.n+1)<|.aV 1 (.c c) b) q->h (.a a) q):ag (n+5) p (.B 94 8) [.a W.i.bN,.c c] h i o:=by refine bp Kx ∅ ?_;have k:=g.bN;refine aK (d.k k) ∅<|c4 d.dC ∅ ∅<|c4 (d.k k) ∅ ∅<|to d g (.c c) λv r=>(ra r s λa b w t e=>?_);have m:((W.M b<|.d []).b_ a<|.aV 0 (.c c) b).p (W.n+1)=some (.aV 0 (.c c) b):=P8 rfl;have l:((W.M b<|.d []).b_ a<|.aV 0 (.c c) b).t (W.n+1)=a:=P8 rfl;have j:=e.cr m;rw[l] at j;refine eE j ∅<|u a b _ t ?_;have f:=e.a_ m<|.aV 1 (.c c) b;rw[l] at f;exact Z (∅:af.aD (bK.ay<|.aV 0 (.c c) b) (cN ("count":Str) (.c 1)<|hx (W.n+1)<|.aV 0 (.c c) b)=eT (W.n+1) (.aV 1 (.c c) b)) f
theorem LJ(d:G W c)(l:∀r e,r=c.f->W.al r=none->G (W.M r<|.aD 8 [("target",.a a),("is_weak",.b' false)]) e->h (.a r) e):ag (n+2) p (.ay 8) [.a a] h i c:=by refine jH (l:=.B 8 1) ∅ ∅ ?_;have b:=d.bH<|P5 _;exact bp Ho ∅<|eF (d.dh _) b (c8 _ _) ∅ λs f j m=>eF f b j ∅ λq g k o=>l c.f q rfl b (g.n' b (k.trans ∅)<|Z o<|Z m<|P' _)
end
noncomputable def N.cG(W:N):=(W.bG,W.fF,W.u,W.a6,W.O,W.aE,W.E,W.aA,W.aG,W.L)
def dy(W d:N):Prop:=d.cG=W.cG/\d.C=W.C
theorem dy.bG(b:dy W d):d.bG=W.bG:=Q3 (λx=>x.1) b.1
theorem dy.fF(b:dy W d):d.fF=W.fF:=Q3 (λx=>x.2.1) b.1
theorem dy.u(b:dy W d):d.u=W.u:=Q3 (λx=>x.2.2.1) b.1
theorem dy.a6(b:dy W d):d.a6=W.a6:=Q3 (λx=>x.2.2.2.1) b.1
theorem dy.O(b:dy W d):d.O=W.O:=Q3 (λx=>x.2.2.2.2.1) b.1
theorem dy.aE(b:dy W d):d.aE=W.aE:=Q3 (λx=>x.2.2.2.2.2.1) b.1
theorem dy.E(b:dy W d):d.E=W.E:=Q3 (λx=>x.2.2.2.2.2.2.1) b.1
theorem dy.aA(b:dy W d):d.aA=W.aA:=Q3 (λx=>x.2.2.2.2.2.2.2.1) b.1
theorem dy.aG(b:dy W d):d.aG=W.aG:=Q3 (λx=>x.2.2.2.2.2.2.2.2.1) b.1
theorem dy.L(b:dy W d):d.L=W.L:=Q3 (λx=>x.2.2.2.2.2.2.2.2.2) b.1
theorem dy.C(b:dy W d):d.C=W.C:=b.2
theorem dy.q(a:dy W b)(g:dy b d):dy W d:=⟨g.1.trans a.1,g.2.trans a.2⟩
structure fM(W:N)(b:Nat)(k:ej)(c:Nat):Prop where
 az:∃a,W.p k.bk=some (.az c true false a k.dt)/\W.y a (.d [])
 dt:W.y k.dt (.d [.a<|W.t k.dS])
 aV:∃a,W.p k.dS=some (.aV 1 (.c (70+b:Nat)) a)/\W.y a (.d [])
 du:lP W k.du k.bk
 bu:k.bk<=W.n/\k.dS<=W.n/\k.bk≠k.dS
structure pg(W d:N)(r:Nat):Prop where
 m:av W d
 b3:dy W d
 n:d.n=W.n+2
 p:∀k,k<=W.n->d.p k=W.p k
 sa:∃a,d.w=W.w++[⟨W.n+1,r,a,W.n+2⟩]/\fM d W.w.length ⟨W.n+1,r,a,W.n+2⟩ 0
section
theorem wd(S:G W Oa)(Od:bt W)(N_:W.C=none)(N8:W.n<=90000)(N9:W.w.length<=90000)(y:∀k∈W.w,k.bk<=W.n)(OF:∀r d Ob,pg W d r->G d Ob->h (.a r) Ob):ag (n+6) p (.B 105 0) [.a W.i.R,.a W.i.c7,.c (W.w.length:Nat)] h i Oa:=by
 refine bp zc ∅<|aK S.bV ∅<|c4 S.dC ∅ ∅<|r7 S N_ (op N8) λa m c OM L NO F=>?_;generalize w:((W.M m<|.d []).b_ a<|.az 0 false false m c).cX c (.d [])=f at F;have B:av W f:=ad w<|((.M L.1:av W (W.M m<|.d [])).q<|.b_<|h_ L.2.1 L.2.2).q<|.cX NO;have NT:=Od.m B;have N6:f.p (W.n+1)=some (.az 0 false false m c):=ad w<|P8 rfl;have N7:f.t (W.n+1)=a:=ad w<|P8 rfl;have z:f.n=W.n+1:=ad w rfl;have Oi:f.w=W.w:=ad w rfl;have NN:=B.i;have N4:f.C=some (c,.d []):=ad w rfl;have Oz:∀k,k<=W.n->f.p k=W.p k:=λk D=>ad w<|P4 (show k≠W.n+1 by exact jy D);have Ov:f.cG=W.cG:=ad w rfl;have OD:f.y m (.d []):=by refine ad w ?_;have NQ:((W.M m<|.d []).b_ a<|.az 0 false false m c).y m (.d []):=(av.b_<|h_ L.2.1 L.2.2).k _ _ dA;(have:m≠c:=λt=>by subst t;rw[NQ.1] at NO;exact h2 NO);exact⟨(P4 this).trans NQ.1,NQ.2⟩
 clear w;have NU:=F.cr N6;rw[N7] at NU;refine aK NU ∅<|fe (F.C N4) ∅<|ad NN<|aK F.bV ∅<|c4 (F.k NT.bN) ∅ ∅<|i0 ∅ (el<|pC N9)<|Lo F NT (yW z N8) λg E OK M T=>?_;generalize s:((f.M E<|.d []).b_ g<|.aV 0 (.c<|70+(W.w.length:Int)) E).a_ (f.n+1) (.aV 1 (.c<|70+(W.w.length:Int)) E)=l at T;have j:av f l:=ad s<|(av.M M.1).q<|(av.b_<|h_ M.2.1 M.2.2).q .a_;have N5:l.C=some (c,.d []):=ad s N4;have Ok:l.p (W.n+1)=some (.az 0 false false m c):=by exact ad s (Z (P4<|t' z)<|Z (P4<|t' z) N6:(if W.n+1=f.n+1 then _ else if W.n+1=f.n+1 then _ else f.p<|W.n+1)=_)
 have Og:l.p (W.n+2)=some (.aV 1 (.c (70+W.w.length:Nat)) E):=by exact ad s (Z (P8<|wn z) rfl:(if W.n+2=f.n+1 then _ else _)=_)
 have Om:l.t (W.n+2)=g:=by exact ad s (P8<|wn z:(if W.n+2=f.n+1 then g else _)=g)
 have Oh:l.n=W.n+2:=ad s (Ey z:f.n+1=_);have Oj:l.w=W.w:=ad s Oi;have OA:∀k,k<=W.n->l.p k=W.p k:=λk D=>by exact ad s (Z (P4<|yz z D)<|Z (P4<|yz z D)<|Oz k D:(if k=f.n+1 then _ else if k=f.n+1 then _ else f.p k)=_)
 have Ow:l.cG=W.cG:=ad s Ov;have OE:l.y E (.d []):=by exact ad s<|(av.a_).k _ _<|(av.b_<|h_ M.2.1 M.2.2).k _ _ dA
 clear s;refine hP (T.C N5) (b5 (by refine(?_:0<=_);decide)) ?_;have NR:=T.dq N5<|.d<|[]++[.a g];have X:=NR.ey rfl;have K:=(j.t _<|dw z.symm).trans N7;have C:av l ((l.dq c<|.d<|[]++[.a g]).ey c<|.d<|[]++[.a g]):=av.dq.q<|av.ey NR rfl;generalize O:(l.dq c<|.d<|[]++[.a g]).ey c (.d<|[]++[.a g])=x at X C;have Ol:x.p=l.p/\x.t=l.t/\x.n=l.n/\x.w=l.w/\x.C=none:=ad O<|pt rfl rfl rfl rfl rfl;have Ox:x.cG=W.cG:=ad O Ow;have Op:x.y c (.d [.a g]):=ad O ⟨P8 rfl,P8 rfl⟩;clear O;refine tq Ol λN' NP OH OI OJ=>?_;have NZ:x.p (W.n+1)=some (.az 0 false false m c):=Z N' Ok;have NV:=X.cr NZ;rw[NP,K] at NV;refine eE NV ∅ ?_;have H:=X.a_ NZ<|.az 0 true false m c;replace H:=K▸NP▸H;refine Z (∅:af.aD (bK.ay<|.az 0 false false m c) (cN ("blessed":Str) (.l "P")<|hx (W.n+1)<|.az 0 false false m c)=eT (W.n+1) (.az 0 true false m c)) ?_;generalize u:x.a_ (W.n+1) (.az 0 true false m c)=q at H;have A:av W q:=ad u<|((B.q j).q C).q .a_;have N3:q.p (W.n+1)=some (.az 0 true false m c):=ad u<|P8 rfl;have P:q.t=l.t:=ad u NP;have J:q.n=W.n+2:=ad u<|OH.trans Oh;have I:q.w=W.w:=ad u<|OI.trans Oj;have NY:∀k,k≠W.n+1->q.p k=l.p k:=λk D=>ad u<|ad N'<|P4 D;have Oq:q.y c (.d [.a g]):=ad u Op;have Oy:dy W q:=ad u ⟨Ox,OJ.trans N_.symm⟩;have OB:q.y m (.d []):=ad u<|av.a_.k _ _<|C.k _ _<|j.k _ _ OD;have OC:q.y E (.d []):=ad u<|av.a_.k _ _<|C.k _ _ OE;clear u;have NW:=H.cr N3;rw[P,K] at NW;refine aK NW (v:=.c (W.n+1:Nat)) ∅ ?_;have NX:=H.g_;rw[I,A.i,<-NN] at NX;have On:dn (.c (W.n+1:Nat)) (ht W.w)=none:=uO λe Oo=>by refine ah (zh Oo) λk Oe Of=>(Z Of ?_);intro D;exact Nat.not_succ_le_self _<|aM (dw (fr (Y.c.inj D:(k.bk:Int)=(W.n+1:Nat))).symm)<|y k Oe
 have Os:(ht W.w).length=W.w.length:=by exact Z List.length_mapIdx rfl
 refine mc NX ∅ (b5<|Z Os<|pC N9)<|Z (qY On)<|Z NN<|ad A.i ?_;generalize Ot:(OK.Q c<|.d<|[]++[.a g]).f=OG;have NS:=H.j8 ⟨W.n+1,OG,c,W.n+2⟩;rw[I] at NS;refine LJ NS λr OL U Ou Oc=>?_;have U:=U.trans Ot;subst U;have Q:=(.j8:av q (q.j8 ⟨W.n+1,r,c,W.n+2⟩)).q<|av.M (o:=.aD 8 [("target",.a a),("is_weak",.b' false)]) Ou;refine OF r _ OL ⟨A.q Q,Oy,J,λk y=>?_,c,?_,am m N3<|Q.k _ _ OB,?_,am E ?_<|Q.k _ _ OC,?_,b9 ?_ ?_ (λb=>cV [⟨1,.h (.b 0)<|.e 2,.h (.b 0)<|.e 1⟩] rfl [W.n] (P2 b.symm):W.n+1≠W.n+2)⟩ Oc;exact(NY k<|jy y).trans<|OA k y;exact(Z I rfl:q.w++[_]=_);have:=Q.k _ _ Oq;rw[<-Om,<-P] at this;exact this;exact(NY _ (xf:W.n+2≠W.n+1)).trans Og;have:=dA (W:=q.j8 ⟨W.n+1,r,c,W.n+2⟩) (a:=r) (o:=.aD 8 [("target",.a a),("is_weak",.b' false)]);rw[<-K,<-P] at this;exact ad K<|ad P this;exact(Cv J:W.n+1<=q.n);exact(dw J.symm:W.n+2<=q.n)
end
section
theorem kR(b:c.r A=some (.d f))(n:∀x∈f,∀(h:List Y->aa) i,h (l x) c->j x h i c):∀(g a:Nat) (h:List Y->aa) (i:Y->aa),f.length - a<g->h ((f.drop a).flatMap l) c->bo (.d<|.a A) j g a h i c:=by intro p;induction p with|zero=>intro a h i e k;exact absurd e (Q8 _)|succ g o=>intro a h i e k;refine(ep b ?_:J (dv (.d<|.a A) a) _ c);cases d:f[a]? with|none=>rw[Qj<|PX.1 d] at k;exact k|some x=>have m:=(P1.1 d).1;rw[Qc m,(P1.1 d).2] at k;exact n x (PW d) _ _<|o (a+1) _ _ (ga e m) k
theorem KM(b:d.r A=some (.d f))(e:f.length<aJ)(k:h (f.flatMap λx=>if x=.s then[] else[x]) d):bo (.d<|.a A) (λx h i=>J (cW .IsNot x .s) λg=>J (dD g) λc=>if c then h [x] else h []) aJ 0 h i d:=by refine kR b (λx _ h i k=>?_) aJ 0 h i e k;by_cases a:x=.s;subst a;exact kt<|aL<|bx rfl (by rw[P8 rfl] at k;exact k);rw[P4 a] at k;exact wP x a<|aL<|bJ rfl k
theorem qy(b:c.r a=some (.aD 3 d))(e:d.lookup ("magic":Str)=some .s)(f:h .s c):ag (n+2) p (.B 90 0) [.a a] h i c:=bp uG ∅<|eq b ∅ ∅<|aL<|bJ ∅<|aK b e<|eQ<|lW ∅<|aL<|bx rfl f
theorem rz(b:c.r a=some (.aD 4 d))(e:d.lookup ("tied":Str)=some .s)(f:h .s c):ag (n+2) p (.B 90 0) [.a a] h i c:=bp uG ∅<|eq b ∅ ∅<|aL<|bx ∅<|eQ<|eq b ∅ ∅<|aL<|uu ∅<|bJ rfl (aK b e<|eQ<|lW ∅<|aL<|bx rfl f)
theorem tX{h:Y->aa}(o:G W k)(b:k.r a=some (.d d))(w:a<k.f)(q:∀x∈d,x≠.s)(p:d.length+1<aJ)(m:d.length<=1000)(r:∀j l,W.al j=none->G (W.M j<|.d d) l->h (.a j) l):J (a4<|.d [.s]) (λf=>J (bW .Add (.a a) f) λn=>bY n λs=>bo s (λx h i=>J (cW .IsNot x .s) λg=>J (dD g) λc=>if c then h [x] else h []) aJ 0 (λd=>if Nat.ble d.length bl then J (a4<|.d d) (λf=>h f) else ae) aB) k:=by
 refine bF<|qh (eC b w) (c8 _ _) (b5 (pb m:d.length+1<=_))<|dQ (c8 _ _)<|KM (c8 _ _) (Z P3 p) ?_;have e:(d++[Y.s]).flatMap (λx=>if x=.s then[] else[x])=d:=by refine Z List.flatMap_append ?_;(have:d.flatMap (λx=>if x=Y.s then[] else[x])=d:=by clear m p b r;induction d with|nil=>rfl|cons x d z=>rw[List.flatMap_cons,P4<|q x<|.head _,z λt y=>q t<|.tail _ y];rfl);refine Z this ?_;simp
 exact Z e<|bJ (b5<|m2 m)<|o2 ((o.dh _).dh _) λj l v u _ _=>r j l (v▸((o.dh _).dh _).bH (P5 _)) u
theorem K2(k:G W c)(b:c.r a=some (.aD 3 g))(s:g.lookup ("magic":Str)=some .s)(j:a<c.f)(r:100<aJ)(u:∀f q,W.al f=none->G (W.M f<|.d []) q->h (.a f) q):ag (n+3) p (.B 91 0) [.a a] h i c:=by refine bp xE ∅<|hg<|gR (c8 _ _) ?_;have l:=(k.dh<|.h1 none).fi (k.bH<|P5 _)<|.h1<|some<|.a a;have e:((c.z<|.h1 none).Q c.f<|.h1<|some<|.a a).r a=some (.aD 3 g):=f9 (eC b j)<|Q6 j;have d:((c.z<|.h1 none).Q c.f<|.h1<|some<|.a a).r c.f=some (.h1<|some<|.a a):=fZ _ _ _;have o:a<((c.z<|.h1 none).Q c.f<|.h1<|some<|.a a).f:=Rb j;have m:c.f<((c.z<|.h1 none).Q c.f<|.h1<|some<|.a a).f:=P' _;generalize(c.z<|.h1 none).Q c.f (.h1<|some<|.a a)=v at l e d o m;exact b2 d<|eq e ∅ ∅<|aL<|bx ∅<|b2 d<|eq e ∅ ∅<|aL<|bx ∅<|b2 d<|eq e ∅ ∅<|aL<|bx ∅<|b2 d<|eq e ∅ ∅<|aL<|bx ∅<|bF<|b2 (eC d m)<|qy (eC e o) s<|tX (l.dh _) (c8 _ _) (P' _) (λx t=>nomatch t) (aM #[] r:0+1<aJ) (Qp _) u
theorem EL(m:G W c)(b:c.r a=some (.aD 4 g))(z:g.lookup ("tied":Str)=some .s)(w:g.lookup ("items":Str)=some (.a e))(y:c.r e=some (.d d))(q:a<c.f)(l:e<c.f)(A:∀x∈d,x≠.s)(s:d.length<=10)(v:100<aJ)(B:∀k u,W.al k=none->G (W.M k<|.d d) u->h (.a k) u):ag (n+3) p (.B 91 0) [.a a] h i c:=by refine bp xE ∅<|hg<|gR (c8 _ _) ?_;have o:=(m.dh<|.h1 none).fi (m.bH<|P5 _)<|.h1<|some<|.a a;have j:((c.z<|.h1 none).Q c.f<|.h1<|some<|.a a).r a=some (.aD 4 g):=f9 (eC b q)<|Q6 q;have t:((c.z<|.h1 none).Q c.f<|.h1<|some<|.a a).r e=some (.d d):=f9 (eC y l)<|Q6 l;have f:((c.z<|.h1 none).Q c.f<|.h1<|some<|.a a).r c.f=some (.h1<|some<|.a a):=fZ _ _ _;have r:e<((c.z<|.h1 none).Q c.f<|.h1<|some<|.a a).f:=Rb l;generalize(c.z<|.h1 none).Q c.f (.h1<|some<|.a a)=C at o j t f r;exact b2 f<|eq j ∅ ∅<|aL<|bJ ∅<|b2 f<|aK j w<|b2 f<|rz j z<|tX o t r A (an [⟨1,.h (.e 100)<|.e 1,.b 0⟩,⟨1,.b 1,.e 10⟩] (.h (.h (.b 1)<|.e 1)<|.e 1) (.b 0) rfl [aJ,d.length] v s) (cv s) B
theorem Fr(b:c.r a=some (.aD 3 d))(e:d.lookup ("magic":Str)=some .s)(f:h .s c):ag (n+3) p (.B 92 0) [.a a] h i c:=by exact bp ul ∅<|eQ<|qy b e<|kt<|aL<|jb rfl (bx rfl (qy b e<|kt<|aL<|bx rfl (eq b ∅ ∅<|aL<|bx ∅<|eq b ∅ ∅<|aL<|bx ∅<|eq b ∅ ∅<|aL<|bx ∅<|eq b ∅ ∅<|aL<|bx ∅ f)))
theorem ze(e:G W j)(d:W.C=some (a,.aD 4 c))(g:c.lookup ("tied":Str)=some .s)(l:Nat.blt c.length 100=true)(m:∀o k,G (W.dq a o) k->h .s k):ag (n+3) p (.B 92 0) [.a a] h i j:=by refine bp ul ∅ ?_;have b:=e.C d;refine eQ<|rz b g<|kt<|aL<|jb rfl (bx rfl (rz b g<|kt<|aL<|bx rfl (eq b ∅ ∅<|aL<|bJ ∅ ?_)));have f:=e.dh<|.d [];exact bF<|eE (f.C d) l<|m _ _<|f.dq d _
end
structure c0(W d:N)(b:Nat->Option bK)(c:List Nat)(a:List Y):Prop where
 m:av W d
 bG:d.bG=W.bG
 a6:d.a6=W.a6
 O:d.O=W.O
 aE:d.aE=W.aE
 aA:d.aA=W.aA
 w:d.w=W.w
 n:d.n=W.n
 p:d.p=b
 u:d.u=c
 E:d.E=a
noncomputable def e4(b:Nat->Option bK)(n:Nat)(a:Option bK):Nat->Option bK:=λk=>if k=n then a else b k
theorem xC:e4 (e4 b n a) n g=e4 b n g:=by funext q;unfold e4;by_cases c:q=n<;>simp only[c,if_true,if_false]
theorem c0.cK:c0 W W W.p W.u W.E:=⟨.cK,rfl,rfl,rfl,rfl,rfl,rfl,rfl,rfl,rfl,rfl⟩
theorem c0.q{p:List Y}(a:c0 W b h i f)(g:c0 b d c e p):c0 W d c e p:=⟨a.m.q g.m,g.2.trans a.2,g.3.trans a.3,g.4.trans a.4,g.5.trans a.5,g.6.trans a.6,g.7.trans a.7,g.8.trans a.8,g.p,g.u,g.E⟩
theorem c0.M(a:c0 W d c e f)(b:d.al g=none):c0 W (d.M g o) c e f:=⟨a.m.q<|.M b,a.2,a.3,a.4,a.5,a.6,a.7,a.8,a.p,a.u,a.E⟩
theorem c0.a_(a:c0 W d b c f){n:Nat}:c0 W (d.a_ n x) (e4 b n<|some x) c f:=⟨a.m.q .a_,a.2,a.3,a.4,a.5,a.6,a.7,a.8,ad a.p rfl,a.u,a.E⟩
theorem c0.ip(a:c0 W d b c f):c0 W (d.ip v) b c (f++[v]):=⟨a.m.q<|.dN rfl rfl rfl rfl rfl,a.2,a.3,a.4,a.5,a.6,a.7,a.8,a.p,a.u,ad a.E rfl⟩
noncomputable def N.cT(W:N):N:={W with C:=none,al:=λg=>if W.al g=some .C then none else W.al g}
section
theorem G.cT(c:G W g):G W.cT g:=by
 have al:∀a r,W.cT.al a=some r->W.al a=some r/\r≠.C:=λa r b=>by change (if W.al a=some .C then none else W.al a)=some r at b;by_cases e:W.al a=some .C;rw[P8 e] at b;exact bm b;replace b:=(P4 e)▸b;exact⟨b,λx=>e<|x▸b⟩
 refine⟨λa r b=>?_,λa r b=>?_,λr b=>?_,⟨c.a3.cA,c.a3.dE,c.a3.dj⟩,c.L⟩;obtain⟨d,f⟩:=al a r b;have:=c.bw a r d;refine⟨this.1.trans<|Q3 some ?_,this.2⟩;cases r<;>first|rfl|exact(f rfl).elim
 obtain⟨d,f⟩:=al a r b;rcases c.bO a r d with x|⟨x,t⟩
 exact .inl x;cases r<;>first|exact .inr ⟨x,t⟩|exact(f rfl).elim
 have n:r≠.C:=λi=>by subst i;exact bA b λj x=>bm x
 have h:W.bj r:=by cases r<;>first|exact b|exact(n rfl).elim
 have e:W.cT.o r=W.o r:=by cases r<;>first|rfl|exact(n rfl).elim
 have:=c.bj r h;exact(Z e<|Z this<|Z (P4 λx=>n<|P0 x) rfl:(if W.al (W.cT.o r)=some .C then none else W.al<|W.cT.o r)=_)
theorem av.cT:av W W.cT:=⟨rfl,λa o b=>⟨(P4 (by refine Z b.1 ?_;intro c;cases c)).trans b.1,b.2⟩,P5 _,λ_ _=>rfl⟩
end
section
theorem K'(j:G W y)(l:bt W)(b:W.p k=some (.az 0 true false e a))(C:dn (.c k) (ht W.w)=some (.c (m:Nat)))(B:W.E.length<=100000)(D:∀d z f,G d z->c0 W d (e4 W.p k<|some<|.az 0 true true e a) W.u (W.E++[.a f])->d.y f (.A [.l "gone",.c (m:Nat)])->d.C=W.C->h .s z):ag (n+2) p (.B 94 11) [.a W.i.bN,.a<|W.t k] h i y:=by refine bp s0 ∅<|eQ<|aK (j.cr b) (v:=.c 0) ∅<|tN<|aL<|m9 rfl (aK (j.cr b) (v:=.l "P") ∅<|or _ (λu=>by cases u)<|aL<|m9 rfl (aK (j.cr b) ∅<|aL<|m9 rfl (aK (j.k l.bN) (v:=.a W.i.kv) ∅<|or _ (λu=>by cases u)<|aL<|m9 rfl (bx rfl (eE (j.cr b) ∅ ?_)))));have q:=j.a_ b<|.az 0 true true e a;refine Z (∅:af.aD (bK.ay<|.az 0 true false e a) (cN ("is_destroyed":Str) (.b' true)<|hx k<|.az 0 true false e a)=eT k (.az 0 true true e a)) ?_;have s:(W.a_ k<|.az 0 true true e a).p k=some (.az 0 true true e a):=P8 rfl;refine aK (q.cr s) (v:=.c 0) ∅<|k0 rfl rfl (eE (q.cr s) ∅ ?_);have g:=q.a_ s<|.az 1 true true e a;refine Z (∅:af.aD (bK.ay<|.az 0 true true e a) (cN ("count":Str) (.c<|0+1)<|hx k<|.az 0 true true e a)=eT k (.az 1 true true e a))<|y3 (g.k l.bN) ∅ ∅ ∅<|l2 (g.k l.kv) ∅ zk<|b2 (g.k l.hB)<|fe g.E ∅<|b2 (g.k l.fT)<|aK (g.cr<|P8 rfl) ∅<|gZ g.g_ ∅ C<|o2 g λf E A w _ _=>(hP w.E (b5 (lA B:W.E.length<=_)) ?_);have r:=w.ip<|.a f;have t:((((W.a_ k<|.az 0 true true e a).a_ k<|.az 1 true true e a).M f<|.A [.l "gone",.c (m:Nat)]).ip<|.a f).p k=some (.az 1 true true e a):=P8 rfl;refine aK (r.cr t) ∅<|xL rfl rfl (eE (r.cr t) ∅<|Z (∅:af.aD (bK.ay<|.az 1 true true e a) (cN ("count":Str) (.c<|1 - 1)<|hx k<|.az 1 true true e a)=eT k (.az 0 true true e a)) ?_);have c:=(((((c0.cK).a_).a_ (n:=k)).M (o:=.A [.l "gone",.c (m:Nat)])<|A▸g.bH (P5 _)).ip (v:=.a f)).a_ (n:=k) (x:=.az 0 true true e a);refine D _ _ f (r.a_ t<|.az 0 true true e a) ?_ ?_ rfl;rw[xC,xC] at c;exact c;exact av.a_.k _ _<|(av.dN rfl rfl rfl rfl rfl:av (((W.a_ k<|.az 0 true true e a).a_ k<|.az 1 true true e a).M f _) ((((W.a_ k<|.az 0 true true e a).a_ k<|.az 1 true true e a).M f _).ip<|.a f)).k _ _ dA
end
inductive mD(W:N)(d:Nat->Option bK)(b:List Nat):Y->(Nat->Option bK)->List Nat->Prop
 |s:mD W d b .s d b
 |c i:mD W d b (.c i) d b
 |a {r k c e f h g}:lP W r k->k<=W.n->d k=some (.az c e f h g)->c≠0->c<=100000->b.length<=100000->mD W d b (.a r) (e4 d k<|some<|.az (c - 1) e f h g) (if c=1 then b++[k] else b)
theorem mD.jx(b:mD W j l v o p)(c:c0 W d j l f)(g:N)(e:c0 g d j l f):∃h,i7 d v h/\c0 g h o p f/\h.C=d.C:=by induction b with|s=>exact cp d .s e rfl|c C=>exact cp d (.c C) e rfl|@a r k m q t E D u w y z A B=>refine cp _ (.a (u.m c.m w) (Z c.p y) z A<|Z c.u B) (?_:c0 g (if m=1 then _ else _) _ _ _) (by unfold N.gA;split<;>rfl);by_cases i:m=1;refine Z i<|Z (P8 rfl)<|Z (P8 rfl) ?_;have x:=e.a_ (n:=k) (x:=.az (1 - 1) q t E D);exact⟨x.m.q .d9,x.2,x.3,x.4,x.5,x.6,x.7,x.8,x.p,ad e.u rfl,x.E⟩;exact Z (P4 i)<|Z (P4 i) e.a_
section
theorem G.xj(a:G W e)(b:W.p n=some c)(h:n∉W.u)(g:W.C=none):G ((W.gL n).cX (W.t n)<|eT n c) e/\av W ((W.gL n).cX (W.t n)<|eT n c):=by exact bs (a.gL b h) λf d=>⟨f.cX g d (a.cr b) (a.bw _ _<|a.bj (.p n) ⟨c,b⟩).2,av.gL.q<|.cX d⟩
end
section
theorem nX(e:G W n)(m:c0 g W j l f)(i:W.C=some (a,.aD c b))(p:Nat.blt b.length 100=true)(k:∀d o,G d o->c0 g d j l f->d.C=some (a,.aD c<|cN x v b)->h () o):J (fN (.a a) x v) h n:=eE (e.C i) p<|k (W.dq a<|.aD c<|cN x v b) _ (e.dq i _) ⟨m.m.q .dq,m.2,m.3,m.4,m.5,m.6,m.7,m.8,m.9,m.10,m.11⟩ rfl
theorem t8(H:G W E)(w:bt W)(b:W.p s=some (.aV 0 v t))(S:s∉W.u)(z:W.y t (.d []))(R:W.C=none)(J:mD W (e4 W.p s none) W.u v C D)(T:∀d F,G d F->c0 W d C D W.E->d.C=none->h .s F):ag (n+5) p (.B 94 12) [.a W.i.bN,.a<|W.t s] h i E:=by
 refine bp wx ∅<|bs (H.xj b S R) λK B=>(nX K (⟨B,rfl,rfl,rfl,rfl,rfl,rfl,rfl,rfl,rfl,rfl⟩:c0 W ((W.gL s).cX (W.t s)<|eT s<|.aV 0 v t) (e4 W.p s none) W.u W.E) rfl ∅ λNP NQ j r A=>aK (j.C A) ∅<|dQ (j.k<|r.m.k _ _ z) ?_);refine jE<|ep (j.k<|r.m.k _ _ z) (bR wJ<|bF<|nX (j.dh _) r A ∅ λL NR a m g=>?_:br _ _ _ _ _ _ _ _ _);refine eq (a.C g) ∅ ∅<|aL<|bJ ∅ ?_;have e:=w.m m.m;refine ad m.m.i<|aK (a.k e.bN) ∅<|pa (a.k e.lH) ∅<|aK (a.C g) (v:=.c s) ∅<|pm (a.k e.lH) rfl rfl (aK (a.k e.bN) ∅<|pa (a.k e.ln) ∅<|aK (a.C g) (v:=.c s) ∅<|pm (a.k e.ln) rfl rfl (aK (a.C g) (v:=v) ∅<|nX a m g ∅ λM NS u q I=>?_));have x:=w.m q.m;refine Z (m.m.i.trans q.m.i.symm:L.i=M.i)<|c4 (u.k x.bN) ∅ ∅<|cM (J.jx q W q) λy U O f=>(tv u x U λNT k=>?_);replace f:=I▸f;refine K2 k (k.C f) ∅ ?_ (aM #[] dL) λNO NN Q l=>?_;have P:y.o .C=W.t s:=by refine(?_:(match y.C with|some X=>X.1|none=>0)=_);exact Z f rfl
 exact P▸(k.bw _ _<|k.bj .C ⟨_,f⟩).2;have c:=O.M (o:=.d []) Q;refine Fr (l.C f) ∅<|dQ (l.k dA)<|jE<|ep (l.k dA) (?_:br _ _ _ _ _ _ _ _ _);exact bR Gb<|T _ NN l.cT ⟨c.m.q .cT,c.2,c.3,c.4,c.5,c.6,c.7,c.8,c.9,c.10,c.11⟩ rfl
end
inductive sq(W:N)(s:Nat)(b:Nat->Option bK)(a:List Nat):List Y->(Nat->Option bK)->List Nat->Prop
 |aP:sq W s b a [] b a
 |fo {g v c}:g<=W.n->g≠s->W.p g=some (.aV 1 v c)->a.length<=100000->sq W s b a [.a<|W.t g] (e4 b g<|some<|.aV 0 v c) (a++[g])
section
theorem wl{I:V}{J:List Nat}(NP:G W I)(NR:bt W)(b:W.p s=some (.az 0 K M E D))(NZ:s∉W.u)(P:W.y E (.d []))(NX:W.y D (.d f))(NY:W.C=none)(S:sq W s (e4 W.p s none) W.u f U J)(R:∀d NN,G d NN->c0 W d U J W.E->d.C=none->h .s NN):ag (n+5) p (.B 94 12) [.a W.i.bN,.a<|W.t s] h i I:=by
 refine bp wx ∅<|bs (NP.xj b NZ NY) λNQ B=>(nX NQ (⟨B,rfl,rfl,rfl,rfl,rfl,rfl,rfl,rfl,rfl,rfl⟩:c0 W ((W.gL s).cX (W.t s)<|eT s<|.az 0 K M E D) (e4 W.p s none) W.u W.E) rfl ∅ λN8 N9 u A T=>aK (u.C T) ∅<|dQ (u.k<|A.m.k _ _ P) ?_);refine jE<|ep (u.k<|A.m.k _ _ P) (bR wJ<|bF<|nX (u.dh _) A T ∅ λl N_ j L r=>?_:br _ _ _ _ _ _ _ _ _);refine eq (j.C r) ∅ ∅<|aL<|bx ∅ ?_;have NS:l.o .C=W.t s:=by refine(?_:(match l.C with|some N4=>N4.1|none=>0)=_);exact Z r rfl
 have Q:(∀x∈f,x≠.s)/\f.length<=10:=by induction S with|aP=>exact⟨λx C=>(Rc C).elim,#[]⟩|fo=>exact⟨λx C=>(by refine Z (Re.1 C) ?_;intro N5;cases N5),by refine(?_:1<=10);decide⟩
 have O:=L.m.k _ _ NX;refine EL j (j.C r) ∅ ∅ (j.k O) (NS▸(j.bw _ _<|j.bj .C ⟨_,r⟩).2) (j.bw _ _ O.1).2 Q.1 Q.2 (aM #[] dL) λm N' NU F=>?_;have c:=L.M (o:=.d f) NU;have X:=r;refine ze F X ∅ ∅ λq NO k=>?_;have a:c0 W ((l.M m<|.d f).dq (W.t s) q) (e4 W.p s none) W.u W.E:=⟨c.m.q .dq,c.2,c.3,c.4,c.5,c.6,c.7,c.8,c.9,c.10,c.11⟩;have y:((l.M m<|.d f).dq (W.t s) q).y m (.d f):=av.dq.k _ _ dA;have N6:((l.M m<|.d f).dq (W.t s) q).C=some (W.t s,q):=rfl;generalize(l.M m<|.d f).dq (W.t s) q=w at k a y N6;clear F c X;refine dQ (k.k y)<|jE<|ep (k.k y) ?_;induction S with|aP=>refine(?_:br _ _ _ _ _ _ _ _ _);exact bR Ez (R _ NO k.cT ⟨a.m.q .cT,a.2,a.3,a.4,a.5,a.6,a.7,a.8,a.9,a.10,a.11⟩ rfl)|@fo g v t NV NW NT N3=>refine(bR I8 ?_:bg _ _ _ _ _ _ _ _ _ _ NO);have H:=NR.m a.m;refine ad a.m.i<|c4 (k.k H.bN) ∅ ∅<|ad (a.m.t g NV)<|ot k H (Z a.p<|(P4 NW).trans NT) (by refine(?_:1<=_);decide) (by refine(?_:1≠0);decide) (Z a.u N3) λN7 z=>?_;rw[show w.gA g (.aV 1 v t)=(w.a_ g<|.aV 0 v t).d9 g from rfl] at z;(have e:c0 W ((w.a_ g<|.aV 0 v t).d9 g) (e4 (e4 W.p s none) g<|some<|.aV 0 v t) (W.u++[g]) W.E:=by have x:=a.a_ (n:=g) (x:=.aV 0 v t);exact⟨x.m.q .d9,x.2,x.3,x.4,x.5,x.6,x.7,x.8,x.9,ad x.u rfl,x.11⟩);refine ep (z.k<|((av.a_.q .d9:av w _)).k _ _ y) (?_:br _ _ _ _ _ _ _ _ _);exact bR zq<|R _ N7 z.cT ⟨e.m.q .cT,e.2,e.3,e.4,e.5,e.6,e.7,e.8,e.9,e.10,e.11⟩ rfl
end
noncomputable def gS(x:Nat):List Nat->List Nat|[]=>[x]|t::r=>if x<=t then x::t::r else t::gS x r
def bT(f:List Nat):List Nat:=f.foldr gS []
theorem MG(x:Nat):∀f:List Nat,jp (x:Int) (f.map λn:Nat=>(n:Int))=(gS x f).map λn:Nat=>(n:Int):=by intro d;induction d with|nil=>exact rfl|cons t r c=>unfold gS;refine(?_:(if(x:Int)<=t then(x:Int)::(t:Int)::r.map _ else(t:Int)::jp x (r.map _))=_);by_cases a:x<=t;exact Z (P8<|Int.ofNat_le.2 a)<|Z (P8 a) rfl;exact Z (P4 λb=>a<|Int.ofNat_le.1 b)<|Z (P4 a)<|Z c rfl
theorem CS:∀f:List Nat,lF (f.map λn:Nat=>(n:Int))=(bT f).map λn:Nat=>(n:Int):=by intro b;induction b with|nil=>exact rfl|cons x r a=>exact(Z (a ..)<|Z (MG ..) rfl:jp (x:Int) (lF<|r.map _)=_)
theorem uL:∀{f:List Nat},t∈gS x f↔t=x\/t∈f:=by intro c;induction c with|nil=>simp[gS]|cons d r a=>unfold gS;split;simp;rw[RD,a,RD];constructor;rintro (b|b|b);exact .inr<|.inl b;exact .inl b;exact .inr<|.inr b;rintro (b|b|b);exact .inr<|.inl b;exact .inl b;exact .inr<|.inr b
theorem iu:∀{f:List Nat},t∈bT f↔t∈f:=by intro b;induction b with|nil=>exact Iff.rfl|cons x r a=>refine(?_:t∈gS x (bT r)↔_);rw[uL,a,RD]
theorem JL:∀{f:List Nat},f.Pairwise (·<·)->x∉f->(gS x f).Pairwise (·<·):=by intro k;induction k with|nil=>intro _ _;simp[gS]|cons j r i=>intro b e;refine bs (QH.1 b) λd g=>?_;unfold gS;split;refine QH.2 ⟨λt a=>?_,b⟩;have h:x≠j:=λc=>e<|c▸.head _;(rcases RD.1 a with rfl|a);exact Nat.lt_of_le_of_ne (by assumption) h;exact fp (by assumption)<|d t a;refine QH.2 ⟨λt a=>?_,i g λc=>e<|.tail _ c⟩;(rcases uL.1 a with rfl|a);exact Nat.not_le.1 (by assumption);exact d t a
theorem zr:∀{f:List Nat},f.Nodup->(bT f).Pairwise (·<·):=by intro g;induction g with|nil=>intro _;exact .nil|cons x r d=>intro b;exact bs (List.nodup_cons.1 b) λa c=>JL (d c) λe=>a<|iu.1 e
theorem Ky:∀{f:List Nat},(gS x f).length=f.length+1:=by intro b;induction b with|nil=>exact rfl|cons c r a=>unfold gS;split<;>simp[a]
theorem hN:∀{f:List Nat},(bT f).length=f.length:=by intro b;induction b with|nil=>exact rfl|cons x r a=>exact(Z Ky<|Z a rfl:(gS x<|bT r).length=_)
section
noncomputable def jJ(W:N)(n:Nat):Y×Y:=(.c n,.a<|W.t n)
theorem B5{c:List Nat}(b:k∈c):dn (.c k) (c.map<|jJ W)=some (.a<|W.t k):=by induction c with|nil=>cases b|cons d r e=>refine(?_:(if Y.c d=.c k then _ else _)=_);by_cases a:d=k;exact Z a<|P8 rfl;refine Z (P4 λx=>a (by have:=Y.c.inj x;exact kF this)) ?_;(rcases RD.1 b with rfl|b);exact(a rfl).elim;exact e b
theorem uH{W:N}{a:List Nat}(g:G (W.dq h<|.K<|(a.take d).map<|jJ W) n)(C:W.y c (.h1<|some<|.a h))(y:a[d]?=some k)(b:W.p k=some f)(A:f.dd=0)(dU:a.Nodup)(F:a.length<64)(H:∀o,G (W.dq h<|.K<|(a.take<|d+1).map<|jJ W) o->R o):cU (λu=>if u then(J (b6 c) λL=>J (ee (.a<|W.t k) "number") λr=>J (jL L r<|.a<|W.t k) λ_=>R) else p) (λl=>J (ee (.a<|W.t k) "count") λs=>J (cW .Eq s<|.c 0) λv=>J (dD v) λw=>dc .And w l<|J (ee (.a<|W.t k) "is_freed") λt=>J (dD t) λz=>dc .And (!z) l<|l true) n:=by
 have i:=g.cr b;refine eQ<|aK i (lx k f)<|ek<|aL<|hJ (Z A rfl)<|aK i (wQ k f)<|aL<|hJ rfl (bJ rfl (b2 (g.k<|av.dq.k _ _ C)<|aK i (JP k f) ?_));have m:=(P1.1 y).1;refine mc (g.C rfl) ∅ (b5<|Z (P6 ..)<|Z (List.length_take ..)<|aM (Nat.min_le_right d a.length)<|aM (gw F) #[]) ?_;have D:dn (.c k) ((a.take d).map<|jJ W)=none:=uO λe E=>by refine ah (Qa.1 E) λq B M=>(ad M ?_);intro K;(have:q=k:=by have:=Y.c.inj K;exact kF this);subst this;obtain⟨x,j,e⟩:=List.getElem_of_mem B;rw[List.getElem_take] at e;rw[List.length_take] at j;have:=(P1.1 y).2;exact List.pairwise_iff_getElem.1 dU x d (gH j<|Nat.min_le_right ..) m (gH j<|Nat.min_le_left ..)<|e.trans this.symm
 refine Z (qY D)<|H _ ?_;have:=g.dq rfl (.K<|(a.take d).map (jJ W)++[(.c k,.a<|W.t k)]);refine Z (List.take_succ_eq_append_getElem m)<|Z ((P1.1 y).2) ?_;refine Z Rd ?_;exact this
theorem JF{W:N}{a:List Nat}(w:W.y A (.d<|a.map λn=>.a<|W.t n))(y:W.y c (.h1<|some<|.a i))(C:∀k∈a,∃l,W.p k=some l/\l.dd=0)(dU:a.Nodup)(z:a.length<64):∀(j d:Nat) (v:Y) (f:V),a.length - d<j->d<=a.length->G (W.dq i<|.K<|(a.take d).map<|jJ W) f->(∀x h,G (W.dq i<|.K<|a.map<|jJ W) h->U (.f<|Na r x c) h)->ci (.d<|.a A) (bg u m p 57 (as 93 0) (bv (ab 93 0) 1)<|au (ab 93 0) 1 0) j d (Na r v c) U f:=by intro E;induction E with|zero=>intro d v f b _ _ _;exact absurd b (Q8 _)|succ j D=>intro d v f b F e q;refine ep (e.k<|av.dq.k _ _ w)<|Z Q7 ?_;cases g:a[d]? with|none=>have:=PX.1 g;replace e:=(List.take_of_length_le this)▸e;exact q _ _ e|some k=>have o:=(P1.1 g).1;refine ah (C k<|PW g) λl B t=>(bR Ak ?_:bg _ _ _ _ _ _ _ _ _ _ f);exact uH e y g B t dU z λh s=>D (d+1) _ h (ga b o) o s q
theorem Mx(f:List Nat):mV (f.map λn:Nat=>Y.c n)=some (f.map λn:Nat=>(n:Int)):=by induction f with|nil=>rfl|cons x r a=>exact(Z a rfl:(mV<|r.map _).map _=_)
theorem MD(b:a.r c=some (.K d))(g:d.map (·.1)=f.map λn:Nat=>Y.c n)(j:f.length<64)(k:h (.a a.f) (a.z<|.d<|(bT f).map λn:Nat=>Y.c n)):ag (n+1) false (.a' "sorted") [.a c] h i a:=nF (by have e:=lE.hW rfl (v:=.a c) b (Z g<|Mx f) (Z (P6 ..)<|Nat.ble_eq_true_of_le j);rw[CS,List.map_map] at e;exact bq _ _ e k)
theorem FC(C:G W b)(NN:W.C=none)(U:W.y A (.d<|p.map λn=>.a<|W.t n))(NQ:∀k∈p,∃u,W.p k=some u/\u.dd=0)(dU:p.Nodup)(I:p≠[])(s:p.length<64)(NS:∀d z P,G d P->c0 W d W.p W.u W.E->d.C=none->d.y z (.d<|(bT p).map λn=>.a<|W.t n)->h (.a z) P):ag (n+2) false (.B 93 0) [.a A] h i b:=by
 refine bp J6 ∅<|hg<|bF<|gR (eC (c8 _ _)<|P' _) ?_;have H:=C.bH<|P5 _;have L:=(((C.dh<|.h1 none).dh<|.K []).fi H<|.h1<|some<|.a<|b.f+1).n' H (fZ _ _ _)<|Rb<|P' _;have B:(W.M b.f<|.h1<|some<|.a<|b.f+1).al (b.f+1)=none:=h_ (C.bH<|Q4 _)<|Nat.succ_ne_self _;have v:=L.cX NN B (f9 (c8 (b.z<|.h1 none)<|.K [])<|Nat.succ_ne_self _)<|P' _;have w:((W.M b.f<|.h1<|some<|.a<|b.f+1).cX (b.f+1)<|.K []).y b.f (.h1<|some<|.a<|b.f+1):=(av.cX B).k _ _ dA;have j:av W ((W.M b.f<|.h1<|some<|.a<|b.f+1).cX (b.f+1)<|.K []):=(av.M H).q<|.cX B;have c:c0 W ((W.M b.f<|.h1<|some<|.a<|b.f+1).cX (b.f+1)<|.K []) W.p W.u W.E:=⟨j,rfl,rfl,rfl,rfl,rfl,rfl,rfl,rfl,rfl,rfl⟩;have NT:((W.M b.f<|.h1<|some<|.a<|b.f+1).cX (b.f+1)<|.K []).C=some (b.f+1,.K []):=rfl;generalize E:(W.M b.f<|.h1<|some<|.a<|b.f+1).cX (b.f+1) (.K [])=f at v w c NT;have O:f.t=W.t:=ad E rfl;have T:f=f.dq (b.f+1) (.K<|([]:List Nat).map<|jJ f):=by refine ad E ?_;rfl
 clear E j L B;have F:f.y A (.d<|p.map λn=>.a<|f.t n):=Z O<|c.m.k _ _ U;have M:∀k∈p,∃u,f.p k=some u/\u.dd=0:=Z c.p NQ;refine dQ (v.k F) ?_;obtain⟨l,m,rfl⟩:∃l m,p=l::m:=by cases p with|nil=>exact(I rfl).elim|cons l m=>exact g' l m rfl
 refine jE<|ep (v.k F)<|ah (M l<|.head _) λu NO X=>(bR Ap ?_:bg _ _ _ _ _ _ _ _ _ _ _);rw[T] at v;refine uH (d:=0) v w rfl NO X dU s λNV Q=>?_;refine JF F w M dU s (fP+4) 1 _ NV (by exact gH (Nat.lt_of_succ_lt_succ s:m.length<63)<|Nat.le_of_succ_le_succ<|aM (#[]:64<=100000) oG) (by simp) Q λx NX D=>(bR Mz<|b2 (D.k<|av.dq.k _ _ w)<|MD (D.C rfl) (Z List.map_map rfl) s ?_:br _ _ _ _ _ _ _ _ _);have y:=D.dh<|.d<|(bT<|l::m).map λn:Nat=>Y.c n;refine dQ (c8 _ _)<|kR (c8 _ _) (l:=λx=>match x with|.c K=>[.a<|f.t K.toNat]|_=>[]) (λt NP h i k=>?_) _ 0 _ _ (Z (P6 ..)<|Z (hN ..)<|sD dL s) ?_;refine ah (Qa.1 NP) λq J NU=>?_;subst NU;exact b2 (y.k<|av.dq.k _ _ w)<|gZ (y.C rfl) rfl (B5<|iu.1 J) k;have e:((bT<|l::m).map λn:Nat=>Y.c n).flatMap (λx=>match x with|.c K=>[Y.a<|f.t K.toNat]|_=>[])=(bT<|l::m).map λn=>.a<|f.t n:=by induction bT (l::m) with|nil=>rfl|cons a r NR=>exact(Q3 _ NR:_::_=_::_)
 show(if _ then _ else _:aa) _;refine Z Qq<|Z e<|bJ (b5<|Z (P6 ..)<|Z (hN ..)<|aM (gw s) #[])<|o2 y λz NW S R _ _=>?_;have g:=(⟨c.m.q .dq,c.2,c.3,c.4,c.5,c.6,c.7,c.8,c.9,c.10,c.11⟩:c0 W (f.dq (b.f+1)<|.K<|(l::m).map<|jJ f) W.p W.u W.E).M (o:=.d<|(bT<|l::m).map λn=>.a<|f.t n)<|S▸y.bH (P5 _);exact NS _ z NW R.cT ⟨g.m.q .cT,g.2,g.3,g.4,g.5,g.6,g.7,g.8,g.9,g.10,g.11⟩ rfl (ad O<|av.cT.k _ _ dA)
end
noncomputable def N.hI(W:N)(a:Nat)(b:List Nat):N:={W with fF:=a,u:=b,al:=λg=>if g=a then some .u else if W.al g=some .u then none else W.al g}
section
theorem av.hI(b:W.al a=none):av W (W.hI a f):=⟨rfl,λg o c=>by(have d:g≠a:=λx=>by have t:=c.1;rw[x,b] at t;exact bm t);(have e:¬W.al g=some .u:=λx=>by rw[c.1] at x;exact absurd x (by intros;contradiction));exact⟨(P4 d).trans<|(P4 e).trans c.1,c.2⟩,P5 _,λ_ _=>rfl⟩
theorem G.hI{k:V}(d:G W k)(b:W.al a=none)(s:k.r a=some (.d<|f.map λn=>.a<|W.t n))(o:a<k.f)(v:∀n∈f,n∈W.u):G (W.hI a f) (k.Q W.i.H<|.aD 9<|mw W.i W.n a):=by
 have m:W.al W.i.H=some .dC:=d.bj .dC Qd;have al:∀g r,g≠a->(W.hI a f).al g=some r->W.al g=some r/\r≠.u:=λg r j c=>by change (if g=a then some cn.u else if W.al g=some .u then none else W.al g)=some r at c;rw[P4 j] at c;by_cases e:W.al g=some .u;rw[P8 e] at c;exact bm c;replace c:=(P4 e)▸c;exact⟨c,λx=>e<|x▸c⟩
 have q:∀g r,W.al g=some r->g≠a:=λg r j c=>by rw[c,b] at j;exact bm j
 refine⟨λg r c=>?_,λg r c=>?_,λr c=>?_,⟨d.a3.cA,λn p=>d.a3.dE n<|v n p,d.a3.dj⟩,d.L⟩;by_cases e:g=a;subst e;change (if g=g then some cn.u else _)=some r at c;rw[P8 rfl] at c;obtain rfl:=P0 c;exact⟨Z (hM ..)<|Z (P4 (λx=>by rw[x,m] at b;exact h2 b) ..) s,o⟩;obtain⟨h,l⟩:=al g r e c;have:=d.bw g r h;refine⟨Z (hM ..) ?_,this.2⟩;by_cases i:g=W.i.H;subst i;rw[m] at h;obtain rfl:=P0 h;exact Z (P8 rfl) rfl;refine Z (P4 i)<|this.1.trans<|Q3 some ?_;induction r with|dC=>(rcases d.bO g _ h with x|⟨_,x⟩);cases x;exact(i x).elim|u=>exact(l rfl).elim|_=>rfl
 by_cases e:g=a;subst e;change (if g=g then some cn.u else _)=some r at c;rw[P8 rfl] at c;obtain rfl:=P0 c;exact .inr ⟨Qd,rfl⟩;obtain⟨h,l⟩:=al g r e c;rcases d.bO g r h with x|⟨x,t⟩
 exact .inl x;cases r<;>first|exact .inr ⟨x,t⟩|exact(l rfl).elim
 by_cases e:r=.u;exact Z e<|P8 rfl;have w:W.bj r:=by cases r<;>exact c
 have i:(W.hI a f).o r=W.o r:=by cases r<;>first|rfl|exact(e rfl).elim
 have:=d.bj r w;exact(Z i<|Z (P4<|q _ _ this)<|Z (P4 (λx=>by rw[this] at x;exact e<|P0 x)) this:(if(W.hI a f).o r=a then some cn.u else if W.al ((W.hI a f).o r)=some .u then none else W.al<|(W.hI a f).o r)=_)
end
section
def m5(m:I)(l b:Nat)(g:Nat->Nat)(c:Nat->N->Prop)(S:List Nat):Prop:=∀a k,S[a]?=some k->∀W e (h i:Y->aa),G W e->bt W->W.i.bN=b->c a W->(∀d f,G d f->av W d->c (a+1) d->h .s f)->m (.B 94 l) [.a b,.a<|g k] h i e
theorem te(dm:m5 m 11 f w q S):∀(s a:Nat) (v:Y) (W:N) (c:V),S.length - a<s->G W c->bt W->W.i.bN=f->W.y h (.d<|S.map λn=>.a<|w n)->q a W->(a<=S.length)->(∀d l x,G d l->av W d->q S.length d->U (.f<|kQ (.a f) D (.a h) x) l)->ci (.d<|.a h) (bg u m p 54 (as 94 10) (bv (au (ab 94 10) 0 0) 2)<|au (au (ab 94 10) 0 0) 2 0) s a (kQ (.a f) D (.a h) v) U c:=by intro P;induction P with|zero=>intro a v W c b _ _ _ _ _ _ _;exact absurd b (Q8 _)|succ s O=>intro a v W c b g o r z A M C;refine ep (g.k z)<|Z Q7 ?_;cases t:S[a]? with|none=>have:=PX.1 t;have e:=Q0 M this;subst e;exact C W c v g .cK A|some k=>have B:=(P1.1 t).1;refine(bR AY ?_:bg _ _ _ _ _ _ _ _ _ _ c);have y:=g.k o.bN;rw[r] at y;exact c4 y ∅ ∅<|dm a k t W c _ _ g o r A λd l E i H=>O (a+1) _ d l (ga b B) E (o.m i) (Z i.i r) (i.k _ _ z) H B λL Q x F j K=>C L Q x F (i.q j) K
theorem IS(dm:m5 m 12 h t l S)(T:∀a k W,S[a]?=some k->l a W->∃g,W.p k=some g/\g.dd=0/\W.t k=t k):∀(A a:Nat) (v:Y) (W:N) (c:V),S.length - a<A->G W c->bt W->W.i.bN=h->W.y i (.d<|S.map λn=>.a<|t n)->l a W->(a<=S.length)->(∀d r x,G d r->av W d->l S.length d->U (.f<|kQ (.a h) F (.a i) x) r)->ci (.d<|.a i) (bg u m p 53 (as 94 10) (bv (au (ab 94 10) 0 0) 3)<|au (au (ab 94 10) 0 0) 3 0) A a (kQ (.a h) F (.a i) v) U c:=by intro NN;induction NN with|zero=>intro a v W c b _ _ _ _ _ _ _;exact absurd b (Q8 _)|succ A J=>intro a v W c b f s y C z X E;refine ep (f.k C)<|Z Q7 ?_;cases o:S[a]? with|none=>have:=PX.1 o;have e:=Q0 X this;subst e;exact E W c v f .cK z|some k=>have D:=(P1.1 o).1;refine cM (T a k W o z) λg P Q R=>(bR JC ?_:bg _ _ _ _ _ _ _ _ _ _ c);have w:=f.cr P;rw[R] at w;refine eQ<|aK w (lx k g)<|ek<|aL<|hJ (Z Q rfl)<|aK w (wQ k g)<|aL<|hJ rfl (bJ rfl ?_);have B:=f.k s.bN;rw[y] at B;exact c4 B ∅ ∅<|dm a k o W c _ _ f s y z λd r H q L=>J (a+1) _ d r (ga b D) H (s.m q) (Z q.i y) (q.k _ _ C) L D λO NO x K j M=>E O NO x K (q.q j) M
end
theorem yO(c:List f)(a:Nat):∀k:Nat,((List.range k).map (a+·)).filterMap (c[·]?)=(c.drop a).take k:=by intro e;induction e with|zero=>simp|succ k d=>refine Z List.range_succ<|Z Rd<|Z List.filterMap_append<|Z d<|Z List.take_add_one ?_;congr 1;simp only[List.map_cons,List.map_nil,List.getElem?_drop];cases b:c[a+k]?<;>simp[b]
theorem nH{a g:Nat}(e:sliceBounds d c none b.length=((a:Int),(g:Int),1)):iD b d c=(b.drop a).take (g - a):=by unfold iD;exact Z e (Z (sliceRange_one ..)<|Z (yO ..) rfl:(sliceRange a g 1).filterMap _=_)
theorem A3{a:List Y}{s:Nat}(b:s<=a.length):iD a (some (s:Int)) none=a.drop s:=by refine Z (nH (by dsimp only[sliceBounds,Option.getD_none,show(1:Int)>0 by decide,if_true,if_neg<|show¬((s:Int)<0) by exact oz];exact Z (show min (s:Int) (a.length:Int)=s by exact wZ b)<|Z (show max 0 (s:Int)=s by exact Bj) rfl)) ?_;exact List.take_of_length_le<|Z List.length_drop<|og _
theorem uJ{a:List Y}{s:Nat}(b:s<=a.length):iD a none (some (s:Int))=a.take s:=by refine Z (nH (by dsimp only[sliceBounds,Option.getD_none,show(1:Int)>0 by decide,if_true,if_neg<|show¬((s:Int)<0) by exact oz];refine Z (show max 0 (min (s:Int) (a.length:Int))=s by exact un b) ?_;rfl)) ?_;rfl
theorem AR:iD a none (some<|-1)=a.dropLast:=by refine Z (nH (by dsimp only[sliceBounds,Option.getD_none,show(1:Int)>0 by decide,if_true,if_pos<|show(-1:Int)<0 by decide];refine Z (show max 0 (min ((-1:Int)+(a.length:Int)) (a.length:Int))=((a.length - 1:Nat):Int) by exact MM) ?_;rfl)) ?_;refine Z List.dropLast_eq_take ?_;rfl
section
theorem uq{R:Y->aa}(f:G W r)(u:bt W)(T:W.C=none)(i:W.u=g++ar)(P:∀k∈ar,∃p,W.p k=some p/\p.dd=0)(dU:ar.Nodup)(S:ar≠[])(Q:ar.length<64)(A:W.u.length<=100000)(I:∀d j C,G d C->c0 W d W.p g W.E->d.C=none->d.y j (.d<|(bT ar).map λn=>.a<|W.t n)->R (.a j) C):J (ee (.a W.i.bN) "heap") (λD=>J (ee D "zero") λF=>kZ (.c (g.length:Nat)) λX=>J (gW F X none) λNO=>ag (n+2) false (.B 93 0) [NO] (λNN=>J (ee (.a W.i.bN) "heap") λH=>J (ee H "zero") λK=>kZ (.c (g.length:Nat)) λU=>J (gW K none U) λNP=>J (ee (.a W.i.bN) "heap") λE=>J (fN E "zero" NP) λ_=>R NN) E') r:=by
 refine aK (f.k u.bN) ∅<|aK f.dC (v:=.a W.fF) ∅ ?_;have B:g.length<=(W.u.map λn=>Y.a<|W.t n).length:=Z (P6 ..)<|Z (i ..)<|Z (P3 ..)<|fw _ _;refine ow f.u (b5<|Z (P6 ..)<|lA A)<|Z (A3 B)<|Z i<|Z Rd<|Z (List.drop_left' (by refine Z (P6 ..) ?_;rfl)) ?_;have L:=(c0.cK).M (o:=.d<|ar.map λn=>.a<|W.t n)<|f.bH<|P5 _;refine FC (W:=W.M r.f<|.d<|ar.map λn=>.a<|W.t n) (f.eK<|.d<|ar.map λn=>.a<|W.t n) T dA P dU S Q λc j s e a NQ O=>?_;have a:c0 W c W.p W.u W.E:=L.q a;have w:=u.m a.m;have h:=a.m.i;have l:=e.k w.bN;replace l:=h▸l;have m:=e.dC;replace m:=h▸m;refine aK l ∅<|aK m (v:=.a c.fF) ∅ ?_;have z:=e.u;have x:∀k∈W.u,c.t k=W.t k:=λk y=>by exact bA (f.a3.dE k y) λp b=>a.m.t k<|f.a3.cA k p b
 have M:(c.u.map λn=>Y.a<|c.t n)=W.u.map λn=>.a<|W.t n:=by refine Z a.u ?_;exact QB λk y=>by refine Z (x k y) ?_;rfl
 rw[M] at z;refine ow z (b5<|Z (P6 ..)<|lA A)<|Z (uJ B)<|Z i<|Z Rd<|Z (List.take_left' (by refine Z (P6 ..) ?_;rfl)) ?_;refine aK (eC l (e.bw _ _<|h▸w.bN.1).2) ∅<|eE (eC m<|h▸(e.bw _ _<|e.bj .dC Qd).2) ∅ ?_;have q:=e.bH<|P5 _;have t:=(e.dh<|.d<|g.map λn=>.a<|W.t n).hI q ((c8 _ _).trans (by congr 2;exact QB λk y=>by refine Z (x k<|Z i<|Q9 _ y) ?_;rfl)) (P' _) λk y=>Z a.u<|Z i<|Q9 _ y;rw[h] at t;exact I (c.hI s.f g) j _ (Z (∅:af.aD 9 (cN ("zero":Str) (.a s.f)<|mw W.i c.n c.fF)=.aD 9 (mw W.i c.n s.f)) t) ⟨a.m.q<|.hI q,a.2,a.3,a.4,a.5,a.6,a.7,a.8,a.9,rfl,a.11⟩ NQ<|(av.hI q).k _ _ O
end
section
structure nB(m:I)(W:N)(f ar:List Nat)(l b:Nat->N->Prop):Prop where
 u:W.u=f++ar
 ei:∀k∈ar,∃a,W.p k=some a/\a.dd=0
 eh:ar.Nodup
 eW:ar≠[]
 cu:ar.length<64
 a5:W.u.length<=100000
 pq:∀c,c0 W c W.p f W.E->c.C=none->l 0 c
 bf:m5 m 11 W.i.bN W.t l (bT ar)
 p2:∀e,l (bT ar).length e->b 0 e
 bH:m5 m 12 W.i.bN W.t b (bT ar)
 oQ:∀g k d,(bT ar)[g]?=some k->b g d->∃a,d.p k=some a/\a.dd=0/\d.t k=W.t k
abbrev iR(a:Nat)(s b x:Y):ax:=kQ (.a a) s b x
theorem vg(y:S.length<64)(h:G W g)(r:bt W)(w:W.i.bN=a)(i:W.y e (.d<|S.map λn=>.a<|f n))(v:b 0 W)(B:m5 m 12 a f b S)(s:∀j k W,S[j]?=some k->b j W->∃l,W.p k=some l/\l.dd=0/\W.t k=f k)(z:∀d c x,G d c->av W d->b S.length d->U (.f<|iR a o (.a e) x) c):br u m p 55 (as 94 10) (iR a o (.a e) x) (List.drop 3<|au (ab 94 10) 0 0) U g:=by refine(bR A8<|dQ (h.k i)<|IS B s aJ 0 x W g (sD dL y) h r w i v (Qp _) λd c C q t A=>(?_:br _ _ _ _ _ _ _ _ _):br _ _ _ _ _ ⟨_,_,_⟩ _ _ _);exact bR J2<|z d c C q t A
theorem yI(w:G W s)(k:bt W)(L:W.C=none)(b:nB (ag (n+2) false) W i ar l m)(M:∀d t H x,G d t->av W d->m (bT ar).length d->U (.f<|iR W.i.bN (.c (i.length:Nat)) H x) t):hc u (ag (n+2) false) p 58 (as 94 10) (au (ab 94 10) 0 0) (M_ (.a W.i.bN)<|.c (i.length:Nat)) U s:=by refine bR FV<|uq w k L b.u b.ei b.eh b.eW b.cu b.a5 λo X v e a R h=>?_;have f:=k.m a.m;have r:(bT ar).length<64:=Z hN b.cu;refine dQ (e.k h)<|jE<|ep (e.k h) ?_;have j:0<(bT ar).length:=Z hN<|List.length_pos_iff.2 b.eW;refine Z Q7 ?_;refine Z (RB j) ?_;refine(bR K_ ?_:bg _ _ _ _ _ _ _ _ _ _ v);have q:=e.k f.bN;rw[a.m.i] at q;refine c4 q ∅ ∅<|b.bf 0 _ (RB j) o v _ _ e f (by refine Z a.m.i ?_;rfl) (b.pq o a R) λD S y c O=>?_;refine te b.bf (fP+4) 1 _ D S (gH (fp (Nat.sub_le ((bT ar).length) 1) r)<|Nat.le_of_succ_le_succ<|aM (#[]:65<=100000) oG) y (f.m c) (by refine Z c.i<|Z a.m.i ?_;rfl) (c.k _ _ h) O j λE Y C A g P=>?_;refine vg r A ((f.m c).m g) (by refine Z g.i<|Z c.i<|Z a.m.i ?_;rfl) (g.k _ _<|c.k _ _ h) (b.p2 E P) b.bH b.oQ λF T z B K Q=>M F T _ z B (((a.m.q c).q g).q K) Q
theorem oU{e:Bool->aa}(b:G W d)(f:bt W)(l:W.u=c++ar)(k:W.u.length<=100000)(m:e (!ar.isEmpty) d):J (ee (.a W.i.bN) "heap") (λg=>J (ee g "zero") λh=>ag (n+1) p (.a' "len") [h] (λo=>J (cW .Gt o<|.c (c.length:Nat)) λi=>J (dD i) λj=>e j) E') d:=by
 refine aK (b.k f.bN) ∅<|aK b.dC ∅<|i2 b.u (b5<|Z (P6 ..)<|lA k)<|kH<|aL ?_;have:decide ((c.length:Int)<(W.u.map λn=>Y.a<|W.t n).length)=!ar.isEmpty:=by refine Z (P6 ..)<|Z (l ..)<|Z (P3 ..) ?_;induction ar using List.casesOn with|nil=>simp|cons a r=>simp;exact gK<|Nat.lt_add_of_pos_right<|Nat.succ_pos r.length
 exact Z this m
abbrev lK(u m:I)(p:Bool)(b:Nat)(a:ax)(U:ai->aa):aa:=iy (fU m 58 (as 94 10)<|bv (ab 94 10) 0) (hc u m p 58 (as 94 10)<|au (ab 94 10) 0 0) b a U
theorem xc(c:G W a)(d:bt W)(e:W.u.length<=100000)(f:U (.f<|iR W.i.bN (.c (W.u.length:Nat)) b x) a):lK u (ag (n+2) false) p (g+1) (iR W.i.bN (.c (W.u.length:Nat)) b x) U a:=by refine(bR wY ?_:fU _ _ _ _ ⟨_,_,_⟩ _ a);exact oU c d (Q1 _).symm e (bx rfl f)
theorem LC(b:G W a)(c:bt W)(d:W.u.length<=100000)(e:U (.f<|M_ (.a W.i.bN)<|.c (W.u.length:Nat)) a):lK u (ag (n+2) false) p (f+1) (M_ (.a W.i.bN)<|.c (W.u.length:Nat)) U a:=by refine(bR uZ ?_:fU _ _ _ _ _ _ a);exact oU b c (Q1 _).symm d (bx rfl e)
theorem xB(m:G W k)(g:bt W)(F:W.C=none)(b:nB (ag (n+2) false) W h ar l r)(H:∀d f c x,G d f->av W d->r (bT ar).length d->lK u (ag (n+2) false) p v (iR W.i.bN (.c (h.length:Nat)) c x) U f):lK u (ag (n+2) false) p (v+1) (iR W.i.bN (.c (h.length:Nat)) c x) U k:=by refine(bR wY ?_:fU _ _ _ _ ⟨_,_,_⟩ _ k);exact oU m g b.u b.a5<|bJ (by induction ar using List.casesOn with|nil=>exact(b.eW rfl).elim|cons=>rfl) (by refine(bR K5<|uq m g F b.u b.ei b.eh b.eW b.cu b.a5 λs R P o a O i=>?_:hc _ _ _ _ _ _ ⟨_,_,_⟩ _ _);have q:=g.m a.m;have t:(bT ar).length<64:=Z hN b.cu;refine dQ (o.k i)<|te b.bf aJ 0 _ s P (sD dL t) o q (by refine Z a.m.i ?_;rfl) i (b.pq s a O) (Qp _) λA S j y e L=>?_;refine vg t y (q.m e) (by refine Z e.i<|Z a.m.i ?_;rfl) (e.k _ _ i) (b.p2 A L) b.bH b.oQ λB Q C z E M=>(λd f c x w D K=>H d f c x w D K) B Q _ C z ((a.m.q e).q E) M)
theorem xS(g:G W f)(h:bt W)(o:W.C=none)(b:nB (ag (n+2) false) W c ar l i)(q:∀d a e x,G d a->av W d->i (bT ar).length d->lK u (ag (n+2) false) p j (iR W.i.bN (.c (c.length:Nat)) e x) U a):lK u (ag (n+2) false) p (j+1) (M_ (.a W.i.bN)<|.c (c.length:Nat)) U f:=by refine(bR uZ ?_:fU _ _ _ _ _ _ f);exact oU g h b.u b.a5<|bJ (by induction ar using List.casesOn with|nil=>exact(b.eW rfl).elim|cons=>rfl)<|yI g h o b λd a e x k m r=>q d a e x k m r
end
inductive be{b c:Type}(R:b->c->Prop):List b->List c->Prop
 |aP:be R [] []
 |aY {a g f p}:R a g->be R f p->be R (a::f) (g::p)
theorem be.cj:∀{a g:List e} {c d:List f},be R a c->be R g d->be R (a++g) (c++d):=by intro _ _ _ _ i;induction i with|aP=>intro b;exact b|@aY _ _ _ _ x j h=>intro b;exact .aY x<|h b
theorem be.bD(l:∀a g,R a g->c a g)(b:be R a g):be c a g:=by induction b with|aP=>exact .aP|aY x _ f=>exact .aY (l _ _ x) f
theorem be.a5:∀{a:List b} {g:List c},be R a g->a.length=g.length:=by intro _ _ e;induction e with|aP=>exact rfl|@aY _ _ _ _ _ f d=>exact Q3 (·+1) d
theorem k_{f:List ej}(b:f.Pairwise λa g=>a.bk<g.bk){c:Nat}{a g:ej}(m:f[c]?=some a)(n:f[d]?=some g)(e:a.bk=g.bk):c=d:=by
 refine bA (P1.1 m) λk i=>?_;refine bA (P1.1 n) λl j=>?_;rcases Nat.lt_trichotomy c d with h|h|h
 have:=List.pairwise_iff_getElem.1 b c d k l h;rw[i,j] at this;exact(absurd e<|ff this);exact h;have:=List.pairwise_iff_getElem.1 b d c l k h;rw[i,j] at this;exact absurd e.symm<|ff this
noncomputable def c9(a:Nat->Option Nat)(f:List Nat)(b:Nat):Nat:=f.countP λk=>a k==some b
structure i6(W:N)(i ar:List Nat)(h:Nat->Option Nat)(f:Nat->Prop)(c:Nat->Nat):Prop where
 u:W.u=i++ar
 eh:(i++ar).Nodup
 cu:ar.length<64
 a5:W.u.length<=50200
 bi:W.w.Pairwise (λa g=>a.bk<g.bk)
 bn:∀k b,k∈ar->h k=some b->∃e d,W.w[b]?=some e/\f b/\W.p k=some (.aV 0 (.a e.du) d)/\W.y d (.d [])
 q2:∀k,k∈ar->h k=none->(∃d j,W.p k=some (.az 0 false false d j)/\W.y d (.d [])/\W.y j (.d []))\/∃l d,W.p k=some (.aV 0 (.c l) d)/\W.y d (.d [])
 b8:∀b e,W.w[b]?=some e->f b->fM W b e (c b)
 bu:∀b,f b->c9 h ar b<=c b/\c b<=100000
structure i8(W:N)(S h:List Nat)(g:Nat->Option Nat)(f:Nat->Prop)(c:Nat->Nat)(d:Nat)(i:Nat->Option bK)(l:List Nat):Prop where
 bE:∀k,k∉S.take d->(∀a b,W.w[a]?=some b->f a->k≠b.bk)->i k=W.p k
 mR:∀a b j,W.w[a]?=some b->f a->W.p b.bk=some (.az (c a) true false j b.dt)->i b.bk=some (.az (c a - c9 g (S.take d) a) true false j b.dt)
 a5:l.length<=h.length+d
 u:∃e,l=h++e/\e.Nodup/\∀k,k∈e↔∃a b,W.w[a]?=some b/\f a/\k=b.bk/\0<c9 g (S.take d) a/\c9 g (S.take d) a=c a
section
theorem vy(b:a.Perm g):c9 c a d=c9 c g d:=b.countP_eq _
theorem Jf(x:Nat):∀f:List Nat,(gS x f).Perm<|x::f:=by intro b;induction b with|nil=>exact .refl _|cons t r a=>unfold gS;split;exact .refl _;·exact((a).cons t).trans<|.swap x t r
theorem kU:∀f:List Nat,(bT f).Perm f:=by intro b;induction b with|nil=>exact .refl _|cons x r a=>exact(Jf x<|bT r).trans<|(a).cons x
theorem i6.eG(H:i6 W a ar d b c):ar.Nodup:=(Qh.1 H.eh).2.1
theorem i6.lR(H:i6 W g ar d h c)(y:k∈ar):∃a,W.p k=some a/\a.dd=0/\(hx k a).lookup ("blessed":Str)=some .s:=by cases e:d k with|none=>(rcases H.q2 k y e with⟨f,l,b,_⟩|⟨j,f,b,_⟩);exact cp _ b rfl ∅;exact cp _ b rfl ∅|some i=>obtain⟨m,f,_,_,b,_⟩:=H.bn k i y e;exact cp _ b rfl ∅
theorem i6.gs(H:i6 W j ar h g c)(y:k∈ar)(l:W.w[d]?=some e)(m:g d):k≠e.bk:=λn=>by refine ah ((H.b8 d e l m).az) λf a _=>?_;rw[<-n] at a;cases i:h k with|none=>(rcases H.q2 k y i with⟨f,p,b,_⟩|⟨o,f,b,_⟩<;>· rw[b] at a;simp at a)|some d=>obtain⟨e,f,_,_,b,_⟩:=H.bn k d y i;rw[b] at a;simp at a
theorem kL{S:List Nat}(b:S[a]?=some k):S.take (a+1)=S.take a++[k]:=by refine bA (P1.1 b) λc d=>?_;exact Z (List.take_succ_eq_append_getElem c)<|Z d rfl
theorem m0{S:List Nat}(g:S.Nodup)(b:S[c]?=some k):k∉S.take c:=λh=>by obtain⟨d,f⟩:=P1.1 b;obtain⟨x,a,e⟩:=List.getElem_of_mem h;rw[List.getElem_take] at e;rw[List.length_take] at a;exact List.pairwise_iff_getElem.1 g x c (gH a<|Nat.min_le_right ..) d (gH a<|Nat.min_le_left ..)<|e.trans f.symm
theorem pr{S:List Nat}(b:S[d]?=some k)(c:Nat):c9 a (S.take<|d+1) c=c9 a (S.take d) c+(if a k=some c then 1 else 0):=by unfold c9;refine Z (kL b)<|Z List.countP_append ?_;by_cases e:a k=some c;simp[e];simp[e]
theorem tZ{n:Nat}{W:N}{X ar:List Nat}{r:Nat->Option Nat}{NZ:Nat->Prop}{c:Nat->Nat}(NY:iV W)(H:i6 W X ar r NZ c)(Ok:ar≠[]):
    nB (ag (n+5) false) W X ar (λ_ d=>c0 W d W.p X W.E/\d.C=none) (λt d=>∃NQ S,c0 W d NQ S W.E/\d.C=none/\i8 W (bT ar) X r NZ c t NQ S) where
  u:=H.u
  ei k y:=let⟨Q,o,p,_⟩:=H.lR y;(am Q o p)
  eh:=H.eG
  eW:=Ok
  cu:=H.cu
  a5:=P9 H.a5 #[]
  pq On j I:=⟨j,I⟩
  bf:=λt k y d Oe h i T NT NU Y U=>by
    refine cM (H.lR<|iu.1<|PW y) λQ o p E=>?_
    have:=Y.1.m.t k (NY.cA k Q o)
    exact ad this (bp s0 ∅<|eQ<|aK (T.cr<|Z Y.1.p o) (lx k Q)<|tN<|aL<|m9 (Z p rfl)<|aK (T.cr<|Z Y.1.p o) E<|x8<|aL<|uu rfl (bJ rfl (U d Oe T .cK Y)))
  p2 K b:=⟨W.p,X,b.1,b.2,λ_ _ _=>rfl,λl U NR _ _ b=>Z b rfl,P5 _,[],(Q1 _).symm,.nil,λk=>⟨λm=>(Rc m).elim,λN9=>by obtain⟨_,_,_,_,_,m,_⟩:=N9;exact absurd m<|Q8 _⟩⟩
  bH:=λt k y d Oe h i T NT NU Y U=>by
    refine c5 Y λNQ S j I q=>?_
    have F:=iu.1 (PW y)
    refine cM q.u λNX NW N4 NN=>?_
    have N5:k∉S:=λm=>by
      rw[NW] at m
      refine Or.elim (PY.1 m) (λm=>?_) λm=>?_
      · exact(Qh.1 H.eh).2.2 k m k F rfl
      · exact hU ((NN k).1 m) λl z o p E _=>(H.gs F o p E)
    have bw:=q.bE k (m0 ((kU ar).nodup_iff.2 H.eG) y) λl z o p=>H.gs F o p
    have N6:∀{x Q},W.p x=some Q->d.t x=W.t x:=λb=>j.m.t _ (NY.cA _ _ b)
    have N':∀(K:N) (N7:Nat->Option bK) (N8:List Nat),r k=none->N7=e4 NQ k none->N8=S->i8 W (bT ar) X r NZ c (t+1) N7 N8:=λK N7 N8 Oj N3 w=>by
      have Ob:∀l,c9 r ((bT ar).take<|t+1) l=c9 r ((bT ar).take t) l:=λl=>by refine Z (pr y ..)<|Z (P4 (by refine Z Oj ?_;intro m;exact bm m) ..) ?_;rfl
      subst N3 w
      refine⟨λx P NV=>?_,λl z NR o p E=>?_,QE q.a5,NX,NW,N4,λx=>?_⟩
      · replace P:=(kL y)▸P
        have:x≠k:=λm=>P (PZ _<|m▸.head _)
        exact(P4 this).trans (q.bE x (λm=>P<|Q9 _ m) NV)
      · exact Z (Ob ..) ((P4 (H.gs F o p).symm).trans<|q.mR l z NR o p E)
      · simp only[Ob];exact NN x
    cases m:r k with
    |none=>
      rcases H.q2 k F m with⟨NR,Op,b,o,p⟩|⟨v,NR,b,o⟩
      · refine ad (N6 b) (ad NU<|wl T NT (Z j.p<|Z bw b) (Z j.u N5) (j.m.k _ _ o) (j.m.k _ _ p) I .aP λK NS G D NP=>?_)
        rw[j.p,j.u,j.E] at D
        exact U K NS G D.m (eb _ _ (j.q D) NP<|N' K _ _ m rfl rfl)
      · refine ad (N6 b) (ad NU<|t8 T NT (Z j.p<|Z bw b) (Z j.u N5) (j.m.k _ _ o) I (.c v) λK NS G D NP=>?_)
        rw[j.p,j.u,j.E] at D
        exact U K NS G D.m (eb _ _ (j.q D) NP<|N' K _ _ m rfl rfl)
    |some l=>
      refine hU (H.bn k l F m) λmk NR o p E Og=>?_
      have M:=H.b8 l mk o p
      refine ah M.az λOd N_ Oo=>?_
      have O:=pr (a:=r) y l
      replace O:=(P8 m)▸O
      have V:c9 r ((bT ar).take<|t+1) l<=c9 r (bT ar) l:=(List.take_sublist (t+1)<|bT ar).countP_le
      replace V:=(vy<|kU ar)▸V
      have NO:=H.bu l p
      refine ad (N6 E) (ad NU ?_)
      have Oa:=(P1.1 y).1
      rw[hN] at Oa
      have Ol:S.length<=100000:=by
        have E:=H.a5
        rw[H.u,P3] at E
        exact an [⟨1,.h (.b 0)<|.b 1,.e 50200⟩,⟨1,.h (.b 2)<|.e 1,.b 1⟩,⟨1,.b 3,.h (.b 0)<|.b 2⟩] (.b 3) (.e 100000) rfl [X.length,ar.length,t,S.length] E Oa q.a5
      refine t8 T NT (Z j.p<|Z bw E) (Z j.u N5) (j.m.k _ _ Og) I (.a (M.du.m j.m M.bu.1) (P9 M.bu.1 j.m.n) ((P4 (H.gs F o p).symm).trans<|Z j.p<|q.mR l mk Od o p N_) (Nat.sub_ne_zero_of_lt<|aM (aM (dw O.symm) V) NO.1) (aM (Nat.sub_le _ _) NO.2)<|Z j.u Ol) λK NS G D NP=>?_
      replace D:=j.E▸j.u▸j.p▸D
      refine U K NS G D.m ⟨_,_,j.q D,NP,λx P NV=>?_,λf z Oc s B C=>?_,?_,?_⟩
      · replace P:=(kL y)▸P
        have N3:x≠k:=λm=>P (PZ _<|m▸.head _)
        exact(P4<|NV l mk o p).trans ((P4 N3).trans<|q.bE x (λm=>P<|Q9 _ m) NV)
      · by_cases e:f=l
        · subst e
          rw[o] at s
          obtain rfl:=P0 s
          refine Z O ?_
          have Of:Od=Oc:=by have R:=P0<|N_.symm.trans C;injection R
          exact Z Of ((P8 rfl).trans<|Z (Nat.sub_sub ..) rfl)
        · have w:z.bk≠mk.bk:=λm=>e (k_ H.bi s o m)
          have:=pr (a:=r) y f
          rw[P4 λR=>e (by rw[m] at R;exact(P0 R).symm)] at this
          exact Z this ((P4 w).trans<|(P4 (H.gs F s B).symm).trans<|q.mR f z Oc s B C)
      · have:=q.a5
        split
        · refine Z P3 (?_:_+1<=_);exact j_ this
        · exact kk this
      · have J:∀f,f≠l->c9 r ((bT ar).take<|t+1) f=c9 r ((bT ar).take t) f:=λf e=>by
          have:=pr (a:=r) y f
          rw[P4 λR=>e (by rw[m] at R;exact(P0 R).symm)] at this
          exact this
        by_cases e:c l - c9 r ((bT ar).take t) l=1
        · refine Z (P8 e) (Z NW<|cp (NX++[mk.bk]) (Z (Qf ..) rfl) ?_ λx=>?_)
          · refine Qh.2 ⟨N4,by simp,λa Oh g Oi=>Z (Re.1 Oi) ?_⟩
            intro R
            refine aZ λOq Om=>(yq ((NN a).1 Oh) λf z s B C L A=>?_)
            have:f=l:=k_ H.bi s o (ad C R)
            subst this
            exact Om (cV [⟨1,.h (.b 1)<|.e 1,.b 0⟩,⟨1,.b 0,.b 2⟩,⟨1,.b 3,.b 1⟩,⟨1,.b 2,.b 3⟩] rfl [c9 r (List.take (t+1)<|bT ar) f,c9 r (List.take t<|bT ar) f,c9 r ar f,c f] (P2 O.symm) V (P2 A.symm) NO.1)
          · rw[PY,Re,NN x]
            constructor
            · rintro (⟨f,z,s,B,C,L,A⟩|rfl)
              · by_cases w:f=l
                · subst w;exact(Nat.not_succ_le_self _<|aM (aM (aM (dw O.symm) V) NO.1)<|dw A.symm).elim
                · exact p_ f z s B C (by exact Z (J f w) L) (Z (J f w) A)
              · exact p_ l mk o p rfl (an [⟨1,.h (.b 1)<|.e 1,.b 0⟩] (.h (.e 0)<|.e 1) (.b 0) rfl [c9 r (List.take (t+1)<|bT ar) l,c9 r (List.take t<|bT ar) l] (P2 O.symm)) (O.trans<|(Q3 ((c9 r (List.take t<|bT ar) l)+·) e).symm.trans<|Nat.add_sub_cancel'<|gw<|Nat.lt_of_sub_pos<|aM (og 1)<|dw e.symm)
            · rintro ⟨f,z,s,B,C,L,A⟩
              by_cases w:f=l
              · subst w;rw[o] at s;obtain rfl:=P0 s;exact .inr C
              · rw[J f w] at L A;exact .inl ⟨f,z,s,B,C,L,A⟩
        · refine Z (P4 e) (Z NW<|cp NX rfl N4 λx=>?_)
          rw[NN x]
          constructor
          · rintro ⟨f,z,s,B,C,L,A⟩
            by_cases w:f=l
            · subst w;exact(Nat.not_succ_le_self _<|aM (aM (aM (dw O.symm) V) NO.1)<|dw A.symm).elim
            · exact p_ f z s B C (by exact Z (J f w) L) (Z (J f w) A)
          · rintro ⟨f,z,s,B,C,L,A⟩
            by_cases w:f=l
            · subst w;exact(e<|ad A<|Z O<|QS ..).elim
            · rw[J f w] at L A;exact⟨f,z,s,B,C,L,A⟩
  oQ t k d y:=λN9=>by
    obtain⟨NQ,S,j,I,q⟩:=N9
    have F:=iu.1 (PW y)
    have dU:=(kU ar).nodup_iff.2 H.eG
    exact cM (H.lR F) λQ o p E=>cp Q (by exact Z j.p<|Z (q.bE k (m0 dU y) λl z s B=>H.gs F s B) o) p<|j.m.t k<|NY.cA k Q o
end
section
set_option genCtorIdx false
set_option genSizeOf false in
set_option genInjectivity false in
inductive d7 where
 |aX (a:Nat)|fv (s:Int)|e5 (f:List Int)
noncomputable def d7.ctorIdx(v:d7):Nat:=v.casesOn (λ_=>0) (λ_=>1) λ_=>2
def e3(W:N)(v:Y)(s:Int):Prop:=(s= -1/\v=.c (-1))\/∃a:Nat,s=a/\∃b c,v=.a b/\W.y b (.A [.c a,.a c])/\W.y c (.d [.c (70+a:Nat)])
def dR(W:N)(v:Y):d7->Prop|.aX b=>∃a,v=.a a/\W.y a (.A [.l "gone",.c (b:Nat)])|.fv s=>e3 W v s|.e5 f=>∃a vs,v=.a a/\W.y a (.d vs)/\be (e3 W) vs f
theorem e3.m(e:av W d)(b:e3 W v s):e3 d v s:=by
 rcases b with b|⟨h,a,i,j,c,f,g⟩
 exact .inl b;exact .inr ⟨h,a,i,j,c,e.k _ _ f,e.k _ _ g⟩
theorem dR.m(e:av W d)(b:dR W v x):dR d v x:=by induction x with|aX i=>obtain⟨g,a,c⟩:=b;exact am g a (e.k _ _ c)|fv s=>exact e3.m e b|e5 f=>obtain⟨g,vs,a,c,h⟩:=b;exact eb g vs a (e.k _ _ c)<|h.bD λ_ _=>e3.m e
noncomputable def bK.uc:bK->bK|.az c a _ e b=>.az c a true e b|d=>d
noncomputable def fQ(W:N)(a:Nat):Nat:=match W.w[a]? with|some k=>k.bk|none=>0
noncomputable def d_(W:N)(a:Nat):Nat:=match W.w[a]? with|some k=>k.dS|none=>0
structure hy(W:N)(d ar M:List Nat):Prop where
 u:W.u=d++ar
 eh:(d++ar).Nodup
 cu:ar.length<64
 a5:W.u.length<=50100
 BP:W.E.length+ar.length<=100000
 bi:W.w.Pairwise (λa g=>a.bk<g.bk)
 hW:bT ar=M.map (fQ W)
 b8:∀c∈M,∃b,W.w[c]?=some b/\fM W c b 0
 gs:∀c∈M,∀b,W.w[c]?=some b->b.dS∉d
section
theorem iB(b:W.w[c]?=some a):fQ W c=a.bk:=by unfold fQ;exact Z b rfl
theorem hD(b:W.w[c]?=some a):d_ W c=a.dS:=by unfold d_;exact Z b rfl
theorem hy.bO(H:hy W g ar M){d:Nat}(b:(bT ar)[d]?=some k):∃a c,M[d]?=some a/\W.w[a]?=some c/\k=c.bk/\fM W a c 0:=by replace b:=Q7▸H.hW▸b;cases e:M[d]? with|none=>rw[e] at b;exact bm b|some a=>replace b:=e▸b;exact ah (H.b8 a<|PW e) λc f h=>jC a c rfl f (ad (iB f)<|(P0 b).symm) h
theorem hy.eG(H:hy W a ar M):ar.Nodup:=(Qh.1 H.eh).2.1
theorem hy.lX(H:hy W d ar M)(b:k∈ar):∃c a,c∈M/\W.w[c]?=some a/\k=a.bk/\fM W c a 0:=by refine aZ λn l=>?_;obtain⟨m,j,e⟩:=List.getElem_of_mem<|iu.2 b;refine hU (H.bO (by refine Z (RB j) ?_;exact Z e rfl)) λc a f g h i=>?_;exact l<|jC c a (PW f) g h i
def mz(W:N)(f:List Nat):Nat->Option bK:=λk=>if k∈f then(W.p k).map bK.uc else W.p k
def iE(W:N)(S M:List Nat)(a:Nat):Nat->Option bK:=λk=>if k∈S.take a then none else if k∈(M.take a).map (d_ W) then(W.p k).map (·.jW 0) else if k∈S then(W.p k).map bK.uc else W.p k
theorem hy.jm(H:hy W f ar M)(k:a∈M)(b:W.w[a]?=some e):e.dS∉bT ar:=λl=>by refine hU (H.lX<|iu.1 l) λq o _ n h i=>(ah (H.b8 a k) λp d j=>?_);rw[b] at d;obtain rfl:=P0 d;refine ah j.aV λr c _=>(ah i.az λs g _=>?_);rw[h,g] at c;exact absurd c λm=>by cases m
theorem hy.uh(H:hy W d ar M)(k:a∈M)(l:b∈M)(e:d_ W a=d_ W b):a=b:=by
 refine ah (H.b8 a k) λm i j=>(ah (H.b8 b l) λn g h=>?_);rw[hD i,hD g] at e;refine ah j.aV λo c _=>(ah h.aV λp f _=>?_);rw[e,f] at c;have:=P0 c;injection this with _ this _
 have:=Y.c.inj this;exact wt this
theorem uM{n:Nat}{W:N}{C ar M:List Nat}(S:iV W)(H:hy W C ar M)(NY:ar≠[]):
    nB (ag (n+5) false) W C ar (λf d=>∃E,c0 W d (mz W<|(bT ar).take f) C (W.E++E)/\d.C=none/\be (dR d) E ((M.take f).map .aX))
      (λf d=>∃E,c0 W d (iE W (bT ar) M f) (C++(M.take f).map (d_ W)) (W.E++E)/\d.C=none/\be (dR d) E (M.map .aX)) where
  u:=H.u
  ei k y:=let⟨r,R,_,_,e,b⟩:=H.lX y;let⟨D,p,_⟩:=b.az;(am _ (e▸p) rfl)
  eh:=H.eG
  eW:=NY
  cu:=H.cu
  a5:=P9 H.a5 #[]
  pq N7 a t:=cp [] (by exact Z (Q1 ..) a) t .aP
  bf:=λf k y d N6 h i T Y U J R=>by
    obtain⟨E,a,t,q⟩:=J
    refine hU (H.bO y) λr mk p z A o=>?_
    obtain⟨D,l,V⟩:=o.az
    replace l:=A.symm▸l
    refine ad (a.m.t k<|S.cA _ _ l) (ad U ?_)
    have L:=(P1.1 y).1
    refine K' T Y (Z a.p<|(P4<|m0 ((kU ar).nodup_iff.2 H.eG) y).trans l) (Z a.w<|Z A<|vZ H.bi z) ?_ λF NN NQ X v NU I=>R F NN X v.m (cp (E++[.a NQ]) ?_ (I.trans t) ?_)
    · refine Z (a.E ..) (Z (P3 ..)<|Z (q.a5 ..)<|Z (P6 ..)<|Z (List.length_take ..) ?_)
      rw[hN] at L
      have:=H.BP
      exact aM (iw (aM (Nat.min_le_left f M.length)<|gw L) W.E.length) this
    · have c:=a.q v
      rw[a.u,a.E,Qf,a.p] at c
      have e:e4 (mz W<|(bT ar).take f) k (some<|.az 0 true true D mk.dt)=mz W ((bT ar).take<|f+1):=by
        funext x
        delta e4 mz
        refine Z (kL y) ?_
        by_cases g:x=k
        · refine Z g<|Z (P8 rfl)<|Z (P8<|PZ _<|.head _)<|Z l ?_;rfl
        · refine Z (P4 g) ?_
          by_cases s:x∈(bT ar).take f
          · refine Z (P8 s)<|Z (P8<|Q9 _ s) ?_;rfl
          · refine Z (P4 s)<|Z (P4 λj=>(PY.1 j).elim s λj=>g<|Re.1 j) ?_;rfl
      rw[e] at c
      exact c
    · exact Z (kL p) (Z Rd<|(q.bD λ_ _=>dR.m v.m).cj<|.aY (am NQ rfl NU) .aP)
  p2 F:=λG=>by
    obtain⟨E,a,t,q⟩:=G
    have NS:M.take (bT ar).length=M:=by refine Z (H.hW ..)<|Z (P6 ..)<|Z (List.take_length ..) ?_;rfl
    rw[List.take_length] at a
    rw[NS] at q
    refine cp E ?_ t q
    have e:iE W (bT ar) M 0=mz W (bT ar):=by
      funext x
      delta iE mz
      rw[List.take_zero,List.take_zero,List.map_nil,P4 Rc,P4 Rc]
    exact Z e ((Z (Q1 ..) a:c0 W F _ (C++[]) _))
  bH:=λf k y d N6 h i T Y U J R=>by
    obtain⟨E,a,t,q⟩:=J
    refine hU (H.bO y) λr mk p z A o=>(ah o.az λD l V=>ah o.aV λNR NO N8=>?_)
    have dU:=(kU ar).nodup_iff.2 H.eG
    have B:=PW y
    have NP:=PW p
    have P:=H.jm NP z
    have NW:mk.dS∉(M.take f).map (d_ W):=λg=>by
      refine ah (Qa.1 g) λO m w=>?_
      have:O=r:=H.uh (QI m) NP (Z w<|Z (hD z) rfl)
      subst this
      have NV:M.Nodup:=by
        have:=dU
        rw[H.hW] at this
        exact(List.pairwise_map.1 this).imp λb e=>b (by exact Z e rfl)
      exact m0 NV p m
    have Q:k∉(M.take f).map (d_ W):=λg=>by
      refine ah (Qa.1 g) λO m w=>(ah (H.b8 O<|QI m) λN5 K _=>?_)
      rw[hD K] at w
      exact H.jm (QI m) K (w▸B)
    replace l:=A.symm▸l
    have N3:d.p k=some (.az 0 true true D mk.dt):=by
      refine Z a.p ?_
      unfold iE
      refine Z (P4<|m0 dU y)<|Z (P4 Q)<|Z (P8 B)<|Z l ?_;rfl
    have NZ:d.p mk.dS=some (.aV 1 (.c (70+r:Nat)) NR):=by
      refine Z a.p ?_
      unfold iE
      exact Z (P4 λg=>P<|QI g) (Z (P4 NW)<|Z (P4 P) NO)
    have NX:k∉d.u:=λg=>by
      rw[a.u] at g
      refine Or.elim (PY.1 g) (λg=>?_) λg=>?_
      · exact(Qh.1 H.eh).2.2 k g k (iu.1 B) rfl
      · exact Q g
    have L:=(P1.1 y).1
    rw[hN] at L
    have N4:d.u.length<=100000:=by
      refine Z (a.u ..) (Z (P3 ..)<|Z (P6 ..)<|Z (List.length_take ..) ?_)
      have m:=H.a5
      rw[H.u,P3] at m
      exact aM (iw (aM (Nat.min_le_left f M.length)<|gw L) C.length) (aM m #[])
    refine ad (a.m.t k<|S.cA _ _ l) (ad U<|wl T Y N3 NX (a.m.k _ _ V) (Z (a.m.t _ o.bu.2.1)<|a.m.k _ _ o.dt:d.y mk.dt (.d [.a<|d.t mk.dS])) t (.fo (P9 o.bu.2.1 a.m.n) (Z A o.bu.2.2.symm) NZ N4) λF NN X v I=>R F NN X v.m<|cp E ?_ I<|q.bD λ_ _=>dR.m v.m)
    have c:=a.q v
    rw[a.u,a.E,a.p] at c
    have e:e4 (e4 (iE W (bT ar) M f) k none) mk.dS (some<|.aV 0 (.c (70+r:Nat)) NR)=iE W (bT ar) M (f+1):=by
      funext x
      delta e4 iE
      refine Z (kL y) (Z (kL p)<|Z Rd ?_)
      have NT:List.map (d_ W) [r]=[mk.dS]:=by rw[QM,hD z];rfl
      refine Z NT ?_
      by_cases g:x=mk.dS
      · refine Z g<|Z (P8 rfl)<|Z (P4 λj=>(PY.1 j).elim (λj=>P<|QI j) λj=>P<|Re.1 j▸B)<|Z (P8<|PZ _<|.head _)<|Z NO ?_;rfl
      · refine Z (P4 g) ?_
        by_cases s:x=k
        · refine Z s<|Z (P8 rfl)<|Z (P8<|PZ _<|.head _) ?_;rfl
        · refine Z (P4 s) ?_
          simp only[(⟨λj=>(List.mem_append.1 j).elim id λj=>(s<|List.mem_singleton.1 j).elim,λj=>List.mem_append_left _ j⟩:(x∈(bT ar).take f++[k])↔x∈(bT ar).take f),(⟨λj=>(List.mem_append.1 j).elim id λj=>(g<|List.mem_singleton.1 j).elim,λj=>List.mem_append_left _ j⟩:(x∈(M.take f).map (d_ W)++[mk.dS])↔x∈(M.take f).map (d_ W))]
    rw[e] at c
    rw[kL p,Rd,show List.map (d_ W) [r]=[mk.dS] from by rw[QM,hD z];rfl,<-Qf]
    exact c
  oQ f k d y:=λG=>by
    obtain⟨E,a,t,q⟩:=G
    refine hU (H.bO y) λr mk p z A o=>(ah o.az λD l V=>?_)
    have B:=PW y
    replace l:=A.symm▸l
    have Q:k∉(M.take f).map (d_ W):=λg=>by
      refine ah (Qa.1 g) λO m w=>(ah (H.b8 O<|QI m) λN5 K _=>?_)
      rw[hD K] at w
      exact H.jm (QI m) K (w▸B)
    refine cp (.az 0 true true D mk.dt) (Z a.p ?_) rfl (a.m.t k<|S.cA _ _ l)
    unfold iE
    refine Z (P4<|m0 ((kU ar).nodup_iff.2 H.eG) y)<|Z (P4 Q)<|Z (P8 B)<|Z l ?_;rfl
end
end
theorem pf{f:List Nat}(k:f.Pairwise (·<·))(l:p.Pairwise (·<·))(b:∀x,x∈f↔x∈p):f=p:=by induction f generalizing p with|nil=>(induction p using List.casesOn with|nil=>rfl|cons g p=>exact(Rc<|(b g).2<|.head _).elim)|cons a f m=>induction p using List.casesOn with|nil=>exact(Rc<|(b a).1<|.head _).elim|cons g p=>obtain⟨d,i⟩:=QH.1 k;obtain⟨h,j⟩:=QH.1 l;(have e:a=g:=by refine Or.elim (RD.1<|(b a).1<|.head _) (λc=>?_) λc=>?_;exact c;refine Or.elim (RD.1<|(b g).2<|.head _) (λr=>?_) λr=>?_;exact r.symm;exact(Nat.lt_asymm (d g r)<|h a c).elim);subst e;congr 1;refine m i j λx=>?_;constructor;intro c;refine Or.elim (RD.1<|(b x).1<|.tail _ c) (λr=>?_) λr=>?_;exact(QN (d x c) r).elim;exact r;intro c;refine Or.elim (RD.1<|(b x).2<|.tail _ c) (λr=>?_) λr=>?_;exact(QN (h x c) r).elim;exact r
structure p5(W d:N)(b M:List Nat):Prop where
 m:av W d
 bG:d.bG=W.bG
 a6:d.a6=W.a6
 O:d.O=W.O
 aE:d.aE=W.aE
 aA:d.aA=W.aA
 w:d.w=W.w
 n:d.n=W.n
 u:d.u=b
 C:d.C=none
 E:∃E,d.E=W.E++E/\be (dR d) E (M.map .aX)
 bE:∀k,(∀a∈M,k≠fQ W a/\k≠d_ W a)->d.p k=W.p k
section
theorem yi(H:hy W l ar M)(K:G m X)(O:bt m)(c:c0 W m (iE W (bT ar) M (bT ar).length) (l++(M.take (bT ar).length).map (d_ W)) (W.E++E))(NZ:m.C=none)(NW:be (dR m) E (M.map .aX))(NT:M≠[])(N5:∀h∈M,d_ W h∉l)(NX:∀d J w x,G d J->p5 W d l M->U (.f<|iR W.i.bN (.c (l.length:Nat)) w x) J):lK u (ag (n+5) false) p (k+2) (iR W.i.bN (.c (l.length:Nat)) w x) U X:=by
 have B:(bT ar).length=M.length:=Z (H.hW ..)<|Z (P6 ..) rfl;have Q:M.take (bT ar).length=M:=by refine Z B<|Z List.take_length ?_;rfl
 replace c:=Q▸c;have T:∀t,m.p t=if t∈bT ar then none else if t∈M.map (d_ W) then(W.p t).map (·.jW 0) else W.p t:=λt=>by refine Z c.p ?_;unfold iE;refine Z List.take_length<|Z Q ?_;by_cases i:t∈bT ar;refine Z (P8 i)<|Z (P8 i) ?_;rfl;refine Z (P4 i)<|Z (P4 i)<|Z (P4 i) ?_;rfl
 have NU:M.Nodup:=by have:=(kU ar).nodup_iff.2 H.eG;rw[H.hW] at this;exact(List.pairwise_map.1 this).imp λb e=>b<|by exact Z e rfl
 have NV:(M.map<|d_ W).Nodup:=by exact List.pairwise_map.2<|List.Pairwise.imp_of_mem (λ{a g} z A b e=>b<|H.uh z A e) NU
 have NN:i6 m l (M.map<|d_ W) (λ_=>none) (λ_=>False) λ_=>0:=by refine⟨c.u,Qh.2 ⟨(Qh.1 H.eh).1,NV,λa z g A e=>?_⟩,?_,?_,c.w▸H.bi,λ_ _ _ b=>bm b,λt v _=>.inr ?_,λ_ _ _ b=>b.elim,λ_ b=>b.elim⟩;refine ah (Qa.1 A) λh j o=>?_;subst o;exact N5 h j<|e▸z;exact Z (P6 ..)<|ad (B ..)<|Z (hN ..) H.cu;refine Z (c.u ..)<|Z (P3 ..)<|Z (P6 ..)<|ad (B ..)<|Z (hN ..) ?_;have:=H.a5;rw[H.u,P3] at this;exact cv this;refine ah (Qa.1 v) λh j o=>(ad o<|ah (H.b8 h j) λmk s y=>ah y.aV λN4 NP NQ=>bq (70+h:Nat) N4 (Z (T ..)<|Z (hD s ..)<|Z (P4 (H.jm j s) ..)<|Z (P8 (Qa.2<|am h j<|hD s) ..)<|Z (NP ..) ?_)<|c.m.k _ _ NQ);rfl
 have R:=c.m.i;refine ad R<|xB K O NZ (tZ K.a3 NN (by intro i;exact NT<|List.map_eq_nil_iff.1 i)) λNO N6 P C L N9 NY=>(c5 NY λN8 N_ f N3 q=>cM q.u λF S _ NR=>?_);have NS:F=[]:=by induction F using List.casesOn with|nil=>rfl|cons a r=>obtain⟨h,N7,_,b,_⟩:=(NR a).1<|.head _;exact b.elim
 rw[NS,Q1] at S;have D:=f.u.trans S;have:=xc (u:=u) (n:=n+3) (p:=p) (U:=U) (g:=k) (b:=P) (x:=C) L (O.m f.m) (by refine Z D ?_;have:=H.a5;rw[H.u,P3] at this;exact an [⟨1,.h (.b 0)<|.b 1,.e 50100⟩] (.b 0) (.e 100000) rfl [l.length,ar.length] this);rw[D,f.m.i] at this;refine this<|Z R<|NX NO N6 P C L ⟨c.m.q f.m,f.2.trans c.2,f.3.trans c.3,f.4.trans c.4,f.5.trans c.5,f.6.trans c.6,f.7.trans c.7,f.8.trans c.8,D,N3,am E (Z f.E<|Z c.E rfl)<|NW.bD λ_ _=>dR.m f.m,λt v=>?_⟩;rw[f.p,q.bE t (λi=>?_) λ_ _ _ b=>b.elim,T,P4,P4];intro i;refine ah (Qa.1 i) λh j o=>?_;subst o;exact(v h j).2 rfl;intro i;exact hU (H.lX<|iu.1 i) λh mk j s y _=>((v h j).1<|Z (iB s) y);have:=iu.1<|QI i;refine ah (Qa.1 this) λh j o=>?_;subst o;exact(v h j).2 rfl
theorem rv(b:G W a)(c:bt W)(d:W.u.length<=100000)(e:h .s a):ag (n+6) false (.B 94 10) [.a W.i.bN,.c (W.u.length:Nat)] h i a:=by refine bp rg ∅ ?_;refine oa<|LC b c d (?_:br _ _ _ _ _ _ _ _ _);exact bR Kk e
theorem HK(e:G W k)(f:bt W)(r:W.C=none)(H:hy W a ar M)(g:ar≠[])(z:∀t∈M,d_ W t∉a)(s:∀d c,G d c->p5 W d a M->h .s c):ag (n+6) false (.B 94 10) [.a W.i.bN,.c (a.length:Nat)] h i k:=by refine bp rg ∅ ?_;refine oa<|xS e f r (uM e.a3 H g) λA D C j m p u=>(cM u λE o y q=>yi H m (f.m p) o y q (λv=>?_) z λd c B x l w=>(?_:br _ _ _ _ _ ⟨_,_,_⟩ _ _ _));have b:=H.hW;rw[v] at b;have:=hN (f:=ar);rw[b] at this;exact g<|List.length_eq_zero_iff.1 this.symm;exact bR up<|s d c l w
end
structure vp(W d:N)(g ar:List Nat)(e:Nat->Prop)(c f:Nat->Nat)(M:List Nat):Prop where
 m:av W d
 bG:d.bG=W.bG
 a6:d.a6=W.a6
 O:d.O=W.O
 aE:d.aE=W.aE
 aA:d.aA=W.aA
 w:d.w=W.w
 n:d.n=W.n
 u:d.u=g
 C:d.C=none
 E:∃E,d.E=W.E++E/\be (dR d) E (M.map .aX)
 hW:M.Pairwise (·<·)
 lX:∀a,a∈M↔∃b,W.w[a]?=some b/\e a/\f a=c a
 bE:∀k,k∉ar->(∀a b,W.w[a]?=some b->e a->k≠b.bk/\k≠b.dS)->d.p k=W.p k
 b8:∀a b,W.w[a]?=some b->e a->f a≠c a->fM d a b (c a - f a)
section
theorem K9(NZ:iV W)(H:i6 W p ar w m c)(NP:∀k∈p,∃B,W.p k=some B/\B.dd=0)(T:∀d f,W.w[d]?=some f->m d->0<c d)(NU:W.E.length<=90000)(I:W.u.length<=50000)(l:c0 W o NN NQ W.E)(q:i8 W (bT ar) p w m c (bT ar).length NN NQ):∃n M,o.u=p++n/\hy o p n M/\M.Pairwise (·<·)/\(∀d,d∈M↔∃f,W.w[d]?=some f/\m d/\c9 w ar d=c d)/\(∀d∈M,d_ o d∉p)/\(n=[]->M=[])/\(∀k,k∉ar->(∀d f,W.w[d]?=some f->m d->k≠f.bk)->o.p k=W.p k)/\(∀d f,W.w[d]?=some f->m d->fM o d f (c d - c9 w ar d)):=by
 refine cM q.u λn F U E=>?_;have Y:(bT ar).take (bT ar).length=bT ar:=List.take_length;have X:∀d,c9 w (bT ar) d=c9 w ar d:=λd=>vy<|kU ar;simp only[Y,X] at E;have bE:∀k,k∉ar->(∀d f,W.w[d]?=some f->m d->k≠f.bk)->o.p k=W.p k:=λk h i=>by exact Z l.p<|q.bE k (λt=>h<|iu.1<|QI t) i
 have jm:∀d f,W.w[d]?=some f->m d->f.dS∉ar/\∀y v,W.w[y]?=some v->m y->f.dS≠v.bk:=λd f h i=>by refine ah ((H.b8 d f h i).aV) λL j _=>⟨λt=>?_,λy v C O e=>?_⟩;refine cM (H.lR t) λB s u _=>?_;rw[j] at s;rw[<-P0 s] at u;exact absurd u (by refine(?_:1≠0);decide);refine ah ((H.b8 y v C O).az) λN4 D _=>?_;replace j:=D▸e▸j;cases j
 have G:∀d f,W.w[d]?=some f->m d->fM o d f (c d - c9 w ar d):=λd f h i=>by have M:=H.b8 d f h i;refine ah M.az λL j V=>(ah M.aV λNO z NS=>bs (jm d f h i) λNW NX=>?_);have r:=q.mR d f L h i j;rw[Y,X,<-l.p] at r;exact⟨am L r<|l.m.k _ _ V,Z (l.m.t _ M.bu.2.1)<|l.m.k _ _ M.dt,am NO ((bE _ NW NX).trans z)<|l.m.k _ _ NS,M.du.m l.m M.bu.1,b9 (P9 M.bu.1 l.m.n) (P9 M.bu.2.1 l.m.n) M.bu.2.2⟩
 have K:∀d,fQ o d=fQ W d:=λd=>by unfold fQ;refine Z l.w ?_;rfl
 have NY:∀d,d_ o d=d_ W d:=λd=>by unfold d_;refine Z l.w ?_;rfl
 have S:∀d f,W.w[d]?=some f->m d->f.bk∉p/\f.dS∉p:=λd f h i=>by have M:=H.b8 d f h i;refine ah M.az λL j _=>(ah M.aV λNO z _=>⟨λt=>?_,λt=>?_⟩);refine ah (NP _ t) λB s u=>?_;rw[j] at s;rw[<-P0 s] at u;have:=T d f h i;exact absurd u<|QN this;refine ah (NP _ t) λB s u=>?_;replace s:=z▸s;rw[<-P0 s] at u;exact absurd u (by refine(?_:1≠0);decide)
 have A:∀d,(d∈(List.range W.w.length).filter λd=>decide (fQ W d∈n))↔∃f,W.w[d]?=some f/\m d/\c9 w ar d=c d:=λd=>by rw[List.mem_filter,List.mem_range,Qx,E];constructor;rintro ⟨h,y,v,C,O,D,N3,NR⟩;have i:=RB h;rw[iB i] at D;have:d=y:=k_ H.bi i C D;exact Z this<|cp v C O NR;rintro ⟨f,h,i,j⟩;exact⟨(P1.1 h).1,d,f,h,i,iB h,by refine Z j ?_;exact T d f h i,j⟩
 have J:((List.range W.w.length).filter λd=>decide (fQ W d∈n)).Pairwise (·<·):=List.Pairwise.filter _ List.pairwise_lt_range;have NT:=(Qh.1 H.eh).1;have P:n.length<=ar.length:=by have:=q.a5;rw[F,P3,hN] at this;exact an [⟨1,.h (.b 0)<|.b 1,.h (.b 0)<|.b 2⟩] (.b 1) (.b 2) rfl [p.length,n.length,ar.length] this
 refine⟨n,_,l.u.trans F,⟨l.u.trans F,Qh.2<|b9 NT U λa Q g R e=>?_,by have:=H.cu;exact fp P this,?_,?_,by refine Z l.w ?_;exact H.bi,?_,λd r=>?_,λd r f b=>?_⟩,J,A,λd r=>?_,λt=>?_,bE,G⟩;exact hU ((E g).1 R) λd f h i j _=>((S d f h i).1<|ad j<|ad e Q);refine Z l.u<|Z F<|Z P3 ?_;rw[H.u,P3] at I;exact an [⟨1,.h (.b 0)<|.b 1,.e 50000⟩,⟨1,.b 2,.b 1⟩] (.h (.b 0)<|.b 2) (.e 50100) rfl [p.length,ar.length,n.length] I P;refine Z l.E ?_;have:=H.cu;exact(an [⟨1,.h (.b 0)<|.e 1,.e 64⟩,⟨1,.b 1,.e 90000⟩,⟨1,.b 2,.b 0⟩] (.h (.b 1)<|.b 2) (.e 100000) rfl [ar.length,W.E.length,n.length] this NU P);refine pf (zr U) ?_ λx=>?_;refine List.pairwise_map.2<|List.Pairwise.imp_of_mem (λ{a g} Q R b=>Z (K ..)<|Z (K ..) ?_) J;have h:=List.mem_range.1 (List.mem_filter.1 Q).1;have i:=List.mem_range.1 (List.mem_filter.1 R).1;refine Z (iB<|RB h) ?_;refine Z (iB<|RB i) ?_;exact List.pairwise_iff_getElem.1 H.bi a g h i b;rw[iu,Qa];constructor;intro NV;exact yq ((E x).1 NV) λd f h i j V z=>(am d ((A d).2<|cp f h i z) (by refine Z (K ..)<|Z (iB h ..)<|Z (j ..) ?_;rfl));rintro ⟨d,r,rfl⟩;exact Z (K ..)<|of_decide_eq_true (List.mem_filter.1 r).2;refine cM ((A d).1 r) λf h i j=>?_;have:=G d f h i;rw[j,Nat.sub_self] at this;exact am f (by exact Z l.w h) this;refine cM ((A d).1 r) λv h i j=>?_;rw[l.w,h] at b;obtain rfl:=P0 b;exact(S d _ h i).2;exact cM ((A d).1 r) λv h i j=>(Z (NY ..)<|Z (hD h ..)<|(S d _ h i).2);exact Z t<|List.filter_eq_nil_iff.2 λd _=>by simp
theorem L8{I:V}(L:G W I)(S:bt W)(NV:W.C=none)(H:i6 W w ar NY A c)(Op:∀k∈w,∃N3,W.p k=some N3/\N3.dd=0)(NP:∀a p,W.w[a]?=some p->A a->0<c a)(Oi:W.E.length<=90000)(NW:W.u.length<=50000)(p:∀d z M,G d z->vp W d w ar A c (c9 NY ar) M->h .s z):ag (n+6) false (.B 94 10) [.a W.i.bN,.c (w.length:Nat)] h i I:=by
 by_cases NT:ar=[];subst NT;have D:W.u=w:=by refine Z (H.u ..)<|Z (Q1 ..) ?_;rfl
 have:=rv (n:=n) (i:=i) L S (cv NW)<|p W I [] L ⟨.cK,rfl,rfl,rfl,rfl,rfl,rfl,rfl,D,NV,am [] ((Q1 _).symm) .aP,.nil,λa=>⟨λr=>(Rc r).elim,λ⟨k,m,o,y⟩=>?_⟩,λ_ _ _=>rfl,λa p m o y=>H.b8 a p m o⟩;replace this:=D▸this;exact this;have:=NP a k m o;rw[<-y] at this;exact absurd this<|Qn 0;refine bp rg ∅ ?_;have NO:=L.a3;refine oa<|xS L S NV (tZ NO H NT) λt Os NR B O Ov Om=>(aZ λOy Oq=>c5 Om λOw Oz g N4 q=>?_);obtain⟨NN,M,Oj,K,Og,R,Of,Od,bE,mR⟩:=K9 NO H Op NP Oi NW g q;refine Oq ?_;have T:=S.m g.m;have jm:∀a p,W.w[a]?=some p->A a->∀f F,W.w[f]?=some F->A f->p.bk≠F.dS/\(p.dS=F.dS->a=f):=λa p m o f F l v=>by refine ah ((H.b8 a p m o).az) λN5 y _=>(ah ((H.b8 a p m o).aV) λOx C _=>ah ((H.b8 f F l v).aV) λN6 P _=>⟨λe=>(by replace y:=P▸e▸y;cases y),λe=>?_⟩);replace C:=P▸e▸C;have:=P0 C;(injection this with _ this _);have:=Y.c.inj this;exact wt this
 have NU:∀a,fQ t a=fQ W a:=λa=>by unfold fQ;exact Z g.w rfl
 have NS:∀a,d_ t a=d_ W a:=λa=>by unfold d_;exact Z g.w rfl
 have bf:∀(d:N) (z:V) (NQ x:Y),G d z->p5 t d w M->(cF (ag (n+5) true) (ag (n+5) false) false 59 (as 94 10) (List.drop 1<|ab 94 10)<|de h i) (.f<|iR t.i.bN (.c (w.length:Nat)) NQ x) z:=λd z NQ x N7 s=>by refine(?_:br _ _ _ _ _ ⟨_,_,_⟩ _ _ _);refine bR up<|ah s.E λE Ok Ol=>(p d z M N7 ⟨g.m.q s.m,s.2.trans g.2,s.3.trans g.3,s.4.trans g.4,s.5.trans g.5,s.6.trans g.6,s.7.trans g.7,s.8.trans g.8,s.u,s.C,am E (Z Ok<|Z g.E rfl) Ol,Og,R,λk m o=>?_,λa mk m o y=>?_⟩);exact(s.bE k λa X=>cM ((R a).1 X) λmk l v Oa=>Z (NU ..)<|Z (NS ..)<|Z (iB l ..)<|Z (hD l ..)<|o a mk l v).trans<|bE k m λa mk l v=>(o a mk l v).1;have u:=mR a mk m o;have X:a∉M:=λr=>cM ((R a).1 r) λ_ _ _ N'=>(y N');(have NX:∀f∈M,(mk.bk≠fQ t f/\mk.bk≠d_ t f)/\mk.dS≠fQ t f/\mk.dS≠d_ t f:=λf r=>by refine cM ((R f).1 r) λJ l v Oa=>?_;have NZ:a≠f:=λe=>X<|e▸r;exact Z (NU ..)<|Z (NS ..)<|Z (iB l ..)<|Z (hD l ..)<|b9 ⟨λe=>NZ<|k_ H.bi m l e,(jm a mk m o f J l v).1⟩ ((jm f J l v a mk m o).1.symm) λe=>NZ<|(jm a mk m o f J l v).2 e);exact ah u.az λN5 C P=>ah u.aV λN6 Ob Oc=>⟨am N5 ((s.bE _ λf r=>(NX f r).1).trans C)<|s.m.k _ _ P,Z (s.m.t _ u.bu.2.1)<|s.m.k _ _ u.dt,am N6 ((s.bE _ λf r=>(NX f r).2).trans Ob)<|s.m.k _ _ Oc,u.du.m s.m u.bu.1,b9 (P9 u.bu.1 s.m.n) (P9 u.bu.2.1 s.m.n) u.bu.2.2⟩
 refine ad g.m.i ?_;by_cases Q:NN=[];have D:t.u=w:=by refine Z (Oj ..)<|Z (Q ..)<|Z (Q1 ..) ?_;rfl
 have Oe:=Od Q;have:=xc (u:=ag (n+5) true) (n:=n+3) (p:=false) (g:=fP+3) (b:=NR) (x:=B) (U:=cF (ag (n+5) true) (ag (n+5) false) false 59 (as 94 10) (List.drop 1<|ab 94 10)<|de h i) O T (by have:=K.a5;exact cv this);rw[D] at this;exact this<|bf t Os NR B O ⟨.cK,rfl,rfl,rfl,rfl,rfl,rfl,rfl,D,N4,am [] ((Q1 _).symm)<|Z Oe .aP,λ_ _=>rfl⟩;refine xB O T N4 (uM O.a3 K Q) λOt OA Ou j N8 N_ On=>(cM On λE N9 Oo Oh=>yi K N8 (T.m N_) N9 Oo Oh (λr=>?_) Of bf);have b:=K.hW;rw[r] at b;have:=hN (f:=NN);rw[b] at this;exact Q<|List.length_eq_zero_iff.1 this.symm
end
section
set_option genCtorIdx false
set_option genSizeOf false
set_option genInjectivity false
inductive cC where
 |e8 (b:Nat)|fc (b a:Nat)|eS (b:Nat)|cR (f:List (Nat×Nat))
noncomputable def cC.ctorIdx(v:cC):Nat:=v.casesOn (λ_=>0) (λ_ _=>1) (λ_=>2) λ_=>3
structure bU where
 a2:List cC
 d2:Bool
 n:List Nat
structure ap where
 bP:List Int
 L:Nat
 aX:List Nat
 S:List (List Int)
 E:List d7
noncomputable def ap.dO(o:ap):List Int:=o.bP++o.S.flatten
def ap.ei(o:ap):List Nat:=(List.range o.L).filter λa=>!o.dO.contains (a:Int)&&!o.aX.contains a
def ap.fY(o:ap):ap:={o with aX:=o.aX++o.ei,E:=o.E++o.ei.map .aX}
noncomputable def f2(f:List (List Int))(x:List Int):List (List Int):=f.dropLast++[(f.getLast?.getD [])++x]
noncomputable def dk(a:List bU)(w:Nat):bU:=a[w]?.getD ⟨[],false,[]⟩
def gk(d:List bU)(e:ap->cC->ap)(o:ap)(w k:Nat):ap×d7:=
 let a:=(dk d w).a2.foldl e o
 let c:=(dk d w).n.map λb=>a.bP[b]?.getD (-1)
 if k=0 then(a,.fv<|-1) else if k=2 then({a with S:=f2 a.S c},.e5 c) else({a with S:=f2 a.S [c.getLast?.getD<|-1]},.fv<|c.getLast?.getD<|-1)
def lU(b:List bU)(c:ap->cC->ap)(x:ap×List d7)(a:Nat×Nat):ap×List d7:=((gk b c x.1 a.1 a.2).1,x.2++[(gk b c x.1 a.1 a.2).2])
def ap.wc(x:ap×List d7):ap:=({x.1 with S:=x.1.S.dropLast,E:=x.1.E++x.2}:ap).fY
noncomputable def ap.fJ(o:ap)(b:Nat)(s:Int):ap:={o with bP:=o.bP.set b s}
noncomputable def cc(a:List bU):Nat->ap->cC->ap|_,o,.e8 b=>(o.fJ b<|-1).fY|_,o,.fc b d=>(o.fJ b<|o.bP[d]?.getD (-1)).fY|_,o,.eS b=>({o with L:=o.L+1}.fJ b o.L).fY|0,o,.cR _=>o|c+1,o,.cR f=>ap.wc<|f.foldl (lU a<|cc a c) ({o with S:=o.S++[[]]},[])
def cI(o:ap)(a:Nat):Nat:=o.dO.count (a:Int)
def es(W:N)(v:Y)(s:Int):Prop:=(s= -1/\(v=.s\/v=.c 0))\/∃(b:Nat) (a:ej),s=b/\W.w[b]?=some a/\v=.a a.du
inductive ds(W:N):List Nat->List Int->Prop
 |aP:ds W [] []
 |gc {k c d b a}:W.p k=some (.az 0 false false c d)->W.y c (.d [])->W.y d (.d [])->ds W b a->ds W (k::b) a
 |jd {b a}:ds W b a->ds W b (-1::a)
 |bn {k c b a} {f:Nat} {e:ej}:W.p k=some (.aV 0 (.a e.du) c)->W.w[f]?=some e->W.y c (.d [])->ds W b a->ds W (k::b) ((f:Int)::a)
structure hO(c:Nat)(o:ap)(W:N):Prop where
 a5:W.w.length=o.L
 dP:o.bP.length=3
 bi:W.w.Pairwise (λa g=>a.bk<g.bk)
 fI:∀k∈W.w,k.bk<=W.n
 b8:∀b e,W.w[b]?=some e->b∉o.aX->fM W b e (cI o b)
 bw:∀d s,o.bP[d]?=some s->∃v h,W.p (d+1)=some (.aV 1 v h)/\es W v s
 ar:∃f,W.u=f.flatten/\be (ds W) f o.S
 eh:W.u.Nodup
 E:be (dR W) W.E o.E
 C:W.C=none
 gl:∀b,b∈o.aX->cI o b=0
 eu:∀b,b∈o.aX->b<o.L
 cB:W.n<=c/\W.u.length<=c/\W.E.length<=c/\o.L<=c/\o.dO.length<=c/\W.bG<=c
structure bh(b:Nat)(o:ap)(W:N):Prop extends hO b o W where
 bj:∀a,a<o.L->(a∉o.aX↔0<cI o a)
theorem ds.cj:∀{i j:List Nat} {e f:List Int},ds W i e->ds W j f->ds W (i++j) (e++f):=by intro _ _ _ _ k;induction k with|aP=>intro b;exact b|gc a g c h d=>intro b;exact .gc a g c (d b)|jd h d=>intro b;exact .jd (d b)|bn a g c h d=>intro b;exact .bn a g c<|d b
theorem ds.ei:∀{i:List Nat} {m:List Int},ds W i m->∀k∈i,∃d,W.p k=some d/\d.dd=0/\(∀c h j n l,d=.az c h j n l->h=false):=by intro _ _ o;induction o with|aP=>intro k b;exact(Rc b).elim|gc a g c d e=>intro k b;(rcases RD.1 b with rfl|b);exact cp _ a rfl (λ_ _ _ _ _ f=>by cases f;rfl);exact e k b|jd d e=>intro k b;exact e k b|bn a g c d e=>intro k b;(rcases RD.1 b with rfl|b);exact cp _ a rfl (λ_ _ _ _ _ f=>by cases f);exact e k b
theorem ds.b4(e:av W d)(n:∀(j:Nat) i,W.w[j]?=some i->d.w[j]?=some i):∀{h:List Nat} {l:List Int},ds W h l->(∀k∈h,d.p k=W.p k)->ds d h l:=by intro _ _ o;induction o with|aP=>intro _;exact .aP|gc a g c m f=>intro b;exact .gc ((b _<|.head _).trans a) (e.k _ _ g) (e.k _ _ c) (f λk y=>b k<|.tail _ y)|jd m f=>intro b;exact .jd (f b)|bn a g c m f=>intro b;exact .bn ((b _<|.head _).trans a) (n _ _ g) (e.k _ _ c)<|f λk y=>b k<|.tail _ y
theorem j'(e:av W d)(i:∀(h:Nat) f,W.w[h]?=some f->d.w[h]?=some f):∀{c:List (List Nat)} {g:List (List Int)},be (ds W) c g->(∀k∈c.flatten,d.p k=W.p k)->be (ds d) c g:=by intro _ _ l;induction l with|aP=>intro _;exact .aP|@aY _ _ _ _ a m j=>intro b;exact .aY (a.b4 e i λk y=>b k (by rw[QX];exact Q9 _ y))<|j λk y=>b k (by rw[QX];exact PZ _ y)
theorem oJ:∀{f:List (List Nat)} {j:List (List Int)},be (ds W) f j->∀k∈f.flatten,∃d,W.p k=some d/\d.dd=0/\(∀c e g l i,d=.az c e g l i->e=false):=by intro _ _ m;induction m with|aP=>intro k b;exact(Rc b).elim|@aY _ _ _ _ a d h=>intro k b;rw[QX] at b;refine Or.elim (PY.1 b) (λb=>?_) λb=>?_;exact a.ei k b;exact h k b
theorem hO.mN(R:hO e o W):∀k∈W.u,∃a,W.p k=some a/\a.dd=0/\(∀c d f i h,a=.az c d f i h->d=false):=by exact ah R.ar λj g b=>Z g<|oJ b
theorem es.b4(h:∀(c:Nat) a,W.w[c]?=some a->d.w[c]?=some a)(b:es W v s):es d v s:=by
 rcases b with b|⟨c,a,e,f,g⟩
 exact .inl b;exact .inr<|eb c a e (h _ _ f) g
theorem fM.b4(e:av W d)(b:fM W f a c)(n:d.p a.bk=W.p a.bk)(o:d.p a.dS=W.p a.dS):fM d f a c:=by refine aZ λs r=>?_;obtain⟨⟨p,h,i⟩,g,⟨q,j,k⟩,m,l⟩:=b;exact r ⟨am p (n.trans h)<|e.k _ _ i,Z (e.t _ l.2.1)<|e.k _ _ g,am q (o.trans j)<|e.k _ _ k,m.m e l.1,b9 (P9 l.1 e.n) (P9 l.2.1 e.n) l.2.2⟩
end
section
set_option tactic.hygienic true
def iX(W:N)(d:Nat->Prop)(c:Nat->Nat):Prop:=∀a b,W.w[a]?=some b->d a->fM W a b (c a)
def uP(W d:N):Prop:=∀k,(∀c b a,W.p k≠some (.az c true false b a))->d.p k=W.p k
theorem iX.s_(s:iX W k c)(bi:W.w.Pairwise λa g=>a.bk<g.bk)(e:av W d)(H:d.w=W.w)(p:W.w[i]?=some h)(R:k i)(u:W.p h.bk=some (.az (c i) true false r h.dt))(n:d.p=e4 W.p h.bk (some<|.az m true false r h.dt)):iX d k λx=>if x=i then m else c x:=λb v f o=>by replace f:=H▸f;have M:=s b v f o;(have y:∀{x t:Nat} {a:ej},W.w[x]?=some a->k x->a.dS≠h.bk:=λ{x t a} K L j=>by refine ah ((s x a K L).aV) λw q _=>?_;replace q:=u▸j▸q;cases q);by_cases j:b=i;subst j;rw[p] at f;obtain rfl:=P0 f;refine(Z (P8 rfl)<|aZ λS Q=>?_:fM d b h (if b=b then m else c b));obtain⟨⟨z,A,B⟩,g,⟨O,C,D⟩,E,l⟩:=M;(have F:z=r:=by injection (P0<|A.symm.trans u));subst F;exact Q ⟨am z (by exact Z n<|P8 rfl)<|e.k _ _ B,Z (e.t _ l.2.1)<|e.k _ _ g,am O (by exact Z (n ..)<|(P4<|y (t:=0) p o).trans C)<|e.k _ _ D,E.m e l.1,b9 (P9 l.1 e.n) (P9 l.2.1 e.n) l.2.2⟩;exact(Z (P4 j)<|M.b4 e (Z n<|P4 λP=>j<|k_ bi f p P)<|Z n<|P4<|y (t:=0) f o:fM d b v (if b=i then m else c b))
theorem wk(i:iX W l c)(bi:W.w.Pairwise λa g=>a.bk<g.bk)(u:es W v s)(t:∀d:Nat,s=d->l d/\c d<=90000):∃e,j5 W v e/\iX e l (λd=>c d+if s=(d:Int) then 1 else 0)/\uP W e/\dy W e/\e.w=W.w/\e.n=W.n:=by
 rcases u with⟨rfl,b⟩|⟨d,f,rfl,p,rfl⟩
 refine t1 W (by rcases b with rfl|rfl<;>first|exact .s|exact .c 0) (λd f n o=>?_) (λ_ _=>rfl) ⟨rfl,rfl⟩ rfl rfl;have:¬((-1:Int)=(d:Int)):=km;skip;exact i d f n o;obtain⟨j,r⟩:=t d rfl;refine ah ((i d f p j).az) λx m z=>(t1 _ (.a (i d f p j).du m<|op r) (λq w n o=>?_) (λk y=>P4 λh=>y _ _ _<|h▸m) ⟨rfl,rfl⟩ rfl rfl);have:=i.s_ bi (d:=W.bi f.bk<|.az (c d) true false x f.dt) .bi rfl (m:=c d+1) p j m rfl q w n o;by_cases h:q=d;subst h;simp only[if_true] at this⊢;exact this;simp only[if_neg h,if_neg<|show¬((d:Int)=(q:Int)) by exact xl h] at this⊢;exact this
theorem Fo(j:iX W o c)(bi:W.w.Pairwise λa g=>a.bk<g.bk)(D:es W v s)(C:∀d:Nat,s=d->o d/\c d<=90000/\0<c d)(E:W.u.length<=90000):∃(h:N) (M:List Nat),i7 W v h/\iX h o (λd=>c d - if s=(d:Int) then 1 else 0)/\uP W h/\h.w=W.w/\h.n=W.n/\h.u=W.u++M.map (fQ W)/\(∀d:Nat,d∈M↔s=d/\c d=1)/\M.length<=1/\(h.bG=W.bG/\h.fF=W.fF/\h.a6=W.a6/\h.O=W.O/\h.aE=W.aE/\h.E=W.E/\h.aA=W.aA/\h.C=W.C):=by
 rcases D with⟨rfl,b⟩|⟨d,i,rfl,l,rfl⟩
 refine⟨W,[],(by rcases b with rfl|rfl<;>first|exact .s|exact .c 0),λd i q r=>?_,λ_ _=>rfl,rfl,rfl,(Q1 _).symm,λd=>⟨λf=>(Rc f).elim,λf=>Ks f.1⟩,Qp _,⟨rfl,rfl,rfl,rfl,rfl,rfl,rfl,rfl⟩⟩;have:¬((-1:Int)=(d:Int)):=km;skip;exact j d i q r;refine eN (C d rfl) λn A B=>(ah ((j d i l n).az) λm p H=>?_);have z:i7 W (.a i.du) (W.gA i.bk<|.az (c d) true false m i.dt):=.a (j d i l n).du p ((ff B).symm) (op A)<|op E;have u:(W.gA i.bk<|.az (c d) true false m i.dt).w=W.w:=by unfold N.gA;split<;>rfl
 have w:(W.gA i.bk<|.az (c d) true false m i.dt).p=e4 W.p i.bk (some<|.az (c d - 1) true false m i.dt):=by refine(?_:(if c d=1 then _ else _:N).p=_);split;rename_i f;refine Z f ?_;rfl;rfl
 refine⟨_,if c d=1 then[d] else[],z,λt F q r=>?_,λk y=>?_,u,by unfold N.gA;split<;>rfl,?_,λx=>?_,by split<;>simp,by unfold N.gA;split<;>exact⟨rfl,rfl,rfl,rfl,rfl,rfl,rfl,rfl⟩⟩;have:=j.s_ bi z.m u (m:=c d - 1) l n p w t F q r;by_cases f:t=d;subst f;simp only[if_true] at this⊢;exact this;simp only[if_neg f,if_neg<|show¬((d:Int)=(t:Int)) by exact xl f] at this⊢;exact this;exact Z w<|P4 λf=>y _ _ _<|f▸p;unfold N.gA;refine(?_:(if c d=1 then _ else _:N).u=_);split;exact(Z (iB l) rfl:W.u++[i.bk]=W.u++[fQ W d]);exact(Q1 _).symm;split;rw[Re];exact⟨λe=>by refine Z e ?_;exact⟨rfl,by assumption⟩,λ⟨e,_⟩=>(fr e).symm⟩;exact⟨λf=>(Rc f).elim,λ⟨e,f⟩=>by obtain rfl:=fr e;exact absurd f<|by assumption⟩
def bK.ke:bK->Prop|.aV ..=>False|.az c a _ _ _=>a=false/\c≠0|.cx ..=>True
structure dB(b:List Nat)(g:Nat)(W d:N):Prop where
 m:av W d
 a6:d.a6=W.a6
 O:d.O=W.O
 aE:d.aE=W.aE
 aA:d.aA=W.aA
 g6:∀k a,W.p k=some a->a.ke->d.p k=some a
 w:∀(e:Nat) c,W.w[e]?=some c->d.w[e]?=some c
 fL:∃f,d.u=b++f/\f.length<=g
 hw:∀k∈b,d.p k=W.p k
theorem q6{e A d:List Nat}(a:∃b,A=e++b/\b.length<=f)(g:∃b,d=A++b/\b.length<=q):∃b,d=e++b/\b.length<=f+q:=by refine ah a λt c h=>?_;subst c;exact ah g λb c i=>Z c<|am (t++b) (Qf ..)<|Z P3<|Nat.add_le_add h i
theorem tI{c A:List Nat}(a:∃d,A=c++d/\d.length<=e)(b:k∈c):k∈A:=by exact ah a λt f _=>Z f<|Q9 _ b
theorem kM{a:List Nat}:∃b,a=a++b/\b.length<=c:=am [] ((Q1 _).symm)<|Qp _
theorem dB.Cd{q:Nat}(a:dB c l W e)(g:dB c q e d):dB c q W d:=⟨a.m.q g.m,g.2.trans a.2,g.3.trans a.3,g.4.trans a.4,g.5.trans a.5,λk j b s=>g.g6 k j (a.g6 k j b s) s,λh f b=>g.w h f<|a.w h f b,g.fL,λk i=>(g.hw k i).trans<|a.hw k i⟩
theorem dB.q{W c d:N}{e:List Nat}{f q:Nat}(a:dB e f W c)(g:dB c.u q c d):dB e (f+q) W d:=⟨a.m.q g.m,g.2.trans a.2,g.3.trans a.3,g.4.trans a.4,g.5.trans a.5,λk l b s=>g.g6 k l (a.g6 k l b s) s,λi h b=>g.w i h<|a.w i h b,q6 a.fL g.fL,λk j=>(g.hw k<|tI a.fL j).trans<|a.hw k j⟩
theorem dB.bu{q:Nat}(a:dB c e W d)(b:e<=q):dB c q W d:=⟨a.1,a.2,a.3,a.4,a.5,a.6,a.7,by refine ah a.fL λh f g=>?_;exact am h f<|P9 g b,a.9⟩
theorem dB.cK:dB W.u a W W:=⟨.cK,rfl,rfl,rfl,rfl,λ_ _ b _=>b,λ_ _ b=>b,kM,λ_ _=>rfl⟩
theorem rQ:cI o a<=o.dO.length:=List.count_le_length
theorem x2{a:Nat}(b:o.bP[c]?=some d):cI (o.fJ c s) a+(if d=(a:Int) then 1 else 0)=cI o a+if s=(a:Int) then 1 else 0:=by
 refine bA (P1.1 b) λf e=>?_;refine(Z List.count_append<|Z List.count_append<|Z (List.count_set f)<|Z e ?_:(o.bP.set c s++o.S.flatten).count (a:Int)+_=(o.bP++o.S.flatten).count (a:Int)+_);have:(if(d==(a:Int))=true then 1 else 0)<=o.bP.count (a:Int):=by split;rename_i g;exact ad (eq_of_beq g)<|ad e<|List.count_pos_iff.2<|List.getElem_mem f;exact Qp _
 simp only[beq_iff_eq] at this⊢;exact EV this
theorem nI{c a:Nat}(b:o.bP[c]?=some (a:Int)):0<cI o a:=by have:=PW b;exact List.count_pos_iff.2<|Q9 _ this
structure jn(c:Nat)(o:ap)(W:N)(d M:List Nat):Prop where
 a5:W.w.length=o.L
 dP:o.bP.length=3
 bi:W.w.Pairwise (λa g=>a.bk<g.bk)
 fI:∀k∈W.w,k.bk<=W.n
 b8:iX W (λb=>b∉o.aX) (cI o)
 bw:∀e s,o.bP[e]?=some s->∃v h,W.p (e+1)=some (.aV 1 v h)/\es W v s
 ar:∃f,d=f.flatten/\be (ds W) f o.S
 eh:d.Nodup
 u:W.u=d++M.map (fQ W)
 ei:M=o.ei
 nc:M.length<=1
 E:be (dR W) W.E o.E
 C:W.C=none
 gl:∀b,b∈o.aX->cI o b=0
 eu:∀b,b∈o.aX->b<o.L
 cB:W.n<=c/\d.length<=c/\W.E.length<=c/\o.L<=c/\o.dO.length<=c/\W.bG<=c
theorem jv:a∈o.ei↔a<o.L/\cI o a=0/\a∉o.aX:=by
 unfold ap.ei;have:(a:Int)∉o.dO↔cI o a=0:=by unfold cI;rw[List.count_eq_zero]
 rw[List.mem_filter,List.mem_range,Qm,Bool.not_eq_true',Bool.not_eq_true',<-Bool.not_eq_true,<-Bool.not_eq_true,Ql,Ql,this]
theorem rZ(b:es W v s)(c:Nat):v≠.c (70+c:Nat):=by
 rcases b with⟨_,rfl|rfl⟩|⟨_,_,_,_,rfl⟩
 intro a;cases a;intro a;have:=Y.c.inj a;exact(ff (aM (#[]:1<=70)<|fw 70 c)<|fr this);intro a;cases a
section
theorem wr{o:ap}:o.ei.Pairwise (·<·):=List.Pairwise.filter _ List.pairwise_lt_range
theorem wL(j:jn Q o W D M)(s:p5 W d D M):bh (Q+1) o.fY d/\dB D 0 W d:=by
 refine aZ λNW H=>?_;have z:∀a∈M,∃i,W.w[a]?=some i/\fM W a i 0:=λa p=>by rw[j.ei] at p;refine eN (jv.1 p) λc l L=>?_;replace c:=j.a5.symm▸c;have:=j.b8 a _ (RB c) L;rw[l] at this;exact am _ (RB c) this
 have B:∀k A,W.p k=some A->(∀a i,W.w[a]?=some i->a∈M->k≠i.bk/\k≠i.dS)->d.p k=some A:=λk A b y=>by exact ad b<|s.bE k λa p=>ah (z a p) λi c _=>Z (iB c)<|Z (hD c)<|y a i c p
 have NO:∀a i,W.w[a]?=some i->a∉o.fY.aX->fM d a i (cI o.fY a):=λa i c l=>by have NN:a∉o.aX:=λf=>l<|Q9 _ f;have S:a∉M:=λf=>l<|PZ _<|j.ei▸f;have h:=j.b8 a i c NN;refine ah h.az λV K NT=>(ah h.aV λNV u R=>h.b4 s.m ((B _ _ K λP NR r q=>?_).trans K.symm)<|(B _ _ u λP NR r q=>?_).trans u.symm);refine⟨λe=>S<|k_ j.bi c r e▸q,λe=>ah (z P q) λF m n=>?_⟩;rw[r] at m;obtain rfl:=P0 m;refine ah n.aV λw g _=>?_;rw[<-e,K] at g;exact absurd g (λC=>by cases C);refine ah (z P q) λF m n=>?_;rw[r] at m;obtain rfl:=P0 m;refine⟨λe=>?_,λe=>?_⟩;refine ah n.az λw g _=>?_;rw[<-e,u] at g;exact absurd g (λC=>by cases C);refine ah n.aV λw g _=>?_;rw[<-e,u] at g;have:=P0 g;(injection this with _ this _);have:=Y.c.inj this;exact S<|(Nat.add_left_cancel<|fr this)▸q
 refine ah j.ar λNS O t=>(ah s.E λE T X=>fj j.cB λu R U J I G=>H ?_);have H:∀k∈D,d.p k=W.p k:=λk y=>by refine cM (oJ t k<|ad O y) λA c l L=>((B _ _ c λa i r q=>ah (z a q) λF m n=>?_).trans c.symm);rw[r] at m;obtain rfl:=P0 m;refine⟨λe=>?_,λe=>?_⟩;refine ah n.az λw g _=>?_;replace g:=c▸e.symm▸g;cases L _ _ _ _ _ (P0 g);refine ah n.aV λw g _=>?_;rw[<-e,c] at g;rw[P0 g] at l;exact absurd l (by refine(?_:1≠0);decide)
 refine⟨⟨⟨s.w▸j.a5,j.dP,s.w▸j.bi,by refine Z s.w<|Z s.n ?_;exact j.fI,λa i c l=>NO a i (ad s.w c) l,λNQ x NP=>?_,am NS (by refine Z s.u<|Z O ?_;rfl) ?_,s.u▸j.eh,?_,s.C,λa p=>?_,λa p=>?_,?_⟩,λa p=>?_⟩,⟨s.m,s.a6,s.O,s.aE,s.aA,λk A b t=>?_,λa i f=>by rw[s.w];exact f,s.u▸kM,H⟩⟩;refine bZ (j.bw NQ x NP) λv V c l=>(bq v V (B _ _ c λa i r q=>ah (z a q) λF m n=>?_)<|l.b4 λa i f=>Z s.w f);rw[r] at m;obtain rfl:=P0 m;refine⟨λe=>?_,λe=>?_⟩;refine ah n.az λw g _=>?_;rw[<-e,c] at g;exact absurd g (λC=>by cases C);refine ah n.aV λw g _=>?_;rw[<-e,c] at g;have:=P0 g;injection this with _ this _
 exact rZ l a this;exact j' s.m (λa i f=>by rw[s.w];exact f) t λk y=>H k<|Z O y;exact Z T (ad j.ei<|(j.E.bD λ_ _=>dR.m s.m).cj X:be _ _ (o.E++o.ei.map .aX));rcases PY.1 p with f|f
 exact j.gl a f;exact(jv.1 f).2.1;rcases PY.1 p with f|f
 exact j.eu a f;exact(jv.1 f).1;refine io (by exact Z s.n<|eP u) (s.u▸eP R) (Z (T ..)<|Z (P3 ..)<|Z (X.a5 ..)<|Z (P6 ..) ?_) (by exact(eP J:o.L<=_)) (by exact(eP I:o.dO.length<=_))<|Z s.bG<|eP G;have:=j.nc;exact pZ U this;refine(?_:a∉o.aX++o.ei↔0<cI o a);rw[PY,not_or,jv];constructor;rintro ⟨c,l⟩;exact Nat.pos_of_ne_zero λf=>l<|b9 p f c;intro b;exact⟨λf=>by have:=j.gl a f;exact pJ b this,λf=>pJ b f.2.1⟩;refine B k A b λa i r q=>(ah (z a q) λF m n=>?_);rw[r] at m;obtain rfl:=P0 m;refine ah n.az λw c _=>(ah n.aV λNU l _=>⟨λe=>?_,λe=>?_⟩);rw[<-e,b] at c;rw[P0 c] at t;exact gU t.1;rw[<-e,b] at l;rw[P0 l] at t;exact t
theorem Bq(u:G W F)(H:bt W)(v:t<=40000)(b:jn t o W l M)(B:∀d r,G d r->bh (t+1) o.fY d->dB l 0 W d->h .s r):ag (n+6) false (.B 94 10) [.a W.i.bN,.c (l.length:Nat)] h i F:=by
 refine fj b.cB λJ K Q I NN NO=>?_;by_cases z:M=[];have q:W.u=l:=Z b.u<|Z z<|Q1 _;have:=rv (n:=n) (i:=i) u H (Z q<|aM (aM K v) #[]) (by exact bs (wL b (d:=W) ⟨.cK,rfl,rfl,rfl,rfl,rfl,rfl,rfl,q,b.C,am [] ((Q1 _).symm)<|Z z .aP,λ_ _=>rfl⟩) λD E=>B W F u D E);replace this:=q▸this;exact this;obtain⟨c,rfl⟩:∃c,M=[c]:=NL b.nc z;have A:=jv.1 (by refine ad b.ei ?_;exact .head _:c∈o.ei);have X:c<W.w.length:=Z b.a5 A.1;have m:=RB X;have j:=b.b8 c _ m A.2.2;replace j:=A.2.1▸j;refine ah b.ar λNQ q U=>?_;have out:∀k,k∈l->k≠(W.w[c]).bk/\k≠(W.w[c]).dS:=λk y=>by rw[q] at y;refine cM (oJ U k y) λNP L O R=>⟨λe=>?_,λe=>?_⟩;refine ah j.az λw f _=>?_;replace f:=L▸e.symm▸f;cases R _ _ _ _ _ (P0 f);refine ah j.aV λw f _=>?_;replace f:=L▸e.symm▸f;rw[P0 f] at O;exact absurd O (by refine(?_:1≠0);decide)
 refine HK (ar:=[fQ W c]) (M:=[c]) u H b.C ⟨b.u,Qh.2 ⟨b.eh,by simp,λa S g T e=>?_⟩,by refine(?_:1<64);decide,by refine Z (b.u ..)<|Z (P3 ..)<|Z (P6 ..) (?_:_+1<=_);exact aM (j_<|aM K v) #[],by refine(?_:_+1<=_);exact aM (j_<|aM Q v) #[],b.bi,rfl,λx p=>?_,λx p B y=>?_⟩ (by simp) (λx p=>?_) λd r P s=>?_;rw[Re.1 T,iB m] at e;exact(out a S).1 e;exact Z (Re.1 p)<|am _ m j;rw[Re.1 p,m] at y;obtain rfl:=P0 y;exact λC=>(out _ C).2 rfl;exact Z (Re.1 p)<|Z (hD m) λC=>(out _ C).2 rfl;exact bs (wL b s) λD E=>B d r P D E
end
end
section
theorem D'{o:ap}:(o.fJ a s).dO.length=o.dO.length:=by exact(Z P3<|Z P3<|Z List.length_set rfl:(o.bP.set a s++o.S.flatten).length=(o.bP++o.S.flatten).length)
theorem hO.gs(R:hO j o W)(l:o.bP[a]?=some s)(b:fM W i d c):d.bk≠a+1/\d.dS≠a+1:=by
 refine bZ (R.bw a s l) λv p h k=>(ah b.az λw f _=>ah b.aV λn g _=>⟨λe=>(by rw[e,h] at f;exact absurd f λm=>by cases m),λe=>?_⟩);rw[e,h] at g;have:=P0 g;injection this with _ this _
 exact rZ k i this
theorem sc(N':G W N7)(Oc:bt W)(R:hO D o W)(NQ:D<=40000)(z:o.bP[j]?=some X)(NU:es W v s)(B:∀a:Nat,s=a->a∉o.aX)(Ol:∀a:Nat,a<o.L->a∉o.aX->0<cI o a\/s=a)(u:∀d L M,G d L->dB W.u 1 W d->jn D (o.fJ j s) d W.u M->h .s L):ag (n+3) p (.B 94 7) [.a W.i.bN,.a<|W.t<|j+1,v] h i N7:=by
 refine aZ λOB K=>(fj R.cB λOf I Og Oh NN Oi=>bZ (R.bw j X z) λbE r S bw=>?_);have NR:∀a,cI o a<=40000:=λa=>by have:=rQ (o:=o) (a:=a);exact an [⟨1,.b 0,.e 40000⟩,⟨1,.b 1,.b 0⟩,⟨1,.b 2,.b 1⟩] (.b 2) (.e 40000) rfl [D,o.dO.length,cI o a] NQ NN this
 obtain⟨g,N3,N8,N1,t,F,Om⟩:=wk R.b8 R.bi NU λa e=>⟨B a e,by have:=NR a;exact cv this⟩;have N9:iX (g.a_ (j+1)<|.aV 1 v r) (λa=>a∉o.aX) λa=>cI o a+if s=(a:Int) then 1 else 0:=λa u m l=>by have M:=N8 a u m l;replace m:=F▸(rfl:(g.a_ (j+1)<|.aV 1 v r).w=g.w)▸m;exact bs (R.gs z<|R.b8 a u m l) λOd Oe=>M.b4 .a_ (P4 Od)<|P4 Oe
 obtain⟨P,M,NY,N_,J,NW,On,N6,Ob,O,Ot,OA,bC,Ou,Ov,NZ,Ow,Ox⟩:=Fo N9 (Z F R.bi:g.w.Pairwise _) (bw.b4 (d:=g.a_ (j+1)<|.aV 1 v r) λa u f=>(Z (F ..) f:g.w[a]?=_)) (λa e=>by subst e;have NX:=nI z;refine⟨λf=>by have:=R.gl a f;exact pJ NX this,?_,?_⟩;exact aM (Nat.add_le_add (NR a) (by split<;>decide:_<=1)) #[];show 0<cI o a+_;exact mo NX) (by refine(Z t.u ?_:g.u.length<=_);exact aM (aM I NQ) #[]);refine K ?_;have NS:=funext λa=>by have:=x2 (a:=a) z (s:=s);exact rH this
 have x:=(N3.m.q .a_).q NY.m;have A:=NW.trans F;have T:∀k,k≠j+1->(∀c w C,W.p k≠some (.az c true false w C))->P.p k=W.p k:=λk b NP=>by have Oj:=N1 k NP;have NO:(g.a_ (j+1)<|.aV 1 v r).p k=W.p k:=(P4 b).trans Oj;exact(J k λc w C=>Z NO<|NP c w C).trans NO
 have K:∀k∈W.u,P.p k=W.p k:=λk y=>by refine cM (R.mN k y) λOy m l Q=>(T k (λe=>?_) λc w C f=>?_);replace m:=S▸e▸m;rw[<-P0 m] at l;exact absurd l (by refine(?_:1≠0);decide);rw[m] at f;have:=Q _ _ _ _ _<|P0 f;exact gU this
 refine rx N' Oc S N3 NY λL Oa=>u P L M Oa ⟨x,bC.trans t.a6,Ou.trans t.O,Ov.trans t.aE,Ow.trans t.aA,λk Oy b B=>(T k (λe=>by rw[e,S] at b;rw[<-P0 b] at B;exact B) λc w C f=>by rw[b] at f;rw[P0 f] at B;exact gU B.1).trans b,λa u f=>by refine Z A ?_;exact f,by refine Z N6<|Z (rfl:(g.a_ (j+1)<|.aV 1 v r).u=g.u)<|Z t.u ?_;exact am _ rfl (Z (P6 ..) O),K⟩ ⟨A▸R.a5,?_,A▸R.bi,A▸λk y=>P9 (R.fI k y) x.n,NS▸N_,λq Os E=>?_,?_,R.eh,?_,?_,O,?_,(Ox.trans t.C).trans R.C,λa NT=>?_,R.eu,?_⟩;exact(Z List.length_set R.dP:(o.bP.set j s).length=3);by_cases f:q=j;subst f;rw[show(o.fJ q s).bP[q]?=(o.bP.set q s)[q]? from rfl,List.getElem?_set_self (P1.1 z).1] at E;obtain rfl:=P0 E;exact bq v r ((J _ λc w C f=>by rw[show(g.a_ (q+1)<|.aV 1 v r).p (q+1)=some (.aV 1 v r) from P8 rfl] at f;exact absurd f λU=>by cases U).trans<|P8 rfl)<|NU.b4 λa u f=>Z A f;rw[show(o.fJ j s).bP[q]?=(o.bP.set j s)[q]? from rfl,List.getElem?_set_ne<|Qy f] at E;exact bZ (R.bw q Os E) λN4 N5 m l=>(bq N4 N5 ((T (q+1) (oq f) λc w C H=>by rw[m] at H;exact absurd H λU=>by cases U).trans m)<|l.b4 λa u f=>Z A f);exact ah R.ar λOz NV Ok=>(am Oz NV<|j' x (λa u f=>Z A f) Ok λk y=>K k<|Z NV y);refine Z N6 (Z t.u ?_:g.u++_=_);congr 1;exact QB λa _=>by unfold fQ;exact Z (show(g.a_ (j+1)<|.aV 1 v r).w=g.w from rfl)<|Z NW rfl
 refine pf ?_ wr λa=>?_;exact NJ O;rw[Ob,jv,<-NS];refine(?_:_↔a<o.L/\cI o a+_ - _=0/\a∉o.aX);constructor;rintro ⟨rfl,e⟩;refine bZ (R.bw j _ z) λN4 N5 m l=>(b9 ?_ ?_ (λf=>by have:=R.gl a f;exact pJ (nI z) this));rcases l with⟨f,_⟩|⟨Oo,u,Op,Oq,_⟩
 exact qo f;have e:a=Oo:=kF Op;exact Z e<|ad R.a5<|(P1.1 Oq).1;exact Z (P8 rfl)<|Z e rfl;rintro ⟨m,l,Q⟩;have:=Ol a m Q;by_cases f:X=(a:Int);refine⟨f,?_⟩;rw[P8 f] at l;exact Q0 (Nat.le_of_sub_eq_zero l)<|aM (nI<|f▸z)<|fw (cI o a)<|if s=↑a then 1 else 0;replace l:=(P4 f)▸l;refine Or.elim this (λb=>?_) λb=>?_;exact absurd (aM (fw (cI o a)<|if s=↑a then 1 else 0)<|dw l)<|Nat.not_le.2 b;replace l:=(P8 b)▸l;exact absurd l<|QQ _;exact Z NZ<|Z (show(g.a_ (j+1)<|.aV 1 v r).E=g.E from rfl)<|Z t.E<|R.E.bD λ_ _=>dR.m x;have cs:=x2 (a:=a) z (s:=s);have H:=R.gl a NT;have:s≠(a:Int):=λf=>B a f NT;rw[P4 this] at*;exact Nat.le_zero.1<|aM (fw _ _)<|dw<|cs.trans H;exact Z On<|Z (rfl:(g.a_ (j+1)<|.aV 1 v r).n=g.n)<|Z Om<|Z NZ<|Z Ot<|Z (rfl:(g.a_ (j+1)<|.aV 1 v r).E=g.E)<|Z (rfl:(g.a_ (j+1)<|.aV 1 v r).bG=g.bG)<|Z t.E<|Z t.bG<|Z D'<|io Of I Og Oh NN Oi
end
section
set_option genCtorIdx false
set_option genSizeOf false
set_option genInjectivity false
structure eO where
 (ev jX j7 ch kg kd fk fT hB kA aN:Nat)
structure eR(W:N)(b:eO):Prop where
 hZ:W.y W.i.hZ (.K [(.l "drop",.a b.ev),(.l "move",.a b.jX),(.l "make",.a b.j7),(.l "gives",.a b.ch),(.l "back",.a b.kg),(.l "asks",.a b.kd)])
 f6:W.y W.i.f6 (.K [(.l "expr",.B 75 0)])
 ev:W.y b.ev (.cl (cD (ab 107 0) 0) [("holders",b.fk)])
 jX:W.y b.jX (.cl (cD (ab 107 0) 1) [("holders",b.fk)])
 j7:W.y b.j7 (.cl (cD (ab 107 0) 2) [("marks",b.fT),("holders",b.fk)])
 ch:W.y b.ch (.cl (cD (ab 107 0) 3) [("holders",b.fk)])
 kg:W.y b.kg (.cl (cD (ab 107 0) 4) [("gives",b.aN)])
 kd:W.y b.kd (.cl (cD (ab 107 0) 5) [("marks",b.fT),("log",b.hB),("codes",b.kA)])
 fk:W.y b.fk (.h1<|some<|.a W.i.hC)
 fT:W.y b.fT (.h1<|some<|.a W.i.c7)
 hB:W.y b.hB (.h1<|some<|.a W.i.di)
 kA:W.y b.kA (.h1<|some<|.a W.i.b1)
 aN:W.y b.aN (.h1<|some<|.a b.ch)
 hC:W.y W.i.hC (.d [.a<|W.t 1,.a<|W.t 2,.a<|W.t 3])
 b1:W.y W.i.b1 (.d [.a<|W.t 10,.a<|W.t 11,.a<|W.t 12])
 n:14<=W.n
theorem eR.m(c:eR W b)(e:av W d):eR d b:=by have a:∀k,k<=14->d.t k=W.t k:=λk y=>e.t k<|P9 y c.n;obtain⟨f,g,h,i,j,l,m,n,o,p,q,r,s,t,u,v⟩:=c;exact⟨by refine Z e.i ?_;exact e.k _ _ f,by refine Z (e.i ..) ?_;exact e.k _ _ g,e.k _ _ h,e.k _ _ i,e.k _ _ j,e.k _ _ l,e.k _ _ m,e.k _ _ n,by refine Z e.i ?_;exact e.k _ _ o,by refine Z (e.i ..) ?_;exact e.k _ _ p,by refine Z e.i ?_;exact e.k _ _ q,by refine Z (e.i ..) ?_;exact e.k _ _ r,e.k _ _ s,by refine Z e.i<|Z (a 1 #[])<|Z (a 2 #[])<|Z (a 3 #[]) ?_;exact e.k _ _ t,by refine Z e.i<|Z (a 10 #[])<|Z (a 11 #[])<|Z (a 12 #[]) ?_;exact e.k _ _ u,P9 v e.n⟩
inductive fy(W:N):Nat->cC->Prop
 |e8 {r b}:W.y r (.A [.l "drop",.c (b:Nat)])->fy W r (.e8 b)
 |fc {r b a}:W.y r (.A [.l "move",.c (b:Nat),.c (a:Nat)])->fy W r (.fc b a)
 |eS {r b}:W.y r (.A [.l "make",.c (b:Nat)])->fy W r (.eS b)
 |cR {r f c e}:W.y r (.A [.l "asks",.a f])->W.y f (.d<|c.map .a)->be (λg (d:Nat×Nat)=>W.y g<|.A [.c (d.1:Nat),.c (d.2:Nat)]) c e->fy W r (.cR e)
theorem fy.m(b:fy W r f)(e:av W d):fy d r f:=by induction b with|e8 a=>exact .e8 (e.k _ _ a)|fc a=>exact .fc (e.k _ _ a)|eS a=>exact .eS (e.k _ _ a)|cR a g c=>exact .cR (e.k _ _ a) (e.k _ _ g)<|c.bD λ_ _=>e.k _ _
section
theorem ds.cf{W:N}{h:List Nat}{e:List Int}(f:ds W h e)(d:Nat):(d:Int)∈e->d<W.w.length:=by induction f with|aP=>exact λb=>(Rc b).elim|gc _ _ _ _ c=>exact c|jd _ c=>intro b;(rcases RD.1 b with a|a);exact qo a;exact c a|bn _ g _ _ c=>intro b;(rcases RD.1 b with a|a);exact Z (kF a) (P1.1 g).1;exact c a
theorem Cl{c:Nat}:∀{i:List (List Nat)} {d:List (List Int)},be (ds W) i d->e∈d->(c:Int)∈e->c<W.w.length:=by intro _ _ h;induction h with|aP=>intro b _;exact(Rc b).elim|@aY _ _ _ _ a j g=>intro b f;(rcases RD.1 b with rfl|b);exact a.cf c f;exact g b f
theorem es.cf{W:N}{v:Y}{a:Nat}(b:es W v a):a<W.w.length:=by
 rcases b with⟨d,_⟩|⟨c,g,e,f,_⟩
 exact qo d;have:a=c:=kF e;exact Z this<|(P1.1 f).1
theorem hO.cf{W:N}{o:ap}{d:Nat}(R:hO d o W){a:Nat}(b:(a:Int)∈o.dO):a<o.L:=by
 refine ad R.a5 ?_;rcases PY.1 b with c|c
 obtain⟨i,h,e⟩:=List.getElem_of_mem c;refine bZ (R.bw i a (by refine Z (RB h) ?_;exact Z e rfl)) λv m _ f=>?_;exact f.cf;exact ah R.ar λn _ g=>ah (List.mem_flatten.1 c) λl j k=>Cl g j k
theorem pg.S(a:iV W)(M:pg W d r):dB W.u 0 W d:=⟨M.m,M.b3.a6,M.b3.O,M.b3.aE,M.b3.aA,λk c b _=>(M.p k<|a.cA k c b).trans b,λi h f=>by refine ah M.sa λg e _=>(Z e<|Z (RA (P1.1 f).1) ?_);exact f,M.b3.u▸kM,λk y=>by exact bA (a.dE k y) λc b=>M.p k<|a.cA k c b⟩
theorem hO.L(p:iV W)(R:hO l o W)(M:pg W d r):hO (l+2) {o with L:=o.L+1} d/\es d (.a r) (o.L:Nat):=by
 refine ah M.sa λS e t=>(fj R.cB λu w x z A B=>?_);have bE:∀(c:Nat) i,W.w[c]?=some i->d.w[c]?=some i:=λc i b=>by refine Z e<|Z (RA (P1.1 b).1) ?_;exact b
 have m:cI o o.L=0:=by refine List.count_eq_zero.2 λb=>?_;have:=R.cf b;exact Qn _ this
 refine⟨⟨Z e<|Z P3<|Z R.a5 rfl,R.dP,?_,?_,λc i f D=>?_,λO s H=>?_,?_,by refine Z M.b3.u ?_;exact R.eh,?_,M.b3.C.trans R.C,R.gl,λc n=>Rb<|R.eu c n,?_⟩,.inr<|eb o.L _ rfl (by refine Z (e ..)<|ad (R.a5 ..)<|Z (QW (P5 _) ..) ?_;exact Z (Nat.sub_self ..) rfl) rfl⟩;exact Z e<|List.pairwise_append.2 ⟨R.bi,List.pairwise_singleton _ _,λa E g F=>Z (Re.1 F)<|Nat.lt_succ_of_le<|R.fI a E⟩;refine Z e<|Z M.n ?_;intro k y;refine Or.elim (PY.1 y) (λb=>?_) λb=>?_;have:=R.fI k b;exact nN this;exact Z (Re.1 b) (Q4 _:W.n+1<=_);rw[e] at f;by_cases b:c<W.w.length;rw[RA b] at f;have h:=R.b8 c i f D;exact h.b4 M.m (M.p _ h.bu.1)<|M.p _ h.bu.2.1;have n:c=W.w.length:=by have:=(P1.1 f).1;rw[P3] at this;have:c<W.w.length+1:=this;exact rU this b
 subst n;rw[QW<|P5 _,Nat.sub_self] at f;exact ad (P0 f)<|Z (show cI {o with L:=o.L+1} W.w.length=0 by exact Z R.a5 m) t;exact bZ (R.bw O s H) λv P j C=>(bq v P ((M.p _<|p.cA _ _ j).trans j)<|C.b4 bE);exact ah R.ar λQ K q=>(am Q (by exact Z M.b3.u K)<|j' M.m bE q λk y=>ah (oJ q k y) λT j _=>M.p k<|p.cA _ _ j);exact Z M.b3.E<|R.E.bD λ_ _=>dR.m M.m;exact Z M.n<|Z M.b3.u<|Z M.b3.E<|Z M.b3.bG<|io (o_ u _) (by exact nN w) (by exact nN x) (by exact(an [⟨1,.b 0,.b 1⟩] (.h (.b 0)<|.e 1) (.h (.b 1)<|.e 2) rfl [o.L,l] z:o.L+1<=_)) (by exact(nN A:o.dO.length<=_))<|nN B
theorem x6(y:k<3)(l:Nat->Nat)(b:a=l 1)(d:g=l 2)(e:c=l 3):(g8 ((k:Nat):Int) 3).bind (λf=>[Y.a a,.a g,.a c][f]?)=some (.a<|l<|k+1):=by subst b d e;exact Nx rfl rfl rfl y
theorem ml(y:k<3)(b:G W a)(c:eR W d)(e:h (.a<|W.t<|k+1) a):J (ce (.a W.i.hC)<|.c (k:Nat)) h a:=g2 (b.k c.hC) (x6 y W.t rfl rfl rfl) e
def cC.jx:cC->Prop|.e8 b=>b<3|.fc b a=>b<3/\a<3|.eS b=>b<3|.cR _=>False
theorem kK(R:hO c o W)(b:a<3):∃s,o.bP[a]?=some s:=⟨_,RB<|Z R.dP b⟩
theorem it{k:Nat}(b:k<n)(a:k<=1000000):g8 (k:Int) n=some k:=by delta g8 seqIndex?;refine Z (P8<|el a) ?_;rw[P4<|show¬((k:Int)<0) by exact oz,P8 (by rw[Qm,Qx,Qx];exact⟨Int.natCast_nonneg k,gK b⟩),Int.toNat_natCast]
theorem pe:g8 (-1) (n+1)=some n:=by delta g8 seqIndex?;refine Z (P8<|by rfl) ?_;rw[P8<|show(-1:Int)<0 by decide,P8 (by rw[Qm,Qx,Qx];exact Z r0 ⟨Int.natCast_nonneg n,gK<|P' n⟩)];congr 1;exact Z r0 rfl
theorem me(c:G W e)(j:eR W b)(a:W.y r (.A<|.l w::d))(g:dn (.l w) [(.l "drop",.a b.ev),(.l "move",.a b.jX),(.l "make",.a b.j7),(.l "gives",.a b.ch),(.l "back",.a b.kg),(.l "asks",.a b.kd)]=some (.a x))(l:ag n p (.a x) [.a W.i.R,.a r,cd] h (aS i) e):ag (n+1) p (.B 46 0) [.a W.i.R,.a r,cd] h i e:=by have f:=j.hZ;exact bp Gl ∅<|cL (c.k a) (by rw[show(0:Int)=((0:Nat):Int) from rfl,it (n:=(Y.l w::d).length) (Nat.succ_pos _)<|Qp _];rfl)<|aK c.bV ∅<|ne (c.k f) rfl (aL<|bx (Z g rfl)<|aK c.bV (v:=.a W.i.hZ) ∅<|cL (v:=.l w) (c.k a) (by rw[show(0:Int)=((0:Nat):Int) from rfl,it (k:=0) (n:=(Y.l w::d).length) (Nat.succ_pos _)<|Qp _];rfl)<|gZ (c.k f) rfl g l)
theorem Jv{A:Int}(c:G W s)(l:bt W)(j:eR W m)(R:bh g o W)(x:g<=30000)(a:W.y r (.A [.l "drop",.c (b:Nat)]))(q:b<3)(y:∀d f M,G d f->dB W.u 1 W d->jn g (o.fJ b<|-1) d W.u M->h .s f):ag (n+7) p (.a m.ev) [.a W.i.R,.a r,cd] h i s:=by refine l2 (c.k j.ev) ∅ H0<|aK c.bV ∅<|c4 (c.k l.bN) (l:=.B 94 7) ∅ ∅<|b2 (c.k j.fk)<|cL (c.k a) rfl (ml q c j ?_);obtain⟨A,u⟩:=kK R.tohO q;exact sc c l R.tohO (cv x) u (.inl ⟨rfl,.inr rfl⟩) (λe z=>(km z).elim) (λe v w=>.inl<|(R.bj e v).1 w) λd f M t k e=>y d f M t k e
theorem Lu{H:Int}(c:G W y)(s:bt W)(e:eR W u)(R:bh l o W)(E:l<=30000)(a:W.y r (.A [.l "move",.c (b:Nat),.c (g:Nat)]))(w:b<3)(x:g<3)(q:∀d j M,G d j->dB W.u 1 W d->jn l (o.fJ b<|o.bP[g]?.getD (-1)) d W.u M->h .s j):ag (n+7) p (.a u.jX) [.a W.i.R,.a r,cd] h i y:=by refine l2 (c.k e.jX) ∅ H1<|aK c.bV ∅<|c4 (c.k s.bN) (l:=.B 94 7) ∅ ∅<|b2 (c.k e.fk)<|cL (c.k a) rfl (ml w c e<|b2 (c.k e.fk)<|cL (c.k a) rfl (ml x c e ?_));obtain⟨H,A⟩:=kK R.tohO w;obtain⟨K,m⟩:=kK R.tohO x;refine bZ (R.bw g K m) λv L B t=>?_;replace q:=m▸q;exact aK (c.cr B) ∅<|sc c s R.tohO (cv E) A t (λf F=>by subst F;exact(R.bj f<|ad R.a5 t.cf).2<|nI m) (λf C D=>.inl<|(R.bj f C).1 D) λd j M z k f=>q d j M z k f
theorem AJ{Q:Int}(c:G W x)(m:bt W)(g:eR W w)(R:bh f o W)(j:f<=30000)(a:W.y r (.A [.l "make",.c (b:Nat)]))(q:b<3)(P:∀d s M,G d s->dB W.u 1 W d->jn (f+2) ({o with L:=o.L+1}.fJ b o.L) d W.u M->h .s s):ag (n+7) p (.a w.j7) [.a W.i.R,.a r,cd] h i x:=by
 refine fj R.cB λD T X t U J=>(l2 (c.k g.j7) ∅ H2<|aK c.bV ∅<|c4 (c.k m.bN) (l:=.B 94 7) ∅ ∅<|b2 (c.k g.fk)<|cL (c.k a) rfl (ml q c g<|b2 (c.k g.fT)<|b2 (c.k g.fT) ?_));have u:(ht W.w).length=W.w.length:=by exact Z List.length_mapIdx rfl
 have v:=R.a5;refine v2 c.g_ (Z u<|b5<|an [⟨1,.b 0,.b 1⟩,⟨1,.b 1,.b 2⟩,⟨1,.b 2,.e 30000⟩] (.b 0) (.e 1000000) rfl [W.w.length,o.L,f] (P2 v) t j)<|Z u<|wd c m R.C (aM (aM D j) #[]) (an [⟨1,.b 0,.b 1⟩,⟨1,.b 1,.b 2⟩,⟨1,.b 2,.e 30000⟩] (.b 0) (.e 90000) rfl [W.w.length,o.L,f] (P2 v) t j) R.fI λI d s M y=>(bs (R.tohO.L c.a3 M) λB O=>?_);obtain⟨Q,E⟩:=kK R.tohO q;refine ad (M.m.t _ (by have:=g.n;exact an [⟨1,.e 14,.b 0⟩,⟨1,.h (.b 1)<|.e 1,.e 3⟩] (.h (.b 1)<|.e 1) (.b 0) rfl [W.n,b] this q))<|ad M.m.i<|sc y (m.m M.m) B (an [⟨1,.b 0,.e 30000⟩] (.h (.b 0)<|.e 2) (.e 40000) rfl [f] j) E O (λe l K=>?_) (λe F H=>?_) λC S A z k e=>P C S A z ((M.S c.a3).q k) ?_;have:=R.eu e K;exact QN this<|fr l;by_cases l:e<o.L;exact .inl<|(R.bj e l).1 H;have:e<o.L+1:=F;exact .inr<|Q3 _<|Q0 (R'.1 l)<|Qw this;rw[M.b3.u] at e;exact e
end
end
noncomputable def N.m4(W:N)(f:List cY):N:={W with O:=f}
noncomputable def N.c1(W:N)(l:cY):N:={W with O:=W.O++[l],al:=λg=>if g=l.o then some (.cG W.O.length) else W.al g}
noncomputable def N.ik(W:N)(f:List cY)(a:Nat):N:={W with O:=f,al:=λg=>if g=a then none else W.al g}
noncomputable def N.ji(W:N)(a:Nat):N:={W with aA:=W.aA++[(a,[])],al:=λg=>if g=a then some (.aA W.aA.length) else W.al g}
noncomputable def N.j1(W:N)(k a:Nat)(b:List (Y×Y)):N:={W with aA:=W.aA.set k (a,b)}
section
theorem e6(f:List a)(x:a):(f++[x])[f.length]?=some x:=by refine Z (QW (P5 _) ..) ?_;exact Z (Nat.sub_self ..) rfl
theorem uK(b:k≠f.length):(f++[x])[k]?=(f++[t])[k]?:=by by_cases a:k<f.length;refine Z (RA a) ?_;refine Z (RA a) ?_;rfl;refine Z (List.getElem?_eq_none<|Z P3 (wV a b:f.length+1<=k)) ?_;refine Z (List.getElem?_eq_none<|Z (P3 ..) (wV a b:f.length+1<=k)) ?_;rfl
theorem G.Bt(d:G W j)(b:W.O=f++[l])(e:a.o=l.o):G (W.m4<|f++[a]) (j.Q l.o<|.aD a.ay a.da):=by
 have h:W.O[f.length]?=some l:=Z b<|e6 _ _;refine d.fo (W.m4<|f++[a]) (.cG f.length) (Z b<|Z P3<|P' _:_<W.O.length) rfl (λr i=>?_) (λr=>?_) (λg r m i=>?_) ⟨d.a3.cA,d.a3.dE,d.a3.dj⟩ rfl (by refine(?_:(match W.O[f.length]? with|some l=>l.o|none=>0)=_);refine Z h ?_;rfl) (λg=>by refine(?_:(match(f++[a])[f.length]? with|some l=>af.aD l.ay l.da|none=>.d [])=_);refine Z (e6 ..) ?_;rfl);induction r with|cG k=>refine(?_:(match(f++[a])[k]? with|some l=>l.o|none=>0)=(match W.O[k]? with|some l=>l.o|none=>0));by_cases c:k=f.length;exact Z (c ..)<|Z (e6 ..)<|Z (h ..) e;rw[b,uK c]|_=>rfl
 induction r with|cG k=>exact(Z b<|Z P3<|Z P3 Iff.rfl:k<(f++[a]).length↔k<W.O.length)|_=>exact Iff.rfl
 induction r with|cG k=>have c:k≠f.length:=λc=>i<|Z c rfl;refine(?_:(match(f++[a])[k]? with|some l=>af.aD l.ay l.da|none=>.d [])=(match W.O[k]? with|some l=>af.aD l.ay l.da|none=>.d []));rw[b,uK c]|cH=>refine(Z b<|Z Rd<|Z Rd (Z e ?_:af.d (_++[.a a.o])=.d (_++[.a l.o])):af.d ((f++[a]).map λl=>.a l.o)=.d (W.O.map λl=>.a l.o));rfl|_=>rfl
theorem G.j1(e:G W i){k:Nat}(b:W.aA[k]?=some (a,l)):G (W.j1 k a j) (i.Q a<|.K j):=by
 have y:=(P1.1 b).1;have h:(W.aA.set k (a,j))[k]?=some (a,j):=List.getElem?_set_self y;refine e.fo (W.j1 k a j) (.aA k) y rfl (λr f=>?_) (λr=>?_) (λg r m f=>?_) ⟨e.a3.cA,e.a3.dE,e.a3.dj⟩ rfl (by refine(?_:(match W.aA[k]? with|some c=>c.1|none=>0)=_);refine Z b ?_;rfl) (λg=>by refine(?_:(match(W.aA.set k (a,j))[k]? with|some c=>af.K c.2|none=>.d [])=_);refine Z h ?_;rfl);induction r with|aA q=>refine(?_:(match(W.aA.set k (a,j))[q]? with|some c=>c.1|none=>0)=(match W.aA[q]? with|some c=>c.1|none=>0));by_cases d:q=k;refine Z d<|Z h<|Z b ?_;rfl;refine Z (List.getElem?_set_ne<|Qy d) ?_;rfl|_=>rfl
 induction r with|aA q=>refine(Z List.length_set ?_:q<(W.aA.set k (a,j)).length↔q<W.aA.length);rfl|_=>exact Iff.rfl
 induction r with|aA q=>have d:q≠k:=λd=>f<|Z d rfl;refine(?_:(match(W.aA.set k (a,j))[q]? with|some c=>af.K c.2|none=>.d [])=(match W.aA[q]? with|some c=>af.K c.2|none=>.d []));refine Z (List.getElem?_set_ne<|Qy d) ?_;rfl|_=>rfl
theorem G.qt{W:N}{v:V}{d:N}{f:V}(i:G W v){a:Nat}{R:cn}(h:∀g,d.al g=if g=a then some R else W.al g)(b:W.al a=none)(m:f.r a=some (d.aF a R)/\a<f.f)
    (bw:∀g r,g≠a->W.al g=some r->f.r g=some (d.aF g r)/\g<f.f) (j:d.bj R/\a=d.o R) (k:∀r,W.bj r->d.bj r/\d.o r=W.o r) (n:∀r,d.bj r->r≠R->W.bj r) (l:iV d) (o:f.L=d.L):G d f where
  bw g r c:=by
    rw[h] at c
    by_cases e:g=a
    · subst e;rw[P8 rfl] at c;obtain rfl:=P0 c;exact m
    · rw[P4 e] at c;exact bw g r e c
  bO g r c:=by
    rw[h] at c
    by_cases e:g=a
    · subst e;rw[P8 rfl] at c;obtain rfl:=P0 c;exact .inr j
    · rw[P4 e] at c
      rcases i.bO g r c with x|⟨x,t⟩
      · exact .inl x
      · exact bs (k r x) λs u=>(.inr ⟨s,t.trans u.symm⟩)
  bj r p:=by
    refine Z (h ..) ?_
    by_cases e:r=R
    · exact Z e (Z (P8 j.2.symm) rfl)
    · have x:=n r p e
      have:=i.bj r x
      exact Z ((k r x).2) (Z (P4 (λq=>by rw[q,b] at this;exact bm this)) this)
  a3:=l
  L:=o
theorem G.ji(c:G W a):G (W.ji a.f) (a.z<|.K []):=by
 refine c.qt (λg=>rfl) (c.bH<|P5 _) ⟨?_,P' _⟩ (λg r e f=>?_) ⟨?_,?_⟩ (λr d=>?_) (λr d e=>?_) ⟨c.a3.cA,c.a3.dE,c.a3.dj⟩ c.L;refine Z (hh ..)<|Z (P8 rfl ..) (?_:_=some (match(W.aA++[(a.f,[])])[W.aA.length]? with|some b=>af.K b.2|none=>.d []));exact Z (e6 ..) rfl;refine bs (c.bw g r f) λh i=>⟨Z (hh ..)<|Z (P4 e ..)<|Z (h ..) ?_,Rb i⟩;congr 1;induction r with|aA k=>(rcases c.bO g _ f with x|⟨x,_⟩);cases x;refine(?_:_=(match(W.aA++[(a.f,[])])[k]? with|some b=>af.K b.2|none=>.d []));refine Z (RA x) ?_;rfl|_=>rfl
 refine(?_:_<(W.aA++[(a.f,[])]).length);exact Z P3<|P' _;refine(?_:_=(match(W.aA++[(a.f,[])])[W.aA.length]? with|some b=>b.1|none=>0));exact Z (e6 ..) rfl;induction r with|aA k=>refine⟨by refine(?_:k<(W.aA++[(a.f,[])]).length);refine Z P3 ?_;exact Rb d,?_⟩;refine(?_:(match(W.aA++[(a.f,[])])[k]? with|some b=>b.1|none=>0)=(match W.aA[k]? with|some b=>b.1|none=>0));refine Z (RA d) ?_;rfl|_=>exact⟨d,rfl⟩
 induction r with|aA k=>have:k<(W.aA++[(a.f,[])]).length:=d;rw[P3] at this;have:k≠W.aA.length:=λj=>e (by refine Z j ?_;rfl);refine(?_:k<W.aA.length);exact iF (by assumption) this|_=>exact d
theorem G.c1(c:G W h)(b:W.al l.o=none)(n:h.r l.o=some (.aD l.ay l.da))(o:l.o<h.f):G (W.c1 l) (h.Q W.i.f5<|.d<|(W.O.map λl=>.a l.o)++[.a l.o]):=by
 have i:W.al W.i.f5=some .cH:=c.bj .cH Qd;have p:l.o≠W.i.f5:=λf=>by rw[f,i] at b;exact h2 b
 refine c.qt (λg=>rfl) b ⟨?_,o⟩ (λg r f e=>?_) ⟨?_,?_⟩ (λr d=>?_) (λr d f=>?_) ⟨c.a3.cA,c.a3.dE,c.a3.dj⟩ c.L;refine Z (hM ..)<|Z (P4 p ..)<|Z (n ..) (?_:_=some (match(W.O++[l])[W.O.length]? with|some l=>af.aD l.ay l.da|none=>.d []));refine Z (e6 ..) ?_;rfl;refine bs (c.bw g r e) λj m=>⟨Z (hM ..) ?_,m⟩;by_cases a:g=W.i.f5;subst a;rw[i] at e;obtain rfl:=P0 e;refine Z (P8 rfl) (Z Rd ?_:_=some (af.d<|(W.O++[l]).map λl=>.a l.o));rfl;refine Z (P4 a)<|Z j ?_;congr 1;induction r with|cG k=>(rcases c.bO g _ e with x|⟨x,_⟩);cases x;refine(?_:_=(match(W.O++[l])[k]? with|some l=>af.aD l.ay l.da|none=>.d []));refine Z (RA x) ?_;rfl|cH=>(rcases c.bO g _ e with x|⟨_,x⟩);cases x;exact(a x).elim|_=>rfl
 exact(Z P3<|P' _:_<(W.O++[l]).length);refine(?_:_=(match(W.O++[l])[W.O.length]? with|some l=>l.o|none=>0));exact Z (e6 ..) rfl;induction r with|cG k=>refine⟨by refine(Z P3 ?_:k<(W.O++[l]).length);exact Rb d,?_⟩;refine(?_:(match(W.O++[l])[k]? with|some l=>l.o|none=>0)=(match W.O[k]? with|some l=>l.o|none=>0));refine Z (RA d) ?_;rfl|_=>exact⟨d,rfl⟩
 induction r with|cG k=>have a:k<(W.O++[l]).length:=d;rw[P3] at a;have a:=a;have:k≠W.O.length:=λa=>f (by refine Z a ?_;rfl);exact(iF a this:k<W.O.length)|_=>exact d
theorem G.ik(d:G W o)(b:W.O=f++[l]):G (W.ik f l.o) (o.Q W.i.f5<|.d<|f.map λl=>.a l.o):=by
 have u:W.al W.i.f5=some .cH:=d.bj .cH Qd;have i:W.O[f.length]?=some l:=Z b<|e6 _ _;have s:W.al l.o=some (.cG f.length):=by have:=d.bj (.cG f.length) (P1.1 i).1;rw[show W.o (.cG f.length)=(match W.O[f.length]? with|some l=>l.o|none=>0) from rfl,i] at this;exact this
 have al:∀g r,(W.ik f l.o).al g=some r->W.al g=some r/\g≠l.o/\r≠.cG f.length:=λg r c=>by change (if g=l.o then none else W.al g)=some r at c;by_cases e:g=l.o;rw[P8 e] at c;exact bm c;rw[P4 e] at c;refine⟨c,e,λa=>?_⟩;subst a;(rcases d.bO g _ c with x|⟨_,x⟩);cases x;rw[show W.o (.cG f.length)=(match W.O[f.length]? with|some l=>l.o|none=>0) from rfl,i] at x;exact e x
 have r:∀k,k<f.length->W.O[k]?=f[k]?:=λk c=>by refine Z b<|Z (RA c) ?_;rfl
 have n:∀k,W.bj (.cG k)->k≠f.length->k<f.length:=λk x c=>by have x:k<W.O.length:=x;rw[b,P3] at x;exact iF x c
 refine⟨λg r c=>?_,λg r c=>?_,λr c=>?_,⟨d.a3.cA,d.a3.dE,d.a3.dj⟩,d.L⟩;obtain⟨h,v,m⟩:=al g r c;refine bs (d.bw g r h) λp q=>⟨Z (hM ..) ?_,q⟩;by_cases a:g=W.i.f5;subst a;rw[u] at h;obtain rfl:=P0 h;exact Z (P8 rfl) rfl;refine Z (P4 a)<|Z p ?_;congr 1;induction r with|cG k=>(rcases d.bO g _ h with x|⟨x,_⟩);cases x;refine(?_:(match W.O[k]? with|some l=>af.aD l.ay l.da|none=>.d [])=(match f[k]? with|some l=>af.aD l.ay l.da|none=>.d []));refine Z (r k<|n k x λa=>m (by refine Z a ?_;rfl)) ?_;rfl|cH=>(rcases d.bO g _ h with x|⟨_,x⟩);cases x;exact(a x).elim|_=>rfl
 obtain⟨h,v,m⟩:=al g r c;rcases d.bO g r h with x|⟨x,t⟩
 exact .inl x;refine .inr ?_;induction r with|cG k=>have a:=n k x λa=>m (by refine Z a ?_;rfl);refine⟨a,t.trans (?_:(match W.O[k]? with|some l=>l.o|none=>0)=(match f[k]? with|some l=>l.o|none=>0))⟩;exact Z (r k a) rfl|_=>exact⟨x,t⟩
 have x:W.bj r/\r≠.cG f.length/\(W.ik f l.o).o r=W.o r:=by induction r with|cG k=>have a:=c;refine b9 (by exact(Z b<|Z P3<|Rb a:k<W.O.length)) (λt=>by cases t;exact Qn _ a) (?_:(match f[k]? with|some l=>l.o|none=>0)=(match W.O[k]? with|some l=>l.o|none=>0));exact Z (r k a) rfl|_=>exact b9 c (λt=>by cases t) rfl
 refine eN x λB j C=>?_;have:=d.bj r B;exact(Z C<|Z (P4 (λa=>by rw[a,s] at this;exact j (P0 this).symm)) this:(if(W.ik f l.o).o r=l.o then none else W.al<|(W.ik f l.o).o r)=_)
end
section
set_option genCtorIdx false
set_option genSizeOf false
set_option genInjectivity false
structure n_ where
 (gV kl fu l3:Nat)
structure bz where
 o:Nat
 eX:Y
 gc:Y
 cd:Nat
 f1:Y
 ju:Y
 dT:Option n_
noncomputable def bz.da(l:bz):List (Str×Y):=match l.dT with
 |none=>[("pad",l.eX),("args",l.gc),("want",.c (l.cd:Nat)),("code",l.f1),("package",.l "main"),("line",l.ju)]
 |some c=>[("pad",l.eX),("args",l.gc),("want",.c (l.cd:Nat)),("code",l.f1),("package",.l "main"),("line",l.ju),("piled",.c (c.gV:Nat)),("weights",.a c.kl),("known",.a c.fu)]
noncomputable def bz.ay(l:bz):Nat:=match l.dT with
 |none=>44
 |some _=>58
def bz.bM(l:bz):cY:=⟨l.o,l.ay,l.da⟩
noncomputable def bz.aU(l:bz)(v:Y):bz:={l with ju:=v}
theorem bz.Ld(l:bz)(v:Y):af.aD l.ay (cN ("line":Str) v l.da)=.aD (l.aU v).ay (l.aU v).da:=by delta bz.da bz.ay bz.aU;cases l.dT<;>kernel_rfl
theorem bz.Bs(l:bz):Nat.blt l.da.length 100=true:=by unfold bz.da;cases l.dT<;>rfl
theorem bz.Jn(l:bz):l.da.lookup ("want":Str)=some (.c (l.cd:Nat)):=by unfold bz.da;cases l.dT<;>kernel_rfl
theorem bz.IZ(l:bz):l.da.lookup ("line":Str)=some l.ju:=by unfold bz.da;cases l.dT<;>kernel_rfl
theorem bz.B9(l:bz):l.da.lookup ("args":Str)=some l.gc:=by unfold bz.da;cases l.dT<;>kernel_rfl
def hS(W:N)(r:Nat):Prop:=∃w:Nat,w<=100/\W.y r (.A [.c 0,.c (w:Nat)])
theorem hS.m(b:hS W r)(e:av W d):hS d r:=ah b λw a c=>am w a<|e.k _ _ c
def gI(W:N)(b:Nat)(a:List (Y×Y)):Prop:=a.length<=b/\∀e∈a,∃r,e.2=.a r/\hS W r
def j0(W:N)(a:List (Y×Y)):Prop:=gI W (4*W.n) a
theorem gI.m(b:gI W a c)(e:av W d):gI d a c:=⟨b.1,λx h=>ah (b.2 x h) λr f g=>am r f<|g.m e⟩
theorem j0.m(b:j0 W a)(e:av W d):j0 d a:=⟨P9 b.1<|Nat.mul_le_mul_left _ e.n,(gI.m b e).2⟩
structure cz(W:N)(b:Nat)(f:List cY)(l:bz):Prop where
 O:W.O=f++[l.bM]
 a5:f.length<=10
 aE:W.aE.length<=10
 dT:∀c,l.dT=some c->c.gV<=4*f.length/\hS W c.kl/\∃a,W.aA[c.l3]?=some (c.fu,a)/\gI W b a
structure df(h:Nat)(W d:N):Prop where
 m:av W d
 fL:∃g,d.u=W.u++g/\g.length<=h
 hw:∀k∈W.u,d.p k=W.p k
 a6:d.a6=W.a6
 aE:d.aE=W.aE
 g6:∀k b,W.p k=some b->b.ke->d.p k=some b
 w:∀(f:Nat) e,W.w[f]?=some e->d.w[f]?=some e
 aA:∀(k a:Nat) (c:List (Y×Y)),W.aA[k]?=some (a,c)->j0 W c->∃j,d.aA[k]?=some (a,j)/\j0 d j
theorem df.cK:df c W W:=⟨.cK,kM,λ_ _=>rfl,rfl,rfl,λ_ _ b _=>b,λ_ _ b=>b,λ_ _ a b k=>am a b k⟩
theorem df.q{W c d:N}{e q:Nat}(a:df e W c)(g:df q c d):df (e+q) W d:=⟨a.m.q g.m,q6 a.fL g.fL,λk i=>(g.hw k<|tI a.fL i).trans<|a.hw k i,g.a6.trans a.a6,g.aE.trans a.aE,λk l b s=>g.g6 k l (a.g6 k l b s) s,λh f b=>g.w h f<|a.w h f b,λk x m b n=>by exact ah (a.aA k x m b n) λj o p=>g.aA k x j o p⟩
theorem dB.eI(a:dB W.u c W d):df c W d:=⟨a.m,a.fL,a.hw,a.a6,a.aE,a.g6,a.w,λk x e b f=>am e (a.aA▸b)<|f.m a.m⟩
theorem df.bu{q:Nat}(a:df c W d)(b:c<=q):df q W d:=⟨a.1,by refine ah a.fL λg e f=>?_;exact am g e<|P9 f b,a.3,a.4,a.5,a.6,a.7,a.8⟩
theorem cz.eI(a:cz W (4*W.n) f l){n:Nat}(k:df n W d)(v:Y)(b:d.O=f++[(l.aU v).bM]):cz d (4*d.n) f (l.aU v):=⟨b,a.a5,k.aE▸a.aE,λc m=>by refine aZ λp o=>?_;obtain⟨g,h,e,i,j⟩:=a.dT c m;exact o<|b9 g (h.m k.m)<|k.aA _ _ e i j⟩
section
theorem cz.n(a:cz W b f l):W.O[f.length]?=some l.bM:=Z a.O<|e6 _ _
theorem p0(c:G W a)(b:cz W d f l)(e:h (.a l.o) a):J (ce (.a W.i.f5)<|.c<|-1) h a:=by exact g2 c.cH (Z b.O<|Z Rd<|Z P3<|Z (rfl:([l.bM].map λl=>Y.a l.o).length=1)<|Z pe<|e6 _ _) e
theorem JB(b:G W c)(a:cz W e f l)(g:∀d,G (W.m4<|f++[(l.aU v).bM]) d->h () d):J (fN (.a l.o) "line" v) h c:=by refine eE (b.cG a.n) l.Bs<|g _ ?_;have:=b.Bt (a:=(l.aU v).bM) a.O rfl;exact Z (l.Ld v:af.aD l.bM.ay (cN ("line":Str) v l.bM.da)=_) this
theorem HB{l:Nat}(c:G W d)(g:bt W)(e:W.bG<=90000)(k:∀f,G (W.hA<|W.bG+1) f->h .s f):ag (n+1) p (.B 71 0) [.a W.i.R] h i d:=by refine bp Gc ∅<|aK c.bV ∅<|k0 (el<|pC e) ∅<|eE c.bV ∅ ?_;have a:=c.hA<|W.bG+1;refine Z (∅:af.aD 45 (cN ("steps":Str) (.c<|(W.bG:Int)+1)<|gJ W.i W.bG)=.aD 45 (gJ W.i<|W.bG+1)) ?_;generalize d.Q W.i.R _=m at a;have j:=g.m3;exact aK a.bV ∅<|aK a.bV ∅<|aK (a.k j) ∅<|kH<|aL<|bx (by rw[QF];exact λb=>absurd (Int.ofNat_lt.1 b:1000000<W.bG+1)<|R'.2<|aM (j_ e) #[])<|k _ a
theorem Gp:jB u m p 58 (as 72 0) a e 36 (h0 (ab 72 0) 0) (li u m p 58 (as 72 0) (au (ab 72 0) 0 2)<|cF u m p 59 (as 72 0) (List.drop 1<|ab 72 0)<|de h i)=i e:=∅
def qN(m:I)(R f:Y)(w:Nat)(h i:Y->aa):Y->aa:=λa=>J (cW .Eq (.c (w:Nat))<|.c 0) λd=>J (dD d) λe=>if e then(J (ee R "counter") λc=>aQ m c "settle" (λb=>b [f]) (λg=>h a)<|aS i) else h a
theorem rD(b:G W a)(d:bt W)(e:ag n p (.B 94 10) [.a W.i.bN,c] (λ_=>h v) (aS i) a):qN (ag n p) (.a W.i.R) c 0 h i v a:=by exact ek<|aL<|bJ rfl (aK b.bV ∅<|c4 (b.k d.bN) ∅ ∅ e)
theorem dV(b:a.r x=some (.bd c d)):oT (.a x) a=true:=(Z b rfl:(Option.casesOn (a.r x) false q1:Bool)=true)
theorem qV(u:G W t)(z:bt W)(y:eR W B)(d:cz W (4*W.n) f l)(D:W.u.length<=90000)(C:W.bG<=90000)(e:W.y a (.A [.l "expr",.c s,.a r]))(w:Nat)(E:∀j (E2:Y->aa),(∀x o g,g.r x=some (.bd 36 o)->i (.a x) g->E2 (.a x) g)->G ((W.hA<|W.bG+1).m4<|f++[(l.aU<|.c s).bM]) j->ag n p (.B 46 0) [.a W.i.R,.a r,.c (w:Nat)] (qN (ag (n+2) p) (.a W.i.R) (.c (W.u.length:Nat)) w h i) E2 j):ag (n+3) p (.B 73 0) [.a W.i.R,.a a,.c (w:Nat)] h i t:=by refine bp Jl ∅<|HB (l:=0) u z C λj c=>?_;have q:=y.f6;refine cL (c.k e) rfl (aK c.bV ∅<|ne (c.k (W:=W.hA _) q) rfl (aL<|bx rfl (aK c.bV ∅<|aK c.dC ∅<|i2 c.u (Z (P6 ..)<|b5 (pC D:W.u.length<=_))<|Z (P6 ..)<|bp FL ∅<|bR CI<|aK c.bV (v:=.a W.i.f6) ∅<|cL (c.k (W:=W.hA _) e) (v:=.l "expr") rfl (gZ (c.k (W:=W.hA _) q) rfl rfl (bp II ∅<|cL (c.k (W:=W.hA _) e) rfl (aK c.bV (v:=.a W.i.f5) ∅ ?_))))));have k:cz (W.hA<|W.bG+1) (4*W.n) f l:=⟨d.O,d.a5,d.aE,d.dT⟩;refine p0 (W:=W.hA<|W.bG+1) c k<|JB (W:=W.hA<|W.bG+1) c k λF m=>(cL (m.k e) rfl ?_);skip;exact E F _ (λx o g b A=>b9 (dV b) (dV b)<|g7 b (Z Gp ⟨dV b,A⟩:jB _ _ _ _ _ _ _ _ _ _ _)) m
end
end
section
theorem ds.ou:∀{h:List Nat} {i:List Int},ds W h i->∀k∈h,∃e,W.p k=some e/\¬e.ke:=by intro _ _ j;induction j with|aP=>intro k b;exact(Rc b).elim|gc a g c e d=>intro k b;(rcases RD.1 b with rfl|b);exact am _ a λf=>f.2 rfl;exact d k b|jd e d=>intro k b;exact d k b|bn a g c e d=>intro k b;(rcases RD.1 b with rfl|b);exact am _ a λf=>f;exact d k b
theorem p8:∀{d:List (List Nat)} {f:List (List Int)},be (ds W) d f->∀k∈d.flatten,∃c,W.p k=some c/\¬c.ke:=by intro _ _ g;induction g with|aP=>intro k b;exact(Rc b).elim|@aY _ _ _ _ a c e=>intro k b;rw[QX] at b;refine Or.elim (PY.1 b) (λb=>?_) λb=>?_;exact a.ou k b;exact e k b
theorem bh.mX(R:bh p o W)(e:av W d)(m:∀k i,W.p k=some i->¬i.ke->d.p k=some i)(f:d.w=W.w)(n:d.u=W.u)(t:d.E=W.E)(D:d.C=none)(l:p<=j)(E:d.n<=j)(F:d.bG<=j):bh j o d:=by refine fj R.cB λP z A B C Q=>?_;have w:∀(h:Nat) g,W.w[h]?=some g->d.w[h]?=some g:=λh g b=>Z f b;refine⟨⟨f▸R.a5,R.dP,f▸R.bi,f▸λk y=>P9 (R.fI k y) e.n,λh g a c=>?_,λL s H=>?_,?_,by refine Z n ?_;exact R.eh,t▸R.E.bD λ_ _=>dR.m e,D,R.gl,R.eu,io E (by exact Z (n ..)<|jq z l) (t▸jq A l) (jq B l) (jq C l) F⟩,R.bj⟩;replace a:=f▸a;have M:=R.b8 h g a c;exact ah M.az λx q _=>(ah M.aV λS r _=>M.b4 e ((m _ _ q λb=>gU b.1).trans q.symm)<|(m _ _ r λb=>b).trans r.symm);exact bZ (R.bw L s H) λv x a c=>(bq v x (m _ _ a λb=>b)<|c.b4 w);exact ah R.ar λO K u=>am O (by exact Z n K)<|j' e w u λk y=>ah (p8 u k y) λi a c=>(m k i a c).trans a.symm
end
section
theorem jn.bu(a:jn c o W d M)(b:c<=j):jn j o W d M:=⟨a.a5,a.dP,a.bi,a.fI,a.b8,a.bw,a.ar,a.eh,a.u,a.ei,a.nc,a.E,a.C,a.gl,a.eu,fj a.cB λe f g h i k=>io (jq e b) (by exact jq f b) (by exact jq g b) (by exact jq h b) (by exact jq i b)<|by exact jq k b⟩
def N.eA(W:N)(f:List cY)(l:bz)(a:Int):N:=(W.hA<|W.bG+1).m4<|f++[(l.aU<|.c a).bM]
theorem nw:av W (W.eA f l a):=.dN rfl rfl rfl rfl rfl
theorem r1:df 0 W (W.eA f l e):=⟨nw,kM,λ_ _=>rfl,rfl,rfl,λ_ _ b _=>b,λ_ _ b=>b,λk a c b d=>am c b<|d.m nw⟩
theorem qA(R:bh a o W):bh (a+1) o (W.eA f l e):=by exact fj R.cB λc g h i j d=>R.mX nw (λk m b _=>b) rfl rfl rfl R.C (fw _ _) (eP c:W.n<=_) (oE d:W.bG+1<=_)
theorem y9(O:G W K)(C:bt W)(A:eR W U)(L:cz W (4*W.n) f l)(R:bh q o W)(t:q<=20000)(NO:W.y a (.A [.l "expr",.c c,.a r]))(NN:fy W r y)(w:y.jx)(F:∀d b,G d b->bh (q+4) (cc H v o y) d->df 0 W d->d.O=f++[(l.aU<|.c c).bM]->h .s b):ag (n+11) false (.B 73 0) [.a W.i.R,.a a,.c 0] h i K:=by
 refine fj R.cB λNR S NS NT NU T=>(qV O C A L (aM (aM S t) #[]) (aM (aM T t) #[]) NO 0 λNP E2 _ j=>?_);have R1:bh (q+1) o (W.eA f l c):=qA R;have j:G (W.eA f l c) NP:=j;have B:av W (W.eA f l c):=nw;have I:df 0 W (W.eA f l c):=r1;have X:(W.eA f l c).i=W.i:=rfl;have J:(W.eA f l c).u=W.u:=rfl;have Z:(W.eA f l c).O=f++[(l.aU<|.c c).bM]:=rfl;generalize W.eA f l c=u at*;have x:=C.m B;have s:=A.m B;refine ad X<|ad J ?_;have bf:∀d b z M,G d b->dB u.u 1 u d->jn (q+3) z d u.u M->cc H v o y=z.fY->qN (ag (n+10) false) (.a u.i.R) (.c (u.u.length:Nat)) 0 h i .s b:=λd b z M g k p e=>by have D:=x.m k.m;refine ad k.m.i<|rD g D<|Bq g D (an [⟨1,.b 0,.e 20000⟩] (.h (.b 0)<|.e 3) (.e 40000) rfl [q] t) p λQ NQ P R2 E=>?_;rw[<-e] at R2;exact F Q NQ P R2 (I.q (k.Cd E).eI)<|(E.O.trans k.O).trans Z
 clear F;induction(NN.m B) with|e8 m=>exact me j s m rfl (Jv (A:=0) j x s R1 (fp t #[]) m w λd b M g k p=>bf d b _ M g k (p.bu<|iw #[] _)<|by cases v<;>rfl)|fc m=>exact me j s m rfl (Lu (H:=0) j x s R1 (fp t #[]) m w.1 w.2 λd b M g k p=>bf d b _ M g k (p.bu<|iw #[] _)<|by cases v<;>rfl)|eS m=>exact me j s m rfl (AJ (Q:=0) j x s R1 (fp t #[]) m w λd b M g k p=>bf d b _ M g k p<|by cases v<;>rfl)|cR=>exact w.elim
end
section
variable(m:I)
def k3(e d f c a:Y)(b:Nat)(U:ai->aa):aa:=J (a4<|.A [.b7 "tuple",.b7 "list"]) λo=>m (.a' "isinstance") [a,o] (λl=>J (dD l) λj=>if j then(aQ m c "extend" (λh=>bY a λn=>bo n (λr i s=>J (b6 b) λq=>J (a4<|.A [r,q]) λp=>i [p]) aJ 0 (λg=>if Nat.ble g.length bl then J (a4<|.d g) (λk=>h [k]) else ae) aB) (λt=>U<|.f<|M8 e d f c a b)<|bb (M8 e d f c a b) U) else U<|.f<|M8 e d f c a b) aB
def qX(d f e c:Y)(a:Nat)(U:ai->aa)(E0:Y->aa):aa:=aQ m c "pop" (λk=>k []) (λB=>J (dz B) λA=>iW A λg=>e_ g λb g=>e_ g λM g=>J (gi a M) λ_=>jl g<|cU (λq=>if q then(J (ce b<|.c 0) λh=>J (cW .Eq h<|.l "subdef") λo=>J (dD o) λs=>if s then(ae) else J (ce b<|.c 0) λT=>J (cW .In T<|.cO 2) λp=>J (dD p) λt=>if t then(J (b6 a) λO=>J (ce b<|.c 0) λW=>J (ce (.cO 2) W) λX=>J (bW .Add O X) λx=>m (.a' "max") [f,x] (λj=>J (b6 a) λP=>aQ m (.cO 1) "get" (λl=>J (ce b<|.c 0) λZ=>l [Z,.c 4]) (λC=>J (fg .Add P C) λy=>J (gi a y) λ_=>J (b6 a) λQ=>m (.a' "max") [e,Q] (λD=>k3 m d j D c b a U)<|bb (M8 d j e c b a) U) aB)<|bb (M8 d f e c b a) U) else J (b6 a) λR=>aQ m (.cO 1) "get" (λn=>J (ce b<|.c 0) λV=>n [V,.c 4]) (λE=>J (fg .Add R E) λz=>J (gi a z) λ_=>J (b6 a) λS=>m (.a' "max") [e,S] (λF=>k3 m d f F c b a U)<|bb (M8 d f e c b a) U) aB) else k3 m d f e c b a U) λi=>m (.a' "isinstance") [b,.b7 "tuple"] (λH=>J (dD H) λu=>dc .And u i<|m (.a' "len") [b] (λK=>J (cW .Gt K<|.c 0) λr=>J (dD r) λv=>dc .And v i<|J (ce b<|.c 0) λN=>m (.a' "isinstance") [N,.b7 "str"] (λL=>J (dD L) λw=>dc .And w i<|i true) aB) aB) aB) E0
end
section
theorem Bk{p:Bool}{m u:I}{c b e d:Y}{a:Nat}{U:ai->aa}:hc u m p 55 (as 59 0) (au (ab 59 0) 3 0) (Nu c b e d a) U=qX m c b e d a U (bb (Nu c b e d a) U):=∅
theorem Mu{p:Bool}{m u:I}{c b e d f:Y}{a:Nat}{U:ai->aa}:hc u m p 55 (as 59 0) (au (ab 59 0) 3 0) (M8 c b e d f a) U=qX m c b e d a U (bb (M8 c b e d f a) U):=∅
noncomputable def lh:List Str:=["expr","drop","move","make","asks","gives","back"]
inductive fq(W:N):Nat->Y->Prop
 |c {b e}:fq W b (.c e)
 |l {b s}:fq W b (.l s)
 |d {b a f}:f.length<=5->(∀x∈f,fq W b x)->W.y a (.d f)->fq W (b+1) (.a a)
 |t6 {b a e r}:(Y.c e::r).length<=5->(∀x∈Y.c e::r,fq W b x)->W.y a (.A<|.c e::r)->fq W (b+1) (.a a)
 |kV {b a w r}:(Y.l w::r).length<=5->(∀x∈Y.l w::r,fq W b x)->W.y a (.A<|.l w::r)->w∈lh->fq W (b+1) (.a a)
noncomputable def fE:Nat->Nat|0=>1|a+1=>1+5*fE a
theorem DK(b:w∈lh):cW .In (.l w) (.cO 2) a (.b' false) a:=by simp only[lh,List.mem_cons,List.not_mem_nil,or_false] at b;refine⟨rfl,_,?_,.xe rfl rfl⟩;rcases b with rfl|rfl|rfl|rfl|rfl|rfl|rfl<;>kernel_rfl
theorem yT(b:w∈lh):(w==("subdef":Str))=false:=by simp only[lh,List.mem_cons,List.not_mem_nil,or_false] at b;rcases b with rfl|rfl|rfl|rfl|rfl|rfl|rfl<;>kernel_rfl
theorem JD(b:w∈lh):∃c:Nat,c<=4/\jO (.cO 1) "get" [.l w,.c 4] a (.c c) a:=by
 have d:∀c:Nat,(dn (.l w)<|match k6 dI 1 with|some (.K f)=>f|_=>[]).getD (.c 4)=.c c->jO (.cO 1) "get" [.l w,.c 4] a (.c c) a:=λc e=>by exact ad e<|.r rfl rfl
 simp only[lh,List.mem_cons,List.not_mem_nil,or_false] at b;rcases b with rfl|rfl|rfl|rfl|rfl|rfl|rfl
 exact am 3 #[]<|d 3 ∅;all_goals exact am 4 #[]<|d 4 ∅
theorem Aa{e:V}{a:Nat}{z:af}{g:Bool}{c:String}(d:j3 c=true)(b:e.r a=some z)(f:(match z with|.d _=>some ("list"==c)|.A _=>some ("tuple"==c)|_=>none)=some g):ja e (.a a) (.b7 c) g:=by cases z<;>cases f;exact .b7 d<|.kB b rfl;exact .b7 d<|.kB b rfl
theorem nn{n:Nat}{p:Bool}{h i:Y->aa}{d:V}{a:Nat}{z:af}{g:Bool}{c:String}(f:j3 c=true)(b:d.r a=some z)(e:(match z with|.d _=>some ("list"==c)|.A _=>some ("tuple"==c)|_=>none)=some g)(k:h (.b' g) d):ag (n+1) p (.a' "isinstance") [.a a,.b7 c] h i d:=ii (Aa f b e) k
noncomputable def tm:af->Bool|.d _=>true|.A _=>true|_=>false
theorem zu(f:c.r e=some (.A [.b7 "tuple",.b7 "list"]))(b:c.r a=some z)(g:tm z=true)(k:h (.b' true) c):ag (n+1) p (.a' "isinstance") [.a a,.a e] h i c:=by refine ii ?_ k;induction z with|d j=>exact .nq (show d5 c (.a e)=_ from f) rfl rfl (.kB b rfl)|A j=>exact .nq (show d5 c (.a e)=_ from f) rfl rfl (.kB b rfl)|_=>cases g
theorem vS{k:List Y}(D:∀x c (h:List Y->aa) i,c.r m=some q->h [.a c.f] (c.z<|.A [x,.c (y:Nat)])->r x h i c)(E:∀c,G W c->∀e (h:Option Y->aa),h k[e]? c->J (dv s e) h c):∀(o e:Nat) (d:V) (h:List Y->aa) (i:Y->aa),k.length - e<o->G W d->d.r m=some q->m<d.f->(∀j c,G W c->d.f<=c.f->(∀a,a<d.f->c.r a=d.r a)->be (λg x=>c.r g=some (.A [x,.c (y:Nat)])/\d.f<=g/\g<c.f) j (k.drop e)->h (j.map .a) c)->bo s r o e h i d:=by intro H;induction H with|zero=>intro e d h i n _ _ _ _;exact absurd n (Q8 _)|succ o F=>intro e d h i n l w A f;refine(E d l e _ ?_:J (dv s e) _ d);cases p:k[e]? with|none=>refine f [] d l (P5 _) (λ_ _=>rfl)<|Z (Qj<|PX.1 p) ?_;exact .aP|some x=>have z:=(P1.1 p).1;replace f:=((P1.1 p).2)▸(Qc z)▸f;refine D x d _ _ w<|F (e+1) _ _ _ (ga n z) (l.dh _) (eC w A) (Rb A) λj c B t u C=>f (d.f::j) c B (P9 (Q4 _) t) (λa v=>(u a<|Rb v).trans<|P4<|Q6 v)<|.aY (b9 ((u _<|P' _).trans<|c8 _ _) (P5 _)<|Ra (P' _) t)<|C.bD λg x b=>b9 b.1 (P9 (Q4 _) b.2.1) b.2.2
end
structure gt(W:N)(b:V)(e c:Nat)(g:List (Nat×Nat)):Prop where
 jo:G W b
 d:b.r e=some (.d<|g.map λa=>.a a.1)
 h1:∃v,b.r c=some (.h1 v)
 al:W.al e=none/\W.al c=none
 eW:e≠c
 nU:e<b.f/\c<b.f
 fl:∀a∈g,∃(v:Y) (f:Nat),b.r a.1=some (.A [v,.c (f:Nat)])/\a.1<b.f/\a.1≠e/\a.1≠c/\fq W a.2 v/\f+4*a.2<=90
def eo(f:List (Nat×Nat)):Nat:=(f.map λa=>fE a.2).sum
section
def nh(c:Y)(w b:Nat)(v:Y)(a:Nat):ai:=.f<|M8 c (.c 0) (.c (w:Nat)) (.a b) v a
theorem sU:∀{b:List Nat},eo (b.map λc=>(c,a))=b.length*fE a:=by intro e;induction e with|nil=>exact(Nat.zero_mul _).symm|cons c b d=>exact(Z (d ..)<|Z (Nat.succ_mul ..)<|Z (Nat.add_comm ..) rfl:fE a+eo (b.map λc=>(c,a))=(b.length+1)*fE a)
theorem pD:∀{f:List c} {p:List d},be R f p->∀x∈f,∃t∈p,R x t:=by intro _ _ i;induction i with|aP=>intro x b;exact(Rc b).elim|@aY _ _ _ _ a j h=>intro x b;(rcases RD.1 b with rfl|b);exact am _ (.head _) a;exact ah (h x b) λt e g=>am t (.tail _ e) g
theorem ql{I:Y}{B:List Y}(T:gt W p f e r)(Q:p.r e=some (.h1<|some<|.c (H:Nat)))(NV:r.length<=10000)(NS:W.y a z)(NY:tm z=true)(N5:∀d (h:bI->aa),G W d->h s d->bY (.a a) h d)(N4:∀d,G W d->∀R (h:Option Y->aa),h B[R]? d->J (dv s R) h d)(y:B.length<=5)(NZ:∀x∈B,fq W u x)(NU:H+4*u<=90)(N8:∀d S,gt W d f e (r++S)->eo S<=5*fE u->U (nh I w f (.a a) e) d):k3 (ag (n+1) false) I (.c 0) (.c (w:Nat)) (.a f) (.a a) e U p:=by
 unfold k3;obtain⟨l,m⟩:=T.nU;obtain⟨X,N9⟩:=T.al;refine bF<|zu (c8 _ _) ((T.jo.dh _).k NS) NY<|aL<|bJ rfl ?_;generalize K:p.z (.A [.b7 "tuple",.b7 "list"])=C;have O:=K▸T.jo.dh _;have bE:∀g,g<p.f->C.r g=p.r g:=λg NT=>ad K<|P4<|Q6 NT;have c:C.f=p.f+1:=ad K rfl;refine fe ((bE f l).trans T.d) ∅<|N5 C _ O<|vS (λx d h i b k=>b2 b<|bF k) N4 aJ 0 C _ _ (wf dL y) O ((bE e m).trans Q) (p1 m c) λA N' NN o F E=>?_;have a5:=E.a5;rw[Qq] at a5 E;refine bJ (b5<|Z (P6 ..)<|w0 a5 y)<|bF ?_;have NW:=(F f<|p1 l c).trans<|(bE f l).trans T.d;have NX:N'.f≠f:=qZ l c o;refine rE (eC NW<|mq l c o) (c8 _ _) NX (b5<|Z (P6 ..)<|Z (P6 ..)<|an [⟨1,.b 0,.b 1⟩,⟨1,.b 1,.e 5⟩,⟨1,.b 2,.e 10000⟩] (.h (.b 2)<|.b 0) (.e 1000000) rfl [A.length,B.length,r.length] (P2 a5) y NV)<|N8 _ (A.map λt=>(t,u)) ?_ ?_;have NO:=(NN.dh<|.d<|A.map Y.a).fi X<|.d<|r.map (λL=>Y.a L.1)++A.map Y.a;refine⟨NO,?_,?_,⟨X,N9⟩,T.eW,⟨Rb<|mq l c o,Rb<|mq m c o⟩,λL N3=>?_⟩;exact Z Rd<|Z List.map_map<|fZ _ _ _;exact⟨_,f9 (eC ((F e<|p1 m c).trans<|(bE e m).trans Q)<|mq m c o)<|Qy T.eW⟩;rcases PY.1 N3 with M|M
 exact mt (T.fl L M) λv b D j q NP NQ NR=>(lO v b (f9 (eC ((F _<|p1 j c).trans<|(bE _ j).trans D)<|mq j c o) q) (Rb<|mq j c o) q NP NQ NR);refine ah (Qa.1 M) λt N6 N_=>(ad N_<|nv (pD E t N6) λx N7 D j q=>?_);have P:t≠f:=qZ l c j;exact lO x H (f9 (eC D q) P) (Rb q) P (by exact(qZ m c j:t≠e)) (NZ x N7) NU;exact Z sU<|Z a5<|QR _ y
theorem Km(T:gt W a d c e)(z:(∃h,v=.c h)\/∃s,v=.l s)(i:∀m,gt W m d c e->U (nh l w d v c) m):k3 (ag (n+1) false) l (.c 0) (.c (w:Nat)) (.a d) v c U a:=by
 obtain⟨j,k⟩:=T.nU;refine bA T.h1 λo x=>?_;have f:gt W (a.z<|.A [.b7 "tuple",.b7 "list"]) d c e:=⟨T.jo.dh _,eC T.d j,⟨o,eC x k⟩,T.al,T.eW,⟨Rb j,Rb k⟩,λA y=>by exact mt (T.fl A y) λv b p g q r t u=>lO v b (eC p g) (Rb g) q r t u⟩;rcases z with⟨h,rfl⟩|⟨s,rfl⟩
 exact bF<|ii (.nq (c8 _ _:d5 (a.z<|af.A [Y.b7 "tuple",Y.b7 "list"]) (.a a.f)=_) rfl rfl .c)<|aL<|bx rfl (i _ f);exact bF<|ii (.nq (c8 _ _:d5 (a.z<|af.A [Y.b7 "tuple",Y.b7 "list"]) (.a a.f)=_) rfl rfl .l)<|aL<|bx rfl (i _ f)
theorem gt.Q{d:List (Nat×Nat)}(T:gt W f e a d)(v:Option Y):gt W (f.Q a<|.h1 v) e a d:=⟨T.jo.fi T.al.2 _,f9 T.d T.eW,⟨v,fZ _ _ _⟩,T.al,T.eW,T.nU,λm l=>by exact mt (T.fl m l) λx b g h i c j k=>lO x b (f9 g c) h i c j k⟩
end
section
theorem AD(b:a c):jl [] a c:=b
theorem v'(a:Nat):1<=fE a:=by induction a using Nat.casesOn with|zero=>exact P5 _|succ a=>exact(fw _ _:1<=1+5*fE a)
theorem o9(b:ja a v (.b7 c) g)(k:h (.b' g) a):ag (n+1) p (.a' "isinstance") [v,.b7 c] h i a:=ii b k
theorem n1:(g8 0 (x::r).length).bind (λa=>(x::r)[a]?)=some x:=by exact Z (rfl:(0:Int)=((0:Nat):Int))<|Z (it (n:=(x::r).length) (Nat.succ_pos _)<|Qp _) rfl
theorem um(T:gt W M q i (u++[t]))(P:u.length<=10000)(R:w<=100)(NS:∀e j E v,gt W e q i (u++j)->eo j+1<=fE t.2->E<=100->U (nh S E q v i) e):qX (ag (n+1) false) S (.c 0) (.c (w:Nat)) (.a q) i U E0 M:=by
 refine mt (T.fl t<|PZ _<|.head _) λv f NQ NV NW N' NX p=>?_;have O:=T.d;refine fe O ∅ ?_;rw[Rd] at O;refine ox O (b5<|Z (P3 ..)<|Z (P6 ..) (fp P #[]:u.length+1<=_)) ?_;obtain⟨NU,I⟩:=T.h1;have NN:gt W (M.Q q<|.d<|u.map λt=>.a t.1) q i u:=⟨T.jo.fi T.al.1 _,fZ _ _ _,⟨NU,f9 I<|Qy T.eW⟩,T.al,T.eW,T.nU,λH N_=>by exact mt (T.fl H<|Q9 _ N_) λx b NZ N3 NR N4 N5 N6=>lO x b (f9 NZ NR) N3 NR N4 N5 N6⟩;refine g7 (f9 NQ NW) (gR (f9 I<|Qy T.eW) ?_:J (gi i<|.c (f:Nat)) _ _);have y:=NN.Q<|some<|.c (f:Nat);have C:((M.Q q<|.d<|u.map λt=>.a t.1).Q i<|.h1<|some<|.c (f:Nat)).r i=some (.h1<|some<|.c (f:Nat)):=fZ _ _ _;generalize(M.Q q<|.d<|u.map λt=>Y.a t.1).Q i (.h1<|some<|.c (f:Nat))=z at y C;clear T NN O NQ NV I;refine AD<|eQ ?_;have NT:∀(Q:(∃F,v=.c F)\/∃s,v=.l s),k3 (ag (n+1) false) S (.c 0) (.c (w:Nat)) (.a q) v i U z:=λQ=>Km y Q λe A=>NS e [] w v (Z (Q1 ..) A) (v' _) R;obtain⟨Oa,B⟩:=t;have bf:∀{NP g},B=NP+1->v=.a g->∀e j E,E<=100->gt W e q i (u++j)->eo j<=5*fE NP->U (nh S E q (.a g) i) e:=λN8 Q e j E N7 C K=>by subst N8;refine Z Q ?_;exact NS e j E _ C (CU K:_<=1+5*fE _) N7
 have p:f+4*B<=90:=p;cases NX with|@c F=>refine(?_:ag _ _ (.a' "isinstance") [_,.b7 "tuple"] _ _ z);exact o9 (by first|exact .b7 rfl .c|exact .b7 rfl .l) (aL<|jb rfl (bx rfl (NT<|.inl ⟨_,rfl⟩)))|@l s=>refine(?_:ag _ _ (.a' "isinstance") [_,.b7 "tuple"] _ _ z);exact o9 (by first|exact .b7 rfl .c|exact .b7 rfl .l) (aL<|jb rfl (bx rfl (NT<|.inr ⟨_,rfl⟩)))|@d B a Ob D L b=>have p:=p;have m:=y.jo.k b;refine(?_:ag _ _ (.a' "isinstance") [_,.b7 "tuple"] _ _ z);exact nn rfl m rfl (aL<|jb rfl (bx rfl (ql y C P b rfl (λe h o k=>dQ (o.k b) k) (λe o F h k=>ep (o.k b) k) D L (vU p) λe j A s=>bf rfl rfl e j w R A s)))|@t6 B a F r D L b=>have m:=y.jo.k b;refine(?_:ag _ _ (.a' "isinstance") [_,.b7 "tuple"] _ _ z);exact nn rfl m rfl (aL<|hJ rfl (tz m (b5<|cv D)<|kH<|aL<|hJ (by rw[Qx,QA];exact w4)<|cL m n1<|o9 (g:=false) (.b7 rfl .c)<|aL<|jb rfl (bx rfl (ql y C P b rfl (λe h o k=>sN (o.k b) k) (λe o F h k=>xI (o.k b) k) D L (vU p) λe j A s=>bf rfl rfl e j w R A s))))|@kV B a s r D L b X=>have p:=p;have m:=y.jo.k b;refine(?_:ag _ _ (.a' "isinstance") [_,.b7 "tuple"] _ _ z);refine nn rfl m rfl (aL<|hJ rfl (tz m (b5<|cv D)<|kH<|aL<|hJ (by rw[Qx,QA];exact w4)<|cL m n1<|o9 (g:=true) (.b7 rfl .l)<|aL<|hJ rfl (bJ rfl (cL m n1<|jw<|aL<|bx (yT X)<|cL m n1<|ir (DK X)<|aL<|bx rfl (ah (JD X) λc G N9=>b2 C<|bq _ _ ⟨rfl,rfl⟩<|cL m n1<|ir N9<|k0 (el<|an [⟨1,.h (.b 0)<|.x 4<|.b 1,.e 90⟩] (.b 0) (.e 1000000) rfl [f,(B.add 0).succ] p) (el<|cv G)<|gR C ?_)))));have NO:=y.Q<|some<|.c ((f+c:Nat):Int);have K:(z.Q i<|.h1<|some<|.c ((f+c:Nat):Int)).r i=some (.h1<|some<|.c ((f+c:Nat):Int)):=fZ _ _ _;refine Z (show((f:Int)+(c:Int))=((f+c:Nat):Int) from rfl) ?_;generalize z.Q i (.h1<|some<|.c ((f+c:Nat):Int))=Oc at NO K;refine b2 K<|nF<|bq _ _ (.wB rfl) ?_;(have NY:(if(w:Int)<((f+c:Nat):Int) then((f+c:Nat):Int) else(w:Int))=((if w<f+c then f+c else w:Nat):Int):=by by_cases H:w<f+c;exact Z (P8 H)<|Z (P8<|gK H) rfl;exact Z (P4 H)<|Z (P4<|pl H) rfl);exact Z NY<|ql NO K P b rfl (λe h o k=>sN (o.k b) k) (λe o F h k=>xI (o.k b) k) D L (an [⟨1,.h (.b 0)<|.x 4<|.h (.b 1)<|.e 1,.e 90⟩,⟨1,.b 2,.e 4⟩] (.h (.h (.b 0)<|.b 2)<|.x 4<|.b 1) (.e 90) rfl [f,B,c] p G) λe j A s=>bf rfl rfl e j _ (by split;exact aM (Nat.add_le_add (aM (fw _ _) p) G) #[];exact R) A s
theorem tM(b:a.r c=some (.d d))(e:a.r q=some (.d []))(k:h (.b'<|!d.isEmpty) a):J (cW .NotEq (.a c)<|.a q) h a:=hF (.tS b e) k
theorem gt.z{d:List (Nat×Nat)}(T:gt W h g a d)(o:af):gt W (h.z o) g a d:=by refine bs T.nU λe f=>(bA T.h1 λi p=>?_);exact⟨T.jo.dh _,eC T.d e,⟨i,eC p f⟩,T.al,T.eW,⟨Rb e,Rb f⟩,λr q=>by exact mt (T.fl r q) λv b j c k l m n=>lO v b (eC j c) (Rb c) k l m n⟩
theorem mI:eo (a++g)=eo a+eo g:=by unfold eo;exact Z Rd<|Z List.sum_append rfl
theorem xd:∀{f:List (Nat×Nat)},f.length<=eo f:=by intro c;induction c with|nil=>exact P5 _|cons a f b=>have:=b;exact(an [⟨1,.e 1,.b 0⟩,⟨1,.b 1,.b 2⟩] (.h (.b 1)<|.e 1) (.h (.b 0)<|.b 2) rfl [fE a.snd,f.length,eo f] (v' a.2) this:f.length+1<=fE a.2+eo f)
theorem AZ:∀(k:Nat) (i:V) (f:List (Nat×Nat)) (w:Nat) (v:Y),gt W i m l f->eo f<k->eo f<=10000->w<=100->(∀j h v,G W j->h<=100->U (nh t h m v l) j)->iy (fU (ag (n+1) false) 55 (as 59 0)<|bv (ab 59 0) 3) (hc u (ag (n+1) false) p 55 (as 59 0)<|au (ab 59 0) 3 0) k (M8 t (.c 0) (.c (w:Nat)) (.a m) v l) U i:=by intro B;induction B with|zero=>intro _ _ _ _ _ b _ _ _;exact absurd b (Q8 _)|succ k z=>intro i f w v T b d q r;refine(bR MN ?_:fU _ _ _ _ _ _ i);have g:=T.z<|.d [];refine bF<|tM g.d (c8 _ _)<|aL ?_;(rcases List.eq_nil_or_concat f with rfl|⟨a,c,rfl⟩);exact r _ w v g.jo q;rw[List.concat_eq_append] at g b d⊢;rw[mI] at b d;have e:eo [c]=fE c.2:=Nat.add_zero _;rw[e] at b d;rw[show(!((a++[c]).map λc:Nat×Nat=>Y.a c.1).isEmpty)=true by cases a<;>rfl];refine(Z Mu ?_:hc _ _ _ _ _ _ _ _ _);have:=xd (f:=a);exact um g (an [⟨1,.h (.b 0)<|.b 1,.e 10000⟩,⟨1,.b 2,.b 0⟩] (.b 2) (.e 10000) rfl [eo a,fE c.snd,a.length] d this) q λj o h A x s y=>z j (a++o) h A x (Z mI<|an [⟨1,.h (.b 0)<|.e 1,.b 1⟩,⟨1,.h (.h (.b 2)<|.b 1)<|.e 1,.h (.b 3)<|.e 1⟩] (.h (.h (.b 2)<|.b 0)<|.e 1) (.b 3) rfl [eo o,fE c.snd,eo a,k] s b) (Z mI<|an [⟨1,.h (.b 0)<|.e 1,.b 1⟩,⟨1,.h (.b 2)<|.b 1,.e 10000⟩] (.h (.b 2)<|.b 0) (.e 10000) rfl [eo o,fE c.snd,eo a] s d) y r
end
section
theorem JN(p:G W l)(U:W.y g (.A [.l "block",.a K]))(L:W.y K (.d j))(NR:j≠[])(z:j.length<=5)(I:∀x∈j,fq W 4 x)(NT:∀r w m,w<=100->W.al r=none->G (W.M r<|.A [.c 0,.c (w:Nat)]) m->h (.a r) m):ag (n+2) false (.B 59 0) [.a g] h i l:=by
 refine bp Aq ∅<|hg ?_;generalize A:l.z (.h1 none)=E;have u:=A▸p.dh _;have M:E.r l.f=some (.h1 none):=ad A<|c8 _ _;have f:l.f<E.f:=ad A<|P' _;refine cL (u.k U) rfl (dQ (u.k L)<|vS (y:=0) (λx m h i b k=>bF k) (λm p NZ h k=>ep (p.k L) k) aJ 0 E _ _ (wf dL z) u M f λo t F B X y=>?_);have a5:=y.a5;rw[Qq] at a5 y;refine bJ (b5<|Z (P6 ..)<|w0 a5 z)<|bF ?_;have T:gt W (t.z<|.d<|o.map .a) t.f l.f (o.map λa=>(a,4)):=by refine⟨F.dh _,?_,⟨none,eC ((X _ f).trans M)<|aM f B⟩,⟨F.bH<|P5 _,p.bH<|P5 _⟩,(ff<|gH f B).symm,⟨P' _,(kk<|aM f B:_<t.f+1)⟩,λe NN=>?_⟩;exact Z List.map_map<|c8 _ _;refine ah (Qa.1 NN) λa NO NX=>?_;subst NX;exact nv (pD y a NO) λx NS R S v=>lO x 0 (eC R v) (Rb v) (by exact(ff v:a≠_)) (by exact((ff<|gH f S).symm:a≠_)) (I x NS) (by refine(?_:0+4*4<=90);decide)
 have c:eo (o.map λa=>(a,4))<=4000:=by exact Z sU<|Z a5 (an [⟨781,.b 0,.e 5⟩] (.hf (.b 0) 781) (.e 4000) rfl [j.length] z:j.length*781<=4000)
 refine oa (?_:fU _ _ _ _ _ _ _);refine bR A4 ?_;generalize t.z (.d<|o.map Y.a)=N4 at T;have q:=T.z<|.d [];refine bF<|tM q.d (c8 _ _)<|aL ?_;generalize O:o.map (λa=>(a,4))=P at T q c;have J:P≠[]:=λD=>by rw[D] at O;have:=Q3 List.length O;rw[P6,a5] at this;exact NR<|List.length_eq_zero_iff.1 this
 rcases List.eq_nil_or_concat P with D|⟨d,e,rfl⟩
 exact(J D).elim;rw[List.concat_eq_append] at q c⊢;rw[mI] at c;replace c:=(Nat.add_zero _)▸c;rw[show(!((d++[e]).map λe:Nat×Nat=>Y.a e.1).isEmpty)=true by cases d<;>rfl];refine(Z (rfl:(Y.c 0)=.c ((0:Nat):Int))<|Z Bk ?_:hc _ _ _ _ _ _ _ _ _);have:=xd (f:=d);exact um q (an [⟨1,.h (.b 0)<|.b 1,.e 4000⟩,⟨1,.b 2,.b 0⟩] (.b 2) (.e 10000) rfl [eo d,eo [e],d.length] c this) (Qp _) λm C NV NU Q s NP=>AZ (fP+4) m (d++C) NV NU Q (Z mI<|an [⟨1,.e 100000,.h (.b 0)<|.e 1⟩,⟨1,.h (.b 1)<|.e 1,.b 2⟩,⟨1,.h (.b 3)<|.b 2,.e 4000⟩] (.h (.h (.b 3)<|.b 1)<|.e 1) (.b 0) rfl [fP+4,eo C,fE e.snd,eo d] oG s c) (Z mI<|an [⟨1,.h (.b 0)<|.e 1,.b 1⟩,⟨1,.h (.b 2)<|.b 1,.e 4000⟩] (.h (.b 2)<|.b 0) (.e 10000) rfl [eo C,fE e.snd,eo d] s c) NP λNY NW N3 H NQ=>(bR GK<|bF<|NT NY.f NW _ NQ (H.bH<|P5 _)<|H.eK _:br _ _ _ _ _ _ _ _ _)
end
def cC.dY:Nat->cC->Prop|_,.e8 b=>b<3|_,.fc b d=>b<3/\d<3|_,.eS b=>b<3|c,.cR f=>f≠[]/\f.length<=3/\∀a∈f,a.1<3/\3<=a.1+c/\a.2<3
structure f7(W:N)(k g e h:Nat)(j:Y)(d:List Nat)(i:Nat)(s:bU):Prop where
 l9:W.y k (.A [.l "subdef",j,.a g,.c 0,.a h])
 bL:W.y h (.d [])
 jc:W.y g (.A [.l "block",.a e])
 mE:W.y e (.d<|(d++[i]).map .a)
 a2:be (λa c=>∃r,W.y a (.A [.l "expr",.c 5,.a r])/\fy W r c) d s.a2
 n:∃r f,W.y i (.A [.l "expr",.c 5,.a r])/\W.y r (.A [.l<|if s.d2 then"back" else"gives",.a f])/\W.y f (.d<|s.n.map λb=>.c (b:Nat))
 cu:s.a2.length<=2
 gC:s.n≠[]/\s.n.length<=2/\∀b∈s.n,b<3
 mP:∀c∈s.a2,∀f,c=.cR f->f.length<=3
inductive rI(W:N)(k a:Nat)(s:bU):Prop
 |mk (c b g e h:Nat) (j:Y) (d:List Nat) (i l f:Nat):W.p k=some (.cx c (.a b) l f)->1<=c->c<=a->f7 W b g e h j d i s->rI W k a s
theorem f7.m{W d:N}{n g j k l:Nat}{m:Y}(b:f7 W n g j k m i l s)(e:av W d):f7 d n g j k m i l s:=by exact c5 b.n λr f c h o=>⟨e.k _ _ b.l9,e.k _ _ b.bL,e.k _ _ b.jc,e.k _ _ b.mE,b.a2.bD λa p ⟨r,c,h⟩=>am r (e.k _ _ c)<|h.m e,eb r f (e.k _ _ c) (e.k _ _ h)<|e.k _ _ o,b.cu,b.gC,b.mP⟩
theorem mU(d:fq W b a)(e:fq W b g):∀x∈[a,g],fq W b x:=λx c=>by(rcases RD.1 c with rfl|c);exact d;exact Z (Re.1 c) e
theorem qR(e:fq W b a)(f:fq W b g)(h:fq W b c):∀x∈[a,g,c],fq W b x:=λx d=>by(rcases RD.1 d with rfl|d);exact e;exact mU f h x d
theorem fy.hE(b:fy W r d)(e:∀f,d=.cR f->f.length<=3):fq W 3 (.a r):=by induction b with|e8 a=>exact .kV (by refine(?_:2<=5);decide) (mU .l .c) a (.tail _<|.head _)|fc a=>exact .kV (by refine(?_:3<=5);decide) (qR .l .c .c) a (.tail _<|.tail _<|.head _)|eS a=>exact .kV (by refine(?_:2<=5);decide) (mU .l .c) a (.tail _<|.tail _<|.tail _<|.head _)|cR a g c=>refine .kV (by refine(?_:2<=5);decide) (mU .l<|.d ?_ (λx i=>?_) g) a<|.tail _<|.tail _<|.tail _<|.tail _<|.head _;refine Z (P6 ..)<|Z (c.a5 ..) ?_;have:=e _ rfl;exact cv this;exact ah (Qa.1 i) λj h k=>ad k<|ah (pD c j h) λl _ b=>.t6 (by refine(?_:2<=5);decide) (mU .c .c) b
theorem f7.rT{m k:Nat}(b:f7 W u g l m q j k s):∀x∈((j++[k]).map Y.a),fq W 4 x:=λx e=>by refine ah (Qa.1 e) λa p i=>(ad i ?_);(rcases PY.1 p with h|h);obtain⟨t,n,r,c,d⟩:=pD b.a2 a h;exact .kV (by refine(?_:3<=5);decide) (qR .l .c<|d.hE<|b.mP t n) c<|.head _;refine Z (Re.1 h)<|c5 b.n λr f c d o=>(.kV (by refine(?_:3<=5);decide) (qR .l .c<|.kV (by refine(?_:2<=5);decide) (mU .l<|.d ?_ (λx e=>?_) o) d ?_) c<|.head _);refine Z (P6 ..) ?_;have:=b.gC.2.1;exact cv this;exact ah (Qa.1 e) λv _ i=>(ad i .c);cases s.d2;exact .tail _<|.tail _<|.tail _<|.tail _<|.tail _<|.head _;exact .tail _<|.tail _<|.tail _<|.tail _<|.tail _<|.tail _<|.head _
section
theorem vk(a:G W e)(y:W.p k=some (.cx c (.a b) z l))(S:f7 W b g j m x f u s)(t:∀r d,W.al r=none->(∃w:Nat,w<=100/\G (W.M r<|.A [.c 0,.c (w:Nat)]) d)->h (.a r) d):ag (n+3) false (.B 60 0) [.a<|W.t k] h i e:=by refine bp EO ∅<|aK (a.cr y) ∅<|ii (.ay ∅<|.kB (a.k S.l9) rfl)<|aL<|bx rfl (eQ<|aK (a.cr y) (v:=.a b) ∅<|nn rfl (a.k S.l9) rfl (aL<|bJ rfl (aK (a.cr y) (v:=.a b) ∅<|cL (a.k S.l9) rfl (JN a S.jc S.mE (Z Rd<|List.append_ne_nil_of_right_ne_nil _<|by simp) (by refine Z (P6 ..)<|Z (P3 ..)<|Z (S.a2.a5 ..) ?_;have:=S.cu;refine(?_:_+1<=_);exact fp this #[]) S.rT λr w d o p q=>?_))));exact t r d p<|am w o q
end
theorem Bg:∀{c:List (Y×Y)},dn k c=none->dn k (c++[(k,v)])=some v:=by intro f;induction f with|nil=>intro _;exact(Z (P8 rfl) rfl:(if k=k then some v else _)=_)|cons g c e=>intro b;obtain⟨a,w⟩:=g;refine(?_:(if a=k then some w else dn k<|c++[(k,v)])=_);have b:(if a=k then some w else dn k c)=none:=b;by_cases d:a=k;rw[P8 d] at b;exact h2 b;rw[P4 d] at b⊢;exact e b
theorem Eu:∀{c:List (Y×Y)},dn k c=some v->∃e∈c,e.2=v:=by intro i;induction i with|nil=>intro b;exact bm b|cons j c h=>intro b;obtain⟨a,w⟩:=j;have b:(if a=k then some w else dn k c)=some v:=b;by_cases d:a=k;rw[P8 d] at b;obtain rfl:=P0 b;exact am _ (.head _) rfl;rw[P4 d] at b;exact ah (h b) λe f g=>am e (.tail _ f) g
structure en(q:Nat)(W d:N):Prop where
 m:av W d
 p:d.p=W.p
 t:d.t=W.t
 w:d.w=W.w
 u:d.u=W.u
 E:d.E=W.E
 n:d.n=W.n
 bG:d.bG=W.bG
 a6:d.a6=W.a6
 O:d.O=W.O
 aE:d.aE=W.aE
 aA:∀(k a:Nat) (c:List (Y×Y)) (b:Nat),W.aA[k]?=some (a,c)->gI W b c->∃j,d.aA[k]?=some (a,j)/\gI d (b+q) j
structure c'(q:Nat)(W d:N):Prop extends en q W d where
 C:d.C=W.C
theorem en.q{e q:Nat}{W:N}(a:en e W c)(g:en q c d):en (e+q) W d:=⟨a.m.q g.m,g.2.trans a.2,g.3.trans a.3,g.4.trans a.4,g.5.trans a.5,g.6.trans a.6,g.7.trans a.7,g.8.trans a.8,g.9.trans a.9,g.10.trans a.10,g.11.trans a.11,λk x h f b l=>by exact ah (a.aA k x h f b l) λj m n=>ah (g.aA k x j _ m n) λi o p=>am i o<|ad (Nat.add_assoc ..) p⟩
theorem c'.q{c q:Nat}{W:N}(a:c' c W b)(g:c' q b d):c' (c+q) W d:=⟨a.toen.q g.toen,g.C.trans a.C⟩
theorem gI.bu(b:gI W a c)(f:a<=M):gI W M c:=⟨P9 b.1 f,b.2⟩
theorem c'.k{q:Nat}(b:W.al r=none):c' q W (W.M r o):=⟨⟨.M b,rfl,rfl,rfl,rfl,rfl,rfl,rfl,rfl,rfl,rfl,λk a c f d e=>am c d<|(e.m<|.M b).bu<|Q_ _ _⟩,rfl⟩
theorem c'.b3{q:Nat}:c' q W W:=⟨⟨.cK,rfl,rfl,rfl,rfl,rfl,rfl,rfl,rfl,rfl,rfl,λk a b e c d=>am b c<|d.bu<|Q_ _ _⟩,rfl⟩
theorem c'.j1{k:Nat}(b:W.aA[k]?=some (a,d))(m:hS W r):c' 1 W (W.j1 k a<|d++[(.c (g:Nat),.a r)]):=by
 have e:av W (W.j1 k a<|d++[(.c (g:Nat),.a r)]):=.dN rfl rfl rfl rfl rfl;refine⟨⟨e,rfl,rfl,rfl,rfl,rfl,rfl,rfl,rfl,rfl,rfl,λo s j q c f=>?_⟩,rfl⟩;by_cases h:o=k;subst h;replace c:=b▸c;cases c;refine cp _ (List.getElem?_set_self<|(P1.1 b).1) (by exact Z P3<|QZ f.1) λx n=>?_;rcases PY.1 n with t|t
 exact ah (f.2 x t) λp i l=>(am p i<|l.m e);exact Z (Re.1 t)<|am r rfl (m.m e);exact am j ((List.getElem?_set_ne<|Qy h).trans c)<|(f.m e).bu<|Q4 _
section
theorem ya{K:Nat}(a:G W u)(y:W.p k=some (.cx c (.a M) NS T))(S:f7 W M g R X NR Q NQ s)(A:W.aA[K]?=some (fu,f))(F:gI W B f)(I:B<=900000)(p:D.lookup ("known":Str)=some (.a fu))(z:∀d m,d.O=W.O->d.C=W.C->G d m->m.r C=some (.aD 58 D))(L:∀r d m,c' 1 W d->hS d r->G d m->h (.a r) m):ag (n+4) false (.B 61 0) [.a C,.a<|W.t k] h i u:=by refine bp tL ∅ ?_;have x:=z W u rfl rfl a;refine eq x ∅ ∅<|aL<|bx ∅<|aK (a.cr y) (v:=.c (k:Nat)) ∅<|aK x p<|ne (a.aA A) rfl (aL ?_);cases t:dn (.c (k:Nat)) f with|none=>refine bJ rfl (vk a y S λr O NO b=>ah b λw NP o=>?_);have q:=A;have H:hS (W.M r<|.A [.c 0,.c (w:Nat)]) r:=am w NP dA;refine aK (z (W.M r<|.A [.c 0,.c (w:Nat)]) O rfl rfl o) p<|aK (o.cr y) (v:=.c (k:Nat)) ∅<|mc (o.aA q) rfl (b5 (by have:=F.1;refine(?_:f.length<=_);exact aM (aM this I) #[])) ?_;refine Z (qY t) ?_;have l:=o.j1 (j:=f++[(.c (k:Nat),.a r)]) q;generalize O.Q fu (.K<|f++[(Y.c (k:Nat),Y.a r)])=P at l;refine aK (z ((W.M r<|.A [.c 0,.c (w:Nat)]).j1 K fu<|f++[(.c (k:Nat),.a r)]) P rfl rfl l) p<|aK (l.cr y) ∅<|gZ (l.aA<|List.getElem?_set_self (P1.1 q).1) rfl (Bg t) ?_;exact L r _ P ((c'.k NO).q<|c'.j1 q H) (H.m<|.dN rfl rfl rfl rfl rfl) l|some v=>refine bx rfl (aZ λNU NT=>ah (Eu t) λe NN U=>ah (F.2 e NN) λr E J=>NT ?_);rw[U] at E;subst E;exact aK x p<|aK (a.cr y) ∅<|gZ (a.aA A) rfl t (L r W u .b3 J a)
theorem cz.gV{n:Nat}(g:cz W q f l)(m:G W k)(o:∀e:Nat,e<=4*f.length+4->(∀c,l.dT=some c->e=c.gV+4)->(l.dT=none->e=4)->h (.c (e:Nat)) k):ag (n+2) p (.B 62 0) [.a l.o] h i k:=by refine bp Mf ∅ ?_;have a:=m.cG g.n;replace a:=(show l.bM.da=l.da from rfl)▸(show l.bM.ay=l.ay from rfl)▸a;unfold bz.ay bz.da at a;cases d:l.dT with|none=>rw[d] at a;exact eq a ∅ ∅ (aL<|bJ ∅<|o 4 (ix _ _) (λc b=>by rw[d] at b;exact bm b) λ_=>rfl)|some c=>replace a:=d▸a;refine aZ λv s=>?_;obtain⟨j,⟨w,u,r⟩,_⟩:=g.dT c d;refine s<|eq a ∅ ∅<|aL<|bx ∅ ?_;have:=g.a5;refine aK a ∅<|aK a ∅<|cL (m.k r) rfl (i0 (el<|s2 this j) rfl (i0 ?_ rfl ?_));exact Z (Int.add_zero ..)<|el<|s2 this j;exact Z (Int.add_zero ..)<|o (c.gV+4) (o_ j _) (λt b=>by rw[d] at b;obtain rfl:=P0 b;rfl) (λb=>by rw[d] at b;exact h2 b)
theorem cz.fb(a:cz W b f l)(k:en q W d):cz d (b+q) f l:=⟨k.O.trans a.O,a.a5,k.aE▸a.aE,λc m=>by refine aZ λo n=>?_;obtain⟨g,h,e,i,j⟩:=a.dT c m;exact n<|b9 g (h.m k.m)<|k.aA _ _ e b i j⟩
theorem cz.qb{n:Nat}{O:Y}(m:cz W q f l)(o:G W v)(y:W.p k=some (.cx c (.a u) P C))(S:f7 W u g B D O A M s)(H:q<=900000)(t:∀r d p,c' 1 W d->hS d r->G d p->h (.a r) p):ag (n+4) false (.B 61 0) [.a l.o,.a<|W.t k] h i v:=by cases j:l.dT with|none=>have a:=o.cG m.n;rw[show l.bM.ay=l.ay from rfl] at a;unfold bz.ay at a;rw[j] at a;exact bp tL ∅ (eq a ∅ ∅<|aL<|bJ ∅<|vk o y S λr R K b=>ah b λw L z=>t r _ R (.k K) (am w L dA) z)|some c=>refine aZ λJ Q=>?_;obtain⟨X,U,T,E,F⟩:=m.dT c j;refine Q<|ya (D:=l.da) o y S E F H (by unfold bz.da;refine Z j ?_;kernel_rfl) (λd p e _ x=>?_) t;have a:=x.cG<|Z e m.n;rw[show l.bM.ay=l.ay from rfl] at a;unfold bz.ay at a;rw[j] at a;exact a
theorem ti(j:cz W x f l)(a:G W A)(B:bt W)(y:W.p k=some (.cx c (.a t) X E))(S:f7 W t g D F Q C P s)(K:x<=900000)(O:∀d o,c' 1 W d->G d o->h .s o):ag (n+6) false (.B 85 0) [.a W.i.R,.a<|W.t k] h i A:=by refine bp HQ ∅ ?_;have m:=j.a5;have z:(W.O.map λl=>Y.a l.o).length=f.length+1:=Z (P6 ..)<|Z (j.O ..)<|Z (P3 ..) rfl;refine aK a.bV ∅<|i2 a.cH (Z z<|b5<|fp m #[])<|Z z<|aK a.bV ∅<|aK (a.k B.m3) ∅<|kH<|aL<|bx (by rw[QF];exact λb=>absurd (Int.ofNat_lt.1 b:50<f.length+1)<|R'.2<|aM (j_ m) #[])<|aK (a.cr y) (v:=.a t) ∅<|or _ (by intro T;cases T)<|aL<|bx rfl (bp Dp ∅<|aK a.bV (v:=.a W.i.f5) ∅<|p0 a j<|j.gV a λe q _ _=>j.qb a y S K λr d o M L u=>ah L λw p H=>cL (u.k H) rfl (i0 (el<|an [⟨4,.b 0,.e 10⟩,⟨1,.b 1,.h (.x 4<|.b 0)<|.e 4⟩] (.b 1) (.e 1000000) rfl [f.length,e] m q) (el<|cv p)<|i0 ?_ rfl (kH<|aL<|bx ?_<|O d o M u)));exact Z (rfl:((e:Int)+(w:Int))=((e+w:Nat):Int))<|el<|an [⟨4,.b 0,.e 10⟩,⟨1,.b 1,.e 100⟩,⟨1,.b 2,.h (.x 4<|.b 0)<|.e 4⟩] (.h (.b 2)<|.b 1) (.e 1000000) rfl [f.length,w,e] m p q;rw[QF];exact λb=>absurd (Int.ofNat_lt.1 b:880<e+w+10)<|R'.2<|an [⟨4,.b 0,.e 10⟩,⟨1,.b 1,.e 100⟩,⟨1,.b 2,.h (.x 4<|.b 0)<|.e 4⟩] (.h (.h (.b 2)<|.b 1)<|.e 10) (.e 880) rfl [f.length,w,e] m p q
end
structure xn(W d:N)(b a:Nat):Prop where
 m:av W d
 b3:dy W d
 w:d.w=W.w
 n:d.n=W.n+1
 p:∀k,k<=W.n->d.p k=W.p k
 az:d.p (W.n+1)=some (.az 0 false false b a)
 HS:d.y b (.d [])
 dt:d.y a (.d [])
section
theorem JY(g:G W w)(u:W.C=none)(A:W.n<=100000)(B:W.y v (.d []))(C:∀d x c b,xn W d c b->G d x->h (.a<|d.t<|W.n+1) x):ag (n+5) p (.B 82 0) [.a W.i.R,.a v] h i w:=by
 refine bp By ∅<|aK g.bV ∅<|c4 g.dC ∅ ∅<|r7 g u A λa c b E e l q=>?_;have f:=q.ey rfl;have j:=(((.M e.1:av W (W.M c<|.d [])).q<|.b_<|h_ e.2.1 e.2.2).q<|.cX l).q<|av.ey (o:=.d []) q rfl;have z:((((W.M c<|.d []).b_ a<|.az 0 false false c b).cX b<|.d []).ey b<|.d []).t (W.n+1)=a:=P8 rfl;have r:xn W ((((W.M c<|.d []).b_ a<|.az 0 false false c b).cX b<|.d []).ey b<|.d []) c b:=by have m:((W.M c<|.d []).b_ a<|.az 0 false false c b).y c (.d []):=(av.b_<|h_ e.2.1 e.2.2).k _ _ dA;(have:c≠b:=λt=>by subst t;rw[m.1] at l;exact h2 l);exact⟨j,⟨rfl,u.symm⟩,rfl,rfl,λk D=>P4<|show k≠W.n+1 by exact jy D,P8 rfl,⟨(P4 this).trans<|(P4 this).trans m.1,(P4 this).trans m.2⟩,⟨P8 rfl,P8 rfl⟩⟩
 refine ad z ?_;generalize(((W.M c<|.d []).b_ a<|.az 0 false false c b).cX b<|.d []).ey b (.d [])=y at f j r;have s:=j.k _ _ B;refine dQ (f.k s) ?_;exact jE<|ep (f.k s) (bR Er<|C y E c b r f:br _ _ _ _ _ _ _ _ _)
theorem sA(a:G W b)(c:bt W)(f:W.i.dW≠0)(g:h (.a W.i.dW) b):ag (n+1) p (.B 98 2) [.a W.i.i,.l "main::_"] h i b:=by have e:=c.i;have d:=c.dp f;exact bp x' ∅<|aK (a.k e) ∅<|ne (a.k d) rfl (aL<|bx ∅<|aK (a.k e) (v:=.a W.i.dp) ∅<|gZ (a.k d) rfl ∅ g)
def N.cb(W:N)(k c b a:Nat):N:=(((W.M a<|.A [.l "array",.a W.i.dW,W.a6]).e2<|W.aE++[.a a]).a_ k<|.az 1 false false c b).hG<|.a<|W.t k
theorem Ht(a:G W m)(d:bt W)(y:W.p k=some (.az 0 false false f e))(c:W.a6≠.s)(u:W.aE.length<=1000)(x:∀b s,W.al b=none->G (W.cb k f e b) s->h .s s):ag (n+3) p (.B 83 0) [.a W.i.R,.a<|W.t k] h i m:=by have q:=d.i;refine bp FJ ∅<|aK a.bV ∅<|fe a.gb ∅<|aK a.bV ∅<|c4 (a.k q) ∅ ∅<|sA a d (a.a3.dj c)<|aK a.bV (v:=.a W.i.i) ∅<|c4 (a.k q) ∅ ∅<|bp xx ∅<|c4 (a.k d.i) ∅ ∅<|sA a d (a.a3.dj c)<|aK (a.fd<|a.a3.dj c) ∅<|or _ c<|aL<|bx rfl (aK (a.fd<|a.a3.dj c) (v:=W.a6) ∅<|bF ?_);have r:=a.bH<|P5 _;have o:=a.eK<|.A [.l "array",.a W.i.dW,W.a6];have B:av W (W.M m.f<|.A [.l "array",.a W.i.dW,W.a6]):=.M r;generalize m.f=b at*;generalize m.z (.A [.l "array",.a W.i.dW,W.a6])=t at o;refine hP o.gb (b5 (m2 u:W.aE.length<=_)) ?_;have g:=o.e2<|W.aE++[.a b];have j:av W ((W.M b<|.A [.l "array",.a W.i.dW,W.a6]).e2<|W.aE++[.a b]):=B.q<|.dN rfl rfl rfl rfl rfl;refine(?_:J (ee (.a W.i.R) "counter") _ (t.Q W.i.h7<|.d<|W.aE++[.a b]));generalize w:t.Q W.i.h7 (.d<|W.aE++[.a b])=A;have g:=w▸g;refine aK g.bV ∅<|c4 (g.k<|j.k _ _ d.bN) ∅ ∅<|nl (W:=(W.M b<|.A [.l "array",.a W.i.dW,W.a6]).e2<|W.aE++[.a b]) g y (by refine(?_:0<=_);decide) λz l=>?_;have C:av W (((W.M b<|.A [.l "array",.a W.i.dW,W.a6]).e2<|W.aE++[.a b]).bi k<|.az 0 false false f e):=j.q .bi;exact aK l.bV ∅<|c4 (l.k (W:=((W.M b<|.A [.l "array",.a W.i.dW,W.a6]).e2<|W.aE++[.a b]).bi k<|.az 0 false false f e)<|C.k _ _ q) ∅ ∅<|sA (W:=((W.M b<|.A [.l "array",.a W.i.dW,W.a6]).e2<|W.aE++[.a b]).bi k<|.az 0 false false f e) l (d.m C) (a.a3.dj c)<|eE (l.fd<|a.a3.dj c) ∅<|x b _ r (Z (∅:af.aD 7 (cN ("array":Str) (.a<|W.t k)<|ig W.i W.a6)=.aD 7 (ig W.i<|.a<|W.t k))<|l.hG (a.a3.dj c)<|.a<|W.t k:G (W.cb k f e b) (z.Q W.i.dW<|.aD 7<|cN ("array":Str) (.a<|W.t k)<|ig W.i W.a6))
theorem LY:ce (.cO 0) (.l "array") a (.B 21 0) a:=.K rfl rfl ∅
theorem Ag(a:G W s)(t:bt W)(y:W.p k=some (.az 1 false false e d))(q:W.aE=aE++[.a z])(B:x=aE.length)(o:aE.length<=1000)(C:W.u.length<=100000)(g:W.y z (.A [.l "array",.a W.i.dW,bE]))(u:W.a6=.a (W.t k))(E:∀A,G ((((W.e2 aE).a_ k<|.az 0 false false e d).d9 k).hG bE) A->h .s A):ag (n+4) p (.B 32 0) [.a W.i.R,.c (x:Nat)] h i s:=by
 refine Z B ?_;have l:=a.a3.dj (by refine Z u ?_;intro r;cases r);refine bp Mg ∅ ?_;refine oa (bR Dk ?_:fU _ _ _ _ _ _ _);have m:W.aE.length=aE.length+1:=Z q<|Z P3 rfl;refine aK a.bV ∅<|i2 a.gb (Z m<|b5<|pb o)<|kH<|aL ?_;rw[show decide ((aE.length:Int)<(W.aE.length:Int))=true from by rw[Qx];exact gK<|dw m.symm];refine(bR yU ?_:hc _ _ _ _ _ _ _ _ _);have w:=a.gb;rw[q] at w;refine aK a.bV ∅<|fe a.gb ∅<|ox w (ad q<|Z m<|b5<|pb o) ?_;have b:=a.e2 aE;generalize s.Q W.i.h7 (.d aE)=H at b;refine cL (b.k g) rfl (ir LY<|bp Ka ∅<|cL (b.k (W:=W.e2 aE) g) rfl (aK (b.fd l) (v:=.a<|W.t k) (by refine Z (rfl:(W.e2 aE).a6=W.a6)<|Z u ?_;kernel_rfl) ?_));refine bp zn ∅<|wP _ (by intro r;cases r)<|aL<|bJ rfl (aK b.bV ∅<|c4 (b.k t.bN) ∅ ∅<|ot (W:=W.e2 aE) b (t.m<|.dN rfl rfl rfl rfl rfl) y (by refine(?_:1<=_);decide) (by refine(?_:1≠0);decide) C λj c=>?_);have c:G (((W.e2 aE).a_ k<|.az 0 false false e d).d9 k) j:=c;refine cL (c.k g) rfl (cL (c.k (W:=((W.e2 aE).a_ k _).d9 k) g) rfl (eE (c.fd l) ∅ ?_));have f:G ((((W.e2 aE).a_ k<|.az 0 false false e d).d9 k).hG bE) (j.Q W.i.dW<|.aD 7<|cN ("array":Str) bE<|ig W.i W.a6):=by exact Z (∅:af.aD 7 (cN ("array":Str) bE<|ig W.i W.a6)=.aD 7 (ig W.i bE))<|c.hG l bE
 generalize D:j.Q W.i.dW (.aD 7<|cN ("array":Str) bE<|ig W.i W.a6)=F at f;refine(Z D<|bR Bd ?_:fU _ _ _ _ _ _ (j.Q W.i.dW<|.aD 7<|cN ("array":Str) bE<|ig W.i W.a6));refine aK f.bV ∅<|i2 f.gb (b5 (m2 o:aE.length<=_))<|kH<|aL ?_;rw[show decide ((aE.length:Int)<((((((W.e2 aE).a_ k<|.az 0 false false e d).d9 k).hG bE).aE.length:Nat):Int))=false from by rw[QF];exact(Int.lt_irrefl _:¬((aE.length:Int)<aE.length))];refine(?_:br _ _ _ _ _ _ _ _ _);exact bR Kv<|E F f
end
section
theorem en.Jj{q:Nat}(b:W.al a=none):en q W (W.cX a o):=⟨.cX b,rfl,rfl,rfl,rfl,rfl,rfl,rfl,rfl,rfl,rfl,λk a c f d e=>am c d<|(e.m<|.cX b).bu<|Q_ _ _⟩
theorem en.Q{q:Nat}:en q W (W.dq a o):=⟨.dq,rfl,rfl,rfl,rfl,rfl,rfl,rfl,rfl,rfl,rfl,λk a b e c d=>am b c<|(d.m .dq).bu<|Q_ _ _⟩
theorem av.ji(b:W.al a=none):av W (W.ji a):=⟨rfl,λg d x=>by(have:g≠a:=λc=>by have t:=x.1;replace t:=b▸c▸t;exact bm t);exact⟨(P4 this).trans x.1,x.2⟩,P5 _,λ_ _=>rfl⟩
theorem en.ji{q:Nat}(b:W.al a=none):en q W (W.ji a):=⟨.ji b,rfl,rfl,rfl,rfl,rfl,rfl,rfl,rfl,rfl,rfl,λk x d f c e=>am d (by refine(Z (RA (P1.1 c).1) ?_:(W.aA++[(a,[])])[k]?=_);exact c)<|(e.m<|.ji b).bu<|Q_ _ _⟩
noncomputable def la(eX args:Y)(cd:Nat)(a c gV d b:Y):List (Str×Y):=[("pad",eX),("args",args),("want",.c (cd:Nat)),("code",a),("package",.l "main"),("line",c),("piled",gV),("weights",d),("known",b)]
theorem uN{x:Str}{v:Y}:∀{a:List (Str×Y)},(cN x v a).length<=a.length+1|[]=>P5 _|(t,w)::r=>by have:=uN (x:=x) (v:=v) (a:=r);refine(?_:(if t=x then(t,v)::r else(t,w)::cN x v r:List (Str×Y)).length<=_);split;exact(fw _ _:r.length+1<=r.length+1+1);exact(j_ this:(cN x v r).length+1<=r.length+1+1)
structure jR(W d:N)(a b:Nat)(c:List (Str×Y)):Prop where
 iK:en 0 W d
 C:d.C=some (a,.aD b c)
 al:d.al a=some .C
 aA:d.aA=W.aA
theorem h9(g:G c i)(t:jR W c a e b)(k:b.length<99)(l:∀d j f,f=cN x v b->f.length<=b.length+1->jR W d a e f->G d j->h () j):J (fN (.a a) x v) h i:=eE (g.C t.C) (Nat.ble_eq_true_of_le (kk k:b.length+1<=100))<|l (c.dq a<|.aD e<|cN x v b) _ _ rfl uN ⟨t.iK.q<|.Q (q:=0),rfl,t.al,t.aA⟩ (g.dq t.C _)
theorem L3(x:G k v)(t:jR W k a l [])(S:∀d w q,q=[(("pad":Str),eX),("args",args),("want",cd),("code",m),("package",.l "main"),("line",u)]->jR W d a l q->G d w->h .s w):ag (n+1) p (.B 44 1) [.a a,eX,args,cd,m,.l "main",u] h i v:=by exact bp vv ∅<|h9 x t #[] λNO NU c H b E y=>h9 y E (by have b:c.length<=1:=b;exact fp b #[]) λNP NV e K f r z=>h9 z r (by have b:c.length<=1:=b;exact an [⟨1,.b 0,.e 1⟩,⟨1,.b 1,.h (.b 0)<|.e 1⟩] (.h (.b 1)<|.e 1) (.e 99) rfl [c.length,e.length] b f) λNQ NW g L j X A=>h9 A X (by have b:c.length<=1:=b;exact an [⟨1,.b 0,.e 1⟩,⟨1,.b 1,.h (.b 0)<|.e 1⟩,⟨1,.b 2,.h (.b 1)<|.e 1⟩] (.h (.b 2)<|.e 1) (.e 99) rfl [c.length,e.length,g.length] b f j) λNR NX o M s U B=>h9 B U (by have b:c.length<=1:=b;exact an [⟨1,.b 0,.e 1⟩,⟨1,.b 1,.h (.b 0)<|.e 1⟩,⟨1,.b 2,.h (.b 1)<|.e 1⟩,⟨1,.b 3,.h (.b 2)<|.e 1⟩] (.h (.b 3)<|.e 1) (.e 99) rfl [c.length,e.length,g.length,o.length] b f j s) λNS NY Q O T J C=>h9 C J (by have b:c.length<=1:=b;exact an [⟨1,.b 0,.e 1⟩,⟨1,.b 1,.h (.b 0)<|.e 1⟩,⟨1,.b 2,.h (.b 1)<|.e 1⟩,⟨1,.b 3,.h (.b 2)<|.e 1⟩,⟨1,.b 4,.h (.b 3)<|.e 1⟩] (.h (.b 4)<|.e 1) (.e 99) rfl [c.length,e.length,g.length,o.length,Q.length] b f j s T) λF NN R P NT I D=>S F NN R (by refine Z P<|Z O<|Z M<|Z L<|Z K<|Z H ?_;kernel_rfl) I D
theorem z5(A:G b x)(t:jR W b a 58 [])(R:∀b d y s e,s=[(("pad":Str),eX),("args",args),("want",cd),("code",o),("package",.l "main"),("line",w),("piled",.c 0),("weights",.cO 3),("known",.a e)]->en 0 W b->b.aA=W.aA++[(e,[])]->jR b d a 58 s->G d y->h .s y):ag (n+2) p (.B 58 1) [.a a,eX,args,cd,o,.l "main",w] h i x:=by refine bp IR ∅<|j9 ∅<|L3 A t λNN NQ f q T B=>?_;have g:f.length<10:=Z q<|RC rfl;refine h9 B T (cv g) λNO NR r H v X C=>h9 C X (an [⟨1,.h (.b 0)<|.e 1,.e 10⟩,⟨1,.b 1,.h (.b 0)<|.e 1⟩] (.h (.b 1)<|.e 1) (.e 99) rfl [f.length,r.length] g v) λE z O K S c l=>(bF ?_);have u:=l.bH<|P5 _;have m:=l.ji;generalize z.z (.K [])=NS at m;generalize z.f=e at*;exact h9 m ⟨⟨.cK,rfl,rfl,rfl,rfl,rfl,rfl,rfl,rfl,rfl,rfl,λk a M I Q j=>am M Q j⟩,c.C,(P4 (λj=>by have:=c.al;replace this:=u▸j▸this;exact bm this)).trans c.al,rfl⟩ (an [⟨1,.h (.b 0)<|.e 1,.e 10⟩,⟨1,.b 1,.h (.b 0)<|.e 1⟩,⟨1,.b 2,.h (.b 1)<|.e 1⟩] (.h (.b 2)<|.e 1) (.e 99) rfl [f.length,r.length,O.length] g v S) λF J P L NP U D=>R _ F J P e (by refine Z L<|Z K<|Z H<|Z q ?_;kernel_rfl) (c.iK.q<|.ji (q:=0) u) (Z c.aA rfl:E.aA++_=_) U D
theorem z1(j:G W c)(q:W.C=none)(v:∀b d g a f,en 0 W b->b.aA=W.aA++[(f,[])]->jR b d a 58 (la eX args cd k m (.c 0) (.cO 3)<|.a f)->G d g->h (.a a) g):ag (n+3) p (.ay 58) [eX,args,.c (cd:Nat),k,.l "main",m] h i c:=by refine jH (l:=.B 58 1) ∅ ∅ ?_;have l:=j.bH<|P5 _;refine Z (∅:(if ba.dV 58=true then af.bd 58 none else .aD 58 [])=.aD 58 []) ?_;have s:jR W (W.cX c.f<|.aD 58 []) c.f 58 []:=⟨.Jj l,rfl,P8 rfl,rfl⟩;refine z5 ((j.dh<|.aD 58 []).cX q l (c8 _ _)<|P' _) s λb d g w f e r u t o=>?_;subst e;exact v b d g c.f f r u t o
end
section
theorem en.b3{q:Nat}:en q W W:=(c'.b3).toen
theorem G.k'(e:G W g)(b:W.C=some (a,.aD c d)):jR W W a c d:=⟨.b3,b,by have:=e.bj .C ⟨_,b⟩;replace this:=b▸(show W.o .C=(match W.C with|some f=>f.1|none=>0) from rfl)▸this;exact this,rfl⟩
theorem en.f1{q:Nat}(b:en q W d)(y:W.p k=some (.cx c (.a e) f a)):d.p k=some (.cx c (.a e) f a)/\d.t k=W.t k:=⟨by refine Z b.p ?_;exact y,Z b.t rfl⟩
theorem yH{h:Y->aa}{f:List cY}{u:Nat}(K:G m H)(z:en 1 W m)(E:m.C=some (a,.aD 58<|la eX args cd x B (.c (v:Nat)) NW<|.a fu))(NP:v<=4*f.length+4)(y:W.p k=some (.cx c (.a F) NV Q))(S:f7 W F g P R NT O NS s)(D:m.aA[u]?=some (fu,l))(C:gI m q l)(NN:q<=900000)(NR:∀d w o,en 2 W d->d.C=some (a,.aD 58<|bz.da ⟨a,eX,args,cd,x,B,some o⟩)->o.gV<=4*f.length+4->hS d o.kl->(∃l,d.aA[o.l3]?=some (o.fu,l)/\gI d (q+1) l)->G d w->h (.a a) w):ag (n+4) false (.B 61 0) [.a a,.a<|W.t k] (λNU=>J (fN (.a a) "weights" NU) λ_=>h<|.a a) i H:=by
 refine bs (z.f1 y) λNO T=>(ad T<|ya K NO (S.m z.m) D C NN ∅ (λd w _ b p=>p.C<|Z b E) λr d w A NQ p=>h9 p (p.k'<|A.C.trans E) (by unfold la;exact RC rfl) λM NX X e _ t L=>?_);have e:X=bz.da ⟨a,eX,args,cd,x,B,some ⟨v,r,fu,u⟩⟩:=by refine Z e ?_;delta la bz.da;kernel_rfl
 subst e;refine ah (A.aA u fu l q D C) λj U I=>NR M NX ⟨v,r,fu,u⟩ ((z.q A.toen).q t.iK) t.C NP (NQ.m t.iK.m) (am j (by exact Z t.aA U)<|I.m t.iK.m) L
theorem Gf(F:cz W u f l)(C:G W NR)(Ob:bt W)(N6:W.C=none)(y:W.p k=some (.cx c (.a NQ) N_ NX))(S:f7 W NQ g NW NY N9 NV N8 s)(NO:u<=800000)(NP:∀d B a q,en 2 W d->d.C=some (a,.aD 58<|bz.da ⟨a,eX,args,cd,.a<|W.t k,l.ju,some q⟩)->q.gV<=4*f.length+4->hS d q.kl->(∃w,d.aA[q.l3]?=some (q.fu,w)/\gI d (u+2) w)->G d B->h (.a a) B):ag (n+5) false (.B 64 0) [.a W.i.R,eX,args,.c (cd:Nat),.a<|W.t k] h i NR:=by refine bp IH ∅<|aK C.bV ∅<|p0 C F<|aK (C.cr y) ∅<|aK (C.cG F.n) l.IZ<|z1 C N6 λOc NT Oe a NZ N7 N5 t A=>?_;have I:en 0 W NT:=N7.q t.iK;have M:=F.fb I;have o:=A.cG M.n;replace o:=(show l.bM.da=l.da from rfl)▸(show l.bM.ay=l.ay from rfl)▸o;unfold bz.ay at o;cases K:l.dT with|none=>replace o:=K▸o;refine eq o ∅ ∅<|aL<|bx ∅<|M.gV A λNN J _ _=>(h9 A (A.k' t.C) (by exact RC rfl) λO Oa E e _ r D=>?_);(have e:E=la eX args cd (.a<|W.t k) l.ju (.c (NN:Nat)) (.cO 3) (.a NZ):=by refine Z e ?_;kernel_rfl);subst e;have m:en 0 W O:=I.q r.iK;refine yH D ⟨m.m,m.2,m.3,m.4,m.5,m.6,m.7,m.8,m.9,m.10,m.11,λk a w u b o=>by obtain⟨j,x,z⟩:=m.aA k a w u b o;exact⟨j,x,z.bu<|Q4 _⟩⟩ r.C J y S (Z r.aA<|Z t.aA<|Z N5<|e6 _ _) ⟨Qp _,λe b=>(Rc b).elim⟩ (cv NO) λd B q x z P Q ⟨j,T,X⟩ U=>NP d B a q x z P Q (am j T<|X.bu<|Q4 _) U|some H=>rw[K] at o;refine aZ λOd N'=>?_;obtain⟨_,_,w,N4,N3⟩:=M.dT H K;refine N'<|eq o ∅ ∅<|aL<|bJ ∅<|aK o (v:=.a H.fu) (by unfold bz.da;refine Z K ?_;kernel_rfl) ?_;refine h9 A (A.k' t.C) (by exact RC rfl) λO Oa E e _ r D=>?_;(have e:E=la eX args cd (.a<|W.t k) l.ju (.c 0) (.cO 3) (.a H.fu):=by refine Z e ?_;kernel_rfl);subst e;have m:en 0 W O:=I.q r.iK;refine(F.fb m).gV D λNN J _ _=>(h9 D (D.k' r.C) (by exact RC rfl) λNU Of E e _ L NS=>?_);(have e:E=la eX args cd (.a<|W.t k) l.ju (.c (NN:Nat)) (.cO 3) (.a H.fu):=by refine Z e ?_;kernel_rfl);subst e;have p:en 0 W NU:=m.q L.iK;refine yH (q:=u) NS ⟨p.m,p.2,p.3,p.4,p.5,p.6,p.7,p.8,p.9,p.10,p.11,λk a w u b o=>by obtain⟨j,x,z⟩:=p.aA k a w u b o;exact⟨j,x,z.bu<|Q4 _⟩⟩ L.C J y S (Z L.aA<|Z r.aA N4) ((N3.m r.iK.m).m L.iK.m) (cv NO) λd B q x z P Q ⟨j,T,X⟩ U=>NP d B a q x z P Q (am j T<|X.bu<|Q4 _) U
end
theorem jf(b:f≠[]):∃a g,f=a++[g]:=g' f.dropLast (f.getLast b)<|(List.dropLast_concat_getLast b).symm
theorem iA:f2 (a++[k]) x=a++[k++x]:=by unfold f2;refine Z QJ<|Z List.getLast?_concat ?_;rfl
theorem xR(b:c≠[]):(f2 c x).flatten=c.flatten++x:=by refine eU (jf b) λa g d=>(Z d<|Z iA ?_);simp[List.append_assoc]
theorem uR:∀{e:List i},be R e (c++[k])->∃f d,e=f++[d]/\be R f c/\R d k:=by induction c with|nil=>(intro e b;cases b with|aY a g=>cases g;exact eb [] _ rfl .aP a)|cons _ c n=>intro e b;cases b with|aY a g=>exact c5 (n g) λf d j l m=>eb (_::f) d (Z j rfl) (.aY a l) m
def ap.bn(o:ap)(x:List Int):ap:={o with S:=f2 o.S x}
theorem wT{a:Nat}(b:o.S≠[]):cI (o.bn x) a=cI o a+x.count (a:Int):=by exact(Z (xR b ..)<|ad (Qf ..)<|Z (List.count_append ..) rfl:(o.bP++(f2 o.S x).flatten).count (a:Int)=(o.bP++o.S.flatten).count (a:Int)+_)
theorem rX(b:d≠[])(m:∃c,h=c.flatten/\be (ds W) c d)(n:ds W e x):∃c,h++e=c.flatten/\be (ds W) c (f2 d x):=by refine eU (jf b) λa g f=>?_;subst f;refine ah m λc i j=>(c5 (uR j) λp o f k l=>?_);subst f;refine am (p++[o++e]) ?_ ?_;refine Z i ?_;simp[List.append_assoc];exact Z iA<|k.cj<|.aY (l.cj n) .aP
section
theorem ur(C:G W NQ)(Op:bt W)(R:bh M o W)(NY:M<=30000)(X:o.S≠[])(NO:es W v s)(NN:∀l:Nat,s=l->l∉o.aX)(E:∀d Ok,G d Ok->bh (M+1) (o.bn [s]) d->dB W.u 1 W d->es d v s->d.w=W.w->h v Ok):ag (n+5) p (.B 78 0) [.a W.i.R,v] h i NQ:=by
 refine fj R.cB λNU NV N_ N' NW Oa=>(bp K7 ∅ ?_);have N9:(o.bn [s]).dO.length=o.dO.length+1:=by exact(Z (xR X ..)<|ad (Qf ..)<|Z (P3 ..) rfl:(o.bP++(f2 o.S [s]).flatten).length=(o.bP++o.S.flatten).length+1)
 rcases NO with⟨rfl,NO⟩|⟨l,t,rfl,Q,rfl⟩
 have N7:bh (M+1) (o.bn [-1]) W:=by(have NX:∀l:Nat,cI (o.bn [-1]) l=cI o l:=λl=>by exact Z (wT X)<|Z (List.count_cons_of_ne<|show(-1:Int)≠(l:Int) by exact km) rfl);have u:=rX X R.ar<|.jd .aP;rw[Q1] at u;exact⟨⟨R.a5,R.dP,R.bi,R.fI,λl E A F=>by refine Z (NX ..) ?_;exact R.b8 l E A F,R.bw,u,R.eh,R.E,R.C,λl b=>by refine Z (NX ..) ?_;exact R.gl l b,R.eu,io (eP NU) (by exact eP NV) (by exact eP N_) (by exact(eP N':o.L<=_)) (oH N9 NW)<|by exact eP Oa⟩,λl b=>by exact Z (NX ..)<|R.bj l b⟩
 have Od:es W v (-1):=.inl ⟨rfl,NO⟩;rcases NO with rfl|rfl
 exact lW ∅<|aL<|bx rfl (E W NQ C N7 .cK Od rfl);exact od ∅<|aL<|bx rfl (E W NQ C N7 .cK Od rfl);have I:=NN l rfl;refine eq (C.k (R.b8 l t Q I).du) ∅ ∅<|aL<|bJ ∅<|aK C.bV ∅<|c4 C.dC ∅ ∅<|ra C (aM (aM NU NY) #[]) λa m OI U NR=>?_;have B:av W ((W.M m<|.d []).b_ a<|.aV 0 .s m):=(.M U.1:av W (W.M m<|.d [])).q<|.b_<|h_ U.2.1 U.2.2;have Ot:((W.M m<|.d []).b_ a<|.aV 0 .s m).t (W.n+1)=a:=P8 rfl;have Ow:((W.M m<|.d []).b_ a<|.aV 0 .s m).p (W.n+1)=some (.aV 0 .s m):=P8 rfl;have J:∀k,k<=W.n->((W.M m<|.d []).b_ a<|.aV 0 .s m).p k=W.p k:=λk q=>P4 (show k≠W.n+1 by exact jy q);have Ov:((W.M m<|.d []).b_ a<|.aV 0 .s m).y m (.d []):=(av.b_<|h_ U.2.1 U.2.2).k _ _ dA;have S:((W.M m<|.d []).b_ a<|.aV 0 .s m).w=W.w:=rfl;have Ox:dy W ((W.M m<|.d []).b_ a<|.aV 0 .s m):=⟨rfl,rfl⟩;have Ob:((W.M m<|.d []).b_ a<|.aV 0 .s m).n=W.n+1:=rfl;refine ad Ot ?_;generalize(W.M m<|.d []).b_ a (.aV 0 .s m)=N8 at*;refine aZ λOH NP=>?_;have Ol:iX N8 (λl=>l∉o.aX) (cI o):=λf H A F=>by rw[S] at A;have O:=R.b8 f H A F;exact O.b4 B (J _ O.bu.1)<|J _ O.bu.2.1
 have OA:∀f,cI o f<=40000:=λf=>by have:=rQ (o:=o) (a:=f);exact an [⟨1,.b 0,.e 30000⟩,⟨1,.b 1,.b 0⟩,⟨1,.b 2,.b 1⟩] (.b 2) (.e 40000) rfl [M,o.dO.length,cI o f] NY NW this
 obtain⟨D,Oi,Om,N2,Oq,Og,OD⟩:=wk Ol (Z S R.bi) (.inr<|eb l t rfl (by exact Z S Q) rfl) λf e=>by have:l=f:=kF e;exact ad this ⟨I,by have:=OA l;exact cv this⟩
 refine NP ?_;have NT:=Op.m B;refine ad B.i ?_;have Ou:=NT.bN;refine aK NR.bV ∅<|c4 (NR.k Ou) ∅ ∅<|rx NR NT Ow Oi .s λOJ NS=>?_;have j:av N8 (D.a_ (W.n+1)<|.aV 0 (.a t.du) m):=Oi.m.q .a_;have Oc:(D.a_ (W.n+1)<|.aV 0 (.a t.du) m).p (W.n+1)=some (.aV 0 (.a t.du) m):=P8 rfl;have NZ:∀k,k<=W.n->(∀c w K,W.p k≠some (.az c true false w K))->(D.a_ (W.n+1)<|.aV 0 (.a t.du) m).p k=W.p k:=λk q Os=>(P4<|show k≠W.n+1 by exact jy q).trans<|(N2 k λc w K=>Z (J k q)<|Os c w K).trans<|J k q;have On:iX (D.a_ (W.n+1)<|.aV 0 (.a t.du) m) (λl=>l∉o.aX) λf=>cI o f+if(l:Int)=(f:Int) then 1 else 0:=λf H A F=>by have A:D.w[f]?=some H:=A;have O:=Om f H A F;rw[Og,S] at A;have M0:=R.b8 f H A F;exact O.b4 .a_ (P4 (by have:=M0.bu.1;exact jy this))<|P4 (by have:=M0.bu.2.1;exact jy this)
 have x:dy W (D.a_ (W.n+1)<|.aV 0 (.a t.du) m):=Ox.q<|Oq.q ⟨rfl,rfl⟩;have P:(D.a_ (W.n+1)<|.aV 0 (.a t.du) m).w=W.w:=Og.trans S;have N5:(D.a_ (W.n+1)<|.aV 0 (.a t.du) m).n=W.n+1:=OD.trans Ob;generalize D.a_ (W.n+1) (.aV 0 (.a t.du) m)=r at*;have N6:=NT.m j;refine ad (j.t _<|dw Ob.symm)<|ad j.i<|aK NS.bV ∅<|c4 (NS.k N6.bN) ∅ ∅<|K1 NS N6 Oc rfl (Z x.u<|aM (aM NV NY) #[]) λOG Oo=>?_;have z:av W (r.d9<|W.n+1):=(B.q j).q .d9;have T:∀(f:Nat) E,W.w[f]?=some E->(r.d9<|W.n+1).w[f]?=some E:=λf E q=>(Z P q:r.w[f]?=_);have N3:∀f:Nat,cI (o.bn [(l:Int)]) f=cI o f+if(l:Int)=(f:Int) then 1 else 0:=λf=>by refine Z (wT X) ?_;by_cases q:l=f;exact Z q<|Z (P8 rfl)<|Z List.count_cons_self rfl;exact Z (P4<|nC q)<|Z (List.count_cons_of_ne<|show(l:Int)≠(f:Int) by exact nC q) rfl
 have NP:∀k∈W.u,(r.d9<|W.n+1).p k=W.p k:=λk y=>by refine cM (R.mN k y) λN4 L Oh OE=>(NZ k (C.a3.cA _ _ L) λc w K u=>?_);replace u:=L▸u;cases OE _ _ _ _ _ (P0 u)
 refine E _ OG Oo ⟨⟨by refine(Z P ?_:r.w.length=_);exact R.a5,R.dP,by refine(Z (P ..) ?_:r.w.Pairwise _);exact R.bi,by refine(Z P ?_:∀k∈r.w,k.bk<=r.n);exact λk y=>P9 (R.fI k y)<|AV N5,λf H A F=>?_,λOf s OC=>?_,?_,?_,?_,x.C.trans R.C,λf b=>?_,R.eu,?_⟩,λf b=>?_⟩ ⟨z,x.a6,x.O,x.aE,x.aA,λk N4 b NN=>?_,T,am [W.n+1] (Z x.u rfl:r.u++_=_)<|P5 _,NP⟩ (.inr<|eb l t rfl (T l t Q) rfl) P;exact Z (N3 ..)<|(On f H A F).b4 .d9 rfl rfl;exact bZ (R.bw Of s OC) λv OF L Oh=>(bq v OF ((NZ (Of+1) (C.a3.cA _ _ L) λc w K u=>by replace u:=L▸u;cases u).trans L)<|Oh.b4 T);refine(Z x.u ?_:∃Oj,r.u++[W.n+1]=_/\_);exact rX X (ah R.ar λOj Oe OB=>am Oj Oe<|j' z T OB λk y=>NP k<|Z Oe y)<|.bn Oc (T l t Q) ((j.q .d9).k _ _ Ov) .aP;refine(Z x.u<|Qh.2 ⟨R.eh,by simp,λa Oy g Oz e=>?_⟩:(r.u++[W.n+1]).Nodup);rw[Re.1 Oz] at e;refine bA (C.a3.dE a Oy) λN4 q=>?_;have:=C.a3.cA a N4 q;exact xa e this;refine(Z x.E ?_:be _ r.E _);exact R.E.bD λ_ _=>dR.m z;rw[N3,R.gl f b,P4];intro q;have:l=f:=kF q;exact I<|this▸b;refine io (by exact(oH N5 NU:r.n<=_)) (by refine(?_:(r.u++[_]).length<=_);exact Z x.u<|Z P3<|QZ NV) (by exact(Z x.E<|eP N_:r.E.length<=_)) (by exact(eP N':o.L<=_)) (oH N9 NW) (Z x.bG<|eP Oa:r.bG<=_);refine Z (N3 ..) ?_;have:=R.bj f b;refine(?_:f∉o.aX↔_);rw[this];by_cases q:l=f;exact ad q<|DO<|(R.bj l<|ad R.a5<|(P1.1 Q).1).1 I;exact Z (P4<|nC q) Iff.rfl;exact(NZ k (C.a3.cA _ _ b) λc w K u=>by replace u:=b▸u;rw[P0 u] at NN;exact gU NN.1).trans b
end
noncomputable def ap.aU(o:ap)(b:Nat):Int:=o.bP[b]?.getD (-1)
theorem JQ{o:ap}(b:o.S≠[]):o.bn []=o:=by exact eU (jf b) λa g e=>(Z (e ..)<|Z (iA ..)<|Z (Q1 ..)<|ad (e ..) rfl:({o with S:=f2 o.S []}:ap)=o)
theorem A9{o:ap}(b:o.S≠[]):(o.bn x).bn t=o.bn (x++t):=by refine eU (jf b) λa g e=>(?_:({o with S:=f2 (f2 o.S x) t}:ap)={o with S:=f2 o.S<|x++t});rw[e,iA,iA,iA,Qf]
theorem s6{o:ap}:(o.bn x).S≠[]:=by refine(?_:o.S.dropLast++[_]≠[]);simp
def h6(W:N)(v:Y):d7->Prop|.fv s=>es W v s|.e5 b=>∃a vs,v=.a a/\W.y a (.d vs)/\be (es W) vs b|.aX _=>False
def je(W:N)(o:ap)(k:Nat)(c:List Nat)(v:Y):Prop:=(k=0/\v=.s)\/(k=1/\es W v (o.aU<|c.getLast?.getD 0))\/(k=2/\∃a,v=.a a/\W.y a (.d<|c.map λb=>.a<|W.t<|b+1))
section
theorem bh.sy(R:bh d o W)(f:b<3){a:Nat}(e:o.aU b=(a:Int)):a∉o.aX:=by refine bA (kK R.tohO f) λs c=>?_;unfold ap.aU at e;rw[c] at e;subst e;intro g;exact absurd (R.gl a g)<|QN<|nI c
theorem Gg{a:List Nat}(F:∀b∈a,b<3):∀(r c f:Nat) (W:N) (t:V) (o:ap) (h:List Y->aa) (i:Y->aa),a.length - c<r->G W t->bt W->bh f o W->3<=W.n->f+(a.drop c).length<=30000->o.S≠[]->W.y w (.d<|a.map λb=>.a<|W.t<|b+1)->W.y D (.h1<|some<|.a W.i.R)->(∀d u vs,G d u->bh (f+(a.drop c).length) (o.bn<|(a.drop c).map o.aU) d->dB W.u (a.drop c).length W d->be (es d) vs ((a.drop c).map o.aU)->d.w=W.w->h vs u)->bo (.d<|.a w) (λm X E8=>J (b6 D) λNY=>ag (n+5) p (.B 11 0) [m] (λNV=>ag (n+5) p (.B 78 0) [NY,NV] (λNW=>X [NW]) E8) E8) r c h i t:=by intro N3;induction N3 with|zero=>intro c _ _ _ _ _ _ NQ _ _ _ _ _ _ _ _ _;exact absurd NQ (Q8 _)|succ r NS=>intro c f W t o h i NR l C R O q B H K j;refine(ep (l.k H) ?_:J (dv (.d<|.a w) c) _ t);refine Z Q7 ?_;cases k:a[c]? with|none=>replace j:=(Qj<|PX.1 k)▸j;exact j W t [] l (Z List.map_nil<|Z (JQ B) R) .cK .aP rfl|some b=>have M:=(P1.1 k).1;(have NP:a.drop c=b::a.drop (c+1):=by refine Z (Qc M)<|Z ((P1.1 k).2) ?_;rfl);rw[NP] at j q;refine aZ λN6 NZ=>?_;have L:=F b<|PW k;refine bA (kK R.tohO L) λs P=>(bZ (R.bw b s P) λv N5 NN NO=>NZ ?_);(have A:o.aU b=s:=by unfold ap.aU;exact Z P rfl);have q:=q;refine b2 (l.k K)<|IB l NN<|ur l C R (aM (fw _ _) q) B NO (λr e=>R.sy L<|A.trans e) λz N4 T R1 g NX NU=>?_;have I:∀b∈a,z.t (b+1)=W.t (b+1):=λb x=>g.m.t _ (by have:=F b x;exact aM this O);refine NS (c+1) (f+1) z N4 (o.bn [s]) _ _ (ga NR M) T (C.m g.m) R1 (P9 O g.m.n) (an [⟨1,.h (.b 0)<|.h (.b 1)<|.e 1,.e 30000⟩] (.h (.h (.b 0)<|.e 1)<|.b 1) (.e 30000) rfl [f,(List.drop (c+1) a).length] q) s6 ?_ (Z g.m.i<|g.m.k _ _ K) λd u vs S y NT E Q=>?_;exact Z (QB λb x=>Z (I b x) rfl:(a.map λb=>Y.a<|z.t<|b+1)=a.map λb=>Y.a<|W.t<|b+1)<|g.m.k _ _ H;have U:(a.drop<|c+1).map (o.bn [s]).aU=(a.drop<|c+1).map o.aU:=rfl;rw[U] at y E;refine j d u (v::vs) S ?_ ((g.q NT).bu<|Z (QA ..)<|Z (Nat.add_comm ..)<|P5 _) (.aY (Z A<|NX.b4 λr j k=>Z Q k) E)<|Q.trans NU;rw[A9 B] at y;refine Z QM<|Z A ?_;have:f+(b::a.drop (c+1)).length=f+1+(a.drop<|c+1).length:=Z QA w6;exact Z this y
end
theorem t7(l:a->d):∀f:List a,(f.flatMap λx=>[l x])=f.map l:=by intro c;induction c with|nil=>exact rfl|cons x r b=>exact Z List.flatMap_cons<|Z b rfl
def fO(o:ap)(k:Nat)(a:List Nat):ap×d7:=if k=0 then(o,.fv<|-1) else if k=2 then(o.bn<|a.map o.aU,.e5<|a.map o.aU) else(o.bn [(a.map o.aU).getLast?.getD<|-1],.fv<|(a.map o.aU).getLast?.getD<|-1)
theorem oK(a:List bU)(b:ap->cC->ap)(o:ap)(w k:Nat):gk a b o w k=fO ((dk a w).a2.foldl b o) k (dk a w).n:=rfl
section
theorem dB.k(b:W.al a=none):dB W.u 0 W (W.M a z):=⟨.M b,rfl,rfl,rfl,rfl,λ_ _ b _=>b,λ_ _ b=>b,kM,λ_ _=>rfl⟩
theorem bh.k(R:bh c o W)(b:W.al a=none):bh c o (W.M a z):=R.mX (.M b) (λ_ _ b _=>b) rfl rfl rfl R.C (P5 _) R.cB.1 R.cB.2.2.2.2.2
theorem bh.bu(R:bh a o W)(b:a<=j):bh j o W:=R.mX .cK (λ_ _ b _=>b) rfl rfl rfl R.C b (P9 R.cB.1 b) (P9 R.cB.2.2.2.2.2 b)
theorem Cm(e:G W c)(R:bh d o W)(j:es W v s)(g:∀a:Nat,s=a->a∉o.aX)(b:h v c):ag (n+2) p (.B 11 0) [v] h i c:=by
 rcases j with⟨rfl,rfl|rfl⟩|⟨a,k,rfl,f,rfl⟩
 exact bp om ∅<|lW ∅<|aL<|bJ rfl b;exact bp om ∅<|od ∅<|aL<|bJ rfl b;exact bp om ∅<|eq (e.k<|(R.b8 a k f<|g a rfl).du) ∅ ∅<|aL<|bJ ∅ b
theorem Ly{o:ap}(c:b≠[]):(b.map o.aU).getLast?.getD (-1)=o.aU (b.getLast?.getD 0):=by refine eU (jf c) λa g d=>(Z d<|Z Rd ?_);simp
theorem w8(e:c≠[])(d:∀b∈c,b<3):c.getLast?.getD 0<3:=by refine eU (jf e) λa g f=>?_;subst f;have:=d g<|PZ _<|.head _;simpa using this
theorem tU(D:G W m)(F:bt W)(R:bh q o W)(L:q<=29000)(NP:3<=W.n)(y:o.S≠[])(S:a≠[])(g:a.length<=2)(t:∀b∈a,b<3)(NN:je W o k a s)(j:∀d U v,G d U->bh (q+2) (fO o k a).1 d->dB W.u 2 W d->h6 d v (fO o k a).2->h v U):ag (n+6) p (.B 81 0) [.a W.i.R,s,.c (k:Nat)] h i m:=by
 refine bp AT ∅<|hg<|gR (c8 _ _) ?_;have l:=D.bH<|P5 _;have c:=((D.dh<|.h1 none).fi l<|.h1<|some<|.a W.i.R).n' l (fZ _ _ _)<|P' _;generalize(m.z<|.h1 none).Q m.f (.h1<|some<|.a W.i.R)=J at c;generalize m.f=f at*;have B:av W (W.M f<|.h1<|some<|.a W.i.R):=.M l;have R1:=R.k (z:=.h1<|some<|.a W.i.R) l;have w:=dB.k (z:=.h1<|some<|.a W.i.R) l;have P:(W.M f<|.h1<|some<|.a W.i.R).y f (.h1<|some<|.a W.i.R):=dA;have I:je (W.M f<|.h1<|some<|.a W.i.R) o k a s:=by(rcases NN with b|b|⟨NO,E,g,t⟩);exact .inl b;exact .inr<|.inl b;exact .inr<|.inr ⟨NO,E,g,B.k _ _ t⟩
 have O:(W.M f<|.h1<|some<|.a W.i.R).i=W.i:=rfl;have NQ:3<=(W.M f<|.h1<|some<|.a W.i.R).n:=NP;generalize W.M f (.h1<|some<|.a W.i.R)=H at*;rcases I with⟨rfl,rfl⟩|⟨rfl,T⟩|⟨rfl,E,rfl,M⟩
 exact ek<|aL<|bJ rfl (j H J .s c (R1.bu<|Q_ _ _) (w.bu #[])<|.inl ⟨rfl,.inl rfl⟩);refine ek<|aL<|bx rfl (ek<|aL<|bx rfl ?_);have Q:∀A:Nat,o.aU (a.getLast?.getD 0)=A->A∉o.aX:=λA e=>R1.sy (w8 S t) e;refine b2 (c.k P)<|Cm c R1 T Q<|ad O<|ur c (F.m B) R1 (cv L) y T Q λK C r R2 x NT _=>?_;have e:fO o 1 a=(o.bn [o.aU<|a.getLast?.getD 0],.fv<|o.aU<|a.getLast?.getD 0):=by refine(?_:((_,_):ap×d7)=_);exact Z (Ly S) rfl
 replace j:=e▸j;exact j K C s r (R2.bu<|Q4 _) ((w.q x).bu #[]) NT;refine ek<|aL<|bx rfl (ek<|aL<|bJ rfl (dQ (c.k M) ?_));have NR:(a.drop 0).length=a.length:=by refine Z Qq ?_;rfl
 refine Gg t aJ 0 q H J o _ _ (pA dL g) c (F.m B) R1 NQ (Z NR<|aM (pZ L g) #[]) y M (Z O P) λK C vs r R2 x u NU=>?_;rw[Qq] at R2 u;rw[(rfl:fO o 2 a=(o.bn<|a.map o.aU,.e5<|a.map o.aU))] at j;have NS:vs.length=a.length:=by refine Z (u.a5 ..)<|Z (P6 ..) ?_;rfl
 refine bJ (b5<|an [⟨1,.b 0,.b 1⟩,⟨1,.b 1,.e 2⟩] (.b 0) (.e 1000000) rfl [vs.length,a.length] (P2 NS) g)<|bF ?_;have X:=r.bH<|P5 _;exact j _ _ _ (r.eK<|.d vs) ((R2.bu<|iw g _).k X) (((w.q x).q<|.k X).bu (iw g _:0+a.length+0<=2))<|eb C.f vs rfl dA u
theorem vF(c:G W m)(U:bt W)(l:eR W K)(R:bh A o W)(E:W.y r (.A [.l w,.a f]))(q:W.y f (.d<|j.map λb=>.c (b:Nat)))(H:j≠[])(C:j.length<=2)(D:∀b∈j,b<3)(y:k<3)(u:∀d O B,G d O->bh A o d->dB W.u 0 W d->je d o k j B->d.u=W.u->h B O):ag (n+1) p (.a K.ch) [.a W.i.R,.a r,.c (k:Nat)] h i m:=by
 refine l2 (c.k l.ch) ∅ H3 ?_;rcases((#[]:∀k<3,k=0\/k=1\/k=2) k y) with rfl|rfl|rfl
 exact ek<|aL<|bx rfl (eQ<|ek<|aL<|bx rfl (u W m .s c R .cK (.inl ⟨rfl,rfl⟩) rfl));refine ek<|aL<|bx rfl (eQ<|ek<|aL<|bJ rfl (aZ λI X=>?_));have F:=w8 H D;refine bA (kK R.tohO F) λs L=>(bZ (R.bw _ s L) λv J P Q=>X ?_);have e:o.aU (j.getLast?.getD 0)=s:=by unfold ap.aU;exact Z L rfl
 refine b2 (c.k l.fk)<|cL (c.k E) rfl (g2 (c.k q) (v:=.c ((j.getLast?.getD 0:Nat):Int)) (eU (jf H) λa g z=>Z z<|Z Rd<|Z P3<|Z (rfl:([g].map λb:Nat=>Y.c (b:Nat)).length=1)<|Z pe (Z (e6 ..) ?_:(List.map _ a++[_])[(List.map _ a).length]?=_))<|ml F c l<|aK (c.cr P) ∅<|u W m v c R .cK (.inr<|.inl ⟨rfl,Z e Q⟩) rfl);simp;refine ek<|aL<|bJ rfl (cL (c.k E) rfl (dQ (c.k q)<|kR (c.k q) (l:=λx=>match x with|.c t=>[.a<|W.t<|t.toNat+1]|_=>[]) (λx T h i k=>?_) aJ 0 _ _ (Z (P6 ..)<|pA dL C) ?_));refine ah (Qa.1 T) λb S z=>?_;subst z;exact b2 (c.k l.fk)<|ml (D b S) c l k;refine Z Qq ?_;have e:(j.map λb=>Y.c (b:Nat)).flatMap (λx=>match x with|.c t=>[Y.a<|W.t<|t.toNat+1]|_=>[])=j.map λb=>.a<|W.t<|b+1:=by exact Z (List.flatMap_map ..) (t7 _ _:j.flatMap (λb=>[Y.a<|W.t<|b+1])=_)
 refine Z e<|bJ (b5<|Z (P6 ..)<|pN C)<|bF ?_;have M:=c.bH<|P5 _;exact u _ _ _ (c.eK _) (R.k M) (.k M) (.inr<|.inr ⟨rfl,m.f,rfl,dA⟩) rfl
end
section
def nK(b:V)(x:Nat)(c:Y):Prop:=∃a,b.r x=some (.bd 36<|some a)/\∃d,b.r a=some (.hv [("text",d),("value",c)])
theorem IE(e:G W a)(j:W.al x=none)(b:a.r x=some (.bd 36 none))(g:x<a.f)(k:∀d c,G W d->d.r x=some (.bd 36<|some c)->d.r c=some (.hv [("text",.l s)])->c≠x->W.al c=none->h .s d):ag (n+1) p (.B 34 1) [.a x,.l s] h i a:=by refine bp Hc ∅ (g7 b<|KK b ?_ rfl:J (dz<|.a x) _ a);have f:=(ff g).symm;exact k _ a.f ((e.dh _).fi j _) (fZ _ _ _) (f9 (c8 _ _) f) f<|e.bH<|P5 _
theorem Mj(c:G W a)(m:∀b x,G W b->nK b x d->h (.a x) b):ag (n+3) p (.ay 36) [d] h i a:=by exact jH ∅ ∅<|Z (∅:(if ba.dV 36=true then af.bd 36 none else .aD 36 [])=.bd 36 none)<|bp JJ ∅<|j9 ∅<|IE (c.dh _) (c.bH<|P5 _) (c8 _ _) (P' _) λo g f e j k l=>B3 e j rfl (m _ a.f (f.fi l _) ⟨g,f9 e<|Qy k,.l "no sub to return from",(fZ _ _ _).trans ∅⟩) rfl
theorem FW(a:G W m)(z:bt W)(j:eR W k)(R:bh p o W)(q:cz W w f l)(K:W.y r (.A [.l "back",.a t]))(L:W.y t (.d<|c.map λb=>.c (b:Nat)))(M:c≠[])(E:c.length<=2)(F:∀b∈c,b<3)(y:l.cd<3)(P:∀d g e x,G d g->bh p o d->dB W.u 0 W d->je d o l.cd c e->d.u=W.u->nK g x e->i (.a x) g):ag (n+4) false (.a k.kg) [.a W.i.R,.a r,cd] h i m:=by exact l2 (a.k j.kg) ∅ H4 (b2 (a.k j.aN)<|aK a.bV ∅<|p0 a q<|aK (a.cG q.n) l.Jn<|vF a z j R K L M E F y λd g e u A O D Q=>(Mj u λS x v C=>ah C λB s H=>g7 s<|P d S e x v A O D Q<|am B s H):J (b6 k.aN) _ m)
end
section
theorem GP{I:Nat}{L:Bool}(NQ:G W NP)(H:bt W)(F:eR W NY)(R:bh p o W)(z:p<=29000)(E:cz W (4*W.n) f l)(N3:W.y I (.A [.l "expr",.c a,.a r]))(NW:W.y r (.A [.l<|if L then"back" else"gives",.a NN]))(NX:W.y NN (.d<|m.map λb=>.c (b:Nat)))(T:m≠[])(O:m.length<=2)(P:∀b∈m,b<3)(y:l.cd<3)(U:∀d c e,G d c->bh (p+1) o d->df 0 W d->d.O=f++[(l.aU<|.c a).bM]->je d o l.cd m e->h e c)(NZ:∀d c e x,G d c->bh (p+1) o d->df 0 W d->d.O=f++[(l.aU<|.c a).bM]->je d o l.cd m e->nK c x e->i (.a x) c):ag (n+9) false (.B 73 0) [.a W.i.R,.a I,.c (l.cd:Nat)] h i NP:=by refine fj R.cB λN7 K N8 N9 N_ NR=>(qV NQ H F E (aM (aM K z) #[]) (aM (aM NR z) #[]) N3 l.cd λN5 E2 NU k=>?_);have R1:bh (p+1) o (W.eA f l a):=qA R;have k:G (W.eA f l a) N5:=k;have B:av W (W.eA f l a):=nw;have C:df 0 W (W.eA f l a):=r1;have NV:(W.eA f l a).i=W.i:=rfl;have X:(W.eA f l a).u=W.u:=rfl;have A:(W.eA f l a).O=f++[(l.aU<|.c a).bM]:=rfl;generalize W.eA f l a=N6 at*;have s:=H.m B;have q:=F.m B;have v:=B.k _ _ NW;have S:=B.k _ _ NX;refine ad NV<|ad X ?_;induction L with|false=>refine me k q v rfl (vF k s q R1 v S T O P y λd c e j t g u D=>?_);have J:=C.q g.eI;have Q:=g.O.trans A;by_cases NO:l.cd=0;exact ad g.m.i<|ad D<|Z NO<|rD j (s.m g.m)<|rv j (s.m g.m) (Z D<|Z X<|aM (aM K z) #[])<|U d c e j t J Q u;refine ek<|aL<|bx ?_<|U d c e j t J Q u;rw[Qk];exact λN4=>NO (fr N4)|true=>exact me k q v rfl (FW k s q R1 (E.eI C (.c a) A) v S T O P y λd c e x j t g u D NS=>ah NS λM w NT=>⟨dV w,NU x (some M) c w<|NZ d c e x j t (C.q g.eI) (g.O.trans A) u<|am M w NT⟩)
def lV(R b e d c a:Y):ax:=Nd R b e d c a
def rn(R a d c b:Y):ax:=Nt R a d c b
theorem uU{d:List Nat}(B:l=rn (.a W.i.R) (.a g) (.c (k:Nat)) y (.c (c:Nat))\/∃x,l=lV (.a W.i.R) (.a g) (.c (k:Nat)) y (.c (c:Nat)) x)(h:G W j)(q:W.y g (.A [.l "block",.a o]))(r:W.y o (.d<|d.map .a))(s:d[b]?=some a)(C:d.length<=100)(e:∀f,ag n p (.B 73 0) [.a W.i.R,.a a,.c ((if b=c then k else 0:Nat):Int)] (λm=>U<|.f<|lV (.a W.i.R) (.a g) (.c (k:Nat)) m (.c (c:Nat))<|.c (b:Nat)) (bb f U) j):bg u (ag n p) p 56 (as 74 0) (bv (ab 74 0) 2) (au (ab 74 0) 2 0) l (.c (b:Nat)) U j:=by
 have t:=(P1.1 s).1;have w:(g8 (b:Int) (d.map Y.a).length).bind (λD=>(d.map Y.a)[D]?)=some (.a a):=by refine Z (P6 ..)<|Z (it t (an [⟨1,.h (.b 0)<|.e 1,.b 1⟩,⟨1,.b 1,.e 100⟩] (.b 0) (.e 1000000) rfl [b,d.length] t C) ..) (Z Q7 ?_:(d.map Y.a)[b]?=_);exact Z s rfl
 have bf:∀f,cU (λE=>ag n p (.B 73 0) [.a W.i.R,.a a,E] (λm=>U<|.f<|lV (.a W.i.R) (.a g) (.c (k:Nat)) m (.c (c:Nat))<|.c (b:Nat))<|bb f U) (λv=>J (cW .Eq (.c (b:Nat))<|.c (c:Nat)) λz=>J (dD z) λA=>if A then(v<|.c (k:Nat)) else v<|.c 0) j:=λf=>by have e:=e f;refine eQ<|ek<|aL ?_;by_cases i:b=c;rw[P8 i] at e;exact bJ (by rw[beq_iff_eq];exact Q3 _ i) e;rw[P4 i] at e;exact bx (by rw[Qk];exact nC i) e
 rcases B with rfl|⟨x,rfl⟩
 unfold rn;exact bR K8<|cL (h.k q) rfl (g2 (h.k r) w<|bf _);unfold lV;exact bR L6<|cL (h.k q) rfl (g2 (h.k r) w<|bf _)
end
def hY(b:List bU):Prop:=∀w,w<3->∀a,3<=w+a+1->∀c∈(dk b w).a2,c.dY a
structure hi(W:N)(b:List bU)(a:Nat):Prop where
 f1:∀w,w<3->rI W (10+w) a (dk b w)
 a6:W.a6≠.s
theorem hi.eI(P:hi W b a)(k:df p W d):hi d b a:=⟨λw o=>by refine aZ λv u=>?_;obtain⟨c,s,g,f,i,r,e,q,t,h,j,l,m,n⟩:=P.f1 w o;refine u ?_;exact⟨c,s,g,f,i,r,e,q,t,h,k.g6 _ _ j Qd,l,m,n.m k.m⟩,Z k.a6 P.a6⟩
noncomputable def aW:Nat->Nat|0=>5|a+1=>3*(2*aW a+8)+15
def jY(m:List bU)(b c:Nat):Prop:=∀(n:Nat) (W:N) (p:V) (s:eO) (f:List cY) (l:bz) (o:ap) (e a r k:Nat) (j:Int) (g:cC) (h i:Y->aa),G W p->bt W->eR W s->hi W m k->k+b<=100->cz W (4*W.n) f l->f.length+b<=9->W.aE.length+b<=9->bh e o W->e+aW b<=15000->W.y a (.A [.l "expr",.c j,.a r])->fy W r g->g.dY b->(∀d q,G d q->bh (e+aW b) (cc m b o g) d->df 0 W d->d.O=f++[(l.aU<|.c j).bM]->h .s q)->ag (n+c) false (.B 73 0) [.a W.i.R,.a a,.c 0] h i p
section
theorem I9{On:Bool}(eM:jY z h c)(Ow:9<=c)(OA:N6+h<=100)(Oy:f.length+h<=9)(Oz:A≠[])(NY:A.length<=2)(Ot:∀b∈A,b<3)(y:k<3)(B:NO.length=i+1)(Og:i<=50)(j:List Nat)(w:List cC)(done:List Nat)(m q:Nat)(W:N)(C:V)(o:ap)(l:bz)(S:ax)(N7:Y)(M:NO=done++(j++[Ol]))(L:j.length+2<=q)(Ob:be (λa v=>∃r,W.y a (.A [.l "expr",.c 5,.a r])/\fy W r v) j w)(Oi:∀v∈w,v.dY h)(Oc:S=rn (.a W.i.R) (.a g) (.c (k:Nat)) N7 (.c (i:Nat))\/∃OE,S=lV (.a W.i.R) (.a g) (.c (k:Nat)) N7 (.c (i:Nat)) OE)(Q:G W C)(NS:bt W)(NR:eR W Oj)(P:hi W z N6)(NP:cz W (4*W.n) f l)(O:l.cd=k)(Ok:W.aE.length+h<=9)(cn:bh m o W)(K:m+j.length*aW h+1<=15000)(N3:W.y g (.A [.l "block",.a N_]))(N4:W.y N_ (.d<|NO.map .a))(Od:W.y Ol (.A [.l "expr",.c 5,.a r]))(Oh:W.y r (.A [.l<|if On then"back" else"gives",.a Om]))(Of:W.y Om (.d<|A.map λb=>.c (b:Nat)))(NN:∀d s p,G d s->bh (m+j.length*aW h+1) (w.foldl (cc z h) o) d->df 0 W d->d.O=f++[(l.aU<|.c 5).bM]->je d (w.foldl (cc z h) o) k A p->U (.f<|lV (.a W.i.R) (.a g) (.c (k:Nat)) p (.c (i:Nat))<|.c (i:Nat)) s)(X:∀d s p x NW,G d s->bh (m+j.length*aW h+1) (w.foldl (cc z h) o) d->df 0 W d->d.O=f++[(l.aU<|.c 5).bM]->je d (w.foldl (cc z h) o) k A p->nK s x p->U (.bd (.a x) NW) s):ci (.cf<|i+1) (bg u (ag (n+c) false) false 56 (as 74 0) (bv (ab 74 0) 2)<|au (ab 74 0) 2 0) q done.length S U C:=by induction j generalizing w done m q W C o l S N7 with|nil=>cases Ob;obtain⟨q,rfl⟩:∃N8,q=N8+2:=⟨q - 2,by have:0+2<=q:=L;exact(lg<|aM (ix 2<|[].length) L).symm⟩;(have Oa:done.length=i:=by rw[M,P3] at B;have:done.length+1=i+1:=B;exact Q0 (an [⟨1,.h (.b 0)<|.e 1,.h (.b 1)<|.e 1⟩] (.b 0) (.b 1) rfl [done.length,i] (P2 this))<|an [⟨1,.h (.b 1)<|.e 1,.h (.b 0)<|.e 1⟩] (.b 1) (.b 0) rfl [done.length,i] (P2 this.symm));refine(?_:J (dv (.cf<|i+1) done.length) _ C);refine Z Oa<|ho<|Z (P8<|P' _)<|uU Oc Q N3 N4 (Z M<|ad Oa<|e6 _ _) (wG B Og) λNW=>(Z (P8 rfl) ?_);obtain⟨c,rfl⟩:∃Oo,c=Oo+9:=⟨c - 9,mQ Ow⟩;refine Z (rfl:n+(c+9)=(n+c)+9)<|ad O ?_;have Oq:m+([]:List Nat).length*aW h+1=m+1:=(Q0 (an [] (.h (.h (.b 0)<|.x 0<|.b 1)<|.e 1) (.h (.b 0)<|.e 1) rfl [m,aW h])<|an [] (.h (.b 0)<|.e 1) (.h (.h (.b 0)<|.x 0<|.b 1)<|.e 1) rfl [m,aW h]:m+0*aW h+1=_);rw[Oq] at NN X K;refine GP Q NS NR cn (aM (gw K) #[]) NP Od Oh Of Oz NY Ot (O▸y) (λd s p D E t F H=>?_) λd s p x D E t F H NV=>?_;rw[O] at H⊢;refine(ho ?_:J (dv (.cf<|i+1)<|i+1) _ s);exact Z (P4<|Qn _)<|NN d s p D E t F H;rw[O] at H;exact ah NV λOp T Ou=>⟨dV T,X d s p x _ D E t F H<|am Op T Ou⟩|cons a j OC=>cases Ob with|@aY _ v _ w NZ OB=>refine ah NZ λOD NZ Ov=>?_;obtain⟨q,rfl⟩:∃N8,q=N8+1:=⟨q - 1,by have:j.length+1+2<=q:=L;exact(lg<|aM (aM (#[]:1<=2)<|ix 2<|(a::j).length) L).symm⟩;(have Oe:done.length<i:=by rw[M,P3,P3] at B;have:done.length+((j.length+1)+1)=i+1:=B;exact an [⟨1,.h (.b 0)<|.h (.h (.b 1)<|.e 1)<|.e 1,.h (.b 2)<|.e 1⟩] (.h (.b 0)<|.e 1) (.b 2) rfl [done.length,j.length,i] (P2 this));(have Ox:NO[done.length]?=some a:=by refine Z (M ..)<|Z (QW (P5 _) ..) ?_;exact Z (Nat.sub_self ..) rfl);rw[(Z (QA ..)<|Z (Nat.succ_mul ..)<|Q0 (an [] (.h (.h (.b 0)<|.h (.b 1)<|.b 2)<|.e 1) (.h (.h (.h (.b 0)<|.b 2)<|.b 1)<|.e 1) rfl [m,j.length*aW h,aW h])<|an [] (.h (.h (.h (.b 0)<|.b 2)<|.b 1)<|.e 1) (.h (.h (.b 0)<|.h (.b 1)<|.b 2)<|.e 1) rfl [m,j.length*aW h,aW h]:m+(a::j).length*aW h+1=m+aW h+j.length*aW h+1)] at K NN X;refine(ho ?_:J (dv (.cf<|i+1) done.length) _ C);refine Z (P8<|kk Oe)<|uU Oc Q N3 N4 Ox (wG B Og) λNW=>(Z (P4<|ff Oe)<|eM n W C Oj f l o m a OD N6 5 v _ _ Q NS NR P OA NP Oy Ok cn (Qo<|Nat.le_of_succ_le K) NZ Ov (Oi v<|.head _) λd s D E t F=>?_);have e:=t.m;have N':=e.i;refine(?_:ci _ _ _ _ _ _ _);refine Z (Z P3 rfl:done.length+1=(done++[a]).length)<|ad N' ?_;refine OC w (done++[a]) (m+aW h) q d s (cc z h o v) (l.aU<|.c 5) _ .s (by refine Z (M ..)<|Z (Qf ..) ?_;rfl) (by have:j.length+1+2<=q+1:=L;exact Nat.le_of_succ_le_succ this) (OB.bD λa v ⟨r,T,NY⟩=>am r (e.k _ _ T)<|NY.m e) (λv b=>Oi v<|.tail _ b) (.inr ⟨_,rfl⟩) D (NS.m e) (NR.m e) (P.eI t) (NP.eI t (.c 5) F) O (Z t.aE Ok) E K (e.k _ _ N3) (e.k _ _ N4) (e.k _ _ Od) (e.k _ _ Oh) (e.k _ _ Of) (λNT N9 p NQ R2 N5 NU NX=>?_) λNT N9 p x Os NQ R2 N5 NU NX NV=>?_;exact Z N'<|NN NT N9 p NQ R2 (t.q N5) NU NX;exact X NT N9 p x Os NQ R2 (t.q N5) NU NX NV
theorem Ic(eM:jY q a c)(H:9<=c)(O:G W NN)(NQ:bt W)(NP:eR W N3)(P:hi W q U)(NY:U+a<=100)(NO:cz W (4*W.n) f l)(NX:f.length+a<=9)(N4:W.aE.length+a<=9)(R:bh p o W)(NW:p+2*aW a+1<=15000)(S:f7 W Ob g Q NR N8 b L s)(NZ:∀N'∈s.a2,N'.dY a)(y:l.cd<3)(N6:∀d e k,G d e->bh (p+2*aW a+1) (s.a2.foldl (cc q a) o) d->df 0 W d->d.O=f++[(l.aU<|.c 5).bM]->je d (s.a2.foldl (cc q a) o) l.cd s.n k->h k e)(N5:∀d e k x,G d e->bh (p+2*aW a+1) (s.a2.foldl (cc q a) o) d->df 0 W d->d.O=f++[(l.aU<|.c 5).bM]->je d (s.a2.foldl (cc q a) o) l.cd s.n k->nK e x k->i (.a x) e):ag (n+c+1) false (.B 74 0) [.a W.i.R,.a g,.c (l.cd:Nat)] h i NN:=by
 refine c5 S.n λr Of NT NU NV=>?_;have m:=S.a2.a5;have cu:=S.cu;have X:(b++[L]).length=b.length+1:=Z P3 rfl;have F:b.length*aW a<=2*aW a:=QR _<|m▸cu;have T:∀M w,G W w->(J (ce (.a g)<|.c 1) λj=>ag (n+c) false (.a' "len") [j] (λN9=>J (bW .Sub N9<|.c 1) λN7=>J (ce (.a g)<|.c 1) λA=>ag (n+c) false (.a' "len") [A] (λN_=>fB N_ λOa=>ci Oa (bg (ag (n+c) true) (ag (n+c) false) false 56 (as 74 0) (bv (ab 74 0) 2)<|au (ab 74 0) 2 0) aJ 0 (Nt (.a W.i.R) (.a g) (.c (l.cd:Nat)) M N7)<|cF (ag (n+c) true) (ag (n+c) false) false 57 (as 74 0) (List.drop 3<|ab 74 0)<|de h i) aB)<|aS i) w:=λM w t=>by obtain⟨c,rfl⟩:∃C,c=C+1:=⟨c - 1,(lg<|aM #[] H).symm⟩;have u:((b++[L]).map Y.a).length=b.length+1:=Z (P6 ..)<|Z (X ..) rfl;refine cL (t.k S.jc) rfl (i2 (n:=n+c) (t.k S.mE) (by rw[u];exact b5<|n9 m cu)<|Z u<|qS (el<|n9 m cu) rfl (cL (t.k S.jc) (v:=.a Q) rfl (i2 (n:=n+c) (t.k S.mE) (by rw[u];exact b5<|n9 m cu)<|Z u<|Z (xU:(((b.length+1:Nat):Int) - 1)=((b.length:Nat):Int))<|jK (n9 m cu:b.length+1<=1000000)<|I9 eM H NY NX S.gC.1 S.gC.2.1 S.gC.2.2 y X (an [⟨1,.b 0,.b 1⟩,⟨1,.b 1,.e 2⟩] (.b 0) (.e 50) rfl [b.length,s.a2.length] (P2 m) cu) b s.a2 [] p aJ W w o l _ M rfl (an [⟨1,.e 100000,.b 0⟩,⟨1,.b 1,.b 2⟩,⟨1,.b 2,.e 2⟩] (.h (.b 1)<|.e 2) (.b 0) rfl [aJ,b.length,s.a2.length] dL (P2 m) cu) S.a2 NZ (.inl rfl) t NQ NP P NO rfl N4 R (P9 (QZ<|Qu F p) NW) S.jc S.mE NT NU NV (λd e k z B K D E=>?_) λd e k x Oe z B K D E NS=>?_)));refine(?_:br _ _ _ _ _ (lV _ _ _ _ _ _) _ _ _);exact bR HZ<|N6 d e k z (B.bu<|wX F) K D E;exact N5 d e k x z (B.bu<|wX F) K D E NS
 refine bp zZ ∅<|aZ λOg Oc=>?_;obtain⟨c,rfl⟩:∃C,c=C+1:=⟨c - 1,(lg<|aM #[] H).symm⟩;refine Oc<|bp (n:=n+c) B2 ∅<|ek<|aL ?_;by_cases I:l.cd=2;exact bJ (Z I rfl)<|bF<|T _ _<|O.dh _;exact bx (by rw[Qk];exact λOd=>I<|fr Od)<|T _ _ O
end
def v9(U:ai->aa)(v:Y):ai->aa:=λr=>match r with
 |.f a=>U (.b0 v a)
 |_=>ae
def vR(U:ai->aa):ai->aa:=λr=>match r with
 |.f a=>U (.f {a with ct:=ki "back" a.ct})
 |.b0 v a=>U (.b0 v {a with ct:=ki "back" a.ct})
 |_=>ae
section
theorem zT:li u m p 56 (as 84 0) (au (ab 84 0) 2 2) U (.b0 v a)=br u m p 56 (as 84 0) a (au (ab 84 0) 2 2) (v9 U v):=∅
theorem F0:iG u m p 54 (as 84 0) (h0 (au (ab 84 0) 2 2) 0) (au (au (ab 84 0) 2 2) 0 2) U (.f a)=br u m p 54 (as 84 0) a (au (au (ab 84 0) 2 2) 0 2) U:=∅
theorem G':cF u m p 55 (as 84 0) (List.drop 1<|au (ab 84 0) 2 2) U (.f a)=U (.f a):=∅
theorem CM{p:Bool}{m u:I}{U:ai->aa}{e:Y}{d b a f c:Y}:jB u m p 56 (as 84 0) (nd d b a f c) e 36 (h0 (ab 84 0) 2) U=br u u true 55 (as 84 0) (No d b a f c e) (x1 (h0 (ab 84 0) 2) 0) (vR U):=∅
theorem CY(q:G W m)(r:bt W)(y:W.p k=some (.az 1 false false c b))(x:W.aE=aE++[.a g])(w:aE.length<=1000)(A:W.u.length<=100000)(z:W.y g (.A [.l "array",.a W.i.dW,bE]))(t:W.a6=.a (W.t k))(s:W.O=f++[l])(u:f.length<=1000)(B:∀o,G (((((W.e2 aE).a_ k<|.az 0 false false c b).d9 k).hG bE).ik f l.o) o->U (.b0 v<|nd (.a W.i.R) i h j<|.c (aE.length:Nat)) o):li (ag (n+4) true) (ag (n+4) p) p 56 (as 84 0) (au (ab 84 0) 2 2) U (.b0 v<|nd (.a W.i.R) i h j<|.c (aE.length:Nat)) m:=by refine bR zT<|bR FA<|bR y8<|Ag q r y x rfl w A z t λC a=>?_;show iG _ _ _ _ _ _ _ _ (.f _) _;refine bR F0<|bR Lk ?_;have e:((((W.e2 aE).a_ k<|.az 0 false false c b).d9 k).hG bE).O=f++[l]:=s;have d:=a.cH;rw[e,Rd] at d;refine aK a.bV ∅<|fe a.cH ∅<|ox d (b5<|Z (P3 ..)<|Z (P6 ..) (pb u:f.length+1<=_)) ?_;show cF _ _ _ _ _ _ _ (.f _) _;exact Z G'<|B _<|a.ik e
end
section
theorem av.ik(b:W.al a≠some .k):av W (W.ik f a):=⟨rfl,λg z c=>by have:g≠a:=λd=>b<|ad d c.1;exact⟨(P4 this).trans c.1,c.2⟩,P5 _,λ_ _=>rfl⟩
theorem av.c1(b:W.al l.o=none):av W (W.c1 l):=⟨rfl,λg z a=>by(have:g≠l.o:=λc=>by have t:=a.1;replace t:=b▸c▸t;exact bm t);exact⟨(P4 this).trans a.1,a.2⟩,P5 _,λ_ _=>rfl⟩
theorem bh.bf{k:Nat}(R:bh w o W)(E:o.S≠[])(e:av W d)(y:W.p k=some (.az 1 false false u t))(G:d.p k=some (.az 0 false false u t))(NO:d.y u (.d []))(U:d.y t (.d []))(NN:∀q b,q≠k->W.p q=some b->¬b.ke->d.p q=some b)(i:d.w=W.w)(p:d.u=W.u++[k])(B:d.E=W.E)(T:d.C=none)(X:d.n=W.n)(Y:d.bG=W.bG):bh (w+1) o d:=by
 refine fj R.cB λK L O P Q S=>?_;have D:∀(l:Nat) j,W.w[l]?=some j->d.w[l]?=some j:=λl j c=>Z i c;have ou:∀q b,W.p q=some b->¬b.ke->q≠k:=λq b c s NQ=>by rw[NQ,y] at c;rw[<-P0 c] at s;exact s ⟨rfl,#[]⟩
 have n:∀q b,W.p q=some b->¬b.ke->d.p q=some b:=λq b c s=>NN q b (ou q b c s) c s;refine⟨⟨i▸R.a5,R.dP,i▸R.bi,i▸λk y=>P9 (R.fI k y) e.n,λl j f h=>?_,λNP s J=>?_,?_,?_,B▸R.E.bD λ_ _=>dR.m e,T,R.gl,R.eu,io (xK X K) (by exact Z p<|Z P3<|QZ L) (B▸eP O) (eP P) (by exact eP Q)<|by exact xK Y S⟩,R.bj⟩;replace f:=i▸f;have M:=R.b8 l j f h;exact ah M.az λF x _=>(ah M.aV λNR z _=>M.b4 e ((n _ _ x λc=>gU c.1).trans x.symm)<|(n _ _ z λc=>c).trans z.symm);exact bZ (R.bw NP s J) λv F f h=>(bq v F (n _ _ f λc=>c)<|h.b4 D);refine ah R.ar λH r m=>?_;have:=rX E ⟨H,r,j' e D m λq I=>by exact ah (p8 m q I) λb f h=>(n q b f h).trans f.symm⟩<|.gc G NO U .aP;refine Z p<|eU (jf E) λa g A=>?_;rw[A,iA,Q1,<-A] at this;exact this;refine Z p<|Qh.2 ⟨R.eh,by simp,λa C g V e=>ah R.ar λH r m=>?_⟩;rw[r] at C;refine ah (p8 m a C) λb f h=>?_;rw[Re.1 V] at e;exact ou a b f h e
end
section
structure rj(W:N)(b:bz)(a:n_)(k f d g e:Nat):Prop where
 C:W.C=some (b.o,.aD 58 b.da)
 dT:b.dT=some a
 gV:a.gV<=4*e
 kl:hS W a.kl
 aA:∃c,W.aA[a.l3]?=some (a.fu,c)/\gI W g c
 gc:b.gc=.a (W.t k)
 zU:W.p k=some (.az 0 false false f d)
 DI:W.y f (.d [])
 l3:W.y d (.d [])
 eD:W.O.length=e
theorem pn(b:W.al a=none):av W (W.cb k d c a):=(av.M b).q<|.dN rfl rfl rfl rfl rfl
theorem MK(b:G W r)(K:bt W)(H:rj W a L k q p t D)(A:D<=9)(m:W.aE.length<=9)(Q:W.a6≠.s)(S:∀d E,((W.cT).c1 a.bM).al d=none->G (((W.cT).c1 a.bM).cb k q p d) E->cz (((W.cT).c1 a.bM).cb k q p d) t W.O a->av W (((W.cT).c1 a.bM).cb k q p d)->ag (n+3) false (.B 74 0) [.a W.i.R,f,.c (w:Nat)] (λT=>ag (n+3) false (.B 81 0) [.a W.i.R,T,.c (w:Nat)] (λX=>(iG (ag (n+3) true) (ag (n+3) false) false 56 (as 84 0) (h0 (ab 84 0) 2) (au (ab 84 0) 2 2)<|cF (ag (n+3) true) (ag (n+3) false) false 57 (as 84 0) (List.drop 3<|ab 84 0)<|de h i)<|.b0 X<|nd (.a W.i.R) (.a a.o) f (.c (w:Nat))<|.c (W.aE.length:Nat))<|bb (nd (.a W.i.R) (.a a.o) f (.c (w:Nat))<|.c (W.aE.length:Nat))<|iG (ag (n+3) true) (ag (n+3) false) false 56 (as 84 0) (h0 (ab 84 0) 2) (au (ab 84 0) 2 2)<|cF (ag (n+3) true) (ag (n+3) false) false 57 (as 84 0) (List.drop 3<|ab 84 0)<|de h i) (bb (nd (.a W.i.R) (.a a.o) f (.c (w:Nat))<|.c (W.aE.length:Nat))<|iG (ag (n+3) true) (ag (n+3) false) false 56 (as 84 0) (h0 (ab 84 0) 2) (au (ab 84 0) 2 2)<|cF (ag (n+3) true) (ag (n+3) false) false 57 (as 84 0) (List.drop 3<|ab 84 0)<|de h i) E):ag (n+4) false (.B 84 0) [.a W.i.R,.a a.o,f,.c (w:Nat)] h i r:=by
 refine bp Lv ∅<|aK b.bV ∅<|i2 b.gb (b5<|cv m)<|aK b.bV ∅<|fe b.cH ∅<|hP b.cH (Z (P6 ..)<|Z (H.eD ..)<|b5<|cv A) ?_;have C:=(b.k' H.C).al;have B:=(Z (P8 C) rfl:(if W.al a.o=some .C then none else W.al a.o)=none);have P:a.ay=58:=by unfold bz.ay;exact Z H.dT rfl
 have e:=(b.cT).c1 (l:=a.bM) B ((b.C H.C).trans<|ad P rfl) (b.bw _ _ C).2;have j:av W (W.cT.c1 a.bM):=av.cT.q<|.c1 B;have z:(W.cT.c1 a.bM).O=W.O++[a.bM]:=rfl;refine bR JG ?_;have e:G (W.cT.c1 a.bM) (r.Q W.i.f5<|.d<|(W.O.map λl=>.a l.o)++[.a a.o]):=e;generalize r.Q W.i.f5 (.d<|(W.O.map λl=>Y.a l.o)++[Y.a a.o])=NN at e;have s:cz (W.cT.c1 a.bM) t W.O a:=⟨z,by refine Z H.eD ?_;exact kk A,by refine(?_:W.aE.length<=_);exact kk m,λc g=>by rw[H.dT] at g;obtain rfl:=P0 g;exact ah H.aA λu x y=>⟨by refine Z H.eD ?_;exact H.gV,H.kl.m j,u,x,y.m j⟩⟩;refine aK (e.cG s.n) (v:=.a<|W.t k) (ad H.gc a.B9)<|Ht (W:=W.cT.c1 a.bM) e (K.m j) H.zU Q (cv m:W.aE.length<=_) λd J o F=>?_;exact S d J o F ⟨z,s.a5,by refine(?_:(W.aE++[_]).length<=10);refine Z P3 ?_;exact QZ m,λc g=>by refine aZ λI U=>?_;obtain⟨x,y,u,M,O⟩:=s.dT c g;exact U ⟨x,y.m<|pn o,u,M,O.m<|pn o⟩⟩<|j.q<|pn o
end
theorem oN(b:∀o r,(a o r).S=o.S):∀(f:List cC) (o:ap),(f.foldl a o).S=o.S:=by intro d;induction d with|nil=>intro _;exact rfl|cons r f c=>intro o;exact(c<|a o r).trans<|b o r
theorem qf(b:∀o r,(d o r).S=o.S)(e:o.S=a++[t]):∃f,(gk c d o w k).1.S=a++[f]:=by have l:=(oN b (dk c w).a2 o).trans e;refine Z (oK ..) ?_;unfold fO;split;exact⟨t,l⟩;split;exact⟨_,by refine(?_:f2 _ _=_);refine Z l<|Z iA ?_;rfl⟩;exact⟨_,by refine(?_:f2 _ _=_);refine Z l<|Z iA ?_;rfl⟩
theorem Ba(b:∀o r,(a o r).S=o.S):∀(f:List (Nat×Nat)) (x:ap×List d7) (t:List Int),x.1.S=d++[t]->∃c,(f.foldl (lU g a) x).1.S=d++[c]:=by intro k;induction k with|nil=>intro x t e;exact⟨t,e⟩|cons j f i=>intro x t e;exact bA (qf b e) λc h=>i (lU g a x j) c h
theorem lD{c:List bU}:∀(a:Nat) (o:ap) (g:cC),(cc c a o g).S=o.S|0,o,.e8 b=>rfl|0,o,.fc b d=>rfl|0,o,.eS b=>rfl|0,o,.cR f=>rfl|a+1,o,.e8 b=>rfl|a+1,o,.fc b d=>rfl|a+1,o,.eS b=>rfl|a+1,o,.cR f=>by obtain⟨h,e⟩:=Ba (lD a) f ({o with S:=o.S++[[]]},[]) [] rfl;exact(Z e<|Z QJ rfl:(f.foldl (lU c<|cc c a) ({o with S:=o.S++[[]]},[])).1.S.dropLast=o.S)
structure w5(W d:N)(k:Nat):Prop where
 m:av W d
 fL:∃g,d.u=W.u++g/\g.length<=3
 hw:∀q∈W.u,q≠k->d.p q=W.p q
 a6:d.a6=W.a6
 aE:d.aE=W.aE
 O:d.O=W.O
 g6:∀q b,q≠k->W.p q=some b->b.ke->d.p q=some b
 w:∀(f:Nat) e,W.w[f]?=some e->d.w[f]?=some e
 aA:∀(k a:Nat) (c:List (Y×Y)),W.aA[k]?=some (a,c)->j0 W c->∃j,d.aA[k]?=some (a,j)/\j0 d j
section
theorem CN{m:bz}(N6:W.al m.o=some .C)(N5:(W.cT.c1 m.bM).al z=none)(NR:W.aE.length<=9)(NQ:W.O.length<=100)(NO:k<=W.n)(D:G c L)(O:bt c)(e:df 2 ((W.cT.c1 m.bM).cb k t r z) c)(K:av W ((W.cT.c1 m.bM).cb k t r z))(E:c.O=W.O++[(m.aU x).bM])(R:bh A o c)(X:A<=20000)(NP:o.S≠[])(qd:W.y t (.d []))(NN:W.y r (.d []))(C:∀d u,G d u->bh (A+1) o d->w5 W d k->d.w=c.w->av c d->h v u):li (ag (n+4) true) (ag (n+4) false) false 56 (as 84 0) (au (ab 84 0) 2 2) (cF (ag (n+4) true) (ag (n+4) false) false 57 (as 84 0) (List.drop 3<|ab 84 0)<|de h i) (.b0 v<|nd (.a c.i.R) (.a m.o) NU (.c (w:Nat))<|.c (W.aE.length:Nat)) L:=by
 refine fj R.cB λNX P NY NZ N3 N4=>?_;have F:=e.g6 _ _ (P8 rfl) ⟨rfl,#[]⟩;have NS:c.y z (.A [.l "array",.a c.i.dW,W.a6]):=by exact Z e.m.i<|e.m.k _ _ dA
 have J:c.a6=.a (c.t k):=by exact Z e.a6<|Z (e.m.t k NO) rfl
 refine CY D O F e.aE (cv NR) (aM (aM P X) #[]) NS J E (cv NQ) λu M=>(?_:h v u);have U:c.al (m.aU x).bM.o≠some .k:=by have g:c.O[W.O.length]?=some (m.aU x).bM:=Z E<|e6 _ _;have:=D.bj (.cG W.O.length) (P1.1 g).1;rw[show c.o (.cG W.O.length)=(match c.O[W.O.length]? with|some l=>l.o|none=>0) from rfl,g] at this;intro NV;rw[show(match some (m.aU x).bM with|some l=>l.o|none=>0)=(m.aU x).bM.o from rfl,NV] at this;exact absurd this λNW=>by cases NW
 have y:=(.dN rfl rfl rfl rfl rfl:av c ((((c.e2 W.aE).a_ k<|.az 0 false false t r).d9 k).hG W.a6)).q<|av.ik (f:=W.O) U;have B:=(K.q e.m).q y;have H:∀q p,q≠k->c.p q=some p->(((((c.e2 W.aE).a_ k<|.az 0 false false t r).d9 k).hG W.a6).ik W.O (m.aU x).bM.o).p q=some p:=λq p b g=>(P4 b).trans g;refine C _ u M (R.bf NP y F (P8 rfl) (B.k _ _ qd) (B.k _ _ NN) (λq p b g _=>H q p b g) rfl rfl rfl R.C rfl rfl) ⟨B,q6 e.fL<|am [k] rfl (P5 _),λq I b=>(P4 b).trans<|(e.hw q I).trans<|P4 b,rfl,rfl,rfl,λq p b g s=>?_,λNT C g=>e.w NT C g,λq a Q b g=>?_⟩ rfl y;exact H q p b<|e.g6 q p ((P4 b).trans g) s;exact ah (e.aA q a Q b<|g.m K) λj S T=>am j S<|T.m y
end
section
theorem Go:vR U (.b0 v<|No d b a f c e)=U (.b0 v<|nd d b a f c):=∅
theorem h6.m(b:h6 W v a)(e:av W d)(f:d.w=W.w):h6 d v a:=by induction a with|aX g=>exact b|fv s=>exact es.b4 (λg l c=>Z f c) b|e5 n=>exact c5 b λh vs i j k=>eb h vs i (e.k _ _ j)<|k.bD λ_ _ c=>c.b4 λg l m=>Z f m
theorem CX(eM:jY t e c)(Oi:9<=c)(NV:G W N6)(NX:bt W)(N9:eR W Oo)(P:hi W t NS)(Om:NS+e<=100)(H:rj W a Ob k p m (4*W.n) NR)(NO:NR+e<=9)(NP:W.aE.length+1+e<=9)(S:f7 W NU g Q T NT O NQ s)(On:∀Ou∈s.a2,Ou.dY e)(F:a.cd<3)(R:∀f,(W.cT.c1 a.bM).al f=none->bh u o ((W.cT.c1 a.bM).cb k p m f))(Ol:o.S≠[])(E:u+2*aW e+10<=15000)(Ok:k<=W.n)(Oj:14<k)(N5:∀d K v,G d K->bh (u+2*aW e+4) (fO (s.a2.foldl (cc t e) o) a.cd s.n).1 d->w5 W d k->h6 d v (fO (s.a2.foldl (cc t e) o) a.cd s.n).2->h v K):ag (n+c+2) false (.B 84 0) [.a W.i.R,.a a.o,.a g,.c (a.cd:Nat)] h i N6:=by
 obtain⟨c,rfl⟩:∃Oa,c=Oa+9:=⟨c - 9,mQ Oi⟩;have NN:(s.a2.foldl (cc t e) o).S≠[]:=Z (oN (lD e) ..) Ol;refine MK (n:=n+c+7) NV NX H (aM (fw _ _) NO) (yv NP) P.a6 λf OA N4 N8 L B=>?_;have R1:=R f N4;have I:((W.cT.c1 a.bM).cb k p m f).i=W.i:=rfl;have Op:((W.cT.c1 a.bM).cb k p m f).aE=W.aE++[.a f]:=rfl;have l:hi ((W.cT.c1 a.bM).cb k p m f) t NS:=⟨λw F=>by obtain⟨c,NU,g,Q,T,NT,O,NQ,Ov,Oc,z,J,Og,Oh⟩:=P.f1 w F;exact⟨c,NU,g,Q,T,NT,O,NQ,Ov,Oc,(P4<|show 10+w≠k by exact λb=>cV [⟨1,.h (.e 14)<|.e 1,.b 0⟩,⟨1,.h (.b 1)<|.e 1,.e 3⟩,⟨1,.b 0,.h (.e 10)<|.b 1⟩] rfl [k,w] Oj F (P2 b.symm)).trans z,J,Og,Oh.m B⟩,by intro Ot;cases Ot⟩;have NW:=N9.m B;have D:=NX.m B;have N3:∀{r:N} {C:V} {v:Y},G r C->bh (u+2*aW e+1+2) (fO (s.a2.foldl (cc t e) o) a.cd s.n).1 r->df 2 ((W.cT.c1 a.bM).cb k p m f) r->r.O=W.O++[(a.aU<|.c 5).bM]->h6 r v (fO (s.a2.foldl (cc t e) o) a.cd s.n).2->li (ag (n+c+10) true) (ag (n+c+10) false) false 56 (as 84 0) (au (ab 84 0) 2 2) (cF (ag (n+c+10) true) (ag (n+c+10) false) false 57 (as 84 0) (List.drop 3<|ab 84 0)<|de h i) (.b0 v<|nd (.a W.i.R) (.a a.o) (.a g) (.c (a.cd:Nat))<|.c (W.aE.length:Nat)) C:=λ{r C v} y R3 q Oe A=>by exact ad q.m.i<|CN ((NV.k' H.C).al) N4 (yv NP) (Z H.eD<|an [⟨1,.h (.b 0)<|.b 1,.e 9⟩] (.b 0) (.e 100) rfl [NR,e] NO) Ok y (D.m q.m) q B Oe R3 (an [⟨1,.h (.h (.b 0)<|.x 2<|.b 1)<|.e 10,.e 15000⟩] (.h (.h (.h (.b 0)<|.x 2<|.b 1)<|.e 1)<|.e 2) (.e 20000) rfl [u,aW e] E) (by unfold fO;split;exact NN;split<;>exact s6) H.DI H.l3 λd K N7 N_ Oq Os Od=>N5 d K v N7 N_ Oq<|A.m Od Os
 clear N5;have NZ:3<=((W.cT.c1 a.bM).cb k p m f).n:=P9 #[] NW.n;have L:cz ((W.cT.c1 a.bM).cb k p m f) (4*((W.cT.c1 a.bM).cb k p m f).n) W.O a:=L;generalize(W.cT.c1 a.bM).cb k p m f=Ox at*;refine ad I<|Ic (c:=c+9) eM (ix _ _) N8 D NW l Om L (Z H.eD NO) (Z Op<|Z P3 NP) R1 (an [⟨1,.h (.h (.b 0)<|.x 2<|.b 1)<|.e 10,.e 15000⟩] (.h (.h (.b 0)<|.x 2<|.b 1)<|.e 1) (.e 15000) rfl [u,aW e] E) (S.m B) On F (λN' Ow NY M R2 j X U=>?_) λN' Ow NY x M R2 j X U Of=>?_;refine ad j.m.i<|tU M (D.m j.m) R2 (wo E) (P9 NZ j.m.n) NN S.gC.1 S.gC.2.1 S.gC.2.2 U λr C v y R3 q A=>?_;have:=N3 y R3 (j.q q.eI) (q.O.trans X) A;exact Z j.m.i<|Z I this;obtain⟨Oy,z,Oz,J⟩:=Of;refine⟨dV z,g7 z (bR CM<|bR MF<|Cn z J (v:=NY) ∅ ?_ rfl:jB _ _ _ _ _ _ _ _ _ _ _)⟩;refine ad j.m.i<|tU M (D.m j.m) R2 (wo E) (P9 NZ j.m.n) NN S.gC.1 S.gC.2.1 S.gC.2.2 U λr C v y R3 q A=>(Z Go ?_);have:=N3 y R3 (j.q q.eI) (q.O.trans X) A;exact Z j.m.i<|Z I this
end
section
theorem GH:iG u m p 52 (as 86 0) (h0 (ab 86 0) 6) (au (ab 86 0) 6 2) U (.b0 v a)=br u m p 52 (as 86 0) a (au (ab 86 0) 6 2) (v9 U v):=∅
theorem BV(N3:9<=c)(NS:G W NQ)(F:bt W)(Q:cz W E f l)(NN:E<=700000)(N6:W.C=none)(y:W.p w=some (.cx b (.a p) u q))(NO:b<=1000)(S:f7 W p g NV NX Oa NU N' s)(N9:∀(j:N) (P:V) (o:bz) (m:n_),en 3 W j->o.cd=k->o.gc=.a (W.t r)->o.dT=some m->m.gV<=4*f.length+4->hS j m.kl->(∃U,j.aA[m.l3]?=some (m.fu,U)/\gI j (E+3) U)->j.C=some (o.o,.aD 58 o.da)->G (j.bi w<|.cx b (.a p) u q) P->∀(T E':Y->aa),(∀(v:Y) (O:V),(∃d:N,G d O/\bt d/\d.i=W.i/\d.t w=W.t w/\d.u.length<=100000/\d.p w=some (.cx (b+1) (.a p) u q)/\(∀x,G (d.a_ w<|.cx b (.a p) u q) x->h v x))->T v O)->ag (n+c+2) false (.B 84 0) [.a W.i.R,.a o.o,.a g,.c (k:Nat)] T E' P)(N4:b≠0):ag (n+c+3) false (.B 86 0) [.a W.i.R,.a<|W.t w,.a<|W.t r,.c (k:Nat)] h i NQ:=by obtain⟨c,rfl⟩:∃NW,c=NW+9:=⟨c - 9,mQ N3⟩;refine bp EM ∅<|ti (n:=n+c+5) Q NS F y S (cv NN) λK NR e B=>(bs (e.toen.f1 y) λL J=>?_);have H:=S.m e.m;refine ad J<|ad e.m.i<|Z (show W.t r=K.t r by exact Z e.t rfl)<|aK (B.cr L) ∅<|g7 (B.k H.l9) ?_;skip;refine bF<|bq _ _ (.yG<|c8 _ _) ?_;have C:=(B.dh<|.d [.s]).dh<|.d [];generalize((NR.z<|.d [.s]).z<|.d [])=Oh at C;generalize(NR.z<|.d [.s]).f=Ob at*;refine i2 (C.k H.bL) rfl (jK (Qp _) ?_);refine jE<|ho (bR Dz ?_:br _ _ _ _ _ _ _ _ _);refine Gf (n:=n+c+6) (Q.fb e.toen) C (F.m e.m) (e.C.trans N6) L H (fp NN #[]) λj P a m t Oc Od Oe Of D=>(bs (t.f1 L) λN5 I=>ad t.m.i<|ad I<|aK D.bV ∅<|c4 (D.k<|((F.m e.m).m t.m).bN) ∅ ∅<|nl D N5 (cv NO:b<=_) λOg NT=>bR A2 ?_);have NP:=N9 j Og ⟨a,.a Ob,.a<|K.t r,k,.a<|K.t w,l.ju,some m⟩ m (e.toen.q t) rfl (Z e.t rfl) rfl Od Oe Of Oc NT;rw[show W.i=j.i from(t.m.i.trans e.m.i).symm] at NP;refine NP _ _ λv O M=>?_;obtain⟨d,z,X,NY,NZ,N8,N7,N_⟩:=M;refine(bR GH<|bR Fj<|Z NY.symm<|Z (Z I<|Z J<|Z NZ rfl:j.t w=d.t w)<|aK z.bV ∅<|c4 (z.k X.bN) ∅ ∅<|ot z X N7 (by refine(?_:b+1<=_);exact fp NO #[]) (QQ _:b+1≠0) N8 λx A=>?_);unfold N.gA at A;rw[P4<|show¬(bK.cx (b+1) (.a p) u q).dd=1 from(λM=>N4<|tp M:¬b+1=1)] at A;exact N_ x A
end
section
theorem Am(eM:jY K u c)(Oa:9<=c)(NO:G W OB)(NZ:bt W)(Oe:eR W OZ)(P:hi W K N6)(OT:hY K)(J:w<3)(OU:3<=w+u+1)(Os:N6+1+u<=100)(Ob:cz W (4*W.n) f l)(OV:f.length+1+u<=9)(O0:W.aE.length+1+u<=9)(R:bh L o W)(OX:o.S≠[])(NS:L+2*aW u+20<=15000)(OW:W.y Ox (.d []))(y:k<3)(NT:∀d N8 v,G d N8->bh (L+2*aW u+5) (gk K (cc K u) o w k).1 d->df 3 W d->d.O=W.O->h6 d v (gk K (cc K u) o w k).2->h v N8):ag (n+c+4) false (.B 87 0) [.a W.i.R,.a<|W.t<|10+w,.a Ox,.c (k:Nat)] h i OB:=by
 refine aZ λPl O9=>(fj R.cB λN3 Pb Pc Pd Pe OG=>?_);obtain⟨c,rfl⟩:∃NQ,c=NQ+9:=⟨c - 9,mQ Oa⟩;obtain⟨A,D,g,Pf,Ph,Pk,Pa,Pj,F,B,T,Oo,Op,S⟩:=P.f1 w J;refine O9<|bp KT ∅<|aK (NO.cr T) ∅<|kt<|aL<|bx rfl (ti (n:=n+c+6) Ob NO NZ T S (an [⟨4,.h (.h (.b 0)<|.x 2<|.b 1)<|.e 20,.e 15000⟩,⟨4,.b 2,.b 0⟩] (.x 4<|.b 2) (.e 900000) rfl [L,aW u,W.n] NS N3) λI Pm p OE=>bs (p.toen.f1 T) λOR OM=>?_);have NY:=Ob.fb p.toen;refine ad OM<|ad p.m.i<|JY OE (p.C.trans R.C) (Z p.n<|an [⟨1,.h (.h (.b 0)<|.x 2<|.b 1)<|.e 20,.e 15000⟩,⟨1,.b 2,.b 0⟩] (.b 2) (.e 100000) rfl [L,aW u,W.n] NS N3) (p.m.k _ _ OW) λOf OC OA Ou j N9=>?_;have X:=Oe.n;have Oc:cz Of (4*W.n+1) f l:=⟨j.b3.O.trans NY.O,NY.a5,j.b3.aE▸NY.aE,λc Oa=>by obtain⟨C,M,NR,N_,N5⟩:=NY.dT c Oa;exact⟨C,M.m j.m,NR,by refine Z j.b3.aA ?_;exact N_,N5.m j.m⟩⟩;refine ad (j.m.t _<|Z p.n<|rq X J)<|ad j.m.i<|BV (ix _ _) N9 ((NZ.m p.m).m j.m) Oc (an [⟨4,.h (.h (.b 0)<|.x 2<|.b 1)<|.e 20,.e 15000⟩,⟨4,.b 2,.b 0⟩] (.h (.x 4<|.b 2)<|.e 1) (.e 700000) rfl [L,aW u,W.n] NS N3) (j.b3.C.trans<|p.C.trans R.C) ((j.p _<|Z p.n<|rq X J).trans OR) (an [⟨1,.h (.h (.b 0)<|.e 1)<|.b 1,.e 100⟩,⟨1,.b 2,.b 0⟩] (.b 2) (.e 1000) rfl [N6,u,A] Os Op) ((S.m p.m).m j.m) (λe Pn NN OH t N' ON Om OP OQ OO On Od O' E' OS=>?_)<|(ff Oo).symm;obtain⟨Pg,Pi⟩:∃NQ,NN.dT=some NQ:=⟨_,Om⟩;have m:av W (e.bi (10+w)<|.cx A (.a D) F B):=((p.m.q j.m).q t.m).q .bi;have NU:e.n=W.n+1:=Z t.n<|Z j.n<|Z p.n rfl;have N7:∀q,q<=W.n->e.p q=W.p q:=λq x=>by refine Z t.p<|Z (j.p q<|Z p.n x)<|Z p.p ?_;rfl
 have NV:∀q,q≠10+w->(e.bi (10+w)<|.cx A (.a D) F B).p q=e.p q:=λq x=>P4 x;have Oj:(e.bi (10+w)<|.cx A (.a D) F B).p (10+w)=some (.cx (A+1) (.a D) F B):=P8 rfl;have Q:=p.n;have H6:rj (e.bi (10+w)<|.cx A (.a D) F B) NN OH (I.n+1) OA Ou (4*(e.bi (10+w)<|.cx A (.a D) F B).n) (f.length+1):=by refine⟨On,Om,OP,OQ.m .bi,?_,ON.trans (by refine(Z t.t ?_:Y.a _=.a (e.t _));rfl),(NV _ λb=>cV [⟨1,.e 14,.b 0⟩,⟨1,.h (.b 1)<|.e 1,.e 3⟩,⟨1,.b 0,.b 2⟩,⟨1,.h (.b 2)<|.e 1,.h (.e 10)<|.b 1⟩] rfl [W.n,w,I.n] X J (P2 Q.symm) (P2 b)).trans<|Z t.p j.az,av.bi.k _ _<|t.m.k _ _ j.HS,av.bi.k _ _<|t.m.k _ _ j.dt,?_⟩;exact ah OO λNR C M=>(am NR C<|(M.m .bi).bu (wb NU:4*W.n+1+3<=4*e.n));refine(Z t.O<|Z Oc.O<|Z P3 ?_:e.O.length=_);rfl
 have OF:hi (e.bi (10+w)<|.cx A (.a D) F B) K (N6+1):=⟨λOz Ot=>by obtain⟨NQ,O4,Oh,Oi,Ok,Oy,Og,Ov,O5,OI,C,M,N_,N5⟩:=P.f1 Oz Ot;by_cases z:Oz=w;subst z;replace C:=T▸C;cases C;exact⟨A+1,D,Oh,Oi,Ok,Oy,Og,Ov,F,B,Oj,ix _ _,oE Op,N5.m m⟩;exact⟨NQ,O4,Oh,Oi,Ok,Oy,Og,Ov,O5,OI,(NV _ λO_=>z<|nD O_).trans<|(N7 _<|rq X Ot).trans C,M,eP N_,N5.m m⟩,by exact(Z t.a6<|Z j.b3.a6<|Z p.a6 P.a6:e.a6≠_)⟩;have R6:∀NW,((e.bi (10+w)<|.cx A (.a D) F B).cT.c1 NN.bM).al NW=none->bh (L+1) o (((e.bi (10+w)<|.cx A (.a D) F B).cT.c1 NN.bM).cb (I.n+1) OA Ou NW):=λNW O1=>by have OY:(e.bi (10+w)<|.cx A (.a D) F B).cT.al NN.bM.o=none:=P8<|(Od.k' On).al;refine R.mX (((m.q .cT).q<|.c1 OY).q<|pn O1) (λq NX x U=>?_) ?_ ?_ ?_ rfl (Q4 _) (oH NU N3:e.n<=_) ?_;have O:=NO.a3.cA q NX x;(have O2:q≠10+w:=λz=>by rw[z,T] at x;rw[<-P0 x] at U;exact U Qd);exact(P4<|show q≠I.n+1 by exact nr Q O).trans<|(NV q O2).trans<|(N7 q O).trans x;exact(Z t.w<|Z j.w<|Z p.w rfl:e.w=_);exact(Z t.u<|Z j.b3.u<|Z p.u rfl:e.u=_);exact(Z t.E<|Z j.b3.E<|Z p.E rfl:e.E=_);exact(Z t.bG<|Z j.b3.bG<|Z p.bG<|eP OG:e.bG<=_)
 have Ol:(e.bi (10+w)<|.cx A (.a D) F B).i=Of.i:=t.m.i;refine ad Ol<|ad N' ?_;replace NT:=(Z N'<|oK ..:gk K (cc K u) o w k=fO ((dk K w).a2.foldl (cc K u) o) NN.cd (dk K w).n)▸NT;refine CX eM (ix _ _) Od (NZ.m m) (Oe.m m) OF Os H6 OV (Z t.aE<|Z j.b3.aE<|Z p.aE O0:e.aE.length+1+u<=9) (S.m m) (OT w J u OU) (Z N' y) R6 OX (an [⟨1,.h (.h (.b 0)<|.x 2<|.b 1)<|.e 20,.e 15000⟩] (.h (.h (.h (.b 0)<|.e 1)<|.x 2<|.b 1)<|.e 10) (.e 15000) rfl [L,aW u] NS) (an [⟨1,.h (.b 1)<|.e 1,.b 0⟩,⟨1,.b 2,.b 1⟩] (.h (.b 2)<|.e 1) (.b 0) rfl [e.n,W.n,I.n] (P2 NU.symm) (P2 Q):_<=e.n) (an [⟨1,.e 14,.b 0⟩,⟨1,.b 0,.b 1⟩] (.h (.e 14)<|.e 1) (.h (.b 1)<|.e 1) rfl [W.n,I.n] X (P2 Q.symm)) λd N8 v OD NP H O3=>?_;have Oq:=H.g6 _ _ (Iw X J Q) Oj Qd;refine OS v N8 ⟨d,OD,(NZ.m m).m H.m,H.m.i.trans Ol,?_,?_,Oq,λOC N9=>?_⟩;exact Z (H.m.t _ (an [⟨1,.e 14,.b 0⟩,⟨1,.h (.b 1)<|.e 1,.e 3⟩,⟨1,.h (.b 0)<|.e 1,.b 2⟩] (.h (.e 10)<|.b 1) (.b 2) rfl [W.n,w,e.n] X J (P2 NU.symm):_<=e.n)) (Z t.t rfl:e.t _=_);have:=NP.cB.2.1;exact(an [⟨1,.h (.h (.b 0)<|.x 2<|.b 1)<|.e 20,.e 15000⟩,⟨1,.b 2,.h (.h (.h (.b 0)<|.e 1)<|.x 2<|.b 1)<|.e 4⟩] (.b 2) (.e 100000) rfl [L,aW u,d.u.length] NS this);have N4:av d (d.a_ (10+w)<|.cx A (.a D) F B):=.a_;refine NT _ OC v N9 ((NP.mX N4 (λq NX x U=>(P4 λz=>by rw[z,Oq] at x;rw[<-P0 x] at U;exact U Qd).trans x) rfl rfl rfl NP.C (P5 _) NP.cB.1 NP.cB.2.2.2.2.2).bu<|an [] (.h (.h (.h (.b 0)<|.e 1)<|.x 2<|.b 1)<|.e 4) (.h (.h (.b 0)<|.x 2<|.b 1)<|.e 5) rfl [L,aW u]) ⟨(m.q H.m).q N4,?_,λq x=>?_,?_,?_,λq NX x U=>?_,λOw NT z=>H.w Ow NT (Z t.w<|Z j.w<|Z p.w z:e.w[Ow]?=_),λq a NR C M=>?_⟩ ?_<|O3.m N4 rfl;have:=H.fL;replace this:=p.u▸j.b3.u▸t.u▸(rfl:(e.bi (10+w)<|.cx A (.a D) F B).u=e.u)▸this;exact this;refine cM (R.mN q x) λNW C M _=>?_;have O:=NO.a3.cA q NW C;have z:q≠10+w:=λz=>by rw[z,T] at C;rw[<-P0 C] at M;exact absurd M ((ff Oo).symm:A≠0)
 exact(P4 z).trans<|(H.hw q (Z t.u<|Z j.b3.u<|Z p.u x:q∈e.u)<|nr Q O).trans<|(NV q z).trans<|N7 q O;refine(Z H.a6 (Z t.a6<|Z j.b3.a6<|Z p.a6 ?_:e.a6=_):d.a6=_);rfl;exact(Z H.aE (Z t.aE<|Z j.b3.aE<|Z p.aE rfl:e.aE=_):d.aE=_);have O:=NO.a3.cA q NX x;by_cases z:q=10+w;subst z;rw[T] at x;exact ad (P0 x)<|P8 rfl;exact(P4 z).trans<|H.g6 q NX (nr Q O) ((NV q z).trans<|(N7 q O).trans x) U;exact ah (p.aA q a NR _ C M) λOJ s E=>(ah (t.aA q a OJ _ (Z j.b3.aA s)<|E.m j.m) λOK r O6=>ah (H.aA q a OK r<|(O6.m .bi).bu (wb NU:4*W.n+1+3<=4*e.n)) λOL O7 O8=>am OL O7<|j0.m O8 N4);exact(Z H.O (Z t.O<|Z j.b3.O<|Z p.O rfl:e.O=_):d.O=_)
end
section
theorem rl(a:G W c)(R:hO r o W)(w:es W v s)(u:∀b:Nat,s=b->b∉o.aX)(e:∀d q l,G d q->c' 0 W d->e3 d l s->h l q):ag (n+2) p (.B 106 0) [.a W.i.c7,v] h i c:=by
 refine bp Eb ∅ ?_;rcases w with⟨rfl,rfl|rfl⟩|⟨b,k,rfl,j,rfl⟩
 exact lW ∅<|aL<|bJ rfl (e W c _ a .b3<|.inl ⟨rfl,rfl⟩);exact od ∅<|aL<|bJ rfl (e W c _ a .b3<|.inl ⟨rfl,rfl⟩);have M:=R.b8 b k j<|u b rfl;refine ah M.az λC g A=>(ah M.aV λD t B=>eq (a.k M.du) ∅ ∅<|aL<|bx ∅<|aK (a.k M.du) ∅<|aK (a.cr g) ∅<|gZ a.g_ rfl (vZ R.bi j) (aK (a.k M.du) (v:=.a<|W.t k.bk) ∅<|aK (a.cr g) ∅<|dQ (a.k M.dt)<|kR (a.k M.dt) (l:=λ_=>[.c (70+b:Nat)]) (λx y h i z=>?_) aJ 0 _ _ (aM #[] dL:1 - 0<aJ) ?_));exact Z (Re.1 y)<|aK (a.cr t) ∅ z;refine bJ rfl (bF ?_);have f:=a.eK<|.d [.c (70+b:Nat)];refine bF ?_;have m:=f.bH<|P5 _;refine e _ _ _ (f.eK<|.A [.c (b:Nat),.a c.f]) ((c'.k<|a.bH<|P5 _).q<|c'.k (q:=0) m)<|.inr ⟨b,rfl,_,c.f,rfl,dA,(av.M m).k _ _ dA⟩
end
theorem pU{a:cC}(b:a.dY c)(d:∀f,a≠.cR f):a.jx:=by induction a with|cR f=>exact(d f rfl).elim|_=>exact b
theorem q_{c:cC}(b:c.dY 0):∀f,c≠.cR f:=λf e=>by subst e;refine eN b λd _ g=>(eU (List.exists_cons_of_ne_nil d) λa r h=>?_);subst h;have:=g a<|.head _;exact R'.2 this.2.1 this.1
theorem HX(a:Nat):5<=aW a:=by induction a using Nat.casesOn with|zero=>exact P5 _|succ a=>exact(ix _ _:5<=3*(2*aW a+8)+15)
theorem wp(p:G W k)(t:bt W)(s:eR W z)(m:cz W (4*W.n) f l)(R:bh c o W)(x:c+aW b<=15000)(E:W.y a (.A [.l "expr",.c j,.a r]))(D:fy W r e)(y:e.dY b)(w:∀f,e≠.cR f)(B:∀d g,G d g->bh (c+aW b) (cc C b o e) d->df 0 W d->d.O=f++[(l.aU<|.c j).bM]->h .s g):ag (n+11) false (.B 73 0) [.a W.i.R,.a a,.c 0] h i k:=y9 p t s m R (an [⟨1,.h (.b 0)<|.b 1,.e 15000⟩] (.b 0) (.e 20000) rfl [c,aW b] x) E D (pU y w) λd g q u A v=>B d g q (u.bu (by have:=HX b;exact an [⟨1,.e 5,.b 0⟩] (.h (.b 1)<|.e 4) (.h (.b 1)<|.b 0) rfl [aW b,c] this)) A v
noncomputable def e1(b:List bU)(c:ap->cC->ap):ap->List (Nat×Nat)->ap×List d7|o,[]=>(o,[])|o,a::r=>((e1 b c (gk b c o a.1 a.2).1 r).1,(gk b c o a.1 a.2).2::(e1 b c (gk b c o a.1 a.2).1 r).2)
theorem Io:∀(f:List (Nat×Nat)) (o:ap) (c:List d7),f.foldl (lU a b) (o,c)=((e1 a b o f).1,c++(e1 a b o f).2):=by intro g;induction g with|nil=>intro o c;exact Z (rfl ..:(e1 a b o []).2=[]) (Z (Q1 ..) rfl)|cons d f e=>intro o c;exact(Z (e ..)<|Z (Qf ..) rfl:f.foldl (lU a b) ((gk a b o d.1 d.2).1,c++[(gk a b o d.1 d.2).2])=_)
def x_(W:N)(b:Nat)(a:Nat×Nat):Prop:=W.y b<|.A [.c (a.1:Nat),.c (a.2:Nat)]
def qG(b:Nat)(a:Nat×Nat):Prop:=a.1<3/\3<=a.1+b+1/\a.2<3
theorem df.gG(k:df h W d)(b:h6 W v a):h6 d v a:=by induction a with|aX i=>exact b|fv s=>exact es.b4 k.w b|e5 j=>exact c5 b λc vs e f g=>eb c vs e (k.m.k _ _ f)<|g.bD λ_ _=>es.b4 k.w
theorem cz.b3(a:cz W (4*W.n) f l)(k:df c W d)(b:d.O=W.O):cz d (4*d.n) f l:=a.eI k l.ju<|b.trans a.O
section
theorem Kz{u:List Nat}(eM:jY k a c)(N9:9<=c)(N8:hY k)(Oa:NU+1+a<=100)(N':f.length+1+a<=9):∀(Q g b:Nat) (W:N) (r:V) (o:ap) (p:List (Nat×Nat)) (h:List Y->aa) (i:Y->aa),u.length - g<Q->G W r->bt W->eR W NR->hi W k NU->cz W (4*W.n) f l->W.aE.length+1+a<=9->bh b o W->o.S≠[]->b+p.length*(2*aW a+5)+20<=15000->W.y O (.d<|u.map .a)->W.y H (.h1<|some<|.a W.i.R)->be (x_ W) (u.drop g) p->(∀j∈p,qG a j)->(∀d E vs,G d E->bh (b+p.length*(2*aW a+5)) (e1 k (cc k a) o p).1 d->df (3*p.length) W d->d.O=W.O->be (h6 d) vs (e1 k (cc k a) o p).2->h vs E)->bo (.d<|.a O) (λC NX E5=>J (dz C) λOg=>iW Og λB=>e_ B λOm B=>e_ B λOn B=>jl B<|J (b6 H) λOo=>J (b6 NR.kA) λOp=>J (ce Op Om) λOq=>J (a4<|.d []) λOf=>ag (n+c+4) false (.B 87 0) [Oo,Oq,Of,On] (λOj=>NX [Oj]) E5) Q g h i r:=by intro Ot;induction Ot with|zero=>intro g _ _ _ _ _ _ _ L _ _ _ _ _ _ _ _ _ _ _ _ _ _;exact absurd L (Q8 _)|succ Q Od=>intro g b W r o p h i L m X D P T NS R NQ K NO I s cE M;refine(ep (m.k NO) ?_:J (dv (.d<|.a O) g) _ r);refine Z Q7 ?_;cases S:u[g]? with|none=>replace s:=(Qj<|PX.1 S)▸s;cases s;exact M W r [] m (R.bu<|Q_ _ _) .cK rfl .aP|some Ol=>have NN:=(P1.1 S).1;(have N_:u.drop g=Ol::u.drop (g+1):=by refine Z (Qc NN)<|Z ((P1.1 S).2) ?_;rfl);replace s:=N_▸s;cases s with|@aY _ j _ w N7 Ob=>refine eN (cE j<|.head _) λNV Oh Oi=>?_;rw[(Z (QA ..)<|Z (Nat.succ_mul ..)<|Q0 (an [] (.h (.b 0)<|.h (.b 1)<|.h (.x 2<|.b 2)<|.e 5) (.h (.h (.b 0)<|.h (.x 2<|.b 2)<|.e 5)<|.b 1) rfl [b,w.length*(2*aW a+5),aW a])<|an [] (.h (.h (.b 0)<|.h (.x 2<|.b 2)<|.e 5)<|.b 1) (.h (.b 0)<|.h (.b 1)<|.h (.x 2<|.b 2)<|.e 5) rfl [b,w.length*(2*aW a+5),aW a]:b+(j::w).length*(2*aW a+5)=b+(2*aW a+5)+w.length*(2*aW a+5))] at K M;refine g7 (m.k N7) (b2 (m.k I)<|b2 (m.k D.kA)<|g2 (m.k D.b1) ((Q0 (an [] (.h (.e 10)<|.b 0) (.h (.e 9)<|.h (.b 0)<|.e 1) rfl [j.fst])<|an [] (.h (.e 9)<|.h (.b 0)<|.e 1) (.h (.e 10)<|.b 0) rfl [j.fst]:10+j.fst=9+(j.fst+1))▸x6 NV (λq=>W.t<|9+q) rfl rfl rfl)<|bF ?_:J (b6 H) _ r);have NP:=m.bH<|P5 _;have F:=m.eK<|.d [];have y:=(dB.k (z:=.d []) NP).eI;refine Am (W:=W.M r.f<|.d []) eM N9 F (X.m y.m) (D.m y.m) (P.eI y) N8 NV Oh Oa (T.b3 y rfl) N' NS (R.k NP) NQ (P9 (QT (P9 (Qu (Q_ _ 5) b)<|Q_ _ _) 20) K) dA Oi λNZ Ou v F R1 Oe U Ok=>(aZ λOx Os=>?_);have A:=y.q Oe;have e:=A.m;refine eU (jf NQ) λOv t N3=>?_;obtain⟨Ow,N4⟩:=qf (lD a) N3;refine Os<|Od (g+1) (b+(2*aW a+5)) NZ Ou (gk k (cc k a) o j.1 j.2).1 w _ _ (ga L NN) F (X.m e) (D.m e) (P.eI A) (T.b3 A U) (Z A.aE NS) R1 (by refine Z N4 ?_;simp) K (e.k _ _ NO) (Z e.i<|e.k _ _ I) (Ob.bD λ_ _=>e.k _ _) (λx Oc=>cE x<|.tail _ Oc) λd E vs NW NY NT N5 N6=>?_;exact M d E (v::vs) NW NY ((A.q NT).bu<|Z QA<|an [] (.h (.h (.e 0)<|.e 3)<|.x 3<|.b 0) (.x 3<|.h (.b 0)<|.e 1) rfl [w.length]) (N5.trans U)<|.aY (NT.gG Ok) N6
end
def iO(W:N)(c:List Nat)(k b:Nat):Prop:=b∉c/\∃a d,W.w[b]?=some a/\W.p k=some (.aV 0 (.a a.du) d)
open Classical in
noncomputable def gy(W:N)(a:List Nat)(k:Nat):Option Nat:=if b:∃c,iO W a k c then some b.choose else none
theorem qC(b:gy W c k=some a):iO W c k a:=by unfold gy at b;by_cases d:∃a,iO W c k a;rw[dif_pos d] at b;rw[<-P0 b];exact d.choose_spec;rw[dif_neg d] at b;cases b
theorem wD(b:gy W a k=none)(c:Nat):¬iO W a k c:=λx=>by unfold gy at b;rw[dif_pos ⟨c,x⟩] at b;cases b
theorem tt[DecidableEq g]:∀{f p:List g},f.Nodup->(∀x∈f,x∈p)->f.length<=p.length:=by intro i;induction i with|nil=>intro _ _ _;exact Qp _|cons a f h=>intro p b s;have b:=List.nodup_cons.1 b;have c:=s a<|.head _;have:=h (p:=p.erase a) b.2 λx d=>(List.mem_erase_of_ne λe=>b.1<|by exact ad e d).2<|s x<|.tail _ d;replace this:=(List.length_erase_of_mem c)▸this;exact Nat.add_le_of_le_sub (List.length_pos_of_mem c) this
section
theorem bh.lR(R:bh c o W){a:Nat}(b:(a:Int)∈o.dO):a∉o.aX:=(R.bj a<|R.cf b).2<|List.count_pos_iff.2 b
theorem iO.Kj(j:G W z)(R:bh r o W)(a:iO W o.aX k h)(g:iO W o.aX k i):h=i:=by
 refine aZ λD y=>?_;obtain⟨s,b,B,m,t⟩:=a;obtain⟨u,d,C,n,p⟩:=g;refine y ?_;have e:b.du=d.du:=by rw[t] at p;have:=P0 p;(injection this with _ this _);exact Y.a.inj this
 have M:=R.b8 h b m s;have l:=R.b8 i d n u;have q:=l.du;rw[<-e] at q;have x:W.t b.bk=W.t d.bk:=by have:=M.du.2.symm.trans q.2;(injection this with _ this);(injection this with this _);(injection this with _ this);exact Y.a.inj this
 refine ah M.az λw c _=>(ah l.az λA v _=>?_);have f:=j.bj (.p b.bk) ⟨_,c⟩;rw[show W.o (.p b.bk)=W.t b.bk from rfl,x] at f;have:cn.p b.bk=.p d.bk:=P0<|f.symm.trans<|j.bj (.p d.bk) ⟨_,v⟩;exact k_ R.bi m n<|cn.p.inj this
theorem iO.FN(e:G W f)(R:bh d o W)(a:iO W o.aX k b):gy W o.aX k=some b:=by cases c:gy W o.aX k with|none=>exact(wD c b a).elim|some g=>rw[iO.Kj e R a<|qC c]
theorem ds.KW(s:G W t)(R:bh r o W)(d:Nat)(b:ds W l j)(i:∀d:Nat,(d:Int)∈j->d∉o.aX):c9 (gy W o.aX) l d=j.count (d:Int):=by induction b with|aP=>rfl|gc a g c p h=>refine ad (h i) ?_;unfold c9;rw[List.countP_cons_of_neg];intro f;obtain⟨_,m,q,_,e⟩:=qC<|eq_of_beq f;replace e:=a▸e;cases e|jd p h=>rw[h λd f=>i d<|.tail _ f,List.count_cons_of_ne];exact km|@bn k q u j n m a g c p h=>have e:=iO.FN s R ⟨i n<|.head _,m,q,g,a⟩;have:=h λd f=>i d<|.tail _ f;unfold c9 at this⊢;by_cases f:n=d;subst f;refine Z (List.countP_cons_of_pos<|e▸Qz _)<|Z List.count_cons_self<|Z this ?_;rfl;refine Z (List.countP_cons_of_neg (by refine Z e ?_;intro l;exact f<|P0<|eq_of_beq l)) ?_;refine Z (List.count_cons_of_ne<|nC f)<|Z this ?_;rfl
theorem tg(i:G W k)(R:bh h o W)(c:Nat)(b:be (ds W) g e)(d:∀c:Nat,(c:Int)∈e.flatten->c∉o.aX):c9 (gy W o.aX) g.flatten c=e.flatten.count (c:Int):=by induction b with|aP=>rfl|aY a l j=>replace d:=QX▸d;exact Z QX<|Z QX<|Z List.count_append<|ad (j λc f=>d c<|PZ _ f)<|ad (a.KW i R c λc f=>d c<|Q9 _ f) List.countP_append
theorem ds.gq(b:ds W n l):∀k∈n,(∃e j,W.p k=some (.az 0 false false e j)/\W.y e (.d [])/\W.y j (.d []))\/∃(h:Nat) (f:ej) (e:Nat),(h:Int)∈l/\W.w[h]?=some f/\W.p k=some (.aV 0 (.a f.du) e)/\W.y e (.d []):=by induction b with|aP=>exact λk d=>(Rc d).elim|gc a g c m i=>intro k d;(rcases RD.1 d with rfl|d);exact .inl<|eb _ _ a g c;exact i k d|jd m i=>intro k d;(rcases i k d with x|⟨h,f,e,b,x⟩);exact .inl x;exact .inr (l0 h f e (.tail _ b) x)|bn a g c m i=>intro k d;(rcases RD.1 d with rfl|d);exact .inr<|kN _ _ _ (.head _) g a c;(rcases i k d with x|⟨h,f,e,b,x⟩);exact .inl x;exact .inr<|l0 h f e (.tail _ b) x
theorem zN(b:be (ds W) i h):∀k∈i.flatten,(∃c g,W.p k=some (.az 0 false false c g)/\W.y c (.d [])/\W.y g (.d []))\/∃(f:Nat) (e:ej) (c:Nat),(f:Int)∈h.flatten/\W.w[f]?=some e/\W.p k=some (.aV 0 (.a e.du) c)/\W.y c (.d []):=by induction b with|aP=>exact λk d=>(Rc d).elim|aY a l j=>intro k d;rw[QX] at d⊢;refine Or.elim (PY.1 d) (λd=>?_) λd=>?_;(rcases a.gq k d with x|⟨f,e,c,b,x⟩);exact .inl x;exact .inr ⟨f,e,c,Q9 _ b,x⟩;(rcases j k d with x|⟨f,e,c,b,x⟩);exact .inl x;exact .inr ⟨f,e,c,PZ _ b,x⟩
theorem y5(s:G W U)(R0:bh L r f)(k:df h f W)(Q:h<=40)(R:bh l o W)(y:o.S=r.S++[t])(u:l<=40000):∃e,W.u=f.u++e/\e.length<=h/\i6 W f.u e (gy W o.aX) (λa=>a∉o.aX) (cI o)/\∀a,c9 (gy W o.aX) e a=t.count (a:Int):=by
 refine aZ λNQ Y=>(ah k.fL λe g A=>fj R.cB λJ M I NN O NO=>ah R.ar λNR D v=>?_);have n:∀a:Nat,(a:Int)∈o.S.flatten->a∉o.aX:=λa c=>R.lR<|PZ _ c;have m:o.S.flatten=r.S.flatten++t:=by refine Z y ?_;simp
 refine ah R0.ar λNS E S=>(Y ?_);have K:∀a,c9 (gy W o.aX) e a=t.count (a:Int):=λa=>by have i:=tg s R a v n;have d:=tg s R a (j' k.m k.w S λq c=>k.hw q<|Z E c) λa c=>n a<|Z m<|Q9 _ c;rw[<-D,g,show c9 (gy W o.aX) (f.u++e) a=c9 (gy W o.aX) f.u a+c9 (gy W o.aX) e a from List.countP_append,m,List.count_append] at i;rw[<-E] at d;exact AF i d
 have F:∀q∈e,_:=λq c=>zN v q<|ad D<|Z g<|PZ _ c;refine kc e g A ⟨g,g▸R.eh,an [⟨1,.b 0,.e 40⟩,⟨1,.b 1,.b 0⟩] (.h (.b 1)<|.e 1) (.e 64) rfl [h,e.length] Q A,by exact aM (aM M u) #[],R.bi,λq a c b=>?_,λq c b=>?_,R.b8,λa c=>⟨?_,?_⟩⟩ K;obtain⟨P,T,X,i,d⟩:=qC b;refine jC T X i P d ?_;rcases F q c with⟨w,NP,x,_⟩|⟨p,H,w,_,_,x,t⟩
 replace d:=x▸d;cases d;rw[x] at d;have:=P0 d;injection this with _ _ this
 exact ad this t;rcases F q c with x|⟨p,H,w,B,j,C,z⟩
 exact .inl x;exact(wD b p ⟨n p B,H,w,j,C⟩).elim;exact Z (K ..) (Z List.count_append<|Z m<|Z List.count_append LI:_<=(o.bP++o.S.flatten).count (a:Int));have:=rQ (o:=o) (a:=a);exact an [⟨1,.b 0,.e 40000⟩,⟨1,.b 1,.b 0⟩,⟨1,.b 2,.b 1⟩] (.b 2) (.e 100000) rfl [l,o.dO.length,cI o a] u O this
noncomputable def ap.dr(o:ap):ap:={o with S:=o.S.dropLast}
theorem Gu{G:Nat}(N6:iV W)(R0:bh G U w)(k:df A w W)(R:bh F o W)(y:o.S=U.S++[t])(B:W.u=w.u++e)(NY:e.length<=A)(J:∀f,c9 (gy W o.aX) e f=t.count (f:Int))(s:vp W d w.u e (λf=>f∉o.aX) (cI o) (c9 (gy W o.aX) e) M):bh (F+A) o.dr.fY d/\df 0 w d:=by
 refine fj R.cB λNN Q NO NP NQ NR=>?_;have dd:∀f,cI o.dr f+t.count (f:Int)=cI o f:=λf=>by refine(Z y<|Z QJ ?_:(o.bP++o.S.dropLast.flatten).count (f:Int)+_=(o.bP++o.S.flatten).count (f:Int));simp[List.count_append,Nat.add_assoc]
 have ei:∀f,f∈M↔f∈o.dr.ei:=λf=>by have:=dd f;rw[s.lX,jv,J];constructor;rintro ⟨p,i,m,z⟩;exact b9 (by exact Z (rfl:o.dr.L=o.L)<|ad R.a5<|(P1.1 i).1) (I3 this z) m;rintro ⟨i,m,z⟩;rw[show o.dr.L=o.L from rfl,<-R.a5] at i;exact cp _ (RB i) z<|JI this m
 have S:=pf s.hW wr ei;have NW:M.length<=A:=by refine P9 (tt (p:=e.filterMap<|gy W o.aX) (s.hW.imp λb=>Q6 b) λf NZ=>cM ((s.lX f).1 NZ) λp i m z=>?_)<|P9 (List.length_filterMap_le _ _) NY;have:0<cI o f:=(R.bj f<|ad R.a5<|(P1.1 i).1).1 m;rw[<-z] at this;exact ah (List.countP_pos_iff.1 this) λq N4 N5=>List.mem_filterMap.2<|am q N4<|eq_of_beq N5
 have O:∀q r,W.p q=some r->q∉e->(∀c u L,r≠.az c true false u L)->(∀f u,r≠.aV 1 (.c (70+f:Nat)) u)->d.p q=some r:=λq r i m z NV=>by refine(s.bE q m λf p l n=>⟨λh=>?_,λh=>?_⟩).trans i;refine ah ((R.b8 f p l n).az) λu c _=>?_;rw[<-h,i] at c;exact z _ _ _<|P0 c;refine ah ((R.b8 f p l n).aV) λu c _=>?_;rw[<-h,i] at c;exact NV _ _<|P0 c
 have I:∀q∈w.u,d.p q=W.p q:=λq h=>by refine cM (R.mN q<|Z B<|Q9 _ h) λr l n NU=>((O q r l (λg=>((Qh.1<|B▸R.eh).2.2) q h q g rfl) (λc u L g=>?_) λf u g=>?_).trans l.symm);cases NU _ _ _ _ _ g;rw[g] at n;exact absurd n (by refine(?_:1≠0);decide)
 refine ah s.E λE X Y=>?_;have H:∀f,cI o.dr.fY f=cI o.dr f:=λf=>rfl;refine⟨⟨⟨by refine Z s.w ?_;exact R.a5,R.dP,by refine Z (s.w ..) ?_;exact R.bi,by refine Z s.w<|Z s.n ?_;exact R.fI,λf p l n=>?_,λT x NX=>?_,?_,s.u▸(Qh.1<|B▸R.eh).1,?_,s.C,λf h=>?_,λf h=>?_,?_⟩,λf h=>?_⟩,⟨k.m.q s.m,am [] (by refine Z (s.u ..)<|Z (Q1 ..) ?_;rfl)<|P5 _,λq h=>(I q h).trans<|k.hw q h,s.a6.trans k.a6,s.aE.trans k.aE,λq r b C=>?_,λf p h=>by refine Z s.w ?_;exact k.w f p h,λq a NS b NT=>?_⟩⟩;replace l:=s.w▸l;have V:f∉o.aX:=λg=>n<|Q9 _ g;have N3:f∉M:=λg=>n<|PZ _<|S▸g;have:=s.b8 f p l V λg=>N3<|(s.lX f).2<|cp p l V g;rw[J] at this;rw[H,show cI o.dr f=cI o f - t.count (f:Int) from by have:=dd f;exact(rH this).symm];exact this;refine bZ (R.bw T x NX) λv u l n=>(bq v u (O _ _ l (λg=>?_) (λ_ _ _ g=>by cases g) λf N8 g=>?_)<|n.b4 λf p h=>Z s.w h);refine cM (R.mN (T+1)<|Z B<|PZ _ g) λr i m _=>?_;rw[l] at i;rw[<-P0 i] at m;exact absurd m (by refine(?_:1≠0);decide);injection g with _ g _
 exact rZ n f g;refine ah R0.ar λP D K=>(am P (by refine Z s.u<|Z D ?_;rfl) ?_);exact(Z y<|Z QJ<|j' (k.m.q s.m) (λf p h=>Z s.w<|k.w f p h) K λq h=>(I q (by rw[D];exact h)).trans<|k.hw q (by rw[D];exact h):be _ P o.S.dropLast);exact Z X (ad S<|(R.E.bD λ_ _=>dR.m s.m).cj Y:be _ _ (o.E++o.dr.ei.map .aX));refine Z (H ..) ?_;rcases PY.1 h with g|g
 exact Nat.le_zero.1<|aM (fw _ _)<|dw<|(dd f).trans<|R.gl f g;exact(jv.1 g).2.1;rcases PY.1 h with g|g
 exact R.eu f g;exact(jv.1 g).1;refine io (by exact Z s.n<|lp NN) ?_ ?_ (by exact(lp NP:o.L<=_)) ?_<|Z s.bG<|lp NR;refine Z s.u ?_;rw[B,P3] at Q;exact an [⟨1,.h (.b 0)<|.b 1,.b 2⟩] (.b 0) (.h (.b 2)<|.b 3) rfl [w.u.length,e.length,F,A] Q;exact Z (X ..)<|Z (P3 ..)<|Z (Y.a5 ..)<|Z (P6 ..)<|pZ NO NW;have:o.dr.fY.dO.length<=o.dO.length:=by refine(Z y<|Z QJ ?_:(o.bP++o.S.dropLast.flatten).length<=(o.bP++o.S.flatten).length);simp
 exact an [⟨1,.b 0,.b 1⟩,⟨1,.b 1,.b 2⟩] (.b 0) (.h (.b 2)<|.b 3) rfl [o.dr.fY.dO.length,o.dO.length,F,A] this NQ;refine Z (H ..) (?_:f∉o.aX++o.dr.ei↔_);rw[PY,not_or,jv];have:=R.gl f;have:=dd f;constructor;rintro ⟨i,m⟩;exact Nat.pos_of_ne_zero λg=>m<|b9 h g i;intro b;exact⟨λg=>QN b<|Nat.le_zero.1<|aM (fw _ _)<|dw<|this.trans<|R.gl f g,λg=>QN b g.2.1⟩;have i:=k.g6 q r b C;refine O q r i (λg=>?_) (λc u L g=>?_) λf u g=>?_;refine ah R.ar λP D K=>(ah (p8 K q<|ad D<|Z B<|PZ _ g) λN7 l n=>?_);rw[i] at l;exact n<|P0 l▸C;rw[g] at C;exact gU C.1;rw[g] at C;exact C;exact ah (k.aA q a NS b NT) λj i m=>am j (s.aA▸i)<|m.m s.m
end
def k9(t:List Int):d7->Prop|.aX _=>False|.fv s=>s= -1\/s∈t|.e5 a=>∀s∈a,s∈t
theorem k9.b4(b:k9 t e)(s:∀x∈t,x∈a):k9 a e:=by induction e with|aX d=>exact b|fv x=>exact b.imp id (s x)|e5 f=>exact λx c=>s x<|b x c
theorem C2(b:∀o r,(d o r).S=o.S)(e:o.S=g++[t]):∃f,(gk c d o w k).1.S=g++[f]/\(∀x∈t,x∈f)/\k9 f (gk c d o w k).2:=by have l:=(oN b (dk c w).a2 o).trans e;refine Z (oK ..) ?_;unfold fO;split;exact cp t l (λ_ a=>a)<|.inl rfl;split;exact cp _ (by refine(?_:f2 _ _=_);refine Z l<|Z iA ?_;rfl) (λ_ a=>Q9 _ a) λx a=>PZ _ a;exact cp _ (by refine(?_:f2 _ _=_);refine Z l<|Z iA ?_;rfl) (λ_ a=>Q9 _ a)<|.inr<|PZ _<|.head _
theorem us(b:∀o r,(c o r).S=o.S):∀(f:List (Nat×Nat)) (o:ap) (t:List Int),o.S=h++[t]->∃d,(e1 i c o f).1.S=h++[d]/\(∀x∈t,x∈d)/\∀e∈(e1 i c o f).2,k9 d e:=by intro q;induction q with|nil=>intro o t e;exact cp t e (λ_ a=>a) (λ_ a=>(Rc a).elim)|cons u f p=>intro o t e;refine cM (C2 b e) λs l m n=>(cM (p _ s l) λE j g k=>cp E j (λx a=>g x<|m x a) λe a=>?_);(rcases RD.1 a with rfl|a);exact n.b4 g;exact k e a
def pw(o:ap):d7->Prop|.aX _=>False|.fv s=>∀a:Nat,s=a->a∉o.aX|.e5 b=>∀s∈b,∀a:Nat,s=a->a∉o.aX
section
theorem k9.bj(R:bh g o W)(y:o.S=h++[t])(b:k9 t e):pw o e:=by have f:∀a:Nat,(a:Int)∈t->a∉o.aX:=λa d=>R.lR<|PZ _ (by refine Z y ?_;simp[d]);induction e with|aX a=>exact b|fv s=>intro a c;refine Or.elim b (λb=>?_) λb=>?_;exact(km<|b.symm.trans c).elim;exact f a (c▸b)|e5 i=>exact λs d a c=>f a<|c▸b s d
theorem bh.fb(R:bh a o W)(k:c' q W d):bh a o d:=R.mX k.m (λc e b _=>Z k.p b) k.w k.u k.E (k.C.trans R.C) (P5 _) (Z k.n R.cB.1)<|Z k.bG R.cB.2.2.2.2.2
theorem c'.eI(k:c' 0 W d):df 0 W d:=⟨k.m,k.u▸kM,λ_ _=>by refine Z k.p ?_;rfl,k.a6,k.aE,λc n b _=>k.p▸b,λm l i=>k.w▸i,λc a e b f=>by exact ah (k.aA c a e _ b f) λj g h=>am j g (by rw[j0,k.n];exact h)⟩
theorem zj:∀(b a:Nat) (W:N) (g:V) (k:List Int) (h:List Y->aa) (i:Y->aa),vs.length - a<b->G W g->bh B o W->W.y t (.d vs)->W.y u (.h1<|some<|.a W.i.c7)->be (es W) (vs.drop a) k->(∀s∈k,∀b:Nat,s=b->b∉o.aX)->(∀d m l,G d m->c' 0 W d->be (e3 d) l k->h l m)->bo (.d<|.a t) (λD F E10=>J (b6 u) λU=>ag (n+2) p (.B 106 0) [U,D] (λT=>F [T]) E10) b a h i g:=by intro I;induction I with|zero=>intro a _ _ _ _ _ q _ _ _ _ _ _ _;exact absurd q (Q8 _)|succ b Q=>intro a W g k h i q j R z w f x r;refine(ep (j.k z) ?_:J (dv (.d<|.a t) a) _ g);cases c:vs[a]? with|none=>rw[Qj<|PX.1 c] at f;cases f;exact r W g [] j .b3 .aP|some v=>have y:=(P1.1 c).1;(have O:vs.drop a=v::vs.drop (a+1):=by refine Z (Qc y)<|Z ((P1.1 c).2) ?_;rfl);replace f:=O▸f;cases f with|@aY _ s _ S M P=>exact b2 (j.k w)<|rl j R.tohO M (x s<|.head _) λH NN X E e L=>Q (a+1) H NN S _ _ (ga q y) E (R.fb e) (e.m.k _ _ z) (Z e.m.i<|e.m.k _ _ w) (P.bD λ_ _=>es.b4 λb r c=>Z e.w c) (λs c=>x s<|.tail _ c) λd m l C A K=>r d m (X::l) C (e.q A)<|.aY (L.m A.m) K
theorem xY{f:Y->aa}(a:G W j)(R:bh H o W)(A:W.y g (.h1<|some<|.a W.i.c7))(h:h6 W v c)(q:pw o c)(z:∀b,c=.e5 b->b.length<=1000)(B:∀d w C,G d w->c' 0 W d->dR d C c->f C w):ag (n+2) p (.a' "isinstance") [v,.b7 "list"] (λQ=>J (dD Q) λL=>if L then(bY v λS=>bo S (λD K E10=>J (b6 g) λT=>ag (n+2) p (.B 106 0) [T,D] (λP=>K [P]) E10) aJ 0 (λF=>if Nat.ble F.length bl then J (a4<|.d F) (λO=>f O) else ae) aB) else J (b6 g) λu=>ag (n+2) p (.B 106 0) [u,v] (λt=>f t) E2) i j:=by induction c with|aX r=>exact h.elim|fv s=>have m:J (b6 g) (λu=>ag (n+2) p (.B 106 0) [u,v] (λt=>f t) E2) j:=b2 (a.k A)<|rl a R.tohO h q B;(rcases h with⟨rfl,rfl|rfl⟩|⟨r,k,rfl,e,rfl⟩);exact ii (by first|exact .b7 rfl .c|exact .b7 rfl .s|exact .b7 rfl .l)<|aL<|bx rfl m;exact ii (by first|exact .b7 rfl .c|exact .b7 rfl .s|exact .b7 rfl .l)<|aL<|bx rfl m;exact ii (.xq rfl (a.k (R.b8 r k e<|q r rfl).du) ∅) (aL<|bx rfl m)|e5 b=>refine aZ λNN X=>(c5 h λI vs U e y=>?_);subst U;refine X<|nn rfl (a.k e) rfl (aL<|bJ rfl (dQ (a.k e)<|zj aJ 0 W j b _ _ (hQ (k:=1000) dL (aM (dw y.a5)<|z b rfl) rfl) a R e A y q λd w E l M x=>bJ (b5 (by refine Z x.a5 ?_;have:=z b rfl;exact m2 this))<|bF<|B _ _ _ (l.eK<|.d E) (M.q<|c'.k (q:=0)<|l.bH<|P5 _)<|eb _ E rfl dA (x.bD λ_ _=>e3.m<|.M<|l.bH<|P5 _)))
def xk(f g e:Y)(d c b a:Nat):ax:=ND f g e d c b a
def pM(g h f e:Y)(d c b a:Nat):ax:=Nb g h f e d c b a
theorem Im:cF u m p 58 ((cD (ab 107 0) 5).eg) (List.drop 2<|hK<|cD (ab 107 0) 5) (de h i) (.f a)=h .s:=∅
theorem Ax(NW:A=xk w x t r i h m\/∃NP,A=pM w x t NP r i h m)(f:G W NQ)(R:bh y o W)(NU:y<=40000)(S:W.y i (.h1<|some<|.a W.i.c7))(Q:W.y h (.h1<|some<|.a W.i.di))(X:h6 W v j)(T:pw o j)(P:∀NO,j=.e5 NO->NO.length<=1000)(D:∀d g,G d g->bh (y+1) {o with E:=o.E++[j]} d->df 0 W d->d.O=W.O->U (.f<|pM w x t v r i h m) g):bg u (ag (n+2) p) p 57 ((cD (ab 107 0) 5).eg) (bv (hK<|cD (ab 107 0) 5) 1) (au (hK<|cD (ab 107 0) 5) 1 0) A v U NQ:=by
 refine fj R.cB λH K z L M O=>?_;have bf:∀d g c,G d g->c' 0 W d->dR d c j->J (h5 (.a W.i.di) "append" [c]) (λ_=>U<|.f<|pM w x t v r i h m) g:=λd g c F k NT=>by refine ad k.m.i<|hP F.E (b5<|Z k.E<|aM (aM z NU) #[]) ?_;have e:av d (d.ip c):=.dN rfl rfl rfl rfl rfl;exact D _ _ (F.ip c) (by have R:=R.fb k;refine fj R.cB λH K z L M O=>?_;have e:av d (d.ip c):=.dN rfl rfl rfl rfl rfl;refine⟨⟨R.a5,R.dP,R.bi,R.fI,λNZ D B C=>(R.b8 NZ D B C).b4 e rfl rfl,λNN s NX=>?_,?_,R.eh,(R.E.bD λ_ _=>dR.m e).cj<|.aY (NT.m e) .aP,R.C,R.gl,R.eu,io (QE H) (QE K) (by exact(Z P3<|QZ z:(d.E++[c]).length<=_)) (QE L) (QE M)<|QE O⟩,R.bj⟩;exact bZ (R.bw NN s NX) λc N3 B C=>(bq c N3 B<|C.b4 λ_ _ l=>l);exact ah R.ar λN4 NY NV=>am N4 NY<|j' e (λ_ _ l=>l) NV λ_ _=>rfl) (k.eI.q (q:=0) ⟨e,kM,λ_ _=>rfl,rfl,rfl,λ_ _ b _=>b,λ_ _ l=>l,λNN a NR b NS=>am NR b<|NS.m e⟩) k.O
 rcases NW with rfl|⟨NP,rfl⟩
 exact(bR F4<|b2 (f.k Q)<|fe f.E ∅<|eQ<|xY f R S X T P bf:bg _ _ _ _ _ _ _ ⟨_,_,_⟩ _ _ _);exact(bR Hs<|b2 (f.k Q)<|fe f.E ∅<|eQ<|xY f R S X T P bf:bg _ _ _ _ _ _ _ ⟨_,_,_⟩ _ _ _)
theorem KA:∀(A b a:Nat) (W:N) (l:V) (o:ap) (c:List d7) (h:ax),vs.length - b<A->G W l->bh a o W->a+c.length<=40000->W.y i (.d vs)->W.y t (.h1<|some<|.a W.i.c7)->W.y s (.h1<|some<|.a W.i.di)->be (h6 W) (vs.drop b) c->(∀e∈c,pw o e/\∀P,e=.e5 P->P.length<=1000)->(h=xk Q S (.a i) D t s C\/∃NY,h=pM Q S (.a i) NY D t s C)->(∀d q w,G d q->bh (a+c.length) {o with E:=o.E++c} d->df 0 W d->d.O=W.O->U (.f w) q)->ci (.d<|.a i) (bg u (ag (n+2) p) p 57 ((cD (ab 107 0) 5).eg) (bv (hK<|cD (ab 107 0) 5) 1)<|au (hK<|cD (ab 107 0) 5) 1 0) A b h U l:=by intro N3;induction N3 with|zero=>intro b _ _ _ _ _ _ y _ _ _ _ _ _ _ _ _ _;exact absurd y (Q8 _)|succ A NW=>intro b a W l o c h y r R m M H F f K NU O;refine(ep (r.k M) ?_:J (dv (.d<|.a i) b) _ l);cases k:vs[b]? with|none=>replace f:=(Qj<|PX.1 k)▸f;cases f;exact O W l h r (Z (Q1 ..)<|R.bu<|Q_ _ _) .cK rfl|some v=>have L:=(P1.1 k).1;(have NT:vs.drop b=v::vs.drop (b+1):=by refine Z (Qc L)<|Z ((P1.1 k).2) ?_;rfl);replace f:=NT▸f;cases f with|@aY _ g _ j NS NV=>obtain⟨NQ,NR⟩:=K g<|.head _;have m:a+(j.length+1)<=40000:=m;refine Ax NU r R (aM (fw _ _) m) H F NS NQ NR λNN N4 X R1 z NP=>?_;have e:=z.m;refine NW (b+1) (a+1) NN N4 {o with E:=o.E++[g]} j _ (ga y L) X R1 (an [⟨1,.h (.b 0)<|.h (.b 1)<|.e 1,.e 40000⟩] (.h (.h (.b 0)<|.e 1)<|.b 1) (.e 40000) rfl [a,j.length] m) (e.k _ _ M) (Z e.i<|e.k _ _ H) (Z e.i<|e.k _ _ F) (NV.bD λ_ _=>z.gG) (λx k=>K x<|.tail _ k) (.inr ⟨v,rfl⟩) λd q w T B NX NO=>(O d q w T ?_ (z.q NX)<|NO.trans NP);have NZ:({({o with E:=o.E++[g]}:ap) with E:=(o.E++[g])++j}:ap)={o with E:=o.E++g::j}:=Z (Qf ..) rfl;rw[NZ] at B;exact B.bu (an [] (.h (.h (.b 0)<|.e 1)<|.b 1) (.h (.b 0)<|.h (.b 1)<|.e 1) rfl [a,j.length]:a+1+j.length<=a+(j.length+1))
end
noncomputable def ap.c3(o:ap):ap:={o with S:=o.S++[[]]}
theorem yc:cc a (b+1) o (.cR c)=(ap.dr {(e1 a (cc a b) o.c3 c).1 with E:=(e1 a (cc a b) o.c3 c).1.E++(e1 a (cc a b) o.c3 c).2}).fY:=by exact(Z (Io ..) rfl:ap.wc (c.foldl (lU a<|cc a b) (o.c3,[]))=_)
theorem FH(f:(dk d w).n.length<=1000)(e:(gk d g o w k).2=.e5 c):c.length<=1000:=by rw[oK] at e;unfold fO at e;by_cases b:k=0;replace e:=(P8 b)▸e;cases e;replace e:=(P4 b)▸e;by_cases a:k=2;replace e:=(P8 a)▸e;cases e;exact Z (P6 ..) f;replace e:=(P4 a)▸e;cases e
theorem AQ:∀(f:List (Nat×Nat)) (o:ap),(∀d∈f,(dk g d.1).n.length<=1000)->∀e∈(e1 g i o f).2,∀c,e=.e5 c->c.length<=1000:=by intro k;induction k with|nil=>intro _ _ _ a;exact(Rc a).elim|cons d f h=>intro o b e a;(rcases RD.1 a with rfl|a);exact λc j=>FH (b d<|.head _) j;exact h _ (λx t=>b x<|.tail _ t) e a
section
theorem bh.c3(R:bh e o W):bh e o.c3 W:=by
 have p:o.c3.S.flatten=o.S.flatten:=by refine(?_:(o.S++[[]]).flatten=_);simp
 have f:o.c3.dO=o.dO:=by refine(Z p ?_:o.bP++o.c3.S.flatten=_);rfl
 have c:∀a,cI o.c3 a=cI o a:=λa=>by unfold cI;refine Z f ?_;rfl
 exact fj R.cB λg h i j k l=>ah R.ar λs q b=>⟨⟨R.a5,R.dP,R.bi,R.fI,λa r m n=>by refine Z (c ..) ?_;exact R.b8 a r m n,R.bw,am (s++[[]]) (by refine Z q ?_;simp)<|b.cj<|.aY .aP .aP,R.eh,R.E,R.C,λa d=>by refine Z (c ..) ?_;exact R.gl a d,R.eu,io g h i j (by exact Z f k) l⟩,λa d=>by exact Z (c ..)<|R.bj a d⟩
theorem F8(eM:jY j b c)(J:9<=c)(N_:hY j)(Od:NT+1+b<=100)(Oc:f.length+1+b<=9)(C:G W u)(NZ:bt W)(D:eR W NP)(P:hi W j NT)(NX:cz W (4*W.n) f l)(Of:W.aE.length+1+b<=9)(R:bh m o W)(U:m+3*(2*aW b+8)<=14989)(Oe:W.y r (.A [.l "asks",.a NS]))(NN:W.y NS (.d<|NU.map .a))(I:be (x_ W) NU g)(cE:∀B∈g,qG b B)(p:g.length<=3)(Oi:∀d NV L t,G d NV->bh (m+3*(2*aW b+8)) L d->df 9 W d->d.O=W.O->L.S=o.S++[t]->cc j (b+1) o (.cR g)=L.dr.fY->h .s NV):ag (n+c+5) false (.a NP.kd) [.a W.i.R,.a r,cd] h i u:=by
 refine l2 (C.k D.kd) ∅ H5<|hg<|gR (c8 _ _) ?_;have w:=C.bH<|P5 _;have v:=((C.dh<|.h1 none).fi w<|.h1<|some<|.a W.i.R).n' w (fZ _ _ _)<|P' _;generalize(u.z<|.h1 none).Q u.f (.h1<|some<|.a W.i.R)=Oj at v;generalize u.f=q at*;have s:=(dB.k (z:=.h1<|some<|.a W.i.R) w).eI;have R1:=(R.k (z:=.h1<|some<|.a W.i.R) w).c3;have N':(W.M q<|.h1<|some<|.a W.i.R).y q (.h1<|some<|.a (W.M q<|.h1<|some<|.a W.i.R).i.R):=dA;have X:(W.M q<|.h1<|some<|.a W.i.R).O=W.O:=rfl;generalize W.M q (.h1<|some<|.a W.i.R)=N3 at*;have e:=s.m;refine cL (v.k<|e.k _ _ Oe) rfl (dQ (v.k<|e.k _ _ NN) ?_);have H:g.length*(2*aW b+5)<=3*(2*aW b+5):=QR _ p;refine Kz eM J N_ Od Oc aJ 0 m N3 Oj o.c3 g _ _ (Z I.a5<|rC dL p) v (NZ.m e) (D.m e) (P.eI s) (NX.b3 s X) (Z s.aE Of) R1 (by refine(?_:o.S++[[]]≠[]);simp) (P9 (QT (Qu H m) 20)<|QT U 11) (e.k _ _ NN) N' (I.bD λ_ _=>e.k _ _) cE λN4 NW vs O R2 NR N8 F=>?_;have y:(e1 j (cc j b) o.c3 g).2.length=g.length:=by(have:∀(f:List (Nat×Nat)) (o:ap),(e1 j (cc j b) o f).2.length=f.length:=λf=>by induction f with|nil=>exact λ_=>rfl|cons a f Og=>exact λo=>Q3 (·+1)<|Og _);exact this _ _
 obtain⟨t,NQ,_,Oa⟩:=us (lD b) g o.c3 [] rfl;have Ob:=AQ (i:=cc j b) g o.c3 λB A=>by obtain⟨_,_,_,_,_,_,_,_,_,_,_,_,_,S⟩:=P.f1 B.1 (cE B A).1;have:=S.gC.2.1;exact cv this
 have N7:=yc (a:=j) (b:=b) (o:=o) (c:=g);generalize(e1 j (cc j b) o.c3 g).1=M at*;generalize(e1 j (cc j b) o.c3 g).2=T at*;refine bJ (b5<|Z F.a5<|Z y<|cv p)<|bF<|dQ (c8 _ _) ?_;have NO:=O.bH<|P5 _;have K:=(dB.k (z:=.d vs) NO).eI;have Q:=(D.m<|e.q NR.m).m K.m;obtain⟨c,rfl⟩:∃N6,c=N6+9:=⟨c - 9,mQ J⟩;refine KA aJ 0 (m+g.length*(2*aW b+5)) (N4.M NW.f<|.d vs) (NW.z<|.d vs) M T _ (by show vs.length - 0<aJ;exact Z F.a5<|Z y<|rC dL p) (O.eK<|.d vs) (R2.k NO) (Z y<|P9 (Nat.add_le_add (Qu H m) p)<|P9 (Qo (k:=6) U) #[]) dA Q.fT Q.hB (F.bD λ_ _=>K.gG) (λx A=>⟨(Oa x A).bj R2 NQ,Ob x A⟩) (.inl rfl) λN5 Ok Ol NY R4 Oh N9=>?_;refine Z Im<|Oi N5 Ok {M with E:=M.E++T} t NY (R4.bu<|Z y<|P9 (Nat.add_le_add (Qu H m) p)<|Q_ _ 6) ((((s.q NR).q K).q Oh).bu<|an [⟨3,.b 0,.e 3⟩] (.h (.h (.h (.e 0)<|.x 3<|.b 0)<|.e 0)<|.e 0) (.e 9) rfl [g.length] p) (N9.trans<|N8.trans X) NQ N7
theorem r8(E:9<=c)(N5:hY K)(eM:jY K b c):jY K (b+1) (c+9):=by
 intro n W Op Ol f l o j a r Oc g Oe h i L C A P N9 z N8 N_ R d NO NN N F;by_cases I:∃NP,Oe=.cR NP;obtain⟨NP,rfl⟩:=I;refine eN N λOk N3 cE=>(fj R.cB λNS D X NT NU Y=>?_);have d:=d;refine Z (rfl:n+(c+9)=n+c+6+3)<|qV L C A z (yj d D) (yj d Y) NO 0 λOh E2 _ v=>?_;have R1:bh (j+1) o (W.eA f l g):=qA R;have v:G (W.eA f l g) Oh:=v;have q:df 0 W (W.eA f l g):=r1;have N6:(W.eA f l g).i=W.i:=rfl;have N':(W.eA f l g).u=W.u:=rfl;have J:(W.eA f l g).O=f++[(l.aU<|.c g).bM]:=rfl;generalize W.eA f l g=Oj at*;have B:=q.m;have Q:=C.m B;have O:=A.m B;refine ad N6<|ad N' ?_;cases NN.m B with|@cR Om Oo _ V NZ N4=>refine me v O V rfl (F8 eM E N5 (an [⟨1,.h (.b 0)<|.h (.b 1)<|.e 1,.e 100⟩] (.h (.h (.b 0)<|.e 1)<|.b 1) (.e 100) rfl [Oc,b] N9) (xw N8) v Q O (P.eI q) (z.eI q (.c g) J) (Z q.aE<|xw N_) R1 (an [⟨1,.h (.b 0)<|.h (.x 3<|.h (.x 2<|.b 1)<|.e 8)<|.e 15,.e 15000⟩] (.h (.h (.b 0)<|.e 1)<|.x 3<|.h (.x 2<|.b 1)<|.e 8) (.e 14989) rfl [j,aW b] d) V NZ N4 (λOg u=>eN (cE Og u) λm p NY=>b9 m p NY) N3 λT Oq On t w R2 x NX y NW=>?_);obtain⟨c,rfl⟩:∃NV,c=NV+9:=⟨c - 9,mQ E⟩;have S:=Q.m x.m;refine ad x.m.i<|fj R2.cB λNS D X NT NU Y=>(rD (n:=n+(c+9)+8) w S<|nv (y5 w R1 x #[] R2 y<|an [⟨1,.h (.b 0)<|.h (.x 3<|.h (.x 2<|.b 1)<|.e 8)<|.e 15,.e 15000⟩] (.h (.h (.b 0)<|.e 1)<|.x 3<|.h (.x 2<|.b 1)<|.e 8) (.e 40000) rfl [j,aW b] d) λe U N7 H Od=>L8 (n:=n+c+11) w S R2.C H (λk u=>?_) (λOb F m p=>(R2.bj Ob<|ad R2.a5<|(P1.1 m).1).1 p) (an [⟨1,.h (.b 0)<|.h (.x 3<|.h (.x 2<|.b 1)<|.e 8)<|.e 15,.e 15000⟩,⟨1,.b 2,.h (.h (.b 0)<|.e 1)<|.x 3<|.h (.x 2<|.b 1)<|.e 8⟩] (.b 2) (.e 90000) rfl [j,aW b,T.E.length] d X) (an [⟨1,.h (.b 0)<|.h (.x 3<|.h (.x 2<|.b 1)<|.e 8)<|.e 15,.e 15000⟩,⟨1,.b 2,.h (.h (.b 0)<|.e 1)<|.x 3<|.h (.x 2<|.b 1)<|.e 8⟩] (.b 2) (.e 50000) rfl [j,aW b,T.u.length] d D) λNR Oi M NQ s=>?_);exact cM (R2.mN k<|Z U<|Q9 _ u) λOf m p _=>(am Of m p);refine bs (Gu w.a3 R1 x R2 y U N7 Od s) λR3 Oa=>?_;rw[<-NW] at R3;exact F NR Oi NQ (R3.bu (an [] (.h (.h (.h (.b 0)<|.e 1)<|.x 3<|.h (.x 2<|.b 1)<|.e 8)<|.e 9) (.h (.b 0)<|.h (.x 3<|.h (.x 2<|.b 1)<|.e 8)<|.e 15) rfl [j,aW b]:j+1+3*(2*aW b+8)+9<=j+(3*(2*aW b+8)+15))) (q.q Oa)<|s.O.trans<|NX.trans J
 have e:n+(c+9)=n+c - 2+11:=(Q3 (·+9)<|lg<|aM (aM (#[]:2<=9) E)<|ix c n).symm;exact Z e<|wp L C A z R d NO NN N (λf u=>I ⟨f,u⟩) F
theorem bC(b:hY d):jY d 3 38:=r8 #[] b<|r8 #[] b<|r8 #[] b λn W y u f l o t a r w v x h i g k j P _ e _ _ R m s q c p=>wp g k j e R m s q c (q_ c) p
end
section
set_option genCtorIdx false
set_option genSizeOf false
set_option genInjectivity false
structure a9 where
 o:Nat->Nat
 aF:Nat->Option af
 D:Nat->Option af
noncomputable def iM(l:Nat->Option af)(k:Nat)(v:Option af):Nat->Option af:=λx=>if x=k then v else l x
theorem n8:iM l k v k=v:=P8 rfl
theorem iC(b:x≠k):iM l k v x=l x:=P4 b
def a9.Q(a:a9)(r:Nat)(o:af):a9:={a with aF:=iM a.aF r<|some o}
def a9.z(b:a9)(r a:Nat)(o:af):a9:={b with o:=λx=>if x=r then a else b.o x,aF:=iM b.aF r<|some o}
def a9.a0(b:a9)(a:Nat)(o:af):a9:={b with D:=iM b.D a<|some o}
def a9.gN(a:a9)(r:Nat):a9:={a with aF:=iM a.aF r none}
def a9.d8(a:a9)(r:Nat)(o:af):a9:={a with aF:=iM a.aF r none,D:=iM a.D (a.o r)<|some o}
theorem im{a:a9}:(a.Q r o).aF r=some o:=P8 rfl
theorem f3{a:a9}(b:x≠r):(a.Q r o).aF x=a.aF x:=P4 b
theorem yS{a:a9}:(a.gN r).aF r=none:=P8 rfl
theorem sW{a:a9}(b:x≠r):(a.gN r).aF x=a.aF x:=P4 b
theorem vd{a:a9}:(a.d8 r o).aF r=none:=P8 rfl
theorem lu{a:a9}(b:x≠r):(a.d8 r o).aF x=a.aF x:=P4 b
theorem oW{a:a9}:(a.d8 r o).D (a.o r)=some o:=P8 rfl
theorem i9{b:a9}:(b.z r a o).aF r=some o:=P8 rfl
theorem jt{b:a9}:(b.z r a o).o r=a:=P8 rfl
theorem dM{c:a9}(b:x≠r):(c.z r a o).aF x=c.aF x:=P4 b
theorem gp{c:a9}(b:x≠r):(c.z r a o).o x=c.o x:=P4 b
structure cZ(f:List (Nat×Nat))(b:a9)(c:V):Prop where
 bw:∀r o,b.aF r=some o->c.r (b.o r)=some o/\b.o r<c.f
 inj:∀r e o d,b.aF r=some o->b.aF e=some d->b.o r=b.o e->r=e
 k:∀a o,b.D a=some o->c.r a=some o/\a<c.f
 i3:∀r o a d,b.aF r=some o->b.D a=some d->b.o r≠a
 L:c.L=f
abbrev ca:a9->V->Prop:=cZ []
def eL(b c:Nat->Option af):Prop:=∀a o,b a=some o->c a=some o
theorem eL.cK:eL a a:=λ_ _ b=>b
theorem eL.q(a:eL c d)(g:eL d H):eL c H:=λx o b=>g x o<|a x o b
section
theorem cZ.r{e:List (Nat×Nat)}{a:a9}{c:V}{r:Nat}(d:cZ e a c)(b:a.aF r=some o):c.r (a.o r)=some o:=(d.bw r o b).1
theorem cZ.cg(e:cZ f c d)(b:c.D a=some o):d.r a=some o:=(e.k a o b).1
theorem ll(b:iM l k (some v) x=some w):(x=k/\w=v)\/(x≠k/\l x=some w):=by by_cases a:x=k;subst a;rw[n8] at b;exact .inl ⟨rfl,(P0 b).symm⟩;rw[iC a] at b;exact .inr ⟨a,b⟩
theorem kG(b:iM l k none x=some w):x≠k/\l x=some w:=by by_cases a:x=k;subst a;rw[n8] at b;exact bm b;rw[iC a] at b;exact⟨a,b⟩
theorem cZ.Q{r:Nat}(c:cZ i d j)(b:d.aF r=some o)(h:af):cZ i (d.Q r h) (j.Q (d.o r) h):=by
 have bE:∀{x w},(d.Q r h).aF x=some w->∃w,d.aF x=some w:=λ{x w} a=>by(rcases ll a with⟨rfl,_⟩|⟨_,a⟩);exact⟨_,b⟩;exact⟨_,a⟩
 refine⟨λx w a=>?_,λx t w k a f e=>?_,λg w a=>?_,λx w g k a f=>?_,c.L⟩;refine Z (hM ..) ?_;rcases ll a with⟨rfl,rfl⟩|⟨n,a⟩
 exact⟨P8 rfl,(c.bw _ _ b).2⟩;have:=c.bw _ _ a;exact⟨(P4 λe=>n<|c.inj _ _ _ _ a b e).trans this.1,this.2⟩;obtain⟨_,a⟩:=bE a;obtain⟨_,f⟩:=bE f;exact c.inj _ _ _ _ a f e;have:=c.k g w a;exact Z (hM ..) ⟨(P4 λe=>c.i3 _ _ _ _ b a e.symm).trans this.1,this.2⟩;obtain⟨_,a⟩:=bE a;exact c.i3 _ _ _ _ a f
theorem cZ.fi(a:cZ d c e)(o:af):cZ d c (e.z o):=⟨λx w b=>by have:=a.bw x w b;exact⟨(P4<|Q6 this.2).trans this.1,Rb this.2⟩,a.inj,λg w b=>by have:=a.k g w b;exact⟨(P4<|Q6 this.2).trans this.1,Rb this.2⟩,a.i3,a.L⟩
theorem cZ.a0(a:cZ h d c)(o:af):cZ h (d.a0 c.f o) (c.z o):=⟨(a.fi o).bw,a.inj,λg w b=>by(rcases ll b with⟨rfl,rfl⟩|⟨_,b⟩);exact⟨P8 rfl,P' _⟩;exact(a.fi o).k g w b,λx w g i b f e=>by(rcases ll f with⟨rfl,_⟩|⟨_,f⟩);exact absurd (a.bw _ _ b).2<|Z (e:d.o x=c.f)<|Qn _;exact a.i3 _ _ _ _ b f e,a.L⟩
theorem cZ.bH(e:cZ f c d)(b:c.D a=some o):a≠d.f:=Q6 (e.k a o b).2
theorem cZ.cS(e:cZ f c d):eL c.D (c.a0 d.f o).D:=λa w b=>(iC<|e.bH b).trans b
theorem cZ.z{r:Nat}(d:cZ q c f)(b:c.aF r=none)(o:af):cZ q (c.z r f.f o) (f.z o):=by
 have v:∀{x w},c.aF x=some w->x≠r:=λ{x w} a e=>by rw[e,b] at a;exact bm a
 have bE:∀{x w},(c.z r f.f o).aF x=some w->(x=r/\w=o)\/(c.aF x=some w/\(c.z r f.f o).o x=c.o x):=λ{x w} a=>by(rcases ll a with a|⟨n,a⟩);exact .inl a;exact .inr ⟨a,P4 n⟩
 have i:(c.z r f.f o).o r=f.f:=P8 rfl;refine⟨λx w a=>?_,λx t w u a h e=>?_,λg w a=>(d.fi o).k g w a,λx w g u a h e=>?_,d.L⟩;rcases bE a with⟨rfl,rfl⟩|⟨a,e⟩
 exact Z i ⟨P8 rfl,P' _⟩;exact Z e<|(d.fi o).bw x w a;rcases bE a with⟨p,_⟩|⟨s,j⟩
 rcases bE h with⟨l,_⟩|⟨m,k⟩
 exact p.trans l.symm;rw[p,i,k] at e;exact absurd (d.bw _ _ m).2<|ad e<|Qn _;rcases bE h with⟨l,_⟩|⟨m,k⟩
 rw[j,l,i] at e;exact absurd (d.bw _ _ s).2<|Z e<|Qn _;rw[j,k] at e;exact d.inj _ _ _ _ s m e;rcases bE a with⟨rfl,rfl⟩|⟨a,j⟩
 rw[i] at e;exact d.bH h e.symm;rw[j] at e;exact d.i3 _ _ _ _ a h e
theorem cZ.gN{r:Nat}(a:cZ e d f):cZ e (d.gN r) f:=⟨λx w b=>a.bw x w (kG b).2,λx t w c b h=>a.inj x t w c (kG b).2 (kG h).2,a.k,λx w g c b=>a.i3 x w g c (kG b).2,a.L⟩
theorem cZ.d8{r:Nat}(c:cZ h f j)(b:f.aF r=some o):cZ h (f.d8 r o) j:=⟨λx w a=>c.bw x w (kG a).2,λx t w i a d=>c.inj x t w i (kG a).2 (kG d).2,λg w a=>by(rcases ll a with⟨rfl,rfl⟩|⟨_,a⟩);exact c.bw r _ b;exact c.k g w a,λx w g i a d e=>by refine bs (kG a) λn a=>?_;(rcases ll d with⟨rfl,_⟩|⟨_,d⟩);exact n<|c.inj _ _ _ _ a b e;exact c.i3 _ _ _ _ a d e,c.L⟩
theorem cZ.nk{r:Nat}(f:cZ g c h)(b:c.aF r=some o):eL c.D (c.d8 r o).D:=λa w d=>(iC λe=>f.i3 _ _ _ _ b d e.symm).trans d
end
end
def gx(b:Nat->Option af)(v:Y)(s:Int):Prop:=(s= -1/\v=.c (-1))\/∃a:Nat,s=a/\∃c d,v=.a c/\b c=some (.A [.c a,.a d])/\b d=some (.d [.c (70+a:Nat)])
def fW(b:Nat->Option af)(v:Y):d7->Prop|.aX c=>∃a,v=.a a/\b a=some (.A [.l "gone",.c (c:Nat)])|.fv s=>gx b v s|.e5 f=>∃a vs,v=.a a/\b a=some (.d vs)/\be (gx b) vs f
theorem gx.cS(e:eL a c)(b:gx a v s):gx c v s:=by
 rcases b with b|⟨i,d,j,k,f,g,h⟩
 exact .inl b;exact .inr ⟨i,d,j,k,f,e _ _ g,e _ _ h⟩
theorem fW.cS(e:eL g h)(b:fW g v x):fW h v x:=by induction x with|aX j=>obtain⟨d,a,c⟩:=b;exact am d a (e _ _ c)|fv s=>exact gx.cS e b|e5 f=>obtain⟨d,vs,a,c,i⟩:=b;exact eb d vs a (e _ _ c)<|i.bD λ_ _=>gx.cS e
noncomputable def eY(a:a9)(o:ap):List (Y×Y):=[(.l "holds",.a<|a.o 2),(.l "made",.c (o.L:Nat)),(.l "gone",.a<|a.o 3),(.l "kept",.a<|a.o 4),(.l "log",.a<|a.o 5)]
noncomputable def dZ(a:a9)(n:Nat):List Y:=(List.range n).map λb=>.a<|a.o<|6+b
structure bS(c:Nat)(a:a9)(o:ap):Prop where
 e9:a.aF 1=some (.K<|eY a o)
 gP:a.aF 2=some (.d<|o.bP.map .c)
 fS:a.aF 3=some (.d<|o.aX.map λb=>.c (b:Nat))
 fn:a.aF 4=some (.d<|dZ a o.S.length)
 fb:∀d e,o.S[d]?=some e->a.aF (6+d)=some (.d<|e.map .c)
 aA:∀d,o.S.length<=d->a.aF (6+d)=none
 eZ:∃vs,a.aF 5=some (.d vs)/\be (fW a.D) vs o.E
 dP:o.bP.length=3
 gG:∀s∈o.bP,s= -1\/∃b:Nat,s=b/\b<=c
 eG:o.aX.Nodup
 eu:∀b∈o.aX,b<o.L
 iJ:o.E.length+o.L<=o.aX.length+c
 L:o.L<=c
 cu:o.S.flatten.length<=c/\o.S.length<=c
theorem oh{f:List Int}(b:∀s∈f,s= -1\/∃c:Nat,s=c/\c<=d)(e:d<=j):∀s∈f,s= -1\/∃c:Nat,s=c/\c<=j:=λs h=>(b s h).imp id λ⟨c,a,g⟩=>⟨c,a,P9 g e⟩
theorem tK{f:List Nat}(b:f.Nodup)(a:∀c∈f,c<n):f.length<=n:=by have:=tt (p:=List.range n) b λx d=>List.mem_range.2<|a x d;rw[List.length_range] at this;exact this
theorem bS.vN(a:bS b c o):o.E.length<=b:=by exact Nat.le_of_add_le_add_right<|aM a.iJ<|aM (o_ (tK a.eG a.eu) _)<|dw<|Nat.add_comm ..
noncomputable def o4(c:V)(x:Y):List Y:=match x with
 |.a a=>(match c.r a with|some (.d b)=>b|_=>[])
 |_=>[]
theorem u3(b:d.r a=some (.d c)):o4 d (.a a)=c:=by unfold o4;dsimp only;exact Z b rfl
theorem xV:∀f:List Int,mv (.c x) (f.map .c)=some (f.any (·==x)):=by intro b;induction b with|nil=>exact rfl|cons t r a=>exact(Z a rfl:((mv (.c x)<|r.map .c).map λg=>t==x||g)=_)
section
theorem cZ.sF(c:cZ i g d)(b:∀a,e.r a=d.r a)(h:e.f=d.f)(j:e.L=d.L):cZ i g e:=⟨λr o f=>by refine Z (b ..)<|Z (h ..) ?_;exact c.bw r o f,c.inj,λa o f=>by refine Z (b ..)<|Z (h ..) ?_;exact c.k a o f,c.i3,j.trans c.L⟩
theorem cZ.h1(f:cZ e d c)(v:Y):cZ e (d.a0 c.f<|.h1<|some v) ((c.z<|.h1 none).Q c.f<|.h1<|some v):=(f.a0<|.h1<|some v).sF (λa=>by refine Z (hM ..)<|Z (hh ..)<|Z (hh ..) ?_;by_cases b:a=c.f;refine Z (P8 b)<|Z (P8 b) ?_;rfl;refine Z (P4 b)<|Z (P4 b)<|Z (P4 b) ?_;rfl) rfl rfl
theorem dJ{b:a9}:(b.a0 a o).D a=some o:=n8
theorem BS:∀{d:List (List Int)} {c:List Nat},be (λa e=>f.r a=some (.d<|e.map .c)) c d->(c.map Y.a).flatMap (o4 f)=d.flatten.map .c:=by intro _ _ h;induction h with|aP=>exact rfl|@aY a e _ _ b i g=>exact Z QM<|Z List.flatMap_cons<|Z g<|Z QX<|Z Rd<|Z (u3 b) rfl
theorem bS.La(j:ca f h)(k:bS i f o):be (λa (d:List Int)=>h.r a=some (.d<|d.map .c)) ((List.range o.S.length).map λc=>f.o<|6+c) o.S:=by
 have l:∀(e:List (List Int)) (q:Nat),(∀c d,e[c]?=some d->f.aF (6+(q+c))=some (.d<|d.map .c))->be (λa (d:List Int)=>h.r a=some (.d<|d.map .c)) ((List.range' q e.length).map λc=>f.o<|6+c) e:=λe=>by induction e with|nil=>exact λ_ _=>.aP|cons d e m=>exact λq b=>.aY (j.r<|b 0 d rfl)<|m (q+1) λc n g=>Z (Nat.add_right_comm _ _ _:q+1+c=q+(c+1))<|b (c+1) n g
 have:=l o.S 0 λc d g=>Z (Nat.zero_add ..)<|k.fb c d g;exact Z List.range_eq_range' this
theorem bS.lv{e:a9}{o:ap}{k:Nat}{c:List (List Int)}{t:List Int}(d:bS k e o)(y:o.S=c++[t]):bS k ((e.Q 4<|.d<|dZ e c.length).gN<|6+c.length) o.dr:=by have h:o.dr.S=c:=(Z y<|Z QJ rfl:o.S.dropLast=c);have n:o.S.length=c.length+1:=Z y<|Z P3 rfl;have j:∀{x w},x<6->x≠4->e.aF x=some w->((e.Q 4<|.d<|dZ e c.length).gN<|6+c.length).aF x=some w:=λp q b=>(iC<|Il p).trans<|(iC q).trans b;refine ah d.eZ λvs r s=>⟨j #[] #[] d.e9,j #[] #[] d.gP,j #[] #[] d.fS,?_,λi u f=>?_,λi f=>?_,am vs (j #[] #[] r) s,d.dP,d.gG,d.eG,d.eu,d.iJ,d.L,?_⟩;exact Z h<|Z (rfl:dZ ((e.Q 4<|.d<|dZ e c.length).gN<|6+c.length) c.length=dZ e c.length)<|(iC nu).trans (n8:iM e.aF 4 (some<|.d<|dZ e c.length) 4=_);rw[h] at f;have m:=(P1.1 f).1;exact(iC<|vE m).trans<|(iC mi).trans<|d.fb i u (by refine Z y<|Z (RA m) ?_;exact f);replace f:=h▸f;by_cases l:i=c.length;exact Z l n8;exact(iC λv=>l<|nD v).trans<|(iC mi).trans<|d.aA i<|aM (dw n)<|Nat.lt_of_le_of_ne f<|Qy l;refine bs d.cu λa g=>(Z h ?_);rw[y,List.flatten_append,P3] at a;exact⟨aM (fw _ _) a,an [⟨1,.h (.b 1)<|.e 1,.b 0⟩,⟨1,.b 0,.b 2⟩] (.b 1) (.b 2) rfl [o.S.length,c.length,k] (P2 n.symm) g⟩
theorem bS.a0(b:bS d c o)(e:eL c.D (c.a0 a z).D):bS d (c.a0 a z) o:=by exact ah b.eZ λvs f g=>⟨b.e9,b.gP,b.fS,b.fn,b.fb,b.aA,am vs f<|g.bD λ_ _=>fW.cS e,b.dP,b.gG,b.eG,b.eu,b.iJ,b.L,b.cu⟩
theorem g1(c:ca a b)(g:bS f a o)(i:a.D d=some (.h1<|some<|.a<|a.o 1))(j:dn (.l e) (eY a o)=some v)(k:h v b):J (b6 d) (λw=>J (ce w<|.l e) h) b:=b2 (c.cg i)<|gZ (c.r g.e9) rfl j k
theorem zs{K:Y->bI->aa}(l:ca b H)(e:bS h b o)(g:h<=90000)(y:o.S=a++[t])(M:b.D f=some (.h1<|some<|.a<|b.o 1))(NP:∀n R,ca (((b.Q 4<|.d<|dZ b a.length).gN<|6+a.length).a0 n<|.d<|o.dr.dO.map .c) R->bS h (((b.Q 4<|.d<|dZ b a.length).gN<|6+a.length).a0 n<|.d<|o.dr.dO.map .c) o.dr->eL b.D (((b.Q 4<|.d<|dZ b a.length).gN<|6+a.length).a0 n<|.d<|o.dr.dO.map .c).D->K (.a n) (.cf o.L) R):(J (b6 f) λNV=>J (ce NV<|.l "kept") λNZ=>aQ m NZ "pop" (λS=>S []) (λOa=>J (b6 f) λNW=>J (ce NW<|.l "holds") λN3=>J (b6 f) λNX=>J (ce NX<|.l "kept") λN4=>bY N4 λNS=>bo NS (λN5 W T=>bY N5 λNT=>bo NT (λN7 X N'=>X [N7]) aJ 0 W T) aJ 0 (λQ=>if Nat.ble Q.length bl then J (a4<|.d Q) (λNQ=>J (bW .Add N3 NQ) λNR=>J (b6 f) λNY=>J (ce NY<|.l "made") λN6=>fB N6 λNU=>K NR NU) else ae) aB) i) H:=by
 have c:=e.lv y;obtain⟨s,B⟩:=c.cu;have N:=s;have u:o.dr.S=a:=(Z y<|Z QJ rfl:o.S.dropLast=a);have NN:dZ b o.S.length=dZ b a.length++[.a<|b.o<|6+a.length]:=by refine Z (Z y<|Z P3 rfl:o.S.length=a.length+1) ?_;unfold dZ;refine Z List.range_succ<|Z Rd ?_;rfl
 have O:=l.r e.fn;rw[NN] at O;rw[u] at s B;refine g1 l e M ∅<|fe (l.r e.fn) ∅<|ox O (b5<|by exact Z P3<|Z (P6 ..)<|Z (List.length_range ..) (an [⟨1,.b 0,.e 90000⟩,⟨1,.b 1,.b 0⟩] (.h (.b 1)<|.e 1) (.e 1000000) rfl [h,a.length] g B:a.length+1<=_)) ?_;have d:=(l.Q e.fn<|.d<|dZ b a.length).gN (r:=6+a.length);generalize H.Q (b.o 4) (.d<|dZ b a.length)=N_ at d;have L:((b.Q 4<|.d<|dZ b a.length).gN<|6+a.length).D=b.D:=rfl;have G:((b.Q 4<|.d<|dZ b a.length).gN<|6+a.length).o=b.o:=rfl;generalize(b.Q 4<|.d<|dZ b a.length).gN (6+a.length)=j at*;have C:j.D f=some (.h1<|some<|.a<|j.o 1):=Z L<|Z G M;refine g1 d c C (v:=.a<|j.o 2) ∅<|g1 d c C ∅<|dQ (d.r c.fn)<|kR (d.r c.fn) (l:=o4 N_) (λx NO q E' P=>?_) aJ 0 _ _ (by exact Z (P6 ..)<|Z (List.length_range ..)<|Z (u ..)<|hQ (k:=90000) dL (aM B g) rfl) ?_;refine ah (Qa.1 NO) λF E N9=>?_;subst N9;rw[List.mem_range] at E;have D:=d.r<|c.fb F _<|RB E;rw[u3 D] at P;refine dQ D<|kR D (λ_ _ _ _ N8=>N8) aJ 0 _ _ ?_ ?_;refine Z (P6 ..) ?_;exact Nat.lt_of_le_of_lt (P9 (List.sublist_flatten_of_mem<|List.getElem_mem E).length_le<|P9 N g)<|Ra #[] dL;exact Z (Qq ..)<|Z (t7 ..)<|Z (List.map_id' ..) P;rw[Qq,show dZ j o.dr.S.length=((List.range o.dr.S.length).map λF=>j.o<|6+F).map .a from by refine Z List.map_map ?_;rfl,BS<|c.La d,u];refine bJ (b5<|Z (P6 ..)<|nJ g s)<|bF ?_;have w:=d.fi<|.d<|a.flatten.map .c;refine qh (w.r c.gP) (c8 _ _) (b5 (by refine Z (P6 ..)<|Z (P6 ..) ?_;have:=c.dP;exact an [⟨1,.b 0,.e 3⟩,⟨1,.b 1,.e 90000⟩,⟨1,.b 2,.b 1⟩] (.h (.b 0)<|.b 2) (.e 1000000) rfl [o.dr.bP.length,h,a.flatten.length] (P2 this) g s)) ?_;have z:=w.a0<|.d<|o.dr.bP.map .c++a.flatten.map .c;have p:=w.cS (o:=.d<|o.dr.bP.map .c++a.flatten.map .c);have U:o.dr.dO.map Y.c=o.dr.bP.map .c++a.flatten.map .c:=by refine Z Rd<|Z u ?_;rfl
 have A:=c.a0 p;refine g1 z A (p _ _ C) ∅<|jK (nJ g e.L:o.dr.L<=1000000) ?_;rw[<-U] at z A p⊢;exact NP _ _ z A<|ad L p
end
def ap.lN(o:ap)(b:Nat):List Nat:=(List.range b).filter λa=>!o.dO.contains (a:Int)&&!o.aX.contains a
def ap.ia(o:ap)(a:Nat):ap:={o with aX:=o.aX++o.lN a,E:=o.E++(o.lN a).map .aX}
noncomputable def ap.mA(o:ap)(a:Nat):ap:={o with aX:=o.aX++[a],E:=o.E++[.aX a]}
theorem vW{o:ap}{a:Nat}:o.lN (a+1)=o.lN a++if(a:Int)∉o.dO/\a∉o.aX then[a] else[]:=by unfold ap.lN;refine Z (List.range_succ ..)<|Z (List.filter_append ..) ?_;congr 1;by_cases b:(a:Int)∈o.dO;refine Z (P4 λd=>d.1 b) ?_;simp[b];by_cases c:a∈o.aX;refine Z (P4 λd=>d.2 c) ?_;simp[c];refine Z (P8 ⟨b,c⟩) ?_;simp[b,c]
theorem JK{o:ap}{a:Nat}(b:(a:Int)∈o.dO\/a∈o.aX):o.ia (a+1)=o.ia a:=by unfold ap.ia;exact Z (vW ..)<|Z (P4 λc=>b.elim c.1 c.2 ..)<|Z (Q1 ..) rfl
theorem L'{o:ap}{a:Nat}(b:(a:Int)∉o.dO)(c:a∉o.aX):o.ia (a+1)=(o.ia a).mA a:=by delta ap.ia ap.mA;exact Z (vW ..)<|Z (P8 ⟨b,c⟩ ..)<|Z (Rd ..)<|ad (Qf ..)<|ad (Qf ..) rfl
theorem v7{o:ap}:a∈(o.ia a).aX↔a∈o.aX:=by refine(?_:a∈o.aX++o.lN a↔_);rw[PY];exact⟨λb=>b.elim id λc=>absurd (List.mem_range.1 (List.mem_filter.1 c).1)<|Qn _,.inl⟩
theorem oC{f:List Int}:f.any (·==x)=true↔x∈f:=by rw[List.any_eq_true];exact⟨λ⟨t,b,e⟩=>eq_of_beq e▸b,λb=>am x b<|Qz _⟩
structure ea(a b:a9):Prop where
 D:eL a.D b.D
 o:∀r,r<=5->b.o r=a.o r
theorem ea.cK:ea a a:=⟨.cK,λ_ _=>rfl⟩
theorem ea.q(a:ea c d)(g:ea d e):ea c e:=⟨a.D.q g.D,λr b=>(g.o r b).trans<|a.o r b⟩
section
theorem bS.mA(d:bS j f o)(t:c<o.L)(s:c∉o.aX)(e:eL f.D (f.a0 i<|.A [.l "gone",.c (c:Nat)]).D)(y:f.aF 5=some (.d vs))(r:be (fW f.D) vs o.E):bS j (((f.Q 3<|.d<|(o.aX.map λc=>.c (c:Nat))++[.c (c:Nat)]).a0 i<|.A [.l "gone",.c (c:Nat)]).Q 5<|.d<|vs++[.a i]) (o.mA c):=by have k:∀{x w},x≠3->x≠5->f.aF x=w->(((f.Q 3<|.d<|(o.aX.map λc=>.c (c:Nat))++[.c (c:Nat)]).a0 i<|.A [.l "gone",.c (c:Nat)]).Q 5<|.d<|vs++[.a i]).aF x=w:=λm n b=>(f3 n).trans<|(f3 m).trans b;refine⟨k #[] #[] d.e9,k #[] #[] d.gP,?_,k #[] #[] d.fn,λl u h=>k r_ ob<|d.fb l u h,λl h=>k r_ ob<|d.aA l h,am (vs++[.a i]) im<|(r.bD λ_ _=>fW.cS e).cj<|.aY (am i rfl dJ) .aP,d.dP,d.gG,?_,λx h=>?_,?_,d.L,d.cu⟩;exact(f3 #[]).trans<|(im:(f.Q 3<|.d<|(o.aX.map λc=>.c (c:Nat))++[.c (c:Nat)]).aF 3=_).trans (Z Rd rfl:_=some (af.d<|(o.aX++[c]).map _));exact Qh.2<|b9 d.eG (by simp) λa p g q v=>s<|ad (Re.1 q)<|ad v p;refine Or.elim (PY.1 h) (λh=>?_) λh=>?_;exact d.eu x h;exact Z (Re.1 h) t;have:=d.iJ;refine(?_:(o.E++[_]).length+o.L<=(o.aX++[c]).length+j);exact Z P3<|Z P3 (an [⟨1,.h (.b 0)<|.b 1,.h (.b 2)<|.b 3⟩] (.h (.h (.b 0)<|.e 1)<|.b 1) (.h (.h (.b 2)<|.e 1)<|.b 3) rfl [o.E.length,o.L,o.aX.length,j] this:o.E.length+1+o.L<=o.aX.length+1+j)
theorem GQ{a:Nat}{A:List Int}(f:ca d k)(c:bS l d o)(B:l<=90000)(q:d.D h=some (.h1<|some<|.a<|d.o 1))(T:d.D w=some (.d<|A.map .c))(W:a<o.L)(E:((a:Int)∈A\/a∈o.aX)->j k)(X:(a:Int)∉A->a∉o.aX->∀n K,ca n K->bS l n (o.mA a)->ea d n->j K):(cU (λO=>if O then(J (b6 h) λG=>J (ce G<|.l "gone") λz=>aQ m z "append" (λL=>L [.c (a:Nat)]) (λNQ=>J (b6 h) λNN=>J (ce NN<|.l "log") λD=>aQ m D "append" (λM=>J (a4<|.A [.l "gone",.c (a:Nat)]) λU=>M [U]) (λNP=>j) E1) E2) else j) λs=>J (cW .NotIn (.c (a:Nat))<|.a w) λP=>J (dD P) λR=>dc .And R s<|J (b6 h) λN=>J (ce N<|.l "gone") λNO=>J (cW .NotIn (.c (a:Nat)) NO) λQ=>J (dD Q) λS=>dc .And S s<|s true) k:=by
 refine eQ<|uX (f.cg T) (xV A)<|aL ?_;by_cases b:(a:Int)∈A;exact Z (oC.2 b)<|jb rfl (bx rfl (E<|.inl b));refine Z (Bool.eq_false_iff.2 λt=>b<|oC.1 t)<|hJ rfl (g1 f c q ∅<|uX (g:=(o.aX.map Int.ofNat).any (·==(a:Int))) (f.r c.fS) (ad (xV ..)<|Z (List.map_map ..) rfl)<|aL ?_);have C:(a:Int)∈o.aX.map Int.ofNat↔a∈o.aX:=by rw[Qa];exact⟨λ⟨x,b,e⟩=>(Int.ofNat.inj e:x=a)▸b,λb=>⟨a,b,rfl⟩⟩
 by_cases i:a∈o.aX;exact Z (oC.2<|C.2 i)<|jb rfl (bx rfl (E<|.inr i));refine Z (Bool.eq_false_iff.2 λt=>i<|C.1<|oC.1 t)<|ah c.eZ λvs F H=>(hJ rfl (bJ rfl (g1 f c q ∅<|fe (f.r c.fS) ∅<|hP (f.r c.fS) (b5<|Z (P6 ..)<|nJ B<|P9 (tK c.eG c.eu) c.L) ?_)));have g:=f.Q c.fS<|.d<|(o.aX.map λa=>.c (a:Nat))++[.c (a:Nat)];generalize k.Q (d.o 3) (.d<|(o.aX.map λa=>Y.c (a:Nat))++[Y.c (a:Nat)])=NR at g;have p:(d.Q 3<|.d<|(o.aX.map λa=>.c (a:Nat))++[.c (a:Nat)]).aF 5=some (.d vs):=(f3 #[]).trans F;refine b2 (g.cg (q:(d.Q 3 _).D h=_))<|gZ (g.r<|(f3 #[]).trans c.e9) rfl (v:=.a<|d.o 5) ∅ (fe (g.r p) ∅<|bF ?_);have u:=g.a0<|.A [.l "gone",.c (a:Nat)];have y:=g.cS (o:=.A [.l "gone",.c (a:Nat)]);exact hP (u.r p) (b5<|Z H.a5<|nJ B c.vN)<|X b i _ _ (u.Q (r:=5) p _) (c.mA W i y F H) ⟨y,λ_ _=>rfl⟩
theorem zm:cF u m p 55 (as 110 0) (List.drop 5<|ab 110 0) (de h i) (.f a)=h .s:=∅
def q5(c:Y)(e d:Option Y)(a cs b:Nat):ax:=match e,d with
 |none,none=>(NA c (.a a) cs b)
 |none,some x=>(M9 c (.a a) x cs b)
 |some v,none=>(Nm c v (.a a) cs b)
 |some v,some x=>M' c v (.a a) x cs b
theorem y6{o:ap}(N:l<=90000):∀(k a:Nat) (e:a9) (f:V) (A:Option Y),o.L - a<k->a<=o.L->ca e f->bS l e (o.ia a)->e.D g=some (.h1<|some<|.a<|e.o 1)->e.D q=some (.d<|o.dO.map .c)->(∀c d,ca c d->bS l c o.fY->ea e c->h .s d)->ci (.cf o.L) (bg u m p 54 (as 110 0) (bv (ab 110 0) 4)<|au (ab 110 0) 4 0) k a (q5 L B A q cs g) (cF u m p 55 (as 110 0) (List.drop 5<|ab 110 0)<|de h i) f:=by intro NW;induction NW with|zero=>intro a _ _ _ b _ _ _ _ _ _;exact absurd b (Q8 _)|succ k NN=>intro a e f A y G s v F E H;refine(ho ?_:J (dv (.cf o.L) a) _ f);by_cases b:a<o.L;refine Z (P8 b) ?_;have r:∀(n:aa) (E1 E2:Y->aa),(∀c d,ca c d->bS l c (o.ia<|a+1)->ea e c->n d)->(cU (λS=>if S then(J (b6 g) λNR=>J (ce NR<|.l "gone") λz=>aQ m z "append" (λM=>M [.c (a:Nat)]) (λNZ=>J (b6 g) λNS=>J (ce NS<|.l "log") λD=>aQ m D "append" (λO=>J (a4<|.A [.l "gone",.c (a:Nat)]) λNP=>O [NP]) (λNY=>n) E1) E2) else n) λx=>J (cW .NotIn (.c (a:Nat))<|.a q) λT=>J (dD T) λX=>dc .And X x<|J (b6 g) λNQ=>J (ce NQ<|.l "gone") λNT=>J (cW .NotIn (.c (a:Nat)) NT) λW=>J (dD W) λU=>dc .And U x<|x true) f:=λn E1 E2 K=>GQ s v N F E b (λC=>K e f s (Z (JK<|C.imp id v7.1) v) .cK) λNU NV c d t w j=>K c d t (Z (L' NU λC=>NV<|v7.2 C) w) j;have bf:∀c d,ca c d->bS l c (o.ia<|a+1)->ea e c->ci (.cf o.L) (bg u m p 54 (as 110 0) (bv (ab 110 0) 4)<|au (ab 110 0) 4 0) k (a+1) (q5 L B (some<|.c (a:Nat)) q cs g) (cF u m p 55 (as 110 0) (List.drop 5<|ab 110 0)<|de h i) d:=λc d t w j=>NN (a+1) c d _ (ga y b) b t w (Z (j.o 1 #[])<|j.D _ _ F) (j.D _ _ E) λR NX P Q NO=>H R NX P Q<|j.q NO;refine(?_:bg _ _ _ _ _ _ _ _ _ _ _);cases B<;>cases A<;>show bg _ _ _ _ _ _ _ ⟨_,_,_⟩ _ _ _;exact bR Hb<|r _ _ _ bf;exact bR Mh<|r _ _ _ bf;exact bR AU<|r _ _ _ bf;exact bR Ib<|r _ _ _ bf;refine Z (P4 b) (Z zm ?_:(cF u m p 55 (as 110 0) (List.drop 5<|ab 110 0)<|de h i) (.f _) f);have:a=o.L:=Q0 (an [⟨1,.b 0,.b 1⟩] (.b 0) (.b 1) rfl [a,o.L] G)<|an [⟨1,.b 1,.b 0⟩] (.b 1) (.b 0) rfl [a,o.L] (Nat.le_of_not_lt b);subst this;exact H e f s v .cK
end
inductive ef(a:Nat->Option af):Nat->cC->Prop
 |e8 {r b}:a r=some (.A [.l "drop",.c (b:Nat)])->ef a r (.e8 b)
 |fc {r b c}:a r=some (.A [.l "move",.c (b:Nat),.c (c:Nat)])->ef a r (.fc b c)
 |eS {r b}:a r=some (.A [.l "make",.c (b:Nat)])->ef a r (.eS b)
 |cR {r f d g}:a r=some (.A [.l "asks",.a f])->a f=some (.d<|d.map .a)->be (λh (e:Nat×Nat)=>a h=some (.A [.c (e.1:Nat),.c (e.2:Nat)])) d g->ef a r (.cR g)
theorem ef.cS(b:ef d r h)(e:eL d f):ef f r h:=by induction b with|e8 a=>exact .e8 (e _ _ a)|fc a=>exact .fc (e _ _ a)|eS a=>exact .eS (e _ _ a)|cR a g c=>exact .cR (e _ _ a) (e _ _ g)<|c.bD λ_ _=>e _ _
structure kY(c:Nat->Option af)(a:Nat)(s:bU):Prop where
 bO:∃g e d,c a=some (.d<|(g++[e]).map .a)/\be (ef c) g s.a2/\c e=some (.A [.l<|if s.d2 then"back" else"gives",.a d])/\c d=some (.d<|s.n.map λb=>.c (b:Nat))
 cu:s.a2.length<=2
 gC:s.n≠[]/\s.n.length<=2/\∀b∈s.n,b<3
 mP:∀h∈s.a2,∀f,h=.cR f->f.length<=3
theorem kY.cS(b:kY c a s)(e:eL c d):kY d a s:=by exact h' b.bO λm l j f g h i=>⟨kN m l j (e _ _ f) (g.bD λ_ _ k=>k.cS e) (e _ _ h)<|e _ _ i,b.cu,b.gC,b.mP⟩
structure fR(a:Nat->Option af)(d:Nat)(c:List bU):Prop where
 bO:∃b,a d=some (.d<|b.map .a)/\be (kY a) b c
 nG:c.length=3
theorem fR.cS(b:fR a f d)(e:eL a c):fR c f d:=by exact ah b.bO λg h i=>⟨am g (e _ _ h)<|i.bD λ_ _ j=>j.cS e,b.nG⟩
theorem sZ{R:e->d->Prop}{a:List e}{g:List d}(h:be R a g):∀{c:Nat} {t:d},g[c]?=some t->∃x,a[c]?=some x/\R x t:=by induction h with|aP=>exact λb=>bm b|aY x _ f=>intro c t b;induction c with|zero=>exact am _ rfl (P0 b▸x)|succ c=>exact f b
section
theorem fR.r(b:fR d.D j c)(k:ca d g)(f:w<3)(o:∀a,kY d.D a (dk c w)->h (.a a) g):J (ce (.a j)<|.c (w:Nat)) h g:=by
 refine ah b.bO λl m i=>?_;have n:c[w]?=some (dk c w):=by unfold dk;refine Z (RB<|Z b.nG f) ?_;rfl
 exact ah (sZ i n) λa e s=>g2 (k.cg m) (by refine Z (P6 ..)<|Z ((i.a5.trans b.nG) ..)<|Z (it f (h3 f) ..) (Z Q7 ?_:(l.map Y.a)[w]?=_);refine Z e ?_;rfl)<|o a s
theorem bS.CE(c:bS k e o):bS (k+1) ((e.z (6+o.S.length) a<|.d []).Q 4<|.d<|dZ e o.S.length++[.a a]) o.c3:=by
 have g:∀{x w},x≠4->x≠6+o.S.length->e.aF x=w->((e.z (6+o.S.length) a<|.d []).Q 4<|.d<|dZ e o.S.length++[.a a]).aF x=w:=λn p b=>(f3 n).trans<|(dM p).trans b;have h:∀{x},x≠6+o.S.length->((e.z (6+o.S.length) a<|.d []).Q 4<|.d<|dZ e o.S.length++[.a a]).o x=e.o x:=λb=>gp (o:=.d []) b;have i:o.c3.S.length=o.S.length+1:=by refine(?_:(o.S++[[]]).length=_);refine Z P3 ?_;rfl
 refine ah c.eZ λvs r s=>⟨?_,g #[] rs c.gP,g #[] rP c.fS,?_,λf t d=>?_,λf d=>?_,am vs (g #[] rm r) s,c.dP,oh c.gG<|Q4 _,c.eG,c.eu,QE c.iJ,QE c.L,?_⟩;refine g #[] vf<|c.e9.trans ?_;unfold eY;refine Z (h rs)<|Z (h rP)<|Z (h nu)<|Z (h rm) ?_;rfl;refine Z i<|im.trans ?_;rw[show dZ ((e.z (6+o.S.length) a<|.d []).Q 4<|.d<|dZ e o.S.length++[.a a]) (o.S.length+1)=dZ e o.S.length++[.a a] from ?_];refine(Z List.range_succ<|Z Rd ?_:(List.range<|o.S.length+1).map _=_);congr 1;exact QB λf d=>Z ((λf d=>h<|vE d) f<|List.mem_range.1 d) rfl;exact Q3 (λx=>[Y.a x])<|jt (o:=.d []);by_cases j:f=o.S.length;subst j;have:o.c3.S[o.S.length]?=some []:=e6 _ _;rw[this] at d;obtain rfl:=P0 d;exact(f3 mi).trans i9;have q:f<o.S.length:=by have:=(P1.1 d).1;exact iF (gH this<|dw i) j
 rw[show o.c3.S[f]?=o.S[f]? from RA q] at d;exact g mi (λu=>j<|nD u)<|c.fb f t d;rw[i] at d;exact g mi (λb=>cV [⟨1,.h (.b 0)<|.e 1,.b 1⟩,⟨1,.h (.e 6)<|.b 1,.h (.e 6)<|.b 0⟩] rfl [o.S.length,f] d (P2 b))<|c.aA f<|gw d;refine bs c.cu λl m=>?_;have:o.c3.S.flatten=o.S.flatten:=by refine(?_:(o.S++[[]]).flatten=_);simp
 exact Z this<|Z i ⟨eP l,oE m⟩
theorem bS.fJ(a:bS f e o){s:Int}(j:s= -1\/∃h:Nat,s=h/\h<=f):bS f (e.Q 2<|.d<|(o.bP.map .c).set b<|.c s) (o.fJ b s):=by
 have d:∀{x w},x≠2->e.aF x=w->(e.Q 2<|.d<|(o.bP.map .c).set b<|.c s).aF x=w:=λi b=>(f3 i).trans b;refine⟨d #[] a.e9,?_,d #[] a.fS,d #[] a.fn,λg m c=>d qL<|a.fb g m c,λg c=>d qL<|a.aA g c,?_,?_,λx c=>?_,a.eG,a.eu,a.iJ,a.L,a.cu⟩;exact im.trans<|Z (rfl:(o.fJ b s).bP=o.bP.set b s)<|Z List.map_set rfl;exact ah a.eZ λvs k l=>(am vs (d #[] k) l);exact(Z List.length_set a.dP:(o.bP.set b s).length=3);rcases List.mem_or_eq_of_mem_set c with c|rfl
 exact a.gG x c;exact j
theorem bS.eS{c:a9}{o:ap}{g:Nat}(a:bS g c o):bS (g+1) (c.Q 1<|.K<|eY c {o with L:=o.L+1}) {o with L:=o.L+1}:=by have d:∀{x w},x≠1->c.aF x=w->(c.Q 1<|.K<|eY c {o with L:=o.L+1}).aF x=w:=λj b=>(f3 j).trans b;refine bs a.cu λh i=>⟨im,d #[] a.gP,d #[] a.fS,d #[] a.fn,λf n e=>d r6<|a.fb f n e,λf e=>d r6<|a.aA f e,?_,a.dP,oh a.gG<|Q4 _,a.eG,λm e=>Rb<|a.eu m e,QZ a.iJ,QZ a.L,⟨by refine(?_:o.S.flatten.length<=_);exact eP h,(eP i:o.S.length<=_)⟩⟩;exact ah a.eZ λvs k l=>am vs (d #[] k) l
theorem bS.bn{h:a9}{o:ap}{j:Nat}(a:bS j h o){d:List (List Int)}{t c:List Int}(y:o.S=d++[t]):bS (j+c.length) (h.Q (6+d.length)<|.d<|t.map .c++c.map .c) (o.bn c):=by
 have g:∀{x w},x≠6+d.length->h.aF x=w->(h.Q (6+d.length)<|.d<|t.map .c++c.map .c).aF x=w:=λq b=>(f3 q).trans b;have l:(o.bn c).S=d++[t++c]:=by refine(Z y<|Z iA ?_:f2 o.S c=_);rfl
 have i:(o.bn c).S.length=o.S.length:=by refine Z l<|Z y<|Z P3<|Z P3 ?_;rfl
 have r:o.S.length=d.length+1:=by refine Z y<|Z P3 ?_;rfl
 refine bs a.cu λk p=>⟨g vf a.e9,g rs a.gP,g rP a.fS,by refine Z i ?_;exact g nu a.fn,λf x e=>?_,λf e=>?_,?_,a.dP,oh a.gG<|Q_ _ _,a.eG,a.eu,by refine(?_:o.E.length+o.L<=o.aX.length+_);have:=a.iJ;exact an [⟨1,.h (.b 0)<|.b 1,.h (.b 2)<|.b 3⟩] (.h (.b 0)<|.b 1) (.h (.b 2)<|.h (.b 3)<|.b 4) rfl [o.E.length,o.L,o.aX.length,j,c.length] this,by refine(?_:o.L<=_);have:=a.L;exact lp this,?_⟩;replace e:=l▸e;by_cases m:f=d.length;subst m;rw[e6] at e;obtain rfl:=P0 e;exact Z Rd im;have n:f<d.length:=by have:=(P1.1 e).1;rw[P3] at this;have:f<d.length+1:=this;exact iF this m
 rw[RA n] at e;exact g (λv=>m<|nD v)<|a.fb f x (by refine Z y<|Z (RA n) ?_;exact e);exact g (λb=>cV [⟨1,.h (.b 1)<|.e 1,.b 0⟩,⟨1,.b 0,.b 2⟩,⟨1,.b 2,.b 3⟩,⟨1,.h (.e 6)<|.b 3,.h (.e 6)<|.b 1⟩] rfl [o.S.length,d.length,(o.bn c).S.length,f] (P2 r.symm) (P2 i.symm) e (P2 b))<|a.aA f<|i▸e;exact ah a.eZ λvs s u=>(am vs (g rm s) u);refine Z i<|Z l ?_;rw[y] at k;simp only[List.flatten_append,List.length_append,List.flatten_cons,List.flatten_nil,List.append_nil] at k⊢;exact⟨ad (Nat.add_assoc d.flatten.length t.length c.length)<|o_ k c.length,mo p⟩
theorem bS.KY(a:bS f c o)(q:c.aF 5=some (.d vs))(m:be (fW c.D) vs o.E)(n:be (fW c.D) g d):bS (f+d.length) (c.Q 5<|.d<|vs++g) {o with E:=o.E++d}:=by have e:∀{x w},x≠5->c.aF x=w->(c.Q 5<|.d<|vs++g).aF x=w:=λl b=>(f3 l).trans b;refine bs a.cu λj k=>⟨e #[] a.e9,e #[] a.gP,e #[] a.fS,e #[] a.fn,λh p i=>e ob<|a.fb h p i,λh i=>e ob<|a.aA h i,am (vs++g) im<|m.cj n,a.dP,oh a.gG<|Q_ _ _,a.eG,a.eu,?_,by refine(?_:o.L<=_);have:=a.L;exact lp this,⟨by refine(?_:o.S.flatten.length<=_);exact lp j,(lp k:o.S.length<=_)⟩⟩;refine(Z P3 ?_:(o.E++d).length+o.L<=o.aX.length+(f+d.length));have:=a.iJ;exact an [⟨1,.h (.b 0)<|.b 1,.h (.b 2)<|.b 3⟩] (.h (.h (.b 0)<|.b 4)<|.b 1) (.h (.b 2)<|.h (.b 3)<|.b 4) rfl [o.E.length,o.L,o.aX.length,f,d.length] this
theorem bS.bu(a:bS c d o)(b:c<=j):bS j d o:=⟨a.e9,a.gP,a.fS,a.fn,a.fb,a.aA,a.eZ,a.dP,oh a.gG b,a.eG,a.eu,by have:=a.iJ;exact an [⟨1,.h (.b 0)<|.b 1,.h (.b 2)<|.b 3⟩,⟨1,.b 3,.b 4⟩] (.h (.b 0)<|.b 1) (.h (.b 2)<|.b 4) rfl [o.E.length,o.L,o.aX.length,c,j] this b,P9 a.L b,⟨P9 a.cu.1 b,P9 a.cu.2 b⟩⟩
theorem cZ.Fb(g:cZ f e b)(v w:Y):cZ f ((e.a0 b.f<|.h1<|some v).a0 (b.f+1)<|.h1<|some w) ((((b.z<|.h1 none).z<|.h1 none).Q b.f<|.h1<|some v).Q (b.f+1)<|.h1<|some w):=((g.a0<|.h1<|some v).a0<|.h1<|some w).sF (λa=>by refine Z (hM ..)<|Z (hM ..)<|Z (hh ..)<|Z (hh ..)<|Z (hh ..)<|Z (hh ..) (?_:(if a=b.f+1 then _ else if a=b.f then _ else if a=b.f+1 then _ else if a=b.f then _ else _)=if a=b.f+1 then _ else if a=b.f then _ else _);by_cases c:a=b.f+1;refine Z (P8 c)<|Z (P8 c) ?_;rfl;refine Z (P4 c)<|Z (P4 c)<|Z (P4 c) ?_;by_cases d:a=b.f;refine Z (P8 d)<|Z (P8 d) ?_;rfl;refine Z (P4 d)<|Z (P4 d)<|Z (P4 d) ?_;rfl) rfl rfl
end
structure gj(a b:a9):Prop where
 D:eL a.D b.D
 o:b.o=a.o
 aF:b.aF=a.aF
theorem gj.cK:gj a a:=⟨.cK,rfl,rfl⟩
theorem gj.q(a:gj b c)(g:gj c d):gj b d:=⟨a.D.q g.D,g.o.trans a.o,g.aF.trans a.aF⟩
theorem gj.lj(a:gj b c):ea b c:=⟨a.D,λ_ _=>Z a.o rfl⟩
theorem bS.ch(a:bS e c o)(b:gj c d):bS e d o:=by
 refine ah a.eZ λvs g h=>?_;have f:eY d o=eY c o:=by unfold eY;refine Z b.o ?_;rfl
 have k:∀n,dZ d n=dZ c n:=λn=>by unfold dZ;refine Z b.o ?_;rfl
 exact⟨by refine Z b.aF<|Z f ?_;exact a.e9,b.aF▸a.gP,b.aF▸a.fS,by refine Z (b.aF ..)<|Z (k ..) ?_;exact a.fn,b.aF▸a.fb,b.aF▸a.aA,am vs (b.aF▸g)<|h.bD λ_ _=>fW.cS b.D,a.dP,a.gG,a.eG,a.eu,a.iJ,a.L,a.cu⟩
theorem cZ.ch(c:cZ d a b):gj a (a.a0 b.f o):=⟨c.cS,rfl,rfl⟩
section
def q4(b:Nat)(s:Int):Prop:=s= -1\/∃a:Nat,s=a/\a<=b
theorem xW{d:List Int}(W:F<=90000):∀(k a:Nat) (c:a9) (f:V) (h:List Y->aa) (i:Y->aa),d.length - a<k->ca c f->c.D q=some (.d<|d.map .c)->(∀s∈d,q4 F s)->(∀n t vs,ca n t->gj c n->be (gx n.D) vs (d.drop a)->h vs t)->bo (.d<|.a q) (λe w Q=>cU (λE=>w [E]) λp=>J (cW .Lt e<|.c 0) λx=>J (dD x) λz=>if z then(p<|.c<|-1) else J (bW .Add (.c 70) e) λC=>J (a4<|.d [C]) λA=>J (a4<|.A [e,A]) λD=>p D) k a h i f:=by intro I;induction I with|zero=>intro a _ _ _ _ b _ _ _ _;exact absurd b (Q8 _)|succ k N=>intro a c f h i y l O P j;refine(ep (l.cg O) ?_:J (dv (.d<|.a q) a) _ f);refine Z Q7 ?_;cases r:d[a]? with|none=>replace j:=(Qj<|PX.1 r)▸j;exact j c f [] l .cK .aP|some s=>have M:=(P1.1 r).1;(have X:d.drop a=s::d.drop (a+1):=by refine Z (Qc M)<|Z ((P1.1 r).2) ?_;rfl);replace j:=X▸j;have L:∀o u v,ca o u->gj c o->gx o.D v s->bo (.d<|.a q) (λe w Q=>cU (λE=>w [E]) λp=>J (cW .Lt e<|.c 0) λx=>J (dD x) λz=>if z then(p<|.c<|-1) else J (bW .Add (.c 70) e) λC=>J (a4<|.d [C]) λA=>J (a4<|.A [e,A]) λD=>p D) k (a+1) (λg=>h<|[v]++g) i u:=λo u v m K T=>N (a+1) o u _ _ (ga y M) m (K.D _ _ O) P λn t vs R H S=>j n t (v::vs) R (K.q H)<|.aY (T.cS H.D) S;(rcases P s (PW r) with rfl|⟨B,rfl,U⟩);exact eQ<|nY<|aL<|bJ rfl (L c f _ l .cK<|.inl ⟨rfl,rfl⟩);refine eQ<|nY<|aL<|bx (by rw[QF];exact oz)<|i0 ∅ (el<|nJ W U)<|bF<|bF ?_;have m:=l.a0<|.d [.c<|70+B];exact L _ _ _ (m.a0<|.A [.c (B:Nat),.a f.f]) (l.ch.q m.ch)<|.inr ⟨B,rfl,_,_,rfl,dJ,m.cS _ _ dJ⟩
def t2(o:ap)(x:Y):List Y:=match x with
 |.c a=>[.c<|o.aU a.toNat]
 |_=>[]
theorem FB:∀a:List Nat,((a.map λb=>Y.c (b:Nat)).flatMap<|t2 o)=(a.map o.aU).map .c:=by intro d;induction d with|nil=>exact rfl|cons b r c=>exact Z QM<|Z List.flatMap_cons<|Z c rfl
theorem tR{h:Y->aa}{W:Y->Y->Y->aa}{E1:Y->Y->aa}(O1:w<3)(y:k<3)(OW:∀d,h (.c<|-1) d->K0 d)(OB:∀a g v d,h v d->W a g v d)(l:ca f d)(T:bS n f o)(OA:n<=80000)(P:fR f.D OL D)(OD:f.D NT=some (.h1<|some<|.a<|f.o 1))(NU:o.S=r++[t])(H:∀c E v,ca c E->bS (n+2) c (fO o k (dk D w).n).1->ea f c->fW c.D v (fO o k (dk D w).n).2->h v E):(J (cW .Eq (.c (k:Nat))<|.c 0) λOS=>J (dD OS) λOT=>if OT then K0 else J (ce (.a OL)<|.c (w:Nat)) λC=>J (ce C<|.c<|-1) λz=>J (ce z<|.c 1) λA=>bY A λO9=>bo O9 (λu OO E9=>J (b6 NT) λO'=>J (ce O'<|.l "holds") λPa=>J (ce Pa u) λPb=>OO [Pb]) aJ 0 (λOM=>if Nat.ble OM.length bl then J (a4<|.d OM) (λOI=>cU (λN3=>J (b6 NT) λOo=>J (ce Oo<|.l "kept") λOp=>J (ce Op<|.c<|-1) λOq=>aQ m Oq "extend" (λN4=>N4 [N3]) (λO5=>bY N3 λOj=>bo Oj (λR N5 ON=>cU (λOm=>N5 [Om]) λG=>J (cW .Lt R<|.c 0) λN7=>J (dD N7) λN8=>if N8 then(G<|.c<|-1) else J (bW .Add (.c 70) R) λOf=>J (a4<|.d [Of]) λOe=>J (a4<|.A [R,Oe]) λOl=>G Ol) aJ 0 (λNP=>if Nat.ble NP.length bl then J (a4<|.d NP) (λO=>cU (λOn=>W N3 O On) λNN=>J (cW .Eq (.c (k:Nat))<|.c 2) λU=>J (dD U) λN=>if N then(NN O) else J (ce O<|.c 0) λNO=>NN NO) else ae) aB)<|E1 N3) λOH=>J (cW .Eq (.c (k:Nat))<|.c 2) λjD=>J (dD jD) λOU=>if OU then(OH OI) else J (gW OI (some<|-1) none) λO8=>OH O8) else ae) aB) d:=by
 by_cases Og:k=0;subst Og;exact ek<|aL<|bJ rfl (OW _<|H f d _ l (T.bu<|Q_ _ _) .cK<|.inl ⟨rfl,rfl⟩);refine ek<|aL<|bx (by rw[Qk];exact λOs=>Og<|fr Os)<|P.r l O1 λa S=>(aZ λPj Pc=>h' S.bO λPh O6 Pg O7 Pi Ok OK=>eN S.gC λO_ NZ NY=>Pc ?_);have OZ:(fO o k (dk D w).n)=if k=2 then(o.bn<|(dk D w).n.map o.aU,.e5<|(dk D w).n.map o.aU) else(o.bn [((dk D w).n.map o.aU).getLast?.getD<|-1],.fv<|((dk D w).n.map o.aU).getLast?.getD<|-1):=P4 Og;replace H:=OZ▸H;generalize(dk D w).n=M at*;have Oz:=T.dP;have OC:∀b,b<3->o.bP[b]?=some (o.aU b):=λb Q=>by unfold ap.aU;refine Z (RB<|Oz▸Q) ?_;rfl
 have OG:∀s∈M.map o.aU,q4 n s:=λs Q=>by exact ah (Qa.1 Q) λb O4 NQ=>ad NQ<|T.gG _<|PW<|OC b<|NY b O4
 refine g2 (l.cg O7) (Z Rd<|Z P3<|Z (rfl:([O6].map Y.a).length=1)<|Z pe<|e6 _ _)<|cL (l.cg Ok) rfl (dQ (l.cg OK)<|kR (l.cg OK) (l:=t2 o) (λx O2 q E' Q=>?_) aJ 0 _ _ (Z (P6 ..)<|pA dL NZ) ?_);refine ah (Qa.1 O2) λb Ob NQ=>?_;subst NQ;refine g1 l T OD ∅<|g2 (l.r T.gP) (Z (P6 ..)<|Z (it (by exact Z Oz<|NY b Ob) (by have:=NY b Ob;exact h3 this) ..) (Z Q7 ?_:(o.bP.map Y.c)[b]?=_)) Q;exact Z (OC b<|NY b Ob) rfl;refine Z (Qq ..)<|Z (FB ..)<|bJ (b5<|Z (P6 ..)<|Z (P6 ..)<|pN NZ)<|bF<|eQ ?_;have NS:=l.a0<|.d<|(M.map o.aU).map .c;have Ow:=l.ch (o:=.d<|(M.map o.aU).map .c);have OE:(f.a0 d.f<|.d<|(M.map o.aU).map .c).D d.f=some (.d<|(M.map o.aU).map .c):=dJ;generalize f.a0 d.f (.d<|(M.map o.aU).map .c)=OQ at*;generalize d.z (.d<|(M.map o.aU).map .c)=Pd at*;have Oy:∀(F:a9) (Ot:V) (B:Nat) (i:List Int),ca F Ot->gj f F->F.D B=some (.d<|i.map .c)->i.length<=2->(∀s∈i,q4 n s)->(∀c E K vs,ca c E->bS (n+2) c (o.bn i)->ea f c->c.D K=some (.d vs)->be (gx c.D) vs i->(J (cW .Eq (.c (k:Nat))<|.c 2) λU=>J (dD U) λN=>if N then(W (.a B) (.a K)<|.a K) else J (ce (.a K)<|.c 0) λNO=>W (.a B) (.a K) NO) E)->(J (b6 NT) λOo=>J (ce Oo<|.l "kept") λOp=>J (ce Op<|.c<|-1) λOq=>aQ m Oq "extend" (λN4=>N4 [.a B]) (λO5=>bY (.a B) λOj=>bo Oj (λR N5 ON=>cU (λOm=>N5 [Om]) λG=>J (cW .Lt R<|.c 0) λN7=>J (dD N7) λN8=>if N8 then(G<|.c<|-1) else J (bW .Add (.c 70) R) λOf=>J (a4<|.d [Of]) λOe=>J (a4<|.A [R,Oe]) λOl=>G Ol) aJ 0 (λNP=>if Nat.ble NP.length bl then J (a4<|.d NP) (λO=>cU (λOn=>W (.a B) O On) λNN=>J (cW .Eq (.c (k:Nat))<|.c 2) λU=>J (dD U) λN=>if N then(NN O) else J (ce O<|.c 0) λNO=>NN NO) else ae) aB)<|E1<|.a B) Ot:=λF Ot B i L NV Oc NW O0 bf=>by have X:=T.ch NV;have NX:=X.fb r.length t<|Z NU<|e6 _ _;obtain⟨N_,Pf⟩:=X.cu;(have O3:t.length<=n:=by rw[NU] at N_;simp only[List.flatten_append,List.length_append,List.flatten_cons,List.flatten_nil,List.append_nil] at N_;exact aM (ix _ _) N_);refine g1 L X (Z NV.o<|NV.D _ _ OD) ∅<|g2 (L.r X.fn) (v:=.a<|F.o<|6+r.length) ?_ ?_;unfold dZ;refine Z (P6 ..)<|Z (List.length_range ..)<|Z ((Z NU<|Z P3 rfl:o.S.length=r.length+1) ..)<|Z (pe ..) (Z Q7 ?_:((List.range<|r.length+1).map _)[r.length]?=_);refine Z (List.getElem?_range<|P' _) ?_;rfl;refine fe (L.r NX) ∅<|rE (L.r NX) (L.cg Oc) (λe=>L.i3 _ _ _ _ NX Oc e.symm) (b5<|Z (P6 ..)<|Z (P6 ..)<|an [⟨1,.b 0,.e 2⟩,⟨1,.b 1,.e 80000⟩,⟨1,.b 2,.b 1⟩] (.h (.b 2)<|.b 0) (.e 1000000) rfl [i.length,n,t.length] NW OA O3) ?_;have Ou:=L.Q NX<|.d<|t.map .c++i.map .c;have OP:=(X.bn NU).bu (j:=n+2)<|iw NW _;have OF:(F.Q (6+r.length)<|.d<|t.map .c++i.map .c).D B=some (.d<|i.map .c):=Oc;have Ok:ea f (F.Q (6+r.length)<|.d<|t.map .c++i.map .c):=NV.lj.q ⟨λ_ _ b=>b,λ_ _=>rfl⟩;generalize F.Q (6+r.length) (.d<|t.map .c++i.map .c)=OR at*;refine dQ (Ou.cg OF)<|xW (o8 OA) aJ 0 OR _ _ _ (pA dL NW) Ou OF O0 λPe Pk vs Ov Ox N'=>?_;rw[Qq] at N';refine bJ (b5<|Z N'.a5<|pN NW)<|bF<|eQ ?_;have Oa:=Ov.ch (o:=.d vs);exact bf _ _ _ vs (Ov.a0<|.d vs) ((OP.ch Ox).ch Oa) ((Ok.q Ox.lj).q Oa.lj) dJ<|N'.bD λ_ _=>gx.cS Oa.D
 by_cases Oh:k=2;subst Oh;exact ek<|aL<|bJ rfl (Oy OQ Pd d.f _ NS Ow OE (Z (P6 ..) NZ) OG λc E K vs NR N6 Oi Od N9=>ek<|aL<|bJ rfl (OB _ _ _ _<|H c E _ NR N6 Oi<|eb K vs rfl Od N9));rw[P4 Oh] at H;have OJ:((k:Int)==2)=false:=by rw[Qk];exact λOs=>Oh<|fr Os
 refine eU (jf O_) λa g NQ=>?_;subst NQ;have OV:((a++[g]).map o.aU).getLast?.getD (-1)=o.aU g:=by refine Z Rd ?_;simp
 replace H:=OV▸H;refine ek<|aL<|bx OJ<|ow (NS.cg OE) (b5<|Z (P6 ..)<|Z (P6 ..)<|pN NZ)<|Z (Z Rd<|Z Rd (by have:((List.map Y.c<|List.map o.aU a)++[Y.c<|o.aU g]).length=(List.map Y.c<|List.map o.aU a).length+1:=Z P3 rfl;refine Z (nH (by refine Z this ?_;dsimp only[sliceBounds,Option.getD_none,show(1:Int)>0 by decide,if_true,if_pos<|show(-1:Int)<0 by decide];exact Z (show max 0 (min ((-1:Int)+(((List.map Y.c<|List.map o.aU a).length+1:Nat):Int)) (((List.map Y.c<|List.map o.aU a).length+1:Nat):Int))=((List.map Y.c<|List.map o.aU a).length:Int) by exact tF) rfl)) ?_;exact Z (List.drop_left' rfl ..)<|Z (QS ..) rfl):iD (((a++[g]).map o.aU).map Y.c) (some<|-1) none=[Y.c<|o.aU g])<|Oy _ _ _ [o.aU g] (NS.a0<|.d [.c<|o.aU g]) (Ow.q NS.ch) dJ (by refine(?_:1<=2);decide) (λs Q=>OG s<|Z (Re.1 Q)<|List.mem_map_of_mem<|PZ _<|.head _) λc E K vs NR N6 Oi Od N9=>?_;cases N9 with|@aY v _ p _ OX OY=>cases OY;exact ek<|aL<|bx OJ<|g2 (NR.cg Od) rfl (OB _ _ _ _<|H c E v NR N6 Oi OX)
end
def l5(g:List bU)(b c:Nat):Prop:=∀(n:Nat) (a:a9) (l:V) (o:ap) (d k j:Nat) (f:cC) (h i:Y->aa),ca a l->bS d a o->d+aW b<=60000->fR a.D k g->ef a.D j f->f.dY b->(∀e m,ca e m->bS (d+aW b) e (cc g b o f)->ea a e->h .s m)->ag (n+c) false (.B 110 0) [.a<|a.o 1,.a k,.a j] h i l
section
def qQ(vs c b:Y)(d:Option Y)(a:Nat):ax:=match d with
 |none=>(Nj vs c b a)
 |some x=>Ng vs c b x a
theorem FE{j:List Nat}(N:l5 A e c):∀(k d f:Nat) (a:a9) (g:V) (o:ap) (a2:List cC) (i:Option Y),j.length - d<k->ca a g->bS f a o->f+a2.length*aW e<=60000->fR a.D m A->a.D t=some (.d<|j.map .a)->a.D q=some (.h1<|some<|.a<|a.o 1)->be (ef a.D) (j.drop d) a2->(∀i∈a2,i.dY e)->(∀p v NR,ca p v->bS (f+a2.length*aW e) p (a2.foldl (cc A e) o)->ea a p->U (.f<|qQ (.a m) E D NR q) v)->ci (.d<|.a t) (bg u (ag (n+c) false) false 58 (as 109 0) (bv (ab 109 0) 0)<|au (ab 109 0) 0 0) k d (qQ (.a m) E D i q) U g:=by intro NU;induction NU with|zero=>intro d _ _ _ _ _ _ b _ _ _ _ _ _ _ _ _;exact absurd b (Q8 _)|succ k NQ=>intro d f a g o a2 i y s F w P O K h L z;refine(ep (s.cg O) ?_:J (dv (.d<|.a t) d) _ g);refine Z Q7 ?_;cases B:j[d]? with|none=>replace h:=(Qj<|PX.1 B)▸h;cases h;exact z a g i s (F.bu<|Q_ _ _) .cK|some r=>have M:=(P1.1 B).1;(have NO:j.drop d=r::j.drop (d+1):=by refine Z (Qc M)<|Z ((P1.1 B).2) ?_;rfl);replace h:=NO▸h;cases h with|@aY _ R _ C NN NP=>rw[(Z (QA ..)<|Z (Nat.succ_mul ..) pi:f+(R::C).length*aW e=f+aW e+C.length*aW e)] at w z;have H:∀(E1:Y->RI.aa),(J (b6 q) λNT=>ag (n+c) false (.B 110 0) [NT,.a m,.a r] (λQ=>ci (.d<|.a t) (bg u (ag (n+c) false) false 58 (as 109 0) (bv (ab 109 0) 0)<|au (ab 109 0) 0 0) k (d+1) (qQ (.a m) E D (some<|.a r) q) U) E1) g:=λE1=>b2 (s.cg K) (N n a g o f m r R _ _ s F (Qo w) P NN (L _<|.head _) λp v S W l=>by exact NQ (d+1) (f+aW e) p v _ C _ (ga y M) S W w (P.cS l.D) (l.D _ _ O) (Z (l.o 1 #[])<|l.D _ _ K) (NP.bD λ_ _ b=>b.cS l.D) (λx b=>L x<|.tail _ b) λG NV Q T X NS=>z G NV Q T X<|l.q NS);refine(?_:bg _ _ _ _ _ _ _ _ _ _ _);cases i<;>show bg _ _ _ _ _ _ _ ⟨_,_,_⟩ _ _ _;exact bR Jx<|H _;exact bR LR<|H _
theorem Cz{N:Nat}(NP:l5 d e c)(NU:hY d)(x:w<3)(NV:3<=w+e+1)(y:k<3)(D:ca f p)(NN:bS j f o)(B:j+2*aW e+2<=60000)(P:fR f.D N d)(NS:o.S=U++[t])(NW:∀g r v,ca g r->bS (j+2*aW e+2) g (gk d (cc d e) o w k).1->ea f g->fW g.D v (gk d (cc d e) o w k).2->h v r):ag (n+c+1) false (.B 109 0) [.a<|f.o 1,.a N,.c (w:Nat),.c (k:Nat)] h i p:=by refine bp Jt ∅<|hg<|gR (c8 _ _) ?_;have s:=D.h1<|.a<|f.o 1;have Q:=D.ch (o:=.h1<|some<|.a<|f.o 1);have T:(f.a0 p.f<|.h1<|some<|.a<|f.o 1).D p.f=some (.h1<|some<|.a<|(f.a0 p.f<|.h1<|some<|.a<|f.o 1).o 1):=dJ;generalize(p.z<|.h1 none).Q p.f (.h1<|some<|.a<|f.o 1)=I at s;generalize p.f=M at*;have J:=Q.lj;generalize f.a0 M (.h1<|some<|.a<|f.o 1)=NQ at*;have l:=P.cS J.D;refine l.r s x λa S=>(h' S.bO λq NX N6 NT R N4 N5=>?_);have cu:=S.cu;have W:=R.a5;refine ow (s.cg NT) (b5<|Z (P6 ..)<|Z (P3 ..) (n9 W cu:q.length+1<=_))<|Z AR<|Z (show((q++[NX]).map Y.a).dropLast=q.map .a by exact Z Rd QJ) ?_;have E:=s.a0<|.d<|q.map .a;have m:=s.ch (o:=.d<|q.map .a);have X:(NQ.a0 I.f<|.d<|q.map .a).D I.f=some (.d<|q.map .a):=dJ;have u:(dk d w).a2.length*aW e<=2*aW e:=QR _ cu;refine dQ (E.cg X)<|FE NP aJ 0 j _ _ o (dk d w).a2 none (hQ (k:=2) dL (aM (dw W) cu) rfl) E ((NN.ch Q).ch m) (P9 (Qu u j)<|Qo B) (l.cS m.D) X (Z m.o<|m.D _ _ T) (R.bD λ_ _ C=>C.cS m.D) (λNY C=>NU w x e NV NY C) λA N7 NZ F H z=>?_;have L:A.D M=some (.h1<|some<|.a<|A.o 1):=Z (z.o 1 #[])<|z.D _ _<|Z m.o<|m.D _ _ T;have K:=l.cS<|m.D.q z.D;have O:((dk d w).a2.foldl (cc d e) o).S=U++[t]:=(oN (lD e) _ o).trans NS;have bf:∀g r v,ca g r->bS (j+(dk d w).a2.length*aW e+2) g (fO ((dk d w).a2.foldl (cc d e) o) k (dk d w).n).1->ea A g->fW g.D v (fO ((dk d w).a2.foldl (cc d e) o) k (dk d w).n).2->h v r:=λg r v G NO N3 NR=>NW g r v G (NO.bu<|an [⟨1,.b 0,.x 2<|.b 1⟩] (.h (.h (.b 2)<|.b 0)<|.e 2) (.h (.h (.b 2)<|.x 2<|.b 1)<|.e 2) rfl [(dk d w).a2.length*aW e,aW e,j] u) (((J.q m.lj).q z).q N3) NR;refine(?_:br _ _ _ _ _ _ _ _ _);cases NZ<;>show br _ _ _ _ _ ⟨_,_,_⟩ _ _ _;exact bR Cc<|tR (W:=λ_ _ v=>h v) x y (λ_ b=>b) (λ_ _ _ _ b=>b) F H (P9 (Qu u j)<|P9 (Qo B) #[]) K L O bf;exact bR BW<|tR (W:=λ_ _ v=>h v) x y (λ_ b=>b) (λ_ _ _ _ b=>b) F H (P9 (Qu u j)<|P9 (Qo B) #[]) K L O bf
theorem Fv{s:List Nat}(NN:l5 g a c)(NT:hY g):∀(k e f:Nat) (d:a9) (u:V) (o:ap) (t:List Int) (m:List (Nat×Nat)) (h:List Y->aa) (i:Y->aa),s.length - e<k->ca d u->bS f d o->f+m.length*(2*aW a+2)<=60000->fR d.D T g->o.S=NX++[t]->d.D E=some (.d<|s.map .a)->d.D B=some (.h1<|some<|.a<|d.o 1)->d.D cs=some (.h1<|some<|.a T)->be (λH (l:Nat×Nat)=>d.D H=some (.A [.c (l.1:Nat),.c (l.2:Nat)])) (s.drop e) m->(∀l∈m,qG a l)->(∀q A vs,ca q A->bS (f+m.length*(2*aW a+2)) q (e1 g (cc g a) o m).1->ea d q->be (fW q.D) vs (e1 g (cc g a) o m).2->h vs A)->bo (.d<|.a E) (λN_ N W=>J (dz N_) λNY=>iW NY λz=>e_ z λN6 z=>e_ z λN7 z=>jl z<|J (b6 B) λN8=>J (b6 cs) λN9=>ag (n+c+1) false (.B 109 0) [N8,N9,N6,N7] (λN5=>N [N5]) W) k e h i u:=by intro Oa;induction Oa with|zero=>intro e _ _ _ _ _ _ _ _ b _ _ _ _ _ _ _ _ _ _ _;exact absurd b (Q8 _)|succ k NW=>intro e f d u o t m h i y p K C P L R M O r cE D;refine(ep (p.cg R) ?_:J (dv (.d<|.a E) e) _ u);refine Z Q7 ?_;cases F:s[e]? with|none=>replace r:=(Qj<|PX.1 F)▸r;cases r;exact D d u [] p (K.bu<|Q_ _ _) .cK .aP|some H=>have Q:=(P1.1 F).1;(have NU:s.drop e=H::s.drop (e+1):=by refine Z (Qc Q)<|Z ((P1.1 F).2) ?_;rfl);replace r:=NU▸r;cases r with|@aY _ l _ w NS NV=>refine eN (cE l<|.head _) λNZ N3 N4=>?_;rw[(Z (QA ..)<|Z (Nat.succ_mul ..)<|Q0 (an [] (.h (.b 0)<|.h (.b 1)<|.h (.x 2<|.b 2)<|.e 2) (.h (.h (.b 0)<|.h (.x 2<|.b 2)<|.e 2)<|.b 1) rfl [f,w.length*(2*aW a+2),aW a])<|an [] (.h (.h (.b 0)<|.h (.x 2<|.b 2)<|.e 2)<|.b 1) (.h (.b 0)<|.h (.b 1)<|.h (.x 2<|.b 2)<|.e 2) rfl [f,w.length*(2*aW a+2),aW a]:f+(l::w).length*(2*aW a+2)=f+(2*aW a+2)+w.length*(2*aW a+2))] at C D;refine g7 (p.cg NS) (b2 (p.cg M)<|b2 (p.cg O)<|Cz NN NT NZ N3 N4 p K (Qo C) P L λNO Ob v U G j NP=>?_:J (b6 B) _ u);obtain⟨N',NQ⟩:=qf (lD a) L;exact NW (e+1) (f+(2*aW a+2)) NO Ob _ N' w _ _ (ga y Q) U (G.bu<|og _) C (P.cS j.D) NQ (j.D _ _ R) (Z (j.o 1 #[])<|j.D _ _ M) (j.D _ _ O) (NV.bD λ_ _=>j.D _ _) (λx b=>cE x<|.tail _ b) λq A vs X I S NR=>D q A (v::vs) X I (j.q S)<|.aY (NP.cS S.D) NR
end
theorem HF{o:ap}:o.c3.dr=o:=by refine(?_:({o with S:=(o.S++[[]]).dropLast}:ap)=o);exact Z QJ rfl
section
theorem oM{l:Y->bI->aa}(A:ca c d)(n:bS f c o)(j:f<=80000)(y:o.S=O++[t])(s:c.D b=some (.h1<|some<|.a<|c.o 1))(L:∀q v d,ci (.cf v) (bg u m p 54 (as 110 0) (bv (ab 110 0) 4)<|au (ab 110 0) 4 0) aJ 0 (q5 U R none q cs b) (cF u m p 55 (as 110 0) (List.drop 5<|ab 110 0)<|de h i) d->l (.a q) (.cf v) d)(M:∀g e,ca g e->bS f g o.dr.fY->ea c g->h .s e):(J (b6 b) λN=>J (ce N<|.l "kept") λNP=>aQ m NP "pop" (λx=>x []) (λNX=>J (b6 b) λG=>J (ce G<|.l "holds") λNQ=>J (b6 b) λNN=>J (ce NN<|.l "kept") λNR=>bY NR λT=>bo T (λNS D z=>bY NS λW=>bo W (λNU E NW=>E [NU]) aJ 0 D z) aJ 0 (λw=>if Nat.ble w.length bl then J (a4<|.d w) (λP=>J (bW .Add NQ P) λQ=>J (b6 b) λNO=>J (ce NO<|.l "made") λNT=>fB NT λX=>l Q X) else ae) aB) E1) d:=by
 refine zs A n (o8 j) y s λa e B F r=>L _ _ _<|y6 (o:=o.dr) (o8 j) aJ 0 _ e none (hQ (k:=80000) dL (aM n.L j) rfl:o.L - 0<aJ) (Qp _) B ?_ (r _ _ s) dJ λK NV C H S=>M K NV C H<|.q ⟨r,λ_ _=>rfl⟩ S;have:o.dr.ia 0=o.dr:=by delta ap.ia ap.lN;exact Z (List.range_zero ..)<|Z (List.filter_nil ..)<|Z (Q1 ..)<|Z (List.map_nil ..)<|Z (Q1 ..) rfl
 exact Z this F
theorem uD{u:Nat->Nat->aa}(n:ca a c)(B:bS l a o)(E:l<=80000)(P:fR a.D d v)(H:ef a.D x w)(K:∀f z e cs,ca f z->bS (l+1) f o.c3->ea a f->f.D e=some (.h1<|some<|.a<|f.o 1)->f.D cs=some (.h1<|some<|.a d)->fR f.D d v->ef f.D x w->u e cs z):(J d3 λe=>J d3 λcs=>J (gi e<|.a<|a.o 1) λ_=>J (gi cs<|.a d) λ_=>J (b6 e) λM=>J (ce M<|.l "kept") λj=>aQ m j "append" (λA=>J (a4<|.d []) λL=>A [L]) (λQ=>u e cs) E1) c:=by refine hg<|hg<|gR (eC (c8 _ _)<|P' _)<|gR (f9 (c8 (c.z _) _)<|Nat.succ_ne_self _) ?_;have h:=n.Fb (.a<|a.o 1)<|.a d;have k:=n.ch.q<|(n.a0<|.h1<|some<|.a<|a.o 1).ch (o:=.h1<|some<|.a d);have p:((a.a0 c.f<|.h1<|some<|.a<|a.o 1).a0 (c.f+1)<|.h1<|some<|.a d).D c.f=some (.h1<|some<|.a<|a.o 1):=(iC<|Q6<|P' _).trans dJ;have F:((a.a0 c.f<|.h1<|some<|.a<|a.o 1).a0 (c.f+1)<|.h1<|some<|.a d).D (c.f+1)=some (.h1<|some<|.a d):=dJ;have C:((a.a0 c.f<|.h1<|some<|.a<|a.o 1).a0 (c.f+1)<|.h1<|some<|.a d).o=a.o:=rfl;have k:gj a ((a.a0 c.f<|.h1<|some<|.a<|a.o 1).a0 (c.f+1)<|.h1<|some<|.a d):=k;refine Z (show(c.z<|.h1 none).f=c.f+1 from rfl) ?_;generalize((((c.z<|.h1 none).z<|.h1 none).Q c.f<|.h1<|some<|.a<|a.o 1).Q (c.f+1)<|.h1<|some<|.a d)=q at*;generalize c.f+1=cs at*;generalize c.f=e at*;have g:=B.ch k;generalize(a.a0 e<|.h1<|some<|.a<|a.o 1).a0 cs (.h1<|some<|.a d)=i at*;rw[<-C] at p;refine bs g.cu λO D=>(g1 h g p ∅<|fe (h.r g.fn) ∅<|bF<|hP ((h.fi<|.d []).r g.fn) (b5<|by exact Z (P6 ..)<|Z (List.length_range ..)<|aM (aM D E) #[]) ?_);have t:=(h.z (g.aA o.S.length<|P5 _)<|.d []).Q ((dM nu).trans g.fn)<|.d<|dZ i o.S.length++[.a q.f];rw[gp nu] at t;have y:ea i ((i.z (6+o.S.length) q.f<|.d []).Q 4<|.d<|dZ i o.S.length++[.a q.f]):=⟨λ_ _ b=>b,λr b=>gp (o:=.d [])<|CC b⟩;have s:=k.lj.q y;exact K _ _ e cs t g.CE s (Z (y.o 1 #[]) p) F (P.cS s.D)<|H.cS s.D
end
section
theorem tT{d:a9}{o:ap}{a:Nat}(c:bS a d o){b:Nat}(e:b<3):o.bP[b]?=some (o.aU b):=by unfold ap.aU;refine Z (RB<|Z c.dP e) ?_;rfl
theorem sJ{s:Int}(f:ca c j)(a:bS d c o)(g:b<3)(l:s= -1\/∃i:Nat,s=i/\i<=d)(m:∀e k,ca e k->bS d e (o.fJ b s)->ea c e->h () k):J (jL (.a<|c.o 2) (.c (b:Nat))<|.c s) h j:=by exact bq () _ (.d (f.r a.gP)<|b9 Dg (by exact Z (P6 ..)<|Z (a.dP ..)<|gK g)<|el<|h3 g)<|m _ _ (f.Q a.gP _) (a.fJ l) ⟨λ_ _ b=>b,λ_ _=>rfl⟩
theorem sh{I:V}{J:Nat}(G:ca u I)(M:bS m u o)(w:m+5<=60000)(P:fR u.D J Q)(NP:ef u.D R K)(q:K.jx)(NR:∀k E,ca k E->bS (m+5) k (cc Q z o K)->ea u k->h .s E):ag (n+1) false (.B 110 0) [.a<|u.o 1,.a J,.a R] h i I:=by refine bp u1 ∅<|uD G M (an [⟨1,.h (.b 0)<|.e 5,.e 60000⟩] (.b 0) (.e 80000) rfl [m] w) P NP λd NY U cs c g NS x NX l NQ=>?_;have bf:∀(k:a9) (E:V) (y:ap),ca k E->bS (m+5) k y.c3->ea d k->y.fY=cc Q z o K->k.D U=some (.h1<|some<|.a<|k.o 1)/\∃H t,y.c3.S=H++[t]/\∀p r,ca p r->bS (m+5) p y.c3.dr.fY->ea k p->h .s r:=λk E y NV NW S e=>⟨by refine Z (S.o 1 #[]) ?_;exact S.D _ _ x,y.S,[],rfl,λp r j f s=>NR p r j (by refine ad e ?_;rw[HF] at f;exact f)<|(NS.q S).q s⟩;induction NQ with|cR=>exact q.elim|@e8 b a=>refine cL (c.cg a) rfl (jw<|aL<|bx ∅<|cL (c.cg a) (v:=.l "drop") rfl (jw<|aL<|bx ∅<|cL (c.cg a) (v:=.l "drop") rfl (jw<|aL<|bx ∅<|g1 c g x ∅<|cL (c.cg a) rfl (sJ c g q (.inl rfl) λp r j f s=>aZ λN D=>?_))));obtain⟨A,H,t,B,C⟩:=bf p r (o.fJ b<|-1) j (f.bu o') s (by cases z<;>rfl);exact D (oM (R:=some<|.c<|-1) j (f.bu o') (cv w) B A (λ_ _ _ b=>b) C)|@fc b F a=>refine cL (c.cg a) rfl (jw<|aL<|bx ∅<|cL (c.cg a) (v:=.l "move") rfl (jw<|aL<|bJ ∅<|g1 c g x ∅<|cL (c.cg a) rfl (g2 (c.r g.gP) (v:=.c<|o.aU F) ?_ ?_)));refine Z (P6 ..)<|Z (g.dP ..)<|Z (it q.2 (by have:=q.2;exact h3 this) ..) (Z Q7 ?_:(o.bP.map Y.c)[F]?=_);exact Z (tT M q.2) rfl;refine g1 c g x ∅<|cL (c.cg a) rfl (sJ c g q.1 (g.gG _<|PW<|tT M q.2) λp r j f s=>aZ λN D=>?_);obtain⟨A,H,t,B,C⟩:=bf p r (o.fJ b<|o.aU F) j (f.bu o') s (by cases z<;>rfl);exact D (oM (R:=some<|.c<|o.aU F) j (f.bu o') (cv w) B A (λ_ _ _ b=>b) C)|@eS b a=>refine cL (c.cg a) rfl (jw<|aL<|bx ∅<|cL (c.cg a) (v:=.l "make") rfl (jw<|aL<|bx ∅<|cL (c.cg a) (v:=.l "make") rfl (jw<|aL<|bJ ∅ ?_)));have O:o.L<=m+1:=g.L;refine b2 (c.cg x)<|yA (c.r g.e9) rfl ∅ (k0 (el<|an [⟨1,.h (.b 0)<|.e 5,.e 60000⟩,⟨1,.b 1,.h (.b 0)<|.e 1⟩] (.b 1) (.e 1000000) rfl [m,o.L] w O) ∅<|mc (c.r g.e9) rfl ∅ (Z (∅:e0 (.l "made") (.c<|(o.L:Int)+1) (eY d o.c3)=eY d {o.c3 with L:=o.L+1}) ?_));have j:=c.Q g.e9<|.K<|eY d {o.c3 with L:=o.L+1};have f:=g.eS;have f:bS (m+2) (d.Q 1<|.K<|eY d {o.c3 with L:=o.L+1}) (ap.c3 {o with L:=o.L+1}):=f;have s:ea d (d.Q 1<|.K<|eY d {o.c3 with L:=o.L+1}):=⟨λ_ _ b=>b,λ_ _=>rfl⟩;have X:(d.Q 1<|.K<|eY d {o.c3 with L:=o.L+1}).D U=some (.h1<|some<|.a<|(d.Q 1<|.K<|eY d {o.c3 with L:=o.L+1}).o 1):=x;have NO:(d.Q 1<|.K<|eY d {o.c3 with L:=o.L+1}).D R=some (.A [.l "make",.c (b:Nat)]):=a;generalize d.Q 1 (.K<|eY d {o.c3 with L:=o.L+1})=p at*;refine g1 j f X ∅<|qS (el<|an [⟨1,.h (.b 0)<|.e 5,.e 60000⟩,⟨1,.b 1,.h (.b 0)<|.e 1⟩] (.h (.b 1)<|.e 1) (.e 1000000) rfl [m,o.L] w O) ∅<|Z (xU:(((o.L+1:Nat):Int) - 1)=((o.L:Nat):Int))<|g1 j f X ∅<|cL (j.cg NO) rfl (sJ j f q (.inr ⟨o.L,rfl,kk O⟩) λNN NU T W NT=>aZ λN D=>?_);obtain⟨A,H,t,B,C⟩:=bf NN NU ({o with L:=o.L+1}.fJ b o.L) T (W.bu<|iw #[] _) (s.q NT) (by cases z<;>rfl);exact D<|oM (R:=some<|.c (o.L:Nat)) T (W.bu<|iw #[] _) (cv w) B A (λ_ _ _ b=>b) C
theorem M5:l5 g 0 1:=λn k q o j p m l h i b c d P e a f=>sh b c d P e (pU a<|q_ a) f
theorem rp(NV:hY m)(NO:l5 m d c):l5 m (d+1) (c+2):=by
 intro n Of Os o k On Om N6 h i F K q P T S V;have q:k+(3*(2*aW d+8)+15)<=60000:=q;by_cases W:∃p,N6=.cR p;obtain⟨p,rfl⟩:=W;refine eN S λOi v cE=>(bp u1 ∅<|uD F K (an [⟨1,.h (.b 0)<|.b 1,.e 60000⟩] (.b 0) (.e 80000) rfl [k,3*(2*aW d+8)+15] q) P T λM Od Og cs r x N8 z NW l NZ=>?_);cases NZ with|@cR Ok Oo _ a g e=>refine cL (r.cg a) rfl (jw<|aL<|bJ ∅<|ah x.eZ λOp N5 Oj=>g1 r x z ∅<|fe (r.r N5) ∅<|cL (r.cg a) rfl (dQ (r.cg g) ?_));have NY:p.length*(2*aW d+2)<=3*(2*aW d+2):=QR _ v;have A:=P9 (Nat.add_le_add (Qu NY<|k+1) v) (Z (Nat.add_right_comm k 1 _)<|Q_ (k+3*(2*aW d+2)+4) 29:k+1+3*(2*aW d+2)+3<=k+(3*(2*aW d+8)+15));refine Fv NO NV aJ 0 (k+1) M Od o.c3 [] p _ _ (Z e.a5<|rC dL v) r x (P9 (Qo A) q) l rfl g z NW e (λN' C=>eN (cE N' C) λNT NU s=>b9 NT NU s) λO E vs H NN N9 Q=>(aZ λOq Ob=>?_);(have B:(e1 m (cc m d) o.c3 p).2.length=p.length:=by(have:∀(f:List (Nat×Nat)) (o:ap),(e1 m (cc m d) o f).2.length=f.length:=λf=>by induction f with|nil=>exact λ_=>rfl|cons a f N4=>exact λo=>Q3 (·+1)<|N4 _);exact this _ _);obtain⟨t,N3,_,_⟩:=us (lD d) p o.c3 [] rfl;refine Ob ?_;have NS:=yc (a:=m) (b:=d) (o:=o) (c:=p);generalize(e1 m (cc m d) o.c3 p).1=Ol at*;generalize(e1 m (cc m d) o.c3 p).2=Oh at*;refine bJ (b5<|Z Q.a5<|B8 B v)<|bF ?_;have u:=H.a0<|.d vs;have s:=H.ch (o:=.d vs);have y:=NN.ch s;have X:(O.a0 E.f<|.d vs).D E.f=some (.d vs):=dJ;have R:=Q.bD λ_ _=>fW.cS s.D;have U:=N9.q s.lj;generalize O.a0 E.f (.d vs)=NQ at*;refine ah y.eZ λJ w Y=>?_;have NX:=y.vN;refine Z ((U.o 5 #[]).symm)<|rE (u.r w) (u.cg X) (λOa=>u.i3 _ _ _ _ w X Oa.symm) (b5<|Z Y.a5<|Z R.a5<|Z B<|P9 (QT NX _)<|P9 A<|P9 q #[]) ?_;have D:ea M (NQ.Q 5<|.d<|J++vs):=U.q ⟨λ_ _ b=>b,λ_ _=>rfl⟩;refine oM (R:=none) (u.Q w<|.d<|J++vs) ((y.KY w Y R).bu (j:=k+aW (d+1))<|Z B A) (cv q:k+(3*(2*aW d+8)+15)<=_) N3 (Z (D.o 1 #[])<|D.D _ _ z) (λ_ _ _ b=>b) λNR Oe I L N_=>?_;rw[<-NS] at L;exact V NR Oe I L<|(N8.q D).q N_
 exact Z (rfl:n+(c+2)=n+c+1+1)<|sh F K (an [⟨1,.h (.b 0)<|.h (.x 3<|.h (.x 2<|.b 1)<|.e 8)<|.e 15,.e 60000⟩] (.h (.b 0)<|.e 5) (.e 60000) rfl [k,aW d] q) P T (pU S λf C=>W ⟨f,C⟩) λNP Oc N G N7=>V NP Oc N (G.bu (an [] (.h (.b 0)<|.e 5) (.h (.b 0)<|.h (.x 3<|.h (.x 2<|.b 1)<|.e 8)<|.e 15) rfl [k,aW d]:_<=k+(3*(2*aW d+8)+15))) N7
end
noncomputable def qW:List Int:=[0,0,0,0,1,0,0,0,0,1,0,0,1,0,0,1,1,0,2,1,1]
noncomputable def gm(a b:Nat):List (Y×Y):=[(.l "cells",.a a),(.l "spot",.c (b:Nat))]
structure ew(a:a9)(s:Nat):Prop where
 bO:∃b c,c<=s/\a.aF 0=some (.K<|gm b c)/\∃cs:List Int,cs.length<=1000/\a.D b=some (.d<|cs.map .c)
theorem ew.bu(b:ew a s)(e:s<=c):ew a c:=by exact bZ b.bO λd h f g=>⟨d,h,P9 f e,g⟩
structure hH(a b:a9):Prop where
 D:eL a.D b.D
 o:b.o=a.o
 aF:∀r,r≠0->b.aF r=a.aF r
theorem hH.cK:hH a a:=⟨.cK,rfl,λ_ _=>rfl⟩
theorem hH.q(a:hH c d)(g:hH d e):hH c e:=⟨a.D.q g.D,g.o.trans a.o,λr b=>(g.aF r b).trans<|a.aF r b⟩
theorem gj.ic(a:gj b c):hH b c:=⟨a.D,a.o,λr _=>Z a.aF rfl⟩
theorem ew.ch(b:ew c s)(a:gj c d):ew d s:=by obtain⟨e,j,f,g,cs,h,i⟩:=b.bO;exact⟨e,j,f,a.aF▸g,cs,h,a.D _ _ i⟩
theorem y0(x:Int){k:Nat}(b:0<k):∃r:Nat,r<k/\x % (k:Int)=r:=am ((x % (k:Int)).toNat) (by have:=Int.emod_nonneg x (show(k:Int)≠0 by exact uj b);have:=Int.emod_lt_of_pos x (show(0:Int)<k by exact gK b);omega) (by have:=Int.emod_nonneg x (show(k:Int)≠0 by exact uj b);exact(Int.toNat_of_nonneg this).symm)
section
theorem u8:d5 a (.cO 4)=some (.A<|qW.map .c):=∅
theorem hT(j:ca d y)(D:ew d s)(B:s<=1000)(A:0<l)(H:∀o C (r:Nat),ca o C->hH d o->ew o (s+1)->r<l->h (.c (r:Nat)) C):ag (n+2) p (.B 101 0) [.a<|d.o 0,.c (l:Nat)] h i y:=by
 refine aZ λL K=>?_;obtain⟨c,a,u,k,cs,z,E⟩:=D.bO;refine K<|bp EU ∅<|gZ (j.r k) rfl (v:=.c (a:Nat)) ∅ (yA (j.r k) rfl (v:=.c (a:Nat)) ∅ (k0 (el<|aM (aM u B) #[]) ∅<|mc (j.r k) rfl ∅ (Z (∅:e0 (.l "spot") (.c<|(a:Int)+1) (gm c a)=gm c (a+1)) ?_)));have f:=j.Q k<|.K<|gm c<|a+1;have q:(d.Q 0<|.K<|gm c<|a+1).aF 0=some (.K<|gm c<|a+1):=im;have t:=E;have bf:∀(x:Int),J (bW .Mod (.c x)<|.c (l:Nat)) h<|y.Q (d.o 0)<|.K<|gm c<|a+1:=λx=>by exact xt (gK A)<|ah (y0 x A) λr F e=>Z e<|H _ _ r f ⟨λ_ _ b=>b,rfl,λr b=>f3 b⟩ ⟨c,a+1,oE u,q,cs,z,t⟩ F
 refine gZ (f.r q) rfl ∅ (i2 (f.cg t) (b5<|Z (P6 ..)<|m2 z)<|nY<|aL<|Z (P6 ..) ?_);by_cases m:a<cs.length;refine bJ (by rw[Qx];exact gK m)<|gZ (f.r q) rfl ∅ (g2 (f.cg t) (v:=.c cs[a]) (Z (P6 ..)<|Z (it m (aM (aM u B) #[]) ..) (Z Q7 ?_:(cs.map Y.c)[a]?=_))<|bf _);refine Z (RB m) ?_;rfl;refine bx (by rw[QF];exact pl m)<|eQ<|nF<|ir (.a5 u8 rfl rfl)<|nY<|aL ?_;by_cases g:a<21;exact bJ (by rw[Qx];exact gK g) (by refine ir (.A u8 (w:=.c qW[a])<|Z (P6 ..)<|Z (it g (Bx g #[]) ..) (Z Q7 ?_:(qW.map Y.c)[a]?=_))<|(λx=>bf x) _;refine Z (RB g) ?_;rfl);exact bx (by rw[QF];exact pl g)<|bf _
theorem DW(N:ca v W)(U:ew v s)(r:s<=900)(z:a<3)(A:∀x X T K,ca x X->hH v x->ew x (s+3)->ef x.D T K->K.dY (2 - a)->(∀f,K=.cR f->f.length<=3)->h (.a T) X):ag (n+3) p (.B 102 0) [.a<|v.o 0,.c (a:Nat)] h i W:=by
 refine bp Bu ∅<|hT N U (cv r) #[] λy N8 w M B D1 N_=>eQ<|ek<|aL<|ad B.o ?_;have R:∀(F:Bool->aa),F=(λNP=>if NP then(J (bW .Add (.c (a:Nat))<|.c 1) λNT=>J (bW .Sub (.c 2)<|.c (a:Nat)) λNU=>ag (n+2) p (.B 101 0) [.a<|y.o 0,NU] (λNX=>J (bW .Add NT NX) λNV=>ag (n+2) p (.B 101 0) [.a<|y.o 0,.c 3] (λNY=>J (a4<|.A [NV,NY]) λN6=>J (a4<|.d [N6]) λNS=>J (a4<|.A [.l "asks",NS]) λNZ=>h NZ)<|aS i)<|aS i) else ag (n+2) p (.B 101 0) [.a<|y.o 0,.c 3] (λH=>J (cW .Eq (.c (w:Nat))<|.c 1) λNN=>J (dD NN) λNQ=>if NQ then(ag (n+2) p (.B 101 0) [.a<|y.o 0,.c 3] (λNW=>J (a4<|.A [.l "move",H,NW]) λN3=>h N3)<|aS i) else cU (λN7=>h N7) λS=>J (cW .Eq (.c (w:Nat))<|.c 2) λNO=>J (dD NO) λNR=>if NR then(J (a4<|.A [.l "make",H]) λN4=>S N4) else J (a4<|.A [.l "drop",H]) λN5=>S N5)<|aS i)->F false N8:=λF e=>by refine Z e<|bx rfl (hT (l:=3) M D1 (fp r #[]) #[] λI N9 b d j D2 g=>ek<|aL ?_);have L:=B.q j;by_cases c:w=1;refine bJ (Z c rfl)<|ad j.o<|hT (l:=3) d D2 (xv r) #[] λG u q m C D3 E=>bF ?_;have l:=m.ch (o:=.A [.l "move",.c (b:Nat),.c (q:Nat)]);exact A _ _ _ (.fc b q) (m.a0 _) ((L.q C).q l.ic) (D3.ch l) (.fc dJ) ⟨g,E⟩ (λf c=>by cases c);refine bx (by rw[Qk];exact λt=>c<|fr t)<|eQ<|ek<|aL ?_;by_cases k:w=2;refine bJ (Z k rfl)<|bF ?_;have l:=d.ch (o:=.A [.l "make",.c (b:Nat)]);exact A _ _ _ (.eS b) (d.a0 _) (L.q l.ic) ((D2.bu<|Q4 _).ch l) (.eS dJ) g (λf c=>by cases c);refine bx (by rw[Qk];exact λt=>k<|fr t)<|bF ?_;have l:=d.ch (o:=.A [.l "drop",.c (b:Nat)]);exact A _ _ _ (.e8 b) (d.a0 _) (L.q l.ic) ((D2.bu<|Q4 _).ch l) (.e8 dJ) g λf c=>by cases c
 by_cases c:w=3;refine hJ (Z c rfl)<|nY<|aL ?_;by_cases k:a<2;refine hJ (by rw[Qx];exact gK k)<|bJ rfl (i0 (el<|h3 z) ∅<|qS ∅ (el<|h3 z)<|Z ((Int.ofNat_sub<|Qw z).symm:((2:Int) - (a:Int))=((2 - a:Nat):Int))<|hT M D1 (fp r #[]) (Nat.sub_pos_of_lt k) λI N9 b d j D2 g=>i0 (Z (rfl:((a:Int)+1)=((a+1:Nat):Int))<|el<|cv z) (el<|aM (gw g)<|aM (Nat.sub_le 2 a) #[])<|ad j.o<|hT (n:=n) (l:=3) d D2 (xv r) #[] λG u q m C D3 E=>bF<|bF<|bF<|Z (by exact(rfl):((a:Int)+1+(b:Int))=((a+1+b:Nat):Int)) ?_);have O:=m.a0<|.A [.c ((a+1+b:Nat):Int),.c (q:Nat)];have P:=O.a0<|.d [.a u.f];have Q:=O.ch (o:=.d [.a u.f]);have D:=P.ch (o:=.A [.l "asks",.a<|u.f+1]);have l:=((m.ch).q Q).q D;refine A _ _ _ (.cR [(a+1+b,q)]) (P.a0<|.A [.l "asks",.a<|u.f+1]) (((B.q j).q C).q l.ic) (D3.ch l) (.cR dJ (D.D _ _ dJ)<|.aY ((Q.q D).D _ _ dJ) .aP) (b9 (by simp) (by simp) λN' c=>?_) λf c=>by cases c;exact RC rfl
 exact Z (Re.1 c)<|b9 (by exact(Z (Nat.add_right_comm a 1 b)<|Nat.succ_lt_succ<|Nat.lt_sub_iff_add_lt'.1 g:a+1+b<3)) (by exact(an [⟨1,.e 2,.h (.b 2)<|.b 0⟩] (.e 3) (.h (.h (.h (.b 0)<|.e 1)<|.b 1)<|.b 2) rfl [a,b,2 - a] (Nat.sub_le_iff_le_add.1<|og _):3<=a+1+b+(2 - a))) E;exact jb (by rw[QF];exact pl k)<|R _ rfl;exact jb (by rw[Qk];exact λt=>c<|fr t)<|R _ rfl
end
section
theorem pT{o:(Nat->Option af)->Y->A->Prop}{Q:a9->Prop}(b4:∀u w v a,eL u w->o u v a->o w v a)(R:∀c d,Q c->hH c d->Q d)(O:∀x c g s (h:List Y->aa) (i:Y->aa),ca c g->Q c->ew c s->s<=S->(∀d k v a,ca d k->hH c d->ew d (s+j)->o d.D v a->h [v] k)->z x h i g):∀(r e s:Nat) (c:a9) (g:V) (h:List Y->aa) (i:Y->aa),f - e<r->ca c g->Q c->ew c s->s+(f - e)*j<=S->(∀d k vs n,ca d k->hH c d->ew d (s+(f - e)*j)->be (o d.D) vs n->n.length=f - e->h vs k)->bo (.cf f) z r e h i g:=by intro T;induction T with|zero=>intro e _ _ _ _ _ b _ _ _ _ _;exact absurd b (Q8 _)|succ r P=>intro e s c g h i b y C t q m;refine(ho ?_:J (dv (.cf f) e) _ g);by_cases l:e<f;refine Z (P8 l) ?_;rw[(Z (ve l ..:f - e=(f - (e+1))+1)<|Z (Nat.succ_mul ..) pi:s+(f - e)*j=s+j+(f - (e+1))*j)] at q m;exact O _ c g s _ _ y C t (Qo<|Qo q) λK W v a H B D1 M=>(P (e+1) (s+j) K W _ _ (ga b l) H (R _ _ C B) D1 q λd k vs n F D E L p=>m d k (v::vs) (a::n) F (B.q D) E (.aY (b4 _ _ _ _ D.D M) L)<|Z QA<|Z p<|(ve l).symm);refine Z (P4 l) ?_;replace m:=(vq l)▸m;exact m c g [] [] y .cK (t.bu<|Q_ _ _) .aP rfl
theorem z2{n:Nat}{p:Bool}{h i:Y->aa}{t:V}{d:a9}{s:Nat}(y:ca d t)(M:ew d s)(F:s<=800)(NV:∀B NN m q,ca B NN->hH d B->ew B (s+7)->ef B.D m (.cR q)->cC.dY 3 (.cR q)->h (.a m) NN):ag (n+3) p (.B 104 0) [.a<|d.o 0] h i t:=by
 refine bp yM ∅<|hg<|gR (c8 _ _) ?_;have O:=y.h1<|.a<|d.o 0;have I:=y.ch (o:=.h1<|some<|.a<|d.o 0);have G:(d.a0 t.f<|.h1<|some<|.a<|d.o 0).D t.f=some (.h1<|some<|.a<|(d.a0 t.f<|.h1<|some<|.a<|d.o 0).o 0):=dJ;generalize(t.z<|.h1 none).Q t.f (.h1<|some<|.a<|d.o 0)=NZ at O;generalize t.f=X at*;generalize d.a0 X (.h1<|some<|.a<|d.o 0)=NY at*;refine b2 (O.cg G)<|hT (l:=3) O (M.ch I) (cv F) #[] λW NO r K j D2 u=>i0 ∅ (el<|h3 u)<|Z (rfl:((1:Int)+(r:Int))=((1+r:Nat):Int))<|jK (uE u:1+r<=1000000)<|pT (A:=Nat×Nat) (o:=λw v c=>∃m,v=.a m/\w m=some (.A [.c (c.1:Nat),.c (c.2:Nat)])/\c.1<3/\c.2<3) (Q:=λd=>d.D X=some (.h1<|some<|.a<|d.o 0)) (λw NX v a e ⟨m,D,E,P⟩=>⟨m,D,e _ _ E,P⟩) (λd B f U=>Z U.o<|U.D _ _ f) (λx d t s h i y f M F k=>?_) aJ 0 (s+1) W NO _ _ (pP dL u) K (Z j.o<|j.D _ _ G) D2 (F2 u F) λNP S vs q z C D3 N L=>?_;refine b2 (y.cg f)<|hT (l:=3) y M (cv F) #[] λW NO a K j D2 NR=>b2 (K.cg (by rw[<-j.o] at f;exact j.D _ _ f))<|hT (n:=n) (l:=3) K D2 (fp F #[]) #[] λNP S g z C D3 NS=>bF ?_;have l:=z.ch (o:=.A [.c (a:Nat),.c (g:Nat)]);exact k _ _ _ (a,g) (z.a0 _) ((j.q C).q l.ic) (D3.ch l)<|kc _ rfl dJ NR NS;have NT:vs.length=1+r:=N.a5.trans L;refine bJ (b5<|tu u NT)<|bF<|bF ?_;have T:=z.a0<|.d vs;have J:=T.ch (o:=.A [.l "asks",.a S.f]);have split:∀{w:Nat->Option af} {vs:List Y} {q:List (Nat×Nat)},be (λv (c:Nat×Nat)=>∃m,v=Y.a m/\w m=some (.A [.c (c.1:Nat),.c (c.2:Nat)])/\c.1<3/\c.2<3) vs q->∃H:List Nat,vs=H.map .a/\be (λm (c:Nat×Nat)=>w m=some (.A [.c (c.1:Nat),.c (c.2:Nat)])) H q/\∀c∈q,c.1<3/\c.2<3:=λ{w vs q} b=>by induction b with|aP=>exact cp [] rfl .aP (λ_ f=>(Rc f).elim)|aY x m NU=>refine cM x λNW R D E=>(Z R<|cM NU λH R P NQ=>Z R<|cp (NW::H) rfl (.aY D P) λc f=>?_);(rcases RD.1 f with rfl|f);exact E;exact NQ c f
 refine cM (split N) λH e D E=>?_;have l:=(z.ch).q J;refine NV _ _ _ q (T.a0<|.A [.l "asks",.a S.f]) (((I.ic.q j).q C).q l.ic) ((D3.bu<|an [⟨2,.h (.b 0)<|.e 1,.e 3⟩] (.h (.h (.b 1)<|.e 1)<|.hf (.h (.e 1)<|.b 0) 2) (.h (.b 1)<|.e 7) rfl [r,s] u).ch l) (.cR dJ (J.D _ _<|ad e dJ)<|D.bD λ_ _=>l.D _ _)<|b9 (λf=>?_) (an [⟨1,.h (.b 0)<|.e 1,.e 3⟩,⟨1,.b 1,.h (.e 1)<|.b 0⟩] (.b 1) (.e 3) rfl [r,q.length] u (dw L)) λc f=>?_;rw[f] at L;have:0=1+r:=L;exact cV [⟨1,.h (.e 1)<|.b 0,.e 0⟩] rfl [r] (P2 this.symm);exact bs (E c f) λa g=>b9 a (ix _ _) g
theorem tP{n:Nat}{p:Bool}{NT:V}{t:a9}{s:Nat}{A L:Nat}{w:Option Y}{Op:Y->Y->aa}{E5:Y->aa}{E4:Y->Y->aa}{E2 E3:Y->Y->Y->aa}{N_:List Y}(O2:A<3)(O:ca t NT)(NQ:ew t s)(F:s<=700)(U:t.aF 1=some (.d N_))(O0:N_.length<=3)(S:t.aF 2=some (.h1 w))(N:t.D L=some (.h1<|some<|.a<|t.o 0))(O4:∀E NP a OJ Pm Pn,ca E NP->eL t.D E.D->E.o=t.o->(∀r,r≠0->r≠1->r≠2->E.aF r=t.aF r)->ew E (s+11)->E.aF 1=some (.d<|N_++[.a a])->E.aF 2=some (.h1<|some<|.c (A:Nat))->kY E.D a OJ->(∀y∈OJ.a2,y.dY<|2 - A)->Op Pm Pn NP):(J (gi (t.o 2)<|.c (A:Nat)) λ_=>J (b6 L) λPo=>ag (n+3) p (.B 101 0) [Po,.c 3] (λOe=>fB Oe λPi=>bo Pi (λz OT E6=>J (b6 L) λPt=>J (b6<|t.o 2) λPp=>ag (n+3) p (.B 102 0) [Pt,Pp] (λPc=>OT [Pc]) E6) aJ 0 (λOM=>if Nat.ble OM.length bl then J (a4<|.d OM) (λM=>J (a4<|.A [.l "gives",.l "back"]) λPk=>J (b6 L) λPq=>ag (n+3) p (.B 101 0) [Pq,.c 2] (λPd=>J (ce Pk Pd) λP=>aQ (ag (n+3) p) (.a<|t.o 1) "append" (λON=>J (b6 L) λPr=>ag (n+3) p (.B 101 0) [Pr,.c 2] (λPe=>J (bW .Add (.c 1) Pe) λO7=>fB O7 λPh=>bo Ph (λPz OS OO=>J (b6 L) λPs=>ag (n+3) p (.B 101 0) [Ps,.c 3] (λPf=>OS [Pf]) OO) aJ 0 (λOL=>if Nat.ble OL.length bl then J (a4<|.d OL) (λOc=>J (a4<|.A [P,Oc]) λG=>J (a4<|.d [G]) λOF=>J (bW .Add M OF) λO8=>ON [O8]) else ae) aB)<|E3 M P) (λPx=>Op M P)<|E2 M P)<|E4 M) else ae) aB) E5) NT:=by
 refine gR (O.r S) ?_;have N7:=O.Q S<|.h1<|some<|.c (A:Nat);have Oa:∀r,r≠2->(t.Q 2<|.h1<|some<|.c (A:Nat)).aF r=t.aF r:=λr b=>f3 b;have D1:ew (t.Q 2<|.h1<|some<|.c (A:Nat)) s:=c5 NQ.bO λN' B a g c=>⟨N',B,a,(Oa 0 #[]).trans g,c⟩;have OB:(t.Q 2<|.h1<|some<|.c (A:Nat)).aF 2=some (.h1<|some<|.c (A:Nat)):=im;have OC:(t.Q 2<|.h1<|some<|.c (A:Nat)).D=t.D:=rfl;have Ob:(t.Q 2<|.h1<|some<|.c (A:Nat)).o=t.o:=rfl;generalize NT.Q (t.o 2) (.h1<|some<|.c (A:Nat))=PA at N7;generalize t.Q 2 (.h1<|some<|.c (A:Nat))=Oq at*;replace N:=Ob.symm▸OC.symm▸N;refine ad Ob ?_;have Oz:=(Oa 1 #[]).trans U;refine b2 (N7.cg N)<|hT (l:=3) N7 D1 (cv F) #[] λOU Pv r OQ j D2 K=>jK (h3 K:r<=1000000)<|pT (o:=λR v y=>(∃B,v=.a B/\ef R B y)/\y.dY (2 - A)/\∀f,y=.cR f->f.length<=3) (Q:=λt=>t.D L=some (.h1<|some<|.a<|t.o 0)/\t.aF 2=some (.h1<|some<|.c (A:Nat))/\t.o 2=Oq.o 2) (λR OP v a e ⟨⟨B,U,S⟩,NR⟩=>⟨⟨B,U,S.cS e⟩,NR⟩) (λt E q X=>b9 (by exact Z X.o<|X.D _ _ q.1) (by exact Z (X.aF 2 #[]) q.2.1)<|Z X.o q.2.2) (λx t NT s h i O q NQ F k=>?_) aJ 0 (s+1) OU Pv _ _ (hQ (k:=2) dL (Qw K) rfl) OQ (b9 (by exact Z j.o<|j.D _ _ N) (by exact Z (j.aF 2 #[]) OB) (by refine Z j.o ?_;rfl)) D2 (sz K F) λOt T vs a2 Ok C D3 Ow OG=>?_;have Oy:=O.r q.2.1;rw[q.2.2] at Oy;exact b2 (O.cg q.1)<|b2 Oy<|DW O NQ (cv F) O2 λE NP B y N6 Of N5 U S NR=>k E NP _ y N6 Of N5<|b9 ⟨B,rfl,U⟩ S NR;have OD:vs.length=r:=Ow.a5.trans OG;refine bJ (b5<|an [⟨1,.h (.b 0)<|.e 1,.e 3⟩,⟨1,.b 1,.b 0⟩] (.b 1) (.e 1000000) rfl [r,vs.length] K (P2 OD))<|bF<|bF ?_;have Ol:=Ok.a0<|.d vs;have Om:=Ol.a0<|.A [.l "gives",.l "back"];have Ov:=Ol.ch (o:=.A [.l "gives",.l "back"]);have OW:((Ot.a0 T.f<|.d vs).a0 (T.z<|.d vs).f<|.A [.l "gives",.l "back"]).D (T.z<|.d vs).f=some (.A [.l "gives",.l "back"]):=dJ;have l:=(Ok.ch).q Ov;generalize(Ot.a0 T.f<|.d vs).a0 (T.z<|.d vs).f (.A [.l "gives",.l "back"])=Ou at*;generalize(T.z<|.d vs).z (.A [.l "gives",.l "back"])=PB at*;generalize(T.z<|.d vs).f=Py at*;generalize T.f=O5 at*;have P:=(j.q C).q l.ic;refine b2 (Om.cg (Z P.o<|P.D _ _ N:Ou.D L=some (.h1<|some<|.a<|Ou.o 0)))<|hT (l:=2) Om (D3.ch l) (aM (sz K F) #[]) #[] λNW PC g NV m D6 NX=>?_;have NN:=P.q m;refine cL (NV.cg<|m.D _ _ OW) (v:=.l<|if g=1 then"back" else"gives") ?_ ?_;refine Z (it (NX:g<2)<|aM (gw NX) #[]) ?_;exact NB rfl rfl NX;refine Z (by refine Z NN.o ?_;rfl:Oq.o 1=NW.o 1) ?_;refine fe (NV.r<|(NN.aF 1 #[]).trans Oz) ∅<|b2 (NV.cg (Z NN.o<|NN.D _ _ N:NW.D L=some (.h1<|some<|.a<|NW.o 0)))<|hT (l:=2) NV D6 (aM (j_<|sz K F) #[]) #[] λOV Pw q OR u D7 I=>i0 ∅ (el<|aM (gw I) #[]) ?_;have OK:=NN.q u;refine Z (rfl:((1:Int)+(q:Int))=((1+q:Nat):Int))<|jK (an [⟨1,.h (.b 0)<|.e 1,.e 2⟩] (.h (.e 1)<|.b 0) (.e 1000000) rfl [q] I:1+q<=1000000)<|pT (o:=λR v b=>v=.c (b:Nat)/\b<3) (Q:=λt=>t.D L=some (.h1<|some<|.a<|t.o 0)) (λR OP v a e b=>b) (λt E q X=>Z X.o<|X.D _ _ q) (λx t NT s h i O q NQ F k=>?_) aJ 0 _ OV Pw _ _ (pP dL<|Rb I) OR (Z OK.o<|OK.D _ _ N) D7 (an [⟨1,.h (.b 0)<|.e 1,.e 2⟩,⟨3,.h (.b 1)<|.e 1,.e 3⟩,⟨1,.b 2,.e 700⟩] (.h (.h (.h (.h (.h (.b 2)<|.e 1)<|.hf (.b 1) 3)<|.e 1)<|.e 1)<|.hf (.h (.e 1)<|.b 0) 1) (.e 900) rfl [q,r,s] I K F) λW d H NY On D D8 Ox M=>?_;exact b2 (O.cg q)<|hT (l:=3) O NQ (cv F) #[] λE NP r N6 Of N5 K=>k E NP _ r N6 Of N5 ⟨rfl,K⟩;have O1:∀{vs:List Y} {F:List Nat},be (λv (b:Nat)=>v=Y.c (b:Nat)/\b<3) vs F->vs=(F.map λb=>Y.c (b:Nat))/\∀b∈F,b<3:=λ{vs F} b=>by induction b with|aP=>exact⟨rfl,λ_ q=>(Rc q).elim⟩|aY x B NZ=>refine⟨Z x.1<|Z NZ.1 rfl,λb q=>?_⟩;(rcases RD.1 q with rfl|q);exact x.2;exact NZ.2 b q
 obtain⟨OX,O6⟩:=O1 Ox;refine bJ (b5<|an [⟨1,.h (.b 0)<|.e 1,.e 2⟩,⟨1,.b 1,.h (.e 1)<|.b 0⟩] (.b 1) (.e 1000000) rfl [q,H.length] I (P2<|Ox.a5.trans M))<|bF<|bF<|bF ?_;have N9:=On.a0<|.d H;have OH:=On.ch (o:=.d H);have N8:=N9.a0<|.A [.l<|if g=1 then"back" else"gives",.a d.f];have Od:=N9.ch (o:=.A [.l<|if g=1 then"back" else"gives",.a d.f]);have Oo:=N8.a0<|.d [.a<|d.f+1];have N3:=N8.ch (o:=.d [.a<|d.f+1]);have O9:(((W.a0 d.f<|.d H).a0 (d.f+1)<|.A [.l<|if g=1 then"back" else"gives",.a d.f]).a0 (d.f+1+1)<|.d [.a<|d.f+1]).D d.f=some (.d H):=N3.D _ _<|Od.D _ _ dJ;have O_:(((W.a0 d.f<|.d H).a0 (d.f+1)<|.A [.l<|if g=1 then"back" else"gives",.a d.f]).a0 (d.f+1+1)<|.d [.a<|d.f+1]).D (d.f+1)=some (.A [.l<|if g=1 then"back" else"gives",.a d.f]):=N3.D _ _ dJ;have O':(((W.a0 d.f<|.d H).a0 (d.f+1)<|.A [.l<|if g=1 then"back" else"gives",.a d.f]).a0 (d.f+1+1)<|.d [.a<|d.f+1]).D (d.f+1+1)=some (.d [.a<|d.f+1]):=dJ;have OI:gj W (((W.a0 d.f<|.d H).a0 (d.f+1)<|.A [.l<|if g=1 then"back" else"gives",.a d.f]).a0 (d.f+1+1)<|.d [.a<|d.f+1]):=(OH.q Od).q N3;have NU:ca (((W.a0 d.f<|.d H).a0 (d.f+1)<|.A [.l<|if g=1 then"back" else"gives",.a d.f]).a0 (d.f+1+1)<|.d [.a<|d.f+1]) (((d.z<|.d H).z<|.A [.l<|if g=1 then"back" else"gives",.a d.f]).z<|.d [.a<|d.f+1]):=Oo;clear Oo OH Od N3 N9 N8;refine(?_:J (bW .Add (.a O5)<|.a<|d.f+1+1) _ (((d.z<|.d H).z<|.A [.l<|if g=1 then"back" else"gives",.a d.f]).z<|.d [.a<|d.f+1]));generalize((W.a0 d.f<|.d H).a0 (d.f+1)<|.A [.l<|if g=1 then"back" else"gives",.a d.f]).a0 (d.f+1+1) (.d [.a<|d.f+1])=Os at*;generalize((d.z<|.d H).z<|.A [.l<|if g=1 then"back" else"gives",.a d.f]).z (.d [.a<|d.f+1])=Oi at*;generalize d.f+1+1=OF at*;generalize d.f+1=G at*;generalize d.f=Oc at*;have Og:=((m.q u).q D).q OI.ic;refine qh (NU.cg<|Og.D _ _<|Ov.D _ _ dJ) (NU.cg O') (b5 (an [⟨1,.h (.b 0)<|.e 1,.e 3⟩,⟨1,.b 1,.b 0⟩] (.h (.b 1)<|.e 1) (.e 1000000) rfl [r,vs.length] K (P2 OD):vs.length+1<=_)) ?_;have Oj:=NU.a0<|.d<|vs++[.a G];have NS:=NU.ch (o:=.d<|vs++[.a G]);have NO:=(P.q Og).q NS.ic;have OA:=(NO.aF 1 #[]).trans Oz;have OZ:=dJ (b:=Os) (a:=Oi.f) (o:=.d<|vs++[.a G]);refine Z (by refine Z NO.o<|Z NN.o ?_;rfl:NW.o 1=(Os.a0 Oi.f<|.d<|vs++[.a G]).o 1) ?_;refine hP (Oj.r OA) (b5<|cv O0) ?_;have Pg:∀{R:Nat->Option af} {vs:List Y} {a2:List cC},be (λv (y:cC)=>(∃B,v=Y.a B/\ef R B y)/\y.dY (2 - A)/\∀f,y=.cR f->f.length<=3) vs a2->∃N4:List Nat,vs=N4.map .a/\be (ef R) N4 a2/\∀y∈a2,y.dY (2 - A)/\∀f,y=.cR f->f.length<=3:=λ{R vs a2} b=>by induction b with|aP=>exact cp [] rfl .aP (λ_ q=>(Rc q).elim)|aY x B NZ=>obtain⟨⟨Pj,rfl,U⟩,S⟩:=x;refine cM NZ λPl Oh NR OY=>(Z Oh<|cp (Pj::Pl) rfl (.aY U NR) λy q=>?_);(rcases RD.1 q with rfl|q);exact S;exact OY y q
 refine cM (Pg Ow) λN4 Oh O3 OE=>?_;subst Oh;refine O4 _ _ Oi.f ⟨a2,decide (g=1),NY⟩ _ _ (Oj.Q OA _) (ad OC NO.D) (NO.o.trans Ob) (λr Pa Pb Oe=>(f3 Pb).trans<|(NO.aF r Pa).trans<|Oa r Oe) ?_ im ((f3 #[]).trans<|(NO.aF 2 #[]).trans OB) ⟨kN N4 G Oc ?_ (O3.bD λ_ _ b=>b.cS<|((l.ic.q Og).q NS.ic).D) ?_<|NS.D _ _<|ad OX O9,by refine(?_:a2.length<=2);exact aM (dw OG)<|Qw K,b9 (λPu=>?_) (by exact(an [⟨1,.h (.b 0)<|.e 1,.e 2⟩,⟨1,.b 1,.h (.e 1)<|.b 0⟩] (.b 1) (.e 2) rfl [q,NY.length] I (dw M):NY.length<=2)) O6,λy q=>(OE y q).2⟩ λy q=>(OE y q).1;exact c5 (((D8.ch OI).ch NS).bu<|an [⟨1,.h (.b 0)<|.e 1,.e 2⟩,⟨3,.h (.b 1)<|.e 1,.e 3⟩] (.h (.h (.h (.h (.h (.b 2)<|.e 1)<|.hf (.b 1) 3)<|.e 1)<|.e 1)<|.hf (.h (.e 1)<|.b 0) 1) (.h (.b 2)<|.e 11) rfl [q,r,s] I K).bO λN' B a g c=>⟨N',B,a,(f3 #[]).trans g,c⟩;exact Z Rd OZ;refine NS.D _ _<|O_.trans ?_;exact NB rfl rfl NX;have:NY=[]:=Pu;rw[this] at M;have:0=1+q - 0:=M;exact ww this
end
section
theorem cZ.Jz(h:cZ g f c)(v:Y){r:Nat}(b:f.aF r=none):cZ g ((f.a0 c.f<|.h1<|some v).z r (c.f+1)<|.h1 none) (((c.z<|.h1 none).z<|.h1 none).Q c.f<|.h1<|some v):=((h.a0<|.h1<|some v).z b<|.h1 none).sF (λa=>by refine Z (hM ..)<|Z (hh ..)<|Z (hh ..)<|Z (hh ..)<|Z (hh ..) (?_:(if a=c.f then _ else if a=c.f+1 then _ else if a=c.f then _ else _)=if a=c.f+1 then _ else if a=c.f then _ else _);by_cases d:a=c.f+1;refine Z (P4 λb=>cV [⟨1,.h (.b 1)<|.e 1,.b 0⟩,⟨1,.b 0,.b 1⟩] rfl [a,c.f] (P2 d.symm) (P2 b))<|Z (P8 d)<|Z (P8 d) ?_;rfl;refine Z (P4 d)<|Z (P4 d) ?_;by_cases e:a=c.f;refine Z (P8 e)<|Z (P8 e) ?_;rfl;refine Z (P4 e)<|Z (P4 e)<|Z (P4 e) ?_;rfl) rfl rfl
theorem Js{p:Bool}{u m:I}{h i:Y->aa}{vs c d:Y}{a b:Nat}:cF u m p 58 (as 103 0) (List.drop 2<|ab 103 0) (de h i) (.f<|M7 vs c d a b)=h vs:=∅
structure sT(a:a9)(b:List Nat)(c:List bU):Prop where
 eZ:a.aF 1=some (.d<|b.map .a)
 bO:be (kY a.D) b c
 dY:∀(q:Nat) (d:bU),c[q]?=some d->∀e∈d.a2,e.dY<|2 - q
theorem LQ{n:Nat}{p:Bool}{h i:Y->aa}{j:V}{d:a9}{s:Nat}(N_:ca d j)(Om:ew d s)(Of:s<=600)(N7:∀r,r≠0->d.aF r=none)(OI:∀e D Oi y,ca e D->eL d.D e.D->e.o 0=d.o 0->(∀r,r≠0->e.aF r=none)->ew e (s+33)->fR e.D Oi y->hY y->h (.a Oi) D):ag (n+4) p (.B 103 0) [.a<|d.o 0] h i j:=by
 refine bp KX ∅<|hg<|hg<|gR (eC (c8 _ _)<|P' _)<|bF ?_;have F:=N_.Jz (.a<|d.o 0)<|N7 2 #[];have t:((d.a0 j.f<|.h1<|some<|.a<|d.o 0).z 2 (j.f+1)<|.h1 none).D j.f=some (.h1<|some<|.a<|d.o 0):=dJ;have Q:((d.a0 j.f<|.h1<|some<|.a<|d.o 0).z 2 (j.f+1)<|.h1 none).o 2=j.f+1:=jt;have P:((d.a0 j.f<|.h1<|some<|.a<|d.o 0).z 2 (j.f+1)<|.h1 none).o 0=d.o 0:=gp #[];have R:((d.a0 j.f<|.h1<|some<|.a<|d.o 0).z 2 (j.f+1)<|.h1 none).aF 2=some (.h1 none):=i9;have M:∀r,r≠2->((d.a0 j.f<|.h1<|some<|.a<|d.o 0).z 2 (j.f+1)<|.h1 none).aF r=d.aF r:=λr b=>dM b;have v:eL d.D ((d.a0 j.f<|.h1<|some<|.a<|d.o 0).z 2 (j.f+1)<|.h1 none).D:=N_.cS;refine(?_:ci _ _ _ _ (Nk (.a (((j.z<|.h1 none).z<|.h1 none).Q j.f<|.h1<|some<|.a<|d.o 0).f) (j.f+1) j.f:ax) _ _);revert F;refine c2 (((j.z<|.h1 none).z<|.h1 none).Q j.f<|.h1<|some<|.a<|d.o 0) λE=>?_;intro F;revert t Q P R M v F;refine c2 (j.f+1) λU=>?_;intro t Q P R M v F;revert t Q P R M v F;refine c2 j.f λL=>?_;intro t Q P R M v F;revert t Q P R M v F;refine c2 ((d.a0 L<|.h1<|some<|.a<|d.o 0).z 2 U<|.h1 none) λH=>?_;intro t Q P R M v F;have NO:=F.z ((M 1 #[]).trans<|N7 1 #[])<|.d [];have X:(H.z 1 E.f<|.d []).o 2=U:=(gp #[]).trans Q;have NW:(H.z 1 E.f<|.d []).o 0=d.o 0:=(gp #[]).trans P;have N4:(H.z 1 E.f<|.d []).aF 1=some (.d []):=i9;have N5:(H.z 1 E.f<|.d []).aF 2=some (.h1 none):=(dM #[]).trans R;have NX:∀r,r≠1->r≠2->(H.z 1 E.f<|.d []).aF r=d.aF r:=λr b Oy=>(dM b).trans<|M r Oy;have N6:(H.z 1 E.f<|.d []).D=H.D:=rfl;rw[<-N6] at t v;refine ad (jt:(H.z 1 E.f<|.d []).o 1=E.f) ?_;revert NO;refine c2 (E.z<|.d []) λOT=>?_;intro NO;revert t v X NW N4 N5 NX N6 NO;refine c2 (H.z 1 E.f<|.d []) λK=>?_;intro t v X NW N4 N5 NX N6 NO;replace t:=NW.symm▸t;have D2:ew K s:=by obtain⟨N3,N9,a,g,cs,c,J⟩:=Om.bO;exact⟨N3,N9,a,(NX 0 #[] #[]).trans g,cs,c,v _ _ J⟩
 have dm:∀(u:Nat) (S:u<3) (k:a9) (NR:V) (NV:List Nat) (y:List bU) (W:RI.ai->aa),ca k NR->k.o=K.o->k.D L=some (.h1<|some<|.a<|k.o 0)->ew k (s+u*11)->(∃w,k.aF 2=some (.h1 w))->sT k NV y->y.length=u->(∀e D Ou Oh l o,ca e D->eL k.D e.D->e.o=K.o->(∀r,r≠0->r≠1->r≠2->e.aF r=k.aF r)->ew e (s+(u+1)*11)->(∃w,e.aF 2=some (.h1 w))->sT e Ou Oh->Oh.length=u+1->W (.f<|M7 (.a<|K.o 1) l o U L) D)->(∀NY,NY=(Nk (.a<|K.o 1) U L:ax)\/(∃l o,NY=(M7 (.a<|K.o 1) l o U L))->bg (ag (n+3) true) (ag (n+3) p) p 57 (as 103 0) (bv (ab 103 0) 1) (au (ab 103 0) 1 0) NY (.c (u:Nat)) W NR):=λu S k NR NV y W NS x Ob D3 NN O N OJ NY OD=>by refine bA NN λw NN=>?_;have Oe:=O.bO.a5;have NZ:∀e D a NQ l o,ca e D->eL k.D e.D->e.o=k.o->(∀r,r≠0->r≠1->r≠2->e.aF r=k.aF r)->ew e (s+u*11+11)->e.aF 1=some (.d<|NV.map .a++[.a a])->e.aF 2=some (.h1<|some<|.c (u:Nat))->kY e.D a NQ->(∀T∈NQ.a2,T.dY<|2 - u)->W (.f<|M7 (.a<|K.o 1) l o U L) D:=λe D a NQ l o Oo Ok Ot ON On OG OH OR Ox=>OJ e D (NV++[a]) (y++[NQ]) l o Oo Ok (Ot.trans x) ON (Z (Q0 (an [] (.h (.b 0)<|.hf (.h (.b 1)<|.e 1) 11) (.h (.h (.b 0)<|.hf (.b 1) 11)<|.e 11) rfl [s,u])<|an [] (.h (.h (.b 0)<|.hf (.b 1) 11)<|.e 11) (.h (.b 0)<|.hf (.h (.b 1)<|.e 1) 11) rfl [s,u]:s+(u+1)*11=s+u*11+11) On) ⟨_,OH⟩ ⟨by refine Z Rd ?_;exact OG,(O.bO.bD λ_ _ b=>b.cS Ok).cj<|.aY OR .aP,λq g NP T B=>by by_cases Ol:q=y.length;subst Ol;rw[e6] at NP;obtain rfl:=P0 NP;exact Z N<|Ox T B;(have:q<y.length:=by have:=(P1.1 NP).1;rw[P3] at this;have:q<y.length+1:=this;exact iF this Ol);rw[RA this] at NP;exact O.dY q g NP T B⟩<|Z P3<|Z N rfl;(rcases OD with rfl|⟨l,o,rfl⟩);refine bR HG<|ad X<|ad x<|tP (Op:=λl o=>W<|.f<|M7 (.a<|k.o 1) l o (k.o 2) L) S NS D3 (yo S Of) O.eZ (Z (P6 ..)<|vA S N Oe) NN Ob<|Z x<|Z X ?_;rw[x] at NZ;exact NZ;refine bR z7<|ad X<|ad x<|tP (Op:=λl o=>W<|.f<|M7 (.a<|k.o 1) l o (k.o 2) L) S NS D3 (yo S Of) O.eZ (Z (P6 ..)<|vA S N Oe) NN Ob<|Z x<|Z X ?_;rw[x] at NZ;exact NZ
 refine jE<|ho<|Z (P8 #[])<|dm 0 #[] K OT [] [] _ NO rfl t (Z (Nat.zero_mul ..) D2) ⟨_,N5⟩ ⟨N4,.aP,λq NQ B=>bm B⟩ rfl (λk NR Ov OL l o NS C x OO D3 NN O N=>ho<|Z (P8 #[])<|dm 1 #[] k NR Ov OL _ NS x (Z x<|C _ _ t) D3 NN O N (λOs OU Ow OM l o Op z Oc OP D4 OS Oq OK=>ho<|Z (P8 #[])<|dm 2 #[] Os OU Ow OM _ Op Oc (Z Oc<|z _ _<|C _ _ t) D4 OS Oq OK (λNU OV Oa N8 l o N' A Od OQ D5 OW NT Og=>ho<|Z (P4 #[]) (bR Js ?_:cF _ _ _ _ _ _ _ _ _)) _<|.inr<|g' _ _ rfl) _<|.inr ⟨_,_,rfl⟩) _ (.inl rfl);have m:=N'.nk NT.eZ;refine ad (Z Od rfl:NU.o 1=K.o 1)<|OI ((NU.d8 1<|.d<|Oa.map .a).gN 2) OV (NU.o 1) N8 ((N'.d8 NT.eZ).gN) (((v.q C).q z).q<|A.q m) (Z Od<|Z NW rfl:NU.o 0=_) (λr b=>?_) ?_ ⟨am Oa dJ<|NT.bO.bD λ_ _ B=>B.cS m,Og⟩ λw OF J OC T B=>?_;by_cases G:r=2;exact Z G yS;refine(sW G).trans ?_;by_cases I:r=1;exact Z I vd;exact(lu I).trans<|(OQ r b I G).trans<|(OP r b I G).trans<|(OO r b I G).trans<|(NX r I G).trans<|N7 r b;obtain⟨N3,N9,a,g,cs,c,J⟩:=D5.bO;exact⟨N3,N9,a,(sW #[]).trans<|(lu #[]).trans g,cs,c,m _ _ J⟩;have OE:N8[w]?=some (dk N8 w):=by unfold dk;refine Z (RB<|Z Og OF) ?_;rfl
 have b:=NT.dY w _ OE T B;induction T with|cR f=>exact eN b λOz OA OB=>(b9 Oz OA λOj B=>eN (OB Oj B) λa g c=>b9 a (an [⟨1,.e 3,.h (.b 0)<|.b 1⟩,⟨1,.b 1,.b 2⟩] (.e 3) (.h (.b 0)<|.b 2) rfl [Oj.fst,2 - w,J] g (Nat.sub_le_iff_le_add.2<|an [⟨1,.e 3,.h (.h (.b 0)<|.b 1)<|.e 1⟩] (.e 2) (.h (.b 1)<|.b 0) rfl [w,J] OC)) c)|_=>exact b
end
section
set_option genCtorIdx false
set_option genSizeOf false
set_option genInjectivity false
structure dx(e:List (Nat×Nat))(d:Nat->Option af)(g:Nat)(c:List af)(b:V):Prop where
 f:b.f=g+c.length
 r:∀(k:Nat) (o:af),c[k]?=some o->b.r (g+k)=some o
 k:∀a o,d a=some o->b.r a=some o/\a<g
 L:b.L=e
section
theorem dx.z(e:dx l j g c d)(o:af):dx l j g (c++[o]) (d.z o):=by
 have f:=e.f;refine⟨by refine(?_:d.f+1=_);exact Z P3<|Z f rfl,λk h b=>?_,λa h b=>?_,e.L⟩;by_cases i:k<c.length;rw[RA i] at b;exact(P4 λb=>cV [⟨1,.h (.b 0)<|.e 1,.b 1⟩,⟨1,.h (.b 3)<|.b 1,.b 2⟩,⟨1,.b 2,.h (.b 3)<|.b 0⟩] rfl [k,c.length,d.f,g] i (P2 f.symm) (P2 b.symm)).trans<|e.r k h b;have:k=c.length:=by have:=(P1.1 b).1;rw[P3] at this;have:k<c.length+1:=this;exact rU this i
 subst this;rw[e6] at b;exact(P8 f.symm).trans b;have:=e.k a h b;exact⟨(P4 λb=>cV [⟨1,.h (.b 0)<|.e 1,.b 1⟩,⟨1,.h (.b 1)<|.b 3,.b 2⟩,⟨1,.b 2,.b 0⟩] rfl [a,g,d.f,c.length] this.2 (P2 f.symm) (P2 b.symm)).trans this.1,this.2⟩
theorem dx.Q(d:dx j i g e l){k:Nat}(b:k<e.length)(o:af):dx j i g (e.set k o) (l.Q (g+k) o):=by refine⟨by refine Z List.length_set ?_;exact d.f,λq f c=>?_,λa f c=>?_,d.L⟩;by_cases h:q=k;subst h;rw[List.getElem?_set_self b] at c;exact(P8 rfl).trans c;rw[List.getElem?_set_ne<|Qy h] at c;exact(P4 λm=>h<|nD m).trans<|d.r q f c;have:=d.k a f c;exact⟨(P4 λb=>cV [⟨1,.h (.b 0)<|.e 1,.b 1⟩,⟨1,.h (.b 1)<|.b 2,.b 0⟩] rfl [a,g,k] this.2 (P2 b.symm)).trans this.1,this.2⟩
theorem dx.f8(f:dx d c g a e){k:Nat}(b:a[k]?=some o):k<a.length:=(P1.1 b).1
theorem fG(d:Nat)(j:a.length=d)(c:dx e b g a f)(k:∀i,dx e b g (a++[o]) i->h (.a<|g+d) i):J (a4 o) h f:=by have:=k _<|c.z o;rw[<-j,<-c.f] at this;exact bF this
theorem kT(d:Nat)(j:a.length=d)(c:dx e b g a f)(k:∀i,dx e b g (a++[.h1 none]) i->h (g+d) i):J d3 h f:=by have:=k _<|c.z<|.h1 none;rw[<-j,<-c.f] at this;exact hg this
theorem kC(k:Nat)(c:dx e d g a f)(b:a[k]?=some (.h1 w))(j:∀i,dx e d g (a.set k<|.h1<|some v) i->h () i):J (gi (g+k) v) h f:=gR (c.r k _ b)<|j _<|c.Q (c.f8 b) _
theorem dF(k:Nat)(d:dx i f g a j)(b:a[k]?=some (.aD c e))(m:Nat.blt e.length 100=true)(n:∀l,dx i f g (a.set k<|.aD c<|cN x v e) l->h () l):J (fN (.a<|g+k) x v) h j:=eE (d.r k _ b) m<|n _<|d.Q (d.f8 b) _
theorem dx.fH{f:V}(h:dx e a g c f)(b:c=d):dx e a g d f:=b▸h
theorem m7(d:Nat)(r:b.length=d)(f:dx j e g b k)(s:ba.dV a=false)(q:(Nat.ble c.length 1000&&ba.i4 a)=true)(o:ba.ex a ("__init__":Str)=some l)(t:∀m,dx j e g (b++[.aD a []]) m->ag n p l (.a (g+d)::c) (m_<|h<|.a<|g+d) i m):ag (n+1) p (.ay a) c h i k:=by refine jH q o<|Z s<|Z (P4 #[]) ?_;have:=t _<|f.z<|.aD a [];replace this:=f.f.symm▸r.symm▸this;exact this
end
noncomputable def oo:af:=.aD 96 [("width",.c 64),("depth",.c 50),("steps",.c 1000000),("text",.c 100000),("items",.c 10000)]
noncomputable def yf(g:Nat):List af:=[.h1 none,.h1<|some<|.a<|g+4,.h1<|some<|.a<|g+3,.K [],.d [],.d [],.A [.a<|g+3,.a<|g+4,.a<|g+5]]
noncomputable def rV(g:Nat):af:=.aD 9 [("limits",.a<|g+7),("last",.c 0),("zero",.a<|g+9)]
def sd(g:Nat):List af:=[.h1<|some<|.a<|g+8,.h1<|some<|.a<|g+4,.h1<|some<|.a<|g+3,.K [],.d [],.d [],.A [.a<|g+3,.a<|g+4,.a<|g+5],oo,rV g,.d [],.cl lq [("marks",g+2),("log",g+1)]]
def kP(g:Nat):List af:=sd g++[.aD 94 [("heap",.a<|g+8),("destroy",.a<|g+10),("places",.a<|g+12),("empties",.a<|g+13)],.K [],.K [],.aD 98 [("heap",.a<|g+8),("globs",.a<|g+15),("generation",.c 0)],.K []]
noncomputable def lG(g:Nat):eM:=⟨g+8,g+16,g+11,g+14,g+7,g+12,g+13,g+15,0,g+19,g+17,g+25,g+24,g+3,g+4,g+5,0,g+18,g+20,g+21,g+22,g+23,g+26,0,g+10,g+2,g+1,0⟩
def jk(g:Nat):List af:=kP g++[.aD 45<|gJ (lG g) 0,.K [],.K [],.K [],.K [],.K [],.d [],.d [],.d [],.d [],.K []]
section
theorem Bc(a:dx d c g (kP g) e)(j:∀f,dx d c g (jk g) f->h (.a<|g+16) f):ag (n+2) p (.ay 45) [.a<|g+8,.a<|g+11,.a<|g+14,.a<|g+7] h i e:=by refine m7 16 rfl a ∅ rfl ∅ λb a=>(bp Bf ∅<|dF 16 a rfl rfl λb a=>dF 16 a rfl rfl λb a=>dF 16 a rfl rfl λb a=>dF 16 a rfl rfl λb a=>?_);have a:=a.fH (d:=kP g++[.aD 45<|(gJ (lG g) 0).take 4]) ∅;refine fG 17 rfl a λb a=>dF 16 a rfl rfl λb a=>fG 18 rfl a λb a=>dF 16 a rfl rfl λb a=>?_;have a:=a.fH (d:=kP g++[.aD 45<|(gJ (lG g) 0).take 6,.K [],.K []]) ∅;refine fG 19 rfl a λb a=>dF 16 a rfl rfl λb a=>fG 20 rfl a λb a=>dF 16 a rfl rfl λb a=>?_;have a:=a.fH (d:=kP g++[.aD 45<|(gJ (lG g) 0).take 8,.K [],.K [],.K [],.K []]) ∅;refine fG 21 rfl a λb a=>dF 16 a rfl rfl λb a=>fG 22 rfl a λb a=>dF 16 a rfl rfl λb a=>?_;have a:=a.fH (d:=kP g++[.aD 45<|(gJ (lG g) 0).take 10,.K [],.K [],.K [],.K [],.K [],.d []]) ∅;refine fG 23 rfl a λb a=>dF 16 a rfl rfl λb a=>fG 24 rfl a λb a=>dF 16 a rfl rfl λb a=>?_;have a:=a.fH (d:=kP g++[.aD 45<|(gJ (lG g) 0).take 12,.K [],.K [],.K [],.K [],.K [],.d [],.d [],.d []]) ∅;exact fG 25 rfl a λb a=>dF 16 a rfl rfl λb a=>dF 16 a rfl rfl λb a=>fG 26 rfl a λb a=>dF 16 a rfl rfl λb a=>dF 16 a rfl rfl λb a=>dF 16 a rfl rfl λb a=>dF 16 a rfl rfl λb a=>dF 16 a rfl rfl λb a=>j _<|a.fH ∅
end
end
section
theorem HJ{j:Nat->Nat->Nat->Y->Y->aa}(a:dx [] e g [] k)(s:∀l,dx [(672,34)] e g (jk g) l->j g (g+1) (g+2) (.a<|g+5) (.a<|g+16) l):(J d3 λd=>J d3 λf=>J d3 λh=>J (a4<|.K []) λq=>J (a4<|.d []) λt=>J (a4<|.d []) λu=>J (a4<|.A [q,t,u]) λB=>J (dz B) λv=>iW v λc=>e_ c λC c=>J (gi h C) λ_=>e_ c λD c=>J (gi f D) λ_=>e_ c λE c=>jl c<|ag (n+2) p (.ay 96) [] (λw=>ag (n+2) p (.ay 9) [w] (λx=>J (gi d x) λ_=>J (b6 d) λF=>J (b6 d) λH=>hd 672 34 false lq [("marks",h),("log",f)] λr=>ag (n+2) p (.ay 94) [H,r] (λy=>J (b6 d) λK=>ag (n+2) p (.ay 98) [K] (λz=>J (b6 d) λM=>J (ee M "limits") λo=>ag (n+2) p (.ay 45) [F,y,z,o] (λA=>j d f h E A) E5) E4) E3) E2) E1) k:=by refine kT 0 rfl a λb a=>kT 1 rfl a λb a=>kT 2 rfl a λb a=>fG 3 rfl a λb a=>fG 4 rfl a λb a=>fG 5 rfl a λb a=>fG 6 rfl a λb a=>(g7 (a.r 6 _ rfl) (kC 2 a rfl λb a=>(kC 1 a rfl λb a=>?_:J (gi (g+1) _) _ b):J (gi (g+2) _) _ b));have a:=a.fH (d:=yf g) ∅;refine(?_:ag _ _ _ _ _ _ b);refine m7 7 rfl a ∅ rfl ∅ λb a=>(bp BF ∅<|dF 7 a rfl rfl λb a=>dF 7 a rfl rfl λb a=>dF 7 a rfl rfl λb a=>dF 7 a rfl rfl λb a=>dF 7 a rfl rfl λb a=>?_);have a:=a.fH (d:=yf g++[oo]) ∅;refine m7 8 rfl a ∅ rfl ∅ λb a=>(bp Hg ∅<|dF 8 a rfl rfl λb a=>dF 8 a rfl rfl λb a=>fG 9 rfl a λb a=>dF 8 a rfl rfl λb a=>(kC 0 a rfl λb a=>?_:J (gi (g+0) _) _ b));have a:=a.fH (d:=[.h1<|some<|.a<|g+8,.h1<|some<|.a<|g+4,.h1<|some<|.a<|g+3,.K [],.d [],.d [],.A [.a<|g+3,.a<|g+4,.a<|g+5],oo,rV g,.d []]) ∅;refine b2 (a.r 0 _ rfl)<|b2 (a.r 0 _ rfl)<|uI (Z a.L rfl) ?_;have i:=a.f;have m:dx [(672,34)] e g [.h1<|some<|.a<|g+8,.h1<|some<|.a<|g+4,.h1<|some<|.a<|g+3,.K [],.d [],.d [],.A [.a<|g+3,.a<|g+4,.a<|g+5],oo,rV g,.d []] ({b with L:=(672,34)::b.L}:V):=⟨a.f,a.r,a.k,(Z a.L rfl:(672,34)::b.L=_)⟩;have a:=m.z<|.cl lq [("marks",g+2),("log",g+1)];have i:b.f=g+10:=i;generalize({b with L:=(672,34)::b.L}:V).z (.cl lq [("marks",g+2),("log",g+1)])=O at*;have a:dx [(672,34)] e g (sd g) O:=a;refine Z i<|m7 11 rfl a ∅ rfl ∅ λb a=>(bp Ig ∅<|dF 11 a rfl rfl λb a=>dF 11 a rfl rfl λb a=>fG 12 rfl a λb a=>dF 11 a rfl rfl λb a=>fG 13 rfl a λb a=>dF 11 a rfl rfl λb a=>?_);have a:=a.fH (d:=sd g++[.aD 94 [("heap",.a<|g+8),("destroy",.a<|g+10),("places",.a<|g+12),("empties",.a<|g+13)],.K [],.K []]) ∅;refine b2 (a.r 0 _ rfl)<|m7 14 rfl a ∅ rfl ∅ λb a=>(bp ES ∅<|dF 14 a rfl rfl λb a=>fG 15 rfl a λb a=>dF 14 a rfl rfl λb a=>dF 14 a rfl rfl λb a=>?_);have a:=a.fH (d:=kP g) ∅;exact b2 (a.r 0 _ rfl)<|aK (a.r 8 _ rfl) ∅<|Bc a s
end
noncomputable def jj:List (Option cn):=[some .k,some .k,some .k,some .g_,some .E,some<|.aG 0,none,some .k,some .dC,some .u,some .k,some .k,some .k,some .k,some .k,some<|.aG 1,some .bV,some .k,some .k,some .k,some .k,some .k,some .k,some .k,some .gb,some .cH,some .k]
noncomputable def n2:List (Option cn×Nat):=[(some .g_,3),(some .E,4),(some<|.aG 0,5),(some .dC,8),(some .u,9),(some<|.aG 1,15),(some .bV,16),(some .gb,24),(some .cH,25)]
theorem DG:∀x∈jj.zipIdx,(x.1=none\/x.1=some cn.k)\/x∈n2:=#[]
def iS(b:Nat->Option af)(g:Nat):N where
 i:=lG g
 al a:=if a<g then(if(b a).isSome then some .k else none) else(jj[a - g]?).getD none
 gE a:=if a<g then(b a).getD (.d []) else((jk g)[a - g]?).getD (.d [])
 n:=0
 bG:=0
 fF:=g+9
 u:=[]
 p _:=none
 t _:=0
 a6:=.s
 O:=[]
 aE:=[]
 w:=[]
 E:=[]
 aA:=[]
 C:=none
 L:=[(672,34)]
 aG c:=if c=0 then some (g+5,.d []) else if c=1 then some (g+15,.K []) else none
section
theorem po(k:Nat):(iS a g).al (g+k)=(jj[k]?).getD none:=by refine(Z (P4 va ..) ?_:(if g+k<g then _ else _)=_);exact Z (QS ..) rfl
theorem sP(k:Nat):(iS a g).gE (g+k)=((jk g)[k]?).getD (.d []):=by refine(Z (P4 va ..) ?_:(if g+k<g then _ else _)=_);exact Z (QS ..) rfl
theorem iT(b:(jj[k]?).getD none=some .k)(c:(jk g)[k]?=some o):(iS a g).y (g+k) o:=⟨(po k).trans b,Z (sP ..)<|Z (c ..) rfl⟩
theorem uf(b:(jj[k]?).getD none=some r):r=.k\/(some r,k)∈n2:=by cases c:jj[k]? with|none=>rw[c] at b;exact bm b|some x=>rw[c] at b;subst b;have:=DG (some r,k)<|List.mem_zipIdx_iff_getElem?.mpr c;(rcases this with(a|a)|a);exact h2 a;exact .inl<|P0 a;exact .inr a
theorem qn:∀x∈n2,∃r,x.1=some r/\(jj[x.2]?).getD none=some r/\(iS a g).bj r/\g+x.2=(iS a g).o r/\(jk g)[x.2]?=some ((iS a g).aF (g+x.2) r):=λx b=>by simp only[n2,List.mem_cons,List.not_mem_nil,or_false] at b;(rcases b with rfl|rfl|rfl|rfl|rfl|rfl|rfl|rfl|rfl);exact jG _ rfl rfl Qd rfl rfl;exact jG _ rfl rfl Qd rfl rfl;exact jG _ rfl rfl ⟨_,rfl⟩ rfl rfl;exact jG _ rfl rfl Qd rfl rfl;exact jG _ rfl rfl Qd rfl rfl;exact jG _ rfl rfl ⟨_,rfl⟩ rfl rfl;exact jG _ rfl rfl Qd rfl rfl;exact jG _ rfl rfl Qd rfl rfl;exact jG _ rfl rfl Qd rfl rfl
theorem KO(h:dx [(672,34)] d g (jk g) j):G (iS d g) j:=by
 have v:j.f=g+27:=h.f;have d2:∀{x:Option cn×Nat},x∈n2->∀r,x.1=some r->(iS d g).al ((iS d g).o r)=some r:=λ{x} b r e=>by refine qg (qn (a:=d) (g:=g) x b) λA t i l m q=>?_;rw[e] at t;obtain rfl:=P0 t;exact ad (m ..)<|Z (po ..) i
 refine⟨λa r b=>?_,λa r b=>?_,λr b=>?_,⟨λ_ _ b=>bm b,λ_ b=>(Rc b).elim,λb=>(b rfl).elim⟩,h.L⟩;by_cases f:a<g;have b:(if a<g then(if(d a).isSome then some cn.k else none) else(jj[a - g]?).getD none)=some r:=b;rw[P8 f] at b;cases c:d a with|none=>rw[c] at b;exact bm b|some o=>rw[c] at b;obtain rfl:=P0 b;obtain⟨i,l⟩:=h.k a o c;refine⟨i.trans<|Q3 some (Z (P8 f)<|Z c ?_:_=if a<g then _ else _),an [⟨1,.h (.b 0)<|.e 1,.b 1⟩,⟨1,.h (.b 1)<|.e 27,.b 2⟩] (.h (.b 0)<|.e 1) (.b 2) rfl [a,g,j.f] f (P2 v.symm)⟩;rfl
 obtain⟨k,rfl⟩:∃k,a=g+k:=⟨a - g,xs f⟩;rw[po] at b;have y:k<27:=by refine Nat.lt_of_not_le λc=>?_;rw[PX.2 (c:jj.length<=k)] at b;exact bm b
 refine⟨?_,an [⟨1,.h (.b 0)<|.e 1,.e 27⟩,⟨1,.h (.b 2)<|.e 27,.b 1⟩] (.h (.h (.b 2)<|.b 0)<|.e 1) (.b 1) rfl [k,j.f,g] y (P2 v.symm)⟩;rcases uf b with rfl|c
 have w:(jk g)[k]?=some ((jk g)[k]'y):=RB y;refine(h.r k _ w).trans<|Q3 some (Z (sP ..)<|Z (w ..) ?_:_=(iS d g).gE (g+k));rfl;refine qg (qn (a:=d) (g:=g) _ c) λA e i l m q=>?_;obtain rfl:=P0 e;exact h.r k _ q;by_cases f:a<g;have b:(if a<g then(if(d a).isSome then some cn.k else none) else(jj[a - g]?).getD none)=some r:=b;rw[P8 f] at b;cases c:d a with|none=>rw[c] at b;exact bm b|some o=>rw[c] at b;obtain rfl:=P0 b;exact .inl rfl
 obtain⟨k,rfl⟩:∃k,a=g+k:=⟨a - g,xs f⟩;rw[po] at b;rcases uf b with rfl|c
 exact .inl rfl;refine qg (qn (a:=d) (g:=g) _ c) λA e i l m q=>?_;obtain rfl:=P0 e;exact .inr ⟨l,m⟩;induction r with|k=>exact b.elim|dC=>exact d2 (x:=(some .dC,8)) #[] _ rfl|bV=>exact d2 (x:=(some .bV,16)) #[] _ rfl|cH=>exact d2 (x:=(some .cH,25)) #[] _ rfl|gb=>exact d2 (x:=(some .gb,24)) #[] _ rfl|g_=>exact d2 (x:=(some .g_,3)) #[] _ rfl|E=>exact d2 (x:=(some .E,4)) #[] _ rfl|fd=>exact(b rfl).elim|u=>exact d2 (x:=(some .u,9)) #[] _ rfl|C=>obtain⟨s,c⟩:=b;exact bm c|p n=>obtain⟨s,c⟩:=b;exact bm c|cG k=>exact(Q8 _ b).elim|aA k=>exact(Q8 _ b).elim|aG k=>refine bA b λs c=>?_;have c:(if k=0 then some (g+5,af.d []) else if k=1 then some (g+15,.K []) else none)=some s:=c;by_cases f:k=0;exact Z f<|d2 (x:=(some<|.aG 0,5)) #[] _ rfl;rw[P4 f] at c;by_cases z:k=1;exact Z z<|d2 (x:=(some<|.aG 1,15)) #[] _ rfl;rw[P4 z] at c;exact bm c
end
structure jM(e:N)(W:N)(q:Nat):Prop where
 m:av e W
 b3:dy e W
 n:W.n=3+2*q
 a5:W.w.length=q
 nb:∀b,q<=b->b<3->∃d,W.p (b+1)=some (.aV 0 .s d)
 vX:∀b,b<q->∃c d,W.w[b]?=some c/\W.p (b+1)=some (.aV 1 (.a c.du) d)
 b8:∀f c,W.w[f]?=some c->fM W f c 1
 bi:W.w.Pairwise (λa g=>a.bk<g.bk)
 fI:∀k∈W.w,k.bk<=W.n
section
theorem s5{n:Nat}{p:Bool}{N5:V}{F W:N}{q:Nat}{NN:Nat}{NW:aa}{E1 E2 E3 E4:Y->aa}(S:G W N5)(X:bt W)(Oh:W.y NN (.h1<|some<|.a W.i.c7))(Oj:F.C=none)(Q:jM F W q)(L:q<3)(m:∀d N6,G d N6->bt d->av W d->jM F d (q+1)->NW N6):(J (ee (.a W.i.R) "counter") λN'=>aQ (ag (n+6) p) N' "hold" (λN7=>N7 [.a<|W.t<|q+1]) (λOv=>J (ee (.a W.i.R) "counter") λOb=>aQ (ag (n+6) p) Ob "store" (λN8=>J (b6 NN) λOp=>J (b6 NN) λOq=>ag (n+6) p (.a' "len") [Oq] (λOl=>ag (n+6) p (.B 105 0) [.a W.i.R,Op,Ol] (λOm=>N8 [.a<|W.t<|q+1,Om]) E1) E2) (λOu=>NW) E3) E4) N5:=by
 refine bA (Q.nb q (P5 _) L) λh NO=>?_;have l:=Q.n;refine aK S.bV ∅<|c4 (S.k X.bN) ∅ ∅<|nl S NO (by refine(?_:0<=_);decide) λOy s=>?_;have B:av W (W.bi (q+1)<|.aV 0 .s h):=.bi;have NP:(W.bi (q+1)<|.aV 0 .s h).p (q+1)=some (.aV 1 .s h):=P8 rfl;have P:∀k,k≠q+1->(W.bi (q+1)<|.aV 0 .s h).p k=W.p k:=λk b=>P4 b;have N4:dy F (W.bi (q+1)<|.aV 0 .s h):=Q.b3.q ⟨rfl,rfl⟩;have t:(W.bi (q+1)<|.aV 0 .s h).w=W.w:=rfl;have f:(W.bi (q+1)<|.aV 0 .s h).n=W.n:=rfl;have NX:(W.bi (q+1)<|.aV 0 .s h).i=W.i:=rfl;have Oo:(W.bi (q+1)<|.aV 0 .s h).t=W.t:=rfl;generalize W.bi (q+1) (.aV 0 .s h)=c at*;have U:=X.m B;have I:=B.k _ _ Oh;refine ad NX<|ad Oo ?_;rw[<-NX] at I;have N3:(ht c.w).length=c.w.length:=by exact Z List.length_mapIdx rfl
 refine aK s.bV ∅<|c4 (s.k U.bN) (l:=.B 94 7) ∅ ∅<|b2 (s.k I)<|b2 (s.k I) ?_;have z:c.w.length=q:=Z t Q.a5;refine v2 s.g_ (Z N3<|Z z<|b5<|h3 L)<|Z N3<|wd s U (N4.C.trans Oj) (BZ L l f) (Bb L z) (Z t<|Z f Q.fI) λr j Oz M N9=>(ah M.sa λNS u T=>?_);have NQ:=(M.p _<|tQ l f).trans NP;refine ah T.az λNU Oa Oc=>(ad M.m.i<|ad (M.m.t (q+1)<|tQ l f)<|rx N9 (U.m M.m) NQ (j5.a T.du Oa (#[]:0<=100000)) .s λOt N_=>?_);have C:av j ((j.bi (c.n+1)<|.az 0 true false NU NS).a_ (q+1)<|.aV 1 (.a r) h):=av.bi.q .a_;have x:=(B.q M.m).q C;have D:∀k,k≠q+1->k≠c.n+1->((j.bi (c.n+1)<|.az 0 true false NU NS).a_ (q+1)<|.aV 1 (.a r) h).p k=j.p k:=λk NP NQ=>(P4 NP).trans<|P4 NQ;refine m _ Ot N_ (X.m x) x ⟨Q.m.q x,(N4.q M.b3).q ⟨rfl,rfl⟩,by refine(Z M.n ?_:j.n=_);exact y1 l f,(Z u<|Z P3<|Z z rfl:j.w.length=_),λv o NR=>?_,λv o=>?_,λA m b=>?_,?_,?_⟩;exact bA (Q.nb v (gw o) NR) λNT b=>⟨NT,(D _ (tV o)<|Jk NR l f).trans<|(M.p _<|JR NR l f).trans<|(P _<|tV o).trans b⟩;refine(Z u ?_:∃m h,j.w[v]?=some m/\_);by_cases i:v=q;exact Z i<|bq ⟨c.n+1,r,NS,c.n+2⟩ h (ad z<|e6 _ _)<|P8 rfl;exact bZ (Q.vX v<|iF o i) λm NT H K=>(bq m NT (by refine Z (RA<|gH (iF o i)<|dw z.symm) ?_;exact Z t H)<|(D _ (oq i)<|z' o l f).trans<|(M.p _<|LS o l f).trans<|(P _<|oq i).trans K);have b:j.w[A]?=some m:=b;rw[u] at b;by_cases i:A<c.w.length;rw[RA i,t] at b;have E:=Q.b8 A m b;refine ah E.az λOw H _=>(ah E.aV λOx K _=>?_);have NY:m.bk≠q+1:=λe=>by rw[e,NO] at H;exact absurd H λNV=>by cases NV
 have NZ:m.dS≠q+1:=λe=>by rw[e,NO] at K;exact absurd K λNV=>by cases NV
 have O:=E.bu;exact E.b4 x ((D _ NY<|nr f O.1).trans<|(M.p _<|f▸O.1).trans<|P _ NY)<|(D _ NZ<|nr f O.2.1).trans<|(M.p _<|f▸O.2.1).trans<|P _ NZ;have Oi:A=c.w.length:=by have:=(P1.1 b).1;rw[P3] at this;have:A<c.w.length+1:=this;exact rU this i
 subst Oi;rw[e6] at b;obtain rfl:=P0 b;obtain⟨_,Ok,⟨Os,Od,Oe⟩,On,w⟩:=T;exact⟨am NU ((P4<|show c.n+1≠q+1 by exact JO l f).trans<|P8 rfl)<|C.k _ _ Oc,Z (C.t _ w.2.1)<|C.k _ _ Ok,am Os ((D _ (show c.n+2≠q+1 by exact Ja l f)<|show c.n+2≠c.n+1 by exact xf).trans Od)<|C.k _ _ Oe,On.m C w.1,b9 (P9 w.1 C.n) (P9 w.2.1 C.n) w.2.2⟩;refine(Z u<|Z t<|List.pairwise_append.2<|b9 Q.bi (List.pairwise_singleton _ _) λa Of g Og=>(Z (Re.1 Og) ?_):j.w.Pairwise _);have:=Q.fI a Of;exact(DF f this:a.bk<c.n+1);refine(Z u<|Z M.n<|Z t ?_:∀k∈j.w,k.bk<=j.n);intro k y;refine Or.elim (PY.1 y) (λi=>?_) λi=>?_;have:=Q.fI k i;exact yL f this;exact Z (Re.1 i) (Q4 _:c.n+1<=_)
end
structure rk(a:N)(W:N)(b:Nat):Prop where
 m:av a W
 b3:dy a W
 n:W.n=b
 w:W.w=[]
 nb:∀k,k<b->∃c,W.p (k+1)=some (.aV 0 .s c)
def lZ(vs f d R e:Y)(c b a:Nat)(x:Option Y):ax:=match x with
 |none=>(Nw vs f d R e c b a)
 |some v=>M6 vs f d R e v c b a
section
theorem r4{n:Nat}{p:Bool}{o:V}{l W:N}{c:Nat}{m:Nat}{j:Y->aa}{E1:Y->aa}(g:G W o)(t:W.y m (.h1<|some<|.a W.i.H))(Q:rk l W c)(u:c<=3)(v:∀d q,G d q->rk l d (c+1)->av W d->j (.a<|d.t<|c+1) q):(J (b6 m) λx=>aQ (ag (n+4) p) x "new_scalar" (λr=>r [.s]) (λw=>j w) E1) o:=by refine b2 (g.k t)<|c4 g.dC ∅ ∅<|ra g (Z Q.n<|cv u) λa f A h s=>?_;have B:av W ((W.M f<|.d []).b_ a<|.aV 0 .s f):=(av.M h.1).q<|.b_<|h_ h.2.1 h.2.2;have e:((W.M f<|.d []).b_ a<|.aV 0 .s f).t (c+1)=a:=P8<|ad Q.n rfl;have:=v _ A s ⟨Q.m.q B,Q.b3.q ⟨rfl,rfl⟩,(Z Q.n rfl:W.n+1=_),Q.w,λk y=>?_⟩ B;rw[e] at this;exact this;by_cases i:k=c;exact⟨f,P8<|Z i<|ad Q.n rfl⟩;exact bA (Q.nb k<|iF y i) λz b=>⟨z,(P4<|show k+1≠W.n+1 by exact Z Q.n<|oq i).trans b⟩
theorem JH{n:Nat}{p:Bool}{m:V}{F W:N}{L:Nat}{A:Y->aa}{E0:Y->aa}(X:G W m)(NO:bt W)(v:W.y L (.h1<|some<|.a W.i.H))(Q:rk F W 0)(w:∀d O f,G d O->bt d->jM F d 0->d.y f (.d [.a<|d.t 1,.a<|d.t 2,.a<|d.t 3])->A (.a f) O):bo (.cf 3) (λNW NN T=>J (b6 L) λNV=>aQ (ag (n+4) p) NV "new_scalar" (λS=>S [.s]) (λNU=>NN [NU]) T) aJ 0 (λM=>if Nat.ble M.length bl then J (a4<|.d M) (λNT=>A NT) else ae) E0 m:=by
 obtain⟨fP,mf⟩:∃l,aJ=l+4:=⟨aJ - 4,sI dL⟩;have u:∀{P:RI.aa} {m:V} (s o:Nat) (r:Y->(List Y->RI.aa)->(Y->RI.aa)->RI.aa) (h:List Y->RI.aa) (i:Y->RI.aa),o<3->r (.c (o:Nat)) (λa=>bo (.cf 3) r s (o+1) (λg=>h<|a++g) i) i m->bo (.cf 3) r (s+1) o h i m:=λ{P m} s o r h i NS b=>by refine(ho ?_:J (dv (.cf 3) o) _ m);exact Z (P8 NS) b
 have NR:∀{l:Nat},l=fP+4->∀(r:Y->(List Y->RI.aa)->(Y->RI.aa)->RI.aa) (h:List Y->RI.aa) (i:Y->RI.aa) m,bo (.cf 3) r (fP+4) 0 h i m->bo (.cf 3) r l 0 h i m:=λ{l} e r h i m b=>Z e b;refine NR mf _ _ _ _<|u (P:=ae) _ 0 _ _ _ #[]<|r4 X v Q #[] λt NX U D B=>(u (P:=ae) _ 1 _ _ _ #[]<|r4 (n:=n) U (Z B.i<|B.k _ _ v) D #[] λK NY I E j=>?_);have x:=B.q j;refine u (P:=ae) _ 2 _ _ _ #[]<|r4 I (Z x.i<|x.k _ _ v) E #[] λc R y q C=>(ho<|Z (P4 #[])<|bJ rfl (bF ?_));have z:av c (c.M R.f<|.d [.a<|t.t 1,.a<|K.t 2,.a<|c.t 3]):=.M<|y.bH<|P5 _;refine w _ _ R.f (y.eK<|.d [.a<|t.t 1,.a<|K.t 2,.a<|c.t 3]) (NO.m<|(x.q C).q z) ⟨q.m.q z,q.b3.q ⟨rfl,rfl⟩,q.n,(Z q.w rfl:c.w.length=0),λo _ b=>q.nb o b,λo b=>absurd b<|Q8 _,λs w b=>?_,?_,?_⟩ ?_;have b:c.w[s]?=some w:=b;rw[q.w] at b;exact bm b;exact(Z q.w .nil:c.w.Pairwise _);exact(Z q.w λ_ b=>(Rc b).elim:∀k∈c.w,_);have NP:c.t 1=t.t 1:=((j.q C).t 1 (by refine Z D.n ?_;decide));have NQ:=C.t 2 (by refine Z E.n ?_;decide);exact(Z NP<|Z NQ dA:(c.M _ _).y _ (.d [.a<|c.t 1,.a<|c.t 2,.a<|c.t 3]))
theorem FP{n:Nat}{p:Bool}{u:I}{U:ai->aa}{k:V}{i W:N}{vs t s:Y}{g r o f:Nat}(X:G W k)(NP:bt W)(NY:W.y g (.h1<|some<|.a W.i.c7))(S:i.C=none)(Q:jM i W 0)(P:W.y f (.d [.a<|W.t 1,.a<|W.t 2,.a<|W.t 3]))(NZ:∀d c x,G d c->bt d->av W d->jM i d 3->U (.f<|lZ vs t s (.a W.i.R) (.a f) g r o<|some x) c):ci (.d<|.a f) (bg u (ag (n+6) p) p 54 (as 108 0) (bv (ab 108 0) 4)<|au (ab 108 0) 4 0) aJ 0 (lZ vs t s (.a W.i.R) (.a f) g r o none) U k:=by
 obtain⟨fP,mf⟩:∃l,aJ=l+4:=⟨aJ - 4,sI dL⟩;have H:∀{a:N} {v:V} {D:Option Y} {A:Nat} (q:Nat),q<3->G a v->bt a->av W a->jM i a q->(∀d c,G d c->bt d->av W d->jM i d (q+1)->ci (.d<|.a f) (bg u (ag (n+6) p) p 54 (as 108 0) (bv (ab 108 0) 4)<|au (ab 108 0) 4 0) A (q+1) (lZ vs t s (.a W.i.R) (.a f) g r o<|some<|.a<|W.t<|q+1) U c)->ci (.d<|.a f) (bg u (ag (n+6) p) p 54 (as 108 0) (bv (ab 108 0) 4)<|au (ab 108 0) 4 0) (A+1) q (lZ vs t s (.a W.i.R) (.a f) g r o D) U v:=λ{a v D A} q z m w B y N3=>by refine(ep (m.k<|B.k _ _ P) ?_:J (dv (.d<|.a f) q) _ v);(have e:([Y.a<|W.t 1,.a<|W.t 2,.a<|W.t 3])[q]?=some (.a<|W.t<|q+1):=by exact Nx rfl rfl rfl z);refine Z e ?_;have O:W.t (q+1)=a.t (q+1):=(B.t _<|Z Q.n z).symm;have M:=B.i.symm;have L:a.y g (.h1<|some<|.a a.i.c7):=Z B.i<|B.k _ _ NY;(have bf:∀d c,G d c->bt d->av a d->jM i d (q+1)->ci (.d<|.a f) (bg u (ag (n+6) p) p 54 (as 108 0) (bv (ab 108 0) 4)<|au (ab 108 0) 4 0) A (q+1) (lZ vs t s (.a a.i.R) (.a f) g r o<|some<|.a<|a.t<|q+1) U c:=λd c NN NQ N4 NT=>by exact ad O<|ad M<|N3 d c NN NQ (B.q N4) NT);refine(?_:bg _ _ _ _ _ _ _ _ _ _ _);refine Z O<|Z M ?_;cases D<;>show bg _ _ _ _ _ _ _ ⟨_,_,_⟩ _ _ _;exact bR BO<|s5 m w L S y z bf;exact bR ML<|s5 m w L S y z bf
 have NX:∀{l:Nat},l=fP+4->∀(E:ax->Y->(ai->aa)->aa) (F:ax) (h:ai->aa) k,ci (.d<|.a f) E (fP+4) 0 F h k->ci (.d<|.a f) E l 0 F h k:=λ{l} e E F h k b=>Z e b;exact NX mf _ _ _ _<|H 0 #[] X NP .cK Q λa v m w B y=>H 1 #[] m w B y λN5 N6 NO NR j NU=>H 2 #[] NO NR j NU λNW T K NS C NV=>(ep (K.k<|C.k _ _ P)<|NZ NW T _ K NS C NV:J (dv (.d<|.a f) 3) _ T)
end
structure fz(W d:N):Prop where
 k:∀a o,W.y a o->d.y a o
 n:W.n<=d.n
 t:∀k,k<=W.n->d.t k=W.t k
 p:∀k,k<=W.n->d.p k=W.p k
 w:d.w=W.w
 u:d.u=W.u
 E:d.E=W.E
 bG:d.bG=W.bG
 aE:d.aE=W.aE
 aA:d.aA=W.aA
 C:d.C=W.C
theorem fz.q(a:fz W c)(g:fz c d):fz W d:=⟨λx o b=>g.k _ _<|a.k _ _ b,P9 a.n g.n,λk b=>(g.t k<|P9 b a.n).trans<|a.t k b,λk b=>(g.p k<|P9 b a.n).trans<|a.p k b,g.w.trans a.w,g.u.trans a.u,g.E.trans a.E,g.bG.trans a.bG,g.aE.trans a.aE,g.aA.trans a.aA,g.C.trans a.C⟩
noncomputable def N.gY(W:N)(g:Nat)(b:List af)(c:List (Nat×Nat)):N:={W with al:=λa=>if g<=a/\a<g+b.length then some .k else W.al a,gE:=λa=>if g<=a/\a<g+b.length then(b[a - g]?).getD (.d []) else W.gE a,L:=c}
noncomputable def below(b:V):Nat->Option af:=λa=>if a<b.f then b.r a else none
noncomputable def eM.eG(S:eM)(a c b:Nat):eM:={S with hZ:=a,f6:=c,hC:=b}
section
theorem ma(m:Nat)(p:e.length=m)(a:dx i j g e d)(b:i.contains (f,c)=false)(q:∀n,dx ((f,c)::i) j g (e++[.cl l k]) n->h (.a<|g+m) n):hd f c false l k h d:=by refine uI (Z a.L b) ?_;have o:dx ((f,c)::i) j g e ({d with L:=(f,c)::d.L}:V):=⟨a.f,a.r,a.k,(Z a.L rfl:(f,c)::d.L=_)⟩;have:=q _<|o.z<|.cl l k;replace this:=a.f.symm▸p.symm▸this;exact this
theorem G.IA(g:G W c)(h:dx i (below c) c.f f n):G (W.gY c.f f i) n:=by
 have bE:∀{a r},W.al a=some r->¬(c.f<=a/\a<c.f+f.length):=λ{a r} b d=>by have:=(g.bw a r b).2;exact Nat.not_le.2 this d.1
 have m:∀{a r},(W.gY c.f f i).al a=some r->((c.f<=a/\a<c.f+f.length)/\r=.k)\/(¬(c.f<=a/\a<c.f+f.length)/\W.al a=some r):=λ{a r} b=>by have b:(if c.f<=a/\a<c.f+f.length then some cn.k else W.al a)=some r:=b;by_cases d:c.f<=a/\a<c.f+f.length;rw[P8 d] at b;obtain rfl:=P0 b;exact .inl ⟨d,rfl⟩;rw[P4 d] at b;exact .inr ⟨d,b⟩
 refine⟨λa r b=>?_,λa r b=>?_,λr b=>?_,⟨g.a3.cA,g.a3.dE,g.a3.dj⟩,h.L⟩;rcases m b with⟨d,rfl⟩|⟨d,b⟩
 obtain⟨k,rfl⟩:∃k,a=c.f+k:=⟨a - c.f,(Nat.add_sub_cancel' d.1).symm⟩;have y:=LL d.2;have l:=RB y;refine⟨(h.r k _ l).trans<|Q3 some ?_,Z h.f d.2⟩;show _=if _ then _ else _;refine Z (P8 d ..)<|Z (QS ..)<|Z (l ..) ?_;rfl;refine bs (g.bw a r b) λp j=>?_;have:=h.k a (W.aF a r) (by unfold below;exact Z (P8 j) p);refine⟨this.1.trans<|Q3 some ?_,Z h.f<|mo j⟩;induction r with|k=>exact(P4 d).symm|_=>rfl
 rcases m b with⟨d,rfl⟩|⟨d,b⟩
 exact .inl rfl;have:=g.bO a r b;cases r<;>exact this;have e:(W.gY c.f f i).o r=W.o r:=by cases r<;>rfl
 have o:W.bj r:=by cases r<;>exact b
 have:=g.bj r o;show(if _ then some cn.k else W.al<|(W.gY c.f f i).o r)=_;exact Z e<|Z (P4<|bE this) this
theorem ET(f:G W d)(b:W.y a o):(W.gY d.f e g).y a o:=by
 have c:¬(d.f<=a/\a<d.f+e.length):=λc=>by have:=(f.bw a _ b.1).2;exact Nat.not_le.2 this c.1
 exact⟨(P4 c).trans b.1,(P4 c).trans b.2⟩
def N.gf(W:N)(a c b:Nat):N:={W with i:=W.i.eG a c b}
theorem G.gf(d:G W e)(a c b:Nat):G (W.gf a c b) (e.Q W.i.R<|.aD 45<|gJ (W.gf a c b).i W.bG):=d.fo (W.gf a c b) .bV Qd rfl (λ_ _=>rfl) (λ_=>Iff.rfl) (λg r _ b=>by cases r<;>first|rfl|exact(b rfl).elim) ⟨d.a3.cA,d.a3.dE,d.a3.dj⟩ rfl rfl (λg=>rfl)
theorem LU(c:G W d)(f:∀e,G (W.gf a W.i.f6 b) e->h () e):J (fN (.a W.i.R) "nodes"<|.a a) h d:=by exact eE c.bV ∅<|f _<|Z (∅:af.aD 45 (cN ("nodes":Str) (.a a)<|gJ W.i W.bG)=.aD 45 (gJ (W.gf a W.i.f6 b).i W.bG))<|c.gf a W.i.f6 b
theorem Cw(a:G W b)(e:∀d,G (W.gf W.i.hZ c W.i.hC) d->h () d):J (fN (.a W.i.R) "statements"<|.a c) h b:=by exact eE a.bV ∅<|e _<|Z (∅:af.aD 45 (cN ("statements":Str) (.a c)<|gJ W.i W.bG)=.aD 45 (gJ (W.gf W.i.hZ c W.i.hC).i W.bG))<|a.gf W.i.hZ c W.i.hC
structure nj(W:N)(b:eO):Prop where
 hZ:W.y W.i.hZ (.K [(.l "drop",.a b.ev),(.l "move",.a b.jX),(.l "make",.a b.j7),(.l "gives",.a b.ch),(.l "back",.a b.kg),(.l "asks",.a b.kd)])
 f6:W.y W.i.f6 (.K [(.l "expr",.B 75 0)])
 ev:W.y b.ev (.cl (cD (ab 107 0) 0) [("holders",b.fk)])
 jX:W.y b.jX (.cl (cD (ab 107 0) 1) [("holders",b.fk)])
 j7:W.y b.j7 (.cl (cD (ab 107 0) 2) [("marks",b.fT),("holders",b.fk)])
 ch:W.y b.ch (.cl (cD (ab 107 0) 3) [("holders",b.fk)])
 kg:W.y b.kg (.cl (cD (ab 107 0) 4) [("gives",b.aN)])
 kd:W.y b.kd (.cl (cD (ab 107 0) 5) [("marks",b.fT),("log",b.hB),("codes",b.kA)])
 fk:W.y b.fk (.h1<|some<|.a W.i.hC)
 fT:W.y b.fT (.h1<|some<|.a W.i.c7)
 hB:W.y b.hB (.h1<|some<|.a W.i.di)
 kA:W.y b.kA (.h1<|some<|.a W.i.b1)
 aN:W.y b.aN (.h1<|some<|.a b.ch)
def hm(g b a mk c:Nat):List af:=[.h1<|some<|.a b,.h1<|some<|.a a,.h1<|some<|.a mk,.h1<|some<|.a c,.h1<|some<|.a<|g+8,.cl (cD (ab 107 0) 0) [("holders",g)],.cl (cD (ab 107 0) 1) [("holders",g)],.cl (cD (ab 107 0) 2) [("marks",g+2),("holders",g)],.cl (cD (ab 107 0) 3) [("holders",g)],.cl (cD (ab 107 0) 4) [("gives",g+4)],.cl (cD (ab 107 0) 5) [("marks",g+2),("log",g+3),("codes",g+1)],.K [(.l "drop",.a<|g+5),(.l "move",.a<|g+6),(.l "make",.a<|g+7),(.l "gives",.a<|g+8),(.l "back",.a<|g+9),(.l "asks",.a<|g+10)]]
theorem I0(w:G W q)(D:bt W)(T:W.L=[(672,34)])(U:∀d t X,G d t->bt d->fz W d->nj d X->(∃a c,d.i=W.i.eG a c f)->d.aG=W.aG->d.a6=W.a6->d.O=W.O->d.n=W.n->h .s t):ag (n+1) p (.B 107 0) [.a W.i.R,.a f,.a W.i.b1,.a W.i.c7,.a W.i.di] h i q:=by have e:dx [(672,34)] (below q) q.f [] q:=⟨rfl,λk o b=>bm b,λa o b=>(by unfold below at b;by_cases x:a<q.f;rw[P8 x] at b;exact⟨b,x⟩;rw[P4 x] at b;exact bm b),w.L.trans T⟩;have E:∀{m:List (Nat×Nat)} {u:List af} {t:V},dx m (below q) q.f u t->G (W.gY q.f u m) t:=λe=>w.IA e;have v:∀{a o} {u:List af} {m},W.y a o->(W.gY q.f u m).y a o:=λb=>ET w b;refine bp K4 ∅ ?_;generalize q.f=g at*;refine kT 0 rfl e λj e=>kT 1 rfl e λj e=>kT 2 rfl e λj e=>kT 3 rfl e λj e=>kT 4 rfl e λj e=>(kC 0 e rfl λj e=>kC 1 e rfl λj e=>kC 2 e rfl λj e=>kC 3 e rfl λj e=>?_);have e:=e.fH (d:=(hm g f W.i.b1 W.i.c7 W.i.di).take 4++[.h1 none]) ∅;refine ma 5 rfl e (by rfl) λj e=>ma 6 rfl e (by rfl) λj e=>ma 7 rfl e (by rfl) λj e=>ma 8 rfl e (by rfl) λj e=>kC 4 e rfl λj e=>?_;have e:=e.fH (d:=(hm g f W.i.b1 W.i.c7 W.i.di).take 9) ∅;refine ma 9 rfl e (by rfl) λj e=>ma 10 rfl e (by rfl) λj e=>b2 (e.r 4 _ rfl)<|fG 11 rfl e λj e=>?_;have z:=E<|e.fH (d:=hm g f W.i.b1 W.i.c7 W.i.di) ∅;have v:∀{a o},W.y a o->(W.gY g (hm g f W.i.b1 W.i.c7 W.i.di) [(663,4),(660,4),(655,4),(652,4),(649,4),(646,4),(672,34)]).y a o:=λb=>v b;generalize[(663,4),(660,4),(655,4),(652,4),(649,4),(646,4),(672,34)]=m at z v;have l:∀k o,(hm g f W.i.b1 W.i.c7 W.i.di)[k]?=some o->(W.gY g (hm g f W.i.b1 W.i.c7 W.i.di) m).y (g+k) o:=λk o b=>(by have y:=(P1.1 b).1;exact⟨P8<|v6 y,(P8<|v6 y).trans<|Z (QS ..)<|Z (b ..) rfl⟩);refine LU (W:=W.gY g (hm g f W.i.b1 W.i.c7 W.i.di) m) z λs A=>bF<|Cw (W:=((W.gY g (hm g f W.i.b1 W.i.c7 W.i.di) m).gf (g+11) W.i.f6 f).M s.f<|.K [(.l "expr",.B 75 0)]) (A.eK<|.K [(.l "expr",.B 75 0)]) λJ C=>?_;have B:∀a o,(W.gY g (hm g f W.i.b1 W.i.c7 W.i.di) m).y a o->((((W.gY g (hm g f W.i.b1 W.i.c7 W.i.di) m).gf (g+11) W.i.f6 f).M s.f<|.K [(.l "expr",.B 75 0)]).gf (g+11) s.f f).y a o:=λa o b=>(av.M (W:=(W.gY g (hm g f W.i.b1 W.i.c7 W.i.di) m).gf (g+11) W.i.f6 f)<|A.bH<|P5 _).k a o b;have l:∀k o,(hm g f W.i.b1 W.i.c7 W.i.di)[k]?=some o->((((W.gY g (hm g f W.i.b1 W.i.c7 W.i.di) m).gf (g+11) W.i.f6 f).M s.f<|.K [(.l "expr",.B 75 0)]).gf (g+11) s.f f).y (g+k) o:=λk o b=>B _ _<|l k o b;have r:∀a o,W.y a o->((((W.gY g (hm g f W.i.b1 W.i.c7 W.i.di) m).gf (g+11) W.i.f6 f).M s.f<|.K [(.l "expr",.B 75 0)]).gf (g+11) s.f f).y a o:=λa o b=>B _ _<|v b;obtain⟨F,H,K,L,M,O,P,Q,S⟩:=D;exact U _ _ ⟨g+5,g+6,g+7,g+8,g+9,g+10,g+0,g+2,g+3,g+1,g+4⟩ C ⟨r _ _ F,r _ _ H,r _ _ K,r _ _ L,r _ _ M,r _ _ O,r _ _ P,r _ _ Q,λb=>r _ _<|S b⟩ ⟨r,P5 _,λ_ _=>rfl,λ_ _=>rfl,rfl,rfl,rfl,rfl,rfl,rfl,rfl⟩ ⟨l 11 _ rfl,⟨P8 rfl,P8 rfl⟩,l 5 _ rfl,l 6 _ rfl,l 7 _ rfl,l 8 _ rfl,l 9 _ rfl,l 10 _ rfl,l 0 _ rfl,l 2 _ rfl,l 3 _ rfl,l 1 _ rfl,l 4 _ rfl⟩ (g' (g+11) s.f rfl) rfl rfl rfl rfl
end
noncomputable def N.d4(W:N)(b a:Nat)(o:af):N:={W with aG:=λq=>if q=b then some (a,o) else W.aG q}
noncomputable def N.dG(W:N)(b a:Nat)(o:af):N:={W with aG:=λq=>if q=b then none else W.aG q,al:=λx=>if x=a then some .k else W.al x,gE:=λx=>if x=a then o else W.gE x}
section
theorem ss{W:N}:(W.d4 b a o).aG b=some (a,o):=P8 rfl
theorem pH{W:N}(b:q≠c):(W.d4 c a o).aG q=W.aG q:=P4 b
theorem qM{W:N}(b:q≠c):(W.dG c a o).aG q=W.aG q:=P4 b
theorem yu{W:N}:(W.dG b a o).y a o:=⟨P8 rfl,P8 rfl⟩
theorem G.iq(f:G W e)(b:W.aG c=some (a,o)):e.r a=some o:=by have:=f.r (r:=.aG c) ⟨_,b⟩;rw[show W.o (.aG c)=(match W.aG c with|some d=>d.1|none=>0) from rfl,show∀x,W.aF x (.aG c)=(match W.aG c with|some d=>d.2|none=>.d []) from λ_=>rfl,b] at this;exact this
theorem G.rL(h:G W j)(b:W.aG d=some (a,o))(f:af):G (W.d4 d a f) (j.Q a f):=by
 refine h.fo (W.d4 d a f) (.aG d) ⟨_,b⟩ rfl (λr i=>?_) (λr=>?_) (λg r k i=>?_) ⟨h.a3.cA,h.a3.dE,h.a3.dj⟩ rfl (Z b rfl:(match W.aG d with|some c=>c.1|none=>0)=a) λg=>?_;induction r with|aG q=>refine(?_:(match(if q=d then some (a,f) else W.aG q) with|some c=>c.1|none=>0)=(match W.aG q with|some c=>c.1|none=>0));by_cases e:q=d;exact Z (P8 e)<|Z e<|Z b rfl;exact Z (P4 e) rfl|_=>rfl
 induction r with|aG q=>refine(?_:(∃c,(if q=d then some (a,f) else W.aG q)=some c)↔∃c,W.aG q=some c);by_cases e:q=d;exact Z (P8 e)<|Z e<|Z b ⟨λ_=>⟨_,rfl⟩,λ_=>⟨_,rfl⟩⟩;refine Z (P4 e) ?_;rfl|_=>exact Iff.rfl
 induction r with|aG q=>have e:q≠d:=λe=>i<|Z e rfl;refine(?_:(match(if q=d then some (a,f) else W.aG q) with|some c=>c.2|none=>.d [])=(match W.aG q with|some c=>c.2|none=>.d []));refine Z (P4 e) ?_;rfl|_=>rfl
 refine(?_:(match(if d=d then some (a,f) else W.aG d) with|some c=>c.2|none=>.d [])=_);refine Z (P8 rfl) ?_;rfl
theorem G.dG(i:G W p)(b:W.aG d=some (a,o)):G (W.dG d a o) p:=by
 have m:W.o (.aG d)=a:=(Z b rfl:(match W.aG d with|some f=>f.1|none=>0)=a);have n:=m▸i.bj (.aG d) ⟨_,b⟩;have bE:∀g r,g≠a->W.al g=some r->r≠.aG d:=λg r e j c=>by subst c;(rcases i.bO g _ j with x|⟨_,x⟩);cases x;exact e<|x.trans m
 have l:∀q,q≠d->(W.dG d a o).aG q=W.aG q:=λq c=>P4 c;refine⟨λg r e=>?_,λg r e=>?_,λr j=>?_,⟨i.a3.cA,i.a3.dE,i.a3.dj⟩,i.L⟩;change (if g=a then some cn.k else W.al g)=some r at e;by_cases c:g=a;subst c;rw[P8 rfl] at e;obtain rfl:=P0 e;exact⟨(i.iq b).trans<|Q3 some (P8 rfl).symm,(i.bw g _ n).2⟩;rw[P4 c] at e;have:=i.bw g r e;refine⟨this.1.trans<|Q3 some ?_,this.2⟩;induction r with|k=>exact(P4 c).symm|aG q=>refine(?_:_=(match(W.dG d a o).aG q with|some f=>f.2|none=>.d []));refine Z (l q λh=>bE g _ c e<|Z h rfl) ?_;rfl|_=>rfl
 change (if g=a then some cn.k else W.al g)=some r at e;by_cases c:g=a;rw[P8 c] at e;obtain rfl:=P0 e;exact .inl rfl;rw[P4 c] at e;have s:=bE g r c e;rcases i.bO g r e with x|⟨x,t⟩
 exact .inl x;refine .inr ?_;induction r with|aG q=>have h:q≠d:=λh=>s (by refine Z h ?_;rfl);exact⟨by refine bA x λf x=>?_;exact⟨f,(l q h).trans x⟩,t.trans (by refine(?_:(match W.aG q with|some f=>f.1|none=>0)=(match(W.dG d a o).aG q with|some f=>f.1|none=>0));exact Z (l q h) rfl)⟩|_=>exact⟨x,t⟩
 have h:W.bj r/\r≠.aG d/\(W.dG d a o).o r=W.o r:=by induction r with|aG q=>obtain⟨f,j⟩:=j;have j:(if q=d then none else W.aG q)=some f:=j;by_cases c:q=d;rw[P8 c] at j;exact bm j;rw[P4 c] at j;exact⟨⟨f,j⟩,λh=>c (by cases h;rfl),by refine(?_:(match(W.dG d a o).aG q with|some f=>f.1|none=>0)=_);exact Z (l q c) rfl⟩|_=>exact b9 j (λh=>by cases h) rfl
 refine eN h λu v w=>?_;have:=i.bj r u;exact(Z w<|Z (P4 (λc=>by rw[c,n] at this;exact v (P0 this).symm)) this:(if(W.dG d a o).o r=a then some cn.k else W.al<|(W.dG d a o).o r)=_)
theorem uS(f:G W j)(b:W.aG c=some (a,o)):av W (W.dG c a o):=by
 refine⟨rfl,λx k d=>?_,P5 _,λ_ _=>rfl⟩;have e:x≠a:=λh=>by have:=d.1;rw[h,((Z b rfl:(match W.aG c with|some g=>g.1|none=>0)=a)▸f.bj (.aG c) ⟨_,b⟩:W.al a=some (.aG c))] at this;exact absurd this λi=>by cases i
 exact⟨(P4 e).trans d.1,(P4 e).trans d.2⟩
theorem Jw{au:Y}(e:G W l)(z:W.n<=100000)(B:∀a b m,W.al b=none/\W.al a=none/\a≠b->G ((W.M b<|.d []).b_ a<|.cx 0 au b g) m->h (.a a) m):ag (n+4) p (.B 9 6) [.a W.i.H,au,.a g] h i l:=by refine bp zX ∅<|c4 e.dC ∅ ∅<|pX e z λK f M=>(jH (l:=.B 6 1) ∅ ∅ ?_);have d:=e.a3;have j:=f.bH<|P5 _;exact bp CF ∅<|j9 ∅<|oF (f.dh _) j (c8 _ _) (P' _) λb O k o c y A=>eF o c y ∅ λP q u C=>eF q c u ∅ λQ r v D=>eF r c v ∅ λR s w E=>eF s c w ∅ λL t x F=>B K.f b L (b9 k.1 j k.2)<|G.ms (W:=W.M b<|.d []) t ⟨d.cA,d.dE,d.dj⟩ c (x.trans ∅)<|Z F<|Z E<|Z D<|Z C A
theorem IX{e:List Nat}:∀(m a:Nat) (W:N) (f:V) (h:List Y->aa) (i:Y->aa),e.length - a<m->G W f->W.y l (.d<|e.map .a)->(∀d k j,G d k->c' 0 W d->(d.aG=W.aG/\d.aA=W.aA)->be (λz r=>d.y z<|.A [.l "expr",.c 5,.a r]) j (e.drop a)->h (j.map .a) k)->bo (.d<|.a l) (λC v E5=>J (a4<|.A [.l "expr",.c 5,C]) λA=>v [A]) m a h i f:=by intro B;induction B with|zero=>intro a _ _ _ _ b _ _ _;exact absurd b (Q8 _)|succ m y=>intro a W f h i b g q c;refine(ep (g.k q) ?_:J (dv (.d<|.a l) a) _ f);refine Z Q7 ?_;cases n:e[a]? with|none=>replace c:=(Qj<|PX.1 n)▸c;exact c W f [] g .b3 ⟨rfl,rfl⟩ .aP|some r=>have p:=(P1.1 n).1;(have x:e.drop a=r::e.drop (a+1):=by refine Z (Qc p)<|Z ((P1.1 n).2) ?_;rfl);replace c:=x▸c;refine bF ?_;have s:=g.bH<|P5 _;exact y (a+1) _ _ _ _ (ga b p) (g.eK<|.A [.l "expr",.c 5,.a r]) ((av.M s).k _ _ q) λd k j u t o w=>c d k (f.f::j) u ((c'.k s).q t) ⟨o.1.trans rfl,o.2.trans rfl⟩<|.aY (t.m.k _ _ dA) w
end
theorem ef.bO(d:∀a o,e a=some o->W.y a o)(b:ef e r f):fy W r f:=by induction b with|e8 a=>exact .e8 (d _ _ a)|fc a=>exact .fc (d _ _ a)|eS a=>exact .eS (d _ _ a)|cR a g c=>exact .cR (d _ _ a) (d _ _ g)<|c.bD λ_ _=>d _ _
structure lM(a W:N)(b:List bU)(q:Nat):Prop where
 m:av a W
 p7:fz a W
 n:W.n=9+q
 f1:∀w,w<q->rI W (10+w) 1 (dk b w)
 my:W.aG 0=some (W.i.b1,.d<|(List.range q).map λw=>.a<|W.t<|10+w)
 m1:W.aG 1=a.aG 1
 mg:W.aG 2=a.aG 2
 a6:W.a6=a.a6
 O:W.O=a.O
section
theorem fz.dN(e:av W d)(a:∀k,k<=W.n->d.p k=W.p k)(b:d.w=W.w)(c:d.u=W.u)(f:d.E=W.E)(g:d.bG=W.bG)(h:d.aE=W.aE)(i:d.aA=W.aA)(j:d.C=W.C):fz W d:=⟨e.k,e.n,e.t,a,b,c,f,g,h,i,j⟩
theorem zp(b:q<3):∃x t:Y,(∀(h:Y->aa) a,h x a->J (ce (.l "abc")<|.c (q:Nat)) h a)/\∀(h:Y->aa) a,h t a->J (bW .Add (.l "main::s") x) h a:=by refine Nx ?_ ?_ ?_ b;exact bq _ _ (λh a k=>ir (.l (c:=97) rfl ∅) k) λh a k=>ir (.pO rfl rfl) k;exact bq _ _ (λh a k=>ir (.l (c:=98) rfl ∅) k) λh a k=>ir (.pO rfl rfl) k;exact bq _ _ (λh a k=>ir (.l (c:=99) rfl ∅) k) λh a k=>ir (.pO rfl rfl) k
theorem t_{n:Nat}{p:Bool}{Ot:V}{N' W:N}{q:Nat}{NS:List bU}{N7:Nat->Option af}{OL OA:Nat}{Ow:Y->aa}{E1 E2 E3:Y->Y->Y->aa}(Oh:G W Ot)(Ox:bt W)(Pg:W.y OA (.h1<|some<|.a W.i.H))(Pf:∀a o,N7 a=some o->N'.y a o)(P:fR N7 OL NS)(Q:lM N' W NS q)(PQ:N'.n=9)(NN:q<3)(Pm:∀d OO v,G d OO->bt d->av W d->lM N' d NS (q+1)->Ow v OO):(J (ce (.a OL)<|.c (q:Nat)) λB=>bY B λOd=>bo Od (λC OU E5=>J (a4<|.A [.l "expr",.c 5,C]) λPI=>OU [PI]) aJ 0 (λON=>if Nat.ble ON.length bl then J (a4<|.d ON) (λT=>J (a4<|.A [.l "block",T]) λN5=>aQ (ag (n+4) p) (.a W.i.b1) "append" (λOQ=>J (b6 OA) λPL=>aQ (ag (n+4) p) PL "new_code" (λOR=>J (ce (.l "abc")<|.c (q:Nat)) λNU=>J (bW .Add (.l "main::s") NU) λPs=>J (a4<|.d []) λPn=>J (a4<|.A [.l "subdef",Ps,N5,.c 0,Pn]) λPH=>J (a4<|.d []) λi=>OR [PH,i]) (λPB=>OQ [PB])<|E1 T N5) (λPS=>J (ee (.a W.i.R) "counter") λOX=>aQ (ag (n+4) p) OX "hold" (λOS=>J (ce (.a W.i.b1)<|.c (q:Nat)) λPN=>OS [PN]) (λPT=>Ow N5)<|E2 T N5)<|E3 T N5) else ae) aB) Ot:=by
 refine ah P.bO λOY Pv OH=>?_;have Ph:NS[q]?=some (dk NS q):=by unfold dk;refine Z (RB<|Z P.nG NN) ?_;rfl
 refine ah (sZ OH Ph) λa O_ S=>?_;have NQ:∀a o,N7 a=some o->W.y a o:=λa o b=>Q.m.k _ _<|Pf _ _ b;refine h' S.bO λNT PC Pq OK Od PE PF=>?_;have cu:=S.cu;have OJ:=Od.a5;refine g2 (Oh.k<|NQ _ _ Pv) (by refine Z (P6 ..)<|Z ((OH.a5.trans P.nG) ..)<|Z (it NN (h3 NN) ..) (Z Q7 ?_:(OY.map Y.a)[q]?=_);refine Z O_ ?_;rfl)<|dQ (Oh.k<|NQ _ _ OK) ?_;refine IX aJ 0 W Ot _ _ (Z P3 (hQ (k:=3) dL (j_<|aM (dw OJ) cu) rfl:NT.length+1 - 0<aJ)) Oh (NQ _ _ OK) λL f Oe Ou Pl OW OD=>?_;rw[Qq] at OD;refine c5 (uR OD) λl y PO OE O'=>(Z PO ?_);have Pp:((l++[y]).map Y.a).length<=1000:=Z (P6 ..)<|Z (P3 ..) (an [⟨1,.b 0,.b 1⟩,⟨1,.b 1,.b 2⟩,⟨1,.b 2,.e 2⟩] (.h (.b 0)<|.e 1) (.e 1000) rfl [l.length,NT.length,(dk NS q).a2.length] (P2 OE.a5) (P2 OJ) cu:l.length+1<=_);refine bJ (b5<|m2 Pp)<|bF<|bF ?_;have Ob:=Ou.bH<|P5 _;have N8:=Ou.eK<|.d<|(l++[y]).map .a;have NR:=N8.bH<|P5 _;have K:=N8.eK<|.A [.l "block",.a f.f];have C:av _ ((L.M f.f<|.d<|(l++[y]).map .a).M (f.z<|.d<|(l++[y]).map .a).f<|.A [.l "block",.a f.f]):=.M NR;have U:((L.M f.f<|.d<|(l++[y]).map .a).M (f.z<|.d<|(l++[y]).map .a).f<|.A [.l "block",.a f.f]).y (f.z<|.d<|(l++[y]).map .a).f (.A [.l "block",.a f.f]):=dA;have NZ:c' 0 W ((L.M f.f<|.d<|(l++[y]).map .a).M (f.z<|.d<|(l++[y]).map .a).f<|.A [.l "block",.a f.f]):=(Pl.q<|c'.k (q:=0) Ob).q<|c'.k (q:=0) NR;have NU:=(.M Ob:av L (L.M f.f<|.d<|(l++[y]).map .a)).q C;have X:((L.M f.f<|.d<|(l++[y]).map .a).M (f.z<|.d<|(l++[y]).map .a).f<|.A [.l "block",.a f.f]).aG=W.aG/\((L.M f.f<|.d<|(l++[y]).map .a).M (f.z<|.d<|(l++[y]).map .a).f<|.A [.l "block",.a f.f]).aA=W.aA:=OW;revert K;refine c2 ((f.z<|.d<|(l++[y]).map .a).z<|.A [.l "block",.a f.f]) λc=>?_;intro K;revert C U NZ NU X K;refine c2 ((L.M f.f<|.d<|(l++[y]).map .a).M (f.z<|.d<|(l++[y]).map .a).f<|.A [.l "block",.a f.f]) λz=>?_;intro C U NZ NU X K;revert NR U;refine c2 ((f.z<|.d<|(l++[y]).map .a).f) λA=>?_;intro NR U;revert Ob N8 C NR U;refine c2 f.f λO3=>?_;intro Ob N8 C NR U;refine bZ (zp NN) λPR E Pi Pj=>(fe (K.iq<|Z X.1 Q.my) ∅<|b2 (K.k<|NZ.m.k _ _ Pg)<|ad NZ.m.i<|c4 K.dC (l:=.B 9 6) ∅ ∅<|Pi _ _<|Pj _ _<|bF<|bF<|bF ?_);have Om:=K.bH<|P5 _;have Oi:=K.eK<|.d [];have On:=Oi.bH<|P5 _;have Oj:=Oi.eK<|.A [.l "subdef",E,.a A,.c 0,.a c.f];have Oo:=Oj.bH<|P5 _;have Ov:=Oj.eK<|.d [];have O9:av z (z.M c.f<|.d []):=.M Om;have OB:av (z.M c.f<|.d []) ((z.M c.f<|.d []).M (c.f+1)<|.A [.l "subdef",E,.a A,.c 0,.a c.f]):=.M On;have Ok:av ((z.M c.f<|.d []).M (c.f+1)<|.A [.l "subdef",E,.a A,.c 0,.a c.f]) (((z.M c.f<|.d []).M (c.f+1)<|.A [.l "subdef",E,.a A,.c 0,.a c.f]).M (c.f+1+1)<|.d []):=.M Oo;have NX:=Ok.k _ _<|OB.k _ _ dA;have I:=Ok.k _ _ dA;have N3:c' 0 z (((z.M c.f<|.d []).M (c.f+1)<|.A [.l "subdef",E,.a A,.c 0,.a c.f]).M (c.f+1+1)<|.d []):=((c'.k Om).q<|c'.k (q:=0) On).q<|c'.k (q:=0) Oo;have NP:(((z.M c.f<|.d []).M (c.f+1)<|.A [.l "subdef",E,.a A,.c 0,.a c.f]).M (c.f+1+1)<|.d []).aG=z.aG/\(((z.M c.f<|.d []).M (c.f+1)<|.A [.l "subdef",E,.a A,.c 0,.a c.f]).M (c.f+1+1)<|.d []).aA=z.aA:=⟨rfl,rfl⟩;have NV:G (((z.M c.f<|.d []).M (c.f+1)<|.A [.l "subdef",E,.a A,.c 0,.a c.f]).M (c.f+1+1)<|.d []) (((c.z<|.d []).z<|.A [.l "subdef",E,.a A,.c 0,.a c.f]).z<|.d []):=Ov;clear Oi Oj Ov Om On Oo O9 OB Ok;refine(?_:ag _ _ _ [_,.a<|c.f+1,.a<|c.f+1+1] _ _ (((c.z<|.d []).z<|.A [.l "subdef",E,.a A,.c 0,.a c.f]).z<|.d []));revert NV;refine c2 (((c.z<|.d []).z<|.A [.l "subdef",E,.a A,.c 0,.a c.f]).z<|.d []) λPU=>?_;intro NV;revert NX I N3 NP NV;refine c2 (((z.M c.f<|.d []).M (c.f+1)<|.A [.l "subdef",E,.a A,.c 0,.a c.f]).M (c.f+1+1)<|.d []) λg=>?_;intro NX I N3 NP NV;refine c2 (c.f+1+1) λi=>?_;revert I;refine c2 (c.f+1) λs=>?_;intro I;revert NX I;refine c2 c.f λO7=>?_;intro NX I;refine ad N3.m.i ?_;have F:=NZ.q N3;have N4:g.n=9+q:=Z F.n Q.n;refine Jw NV (y' NN N4) λac e OP NY N9=>?_;have u:av g ((g.M e<|.d []).b_ ac<|.cx 0 (.a s) e i):=(av.M NY.1).q<|.b_<|h_ NY.2.1 NY.2.2;have Oq:((g.M e<|.d []).b_ ac<|.cx 0 (.a s) e i).t (10+q)=ac:=P8 (show 10+q=g.n+1 by exact xH N4);have Ol:((g.M e<|.d []).b_ ac<|.cx 0 (.a s) e i).p (10+q)=some (.cx 0 (.a s) e i):=P8 (show 10+q=g.n+1 by exact xH N4);have Oc:∀k,k<=g.n->((g.M e<|.d []).b_ ac<|.cx 0 (.a s) e i).p k=g.p k:=λk b=>P4 (show k≠g.n+1 by exact jy b);have T:((g.M e<|.d []).b_ ac<|.cx 0 (.a s) e i).n=g.n+1:=rfl;have NW:((g.M e<|.d []).b_ ac<|.cx 0 (.a s) e i).aG=g.aG:=rfl;have O:fz g ((g.M e<|.d []).b_ ac<|.cx 0 (.a s) e i):=.dN u Oc rfl rfl rfl rfl rfl rfl rfl;have Og:((g.M e<|.d []).b_ ac<|.cx 0 (.a s) e i).a6=g.a6/\((g.M e<|.d []).b_ ac<|.cx 0 (.a s) e i).O=g.O:=⟨rfl,rfl⟩;revert N9 u Oq Ol Oc T NW O Og;refine c2 ((g.M e<|.d []).b_ ac<|.cx 0 (.a s) e i) λj=>?_;intro N9 u Oq Ol Oc T NW O Og;have Oy:j.aG 0=some (W.i.b1,.d<|(List.range q).map λw=>.a<|W.t<|10+w):=Z NW<|Z NP.1<|Z X.1 Q.my;refine Z F.m.i (hP (N9.iq Oy) (b5<|Z (P6 ..)<|Z (List.length_range ..)<|h3 NN) ?_:J (h5 (.a W.i.b1) "append" [.a ac]) _ OP);have N_:=N9.rL Oy<|.d<|(List.range q).map (λw=>Y.a<|W.t<|10+w)++[.a ac];have Oz:(j.d4 0 W.i.b1<|.d<|(List.range q).map (λw=>Y.a<|W.t<|10+w)++[.a ac]).aG 0=some (W.i.b1,.d<|(List.range q).map (λw=>Y.a<|W.t<|10+w)++[.a ac]):=ss;have O0:(j.d4 0 W.i.b1<|.d<|(List.range q).map (λw=>Y.a<|W.t<|10+w)++[.a ac]).aG 1=j.aG 1:=pH #[];have O1:(j.d4 0 W.i.b1<|.d<|(List.range q).map (λw=>Y.a<|W.t<|10+w)++[.a ac]).aG 2=j.aG 2:=pH #[];have D:av j (j.d4 0 W.i.b1<|.d<|(List.range q).map (λw=>Y.a<|W.t<|10+w)++[.a ac]):=.dN rfl rfl rfl rfl rfl;have NO:fz j (j.d4 0 W.i.b1<|.d<|(List.range q).map (λw=>Y.a<|W.t<|10+w)++[.a ac]):=.dN D (λ_ _=>rfl) rfl rfl rfl rfl rfl rfl rfl;have Pw:(j.d4 0 W.i.b1<|.d<|(List.range q).map (λw=>Y.a<|W.t<|10+w)++[.a ac]).p=j.p/\(j.d4 0 W.i.b1<|.d<|(List.range q).map (λw=>Y.a<|W.t<|10+w)++[.a ac]).t=j.t/\(j.d4 0 W.i.b1<|.d<|(List.range q).map (λw=>Y.a<|W.t<|10+w)++[.a ac]).n=j.n/\(j.d4 0 W.i.b1<|.d<|(List.range q).map (λw=>Y.a<|W.t<|10+w)++[.a ac]).a6=j.a6/\(j.d4 0 W.i.b1<|.d<|(List.range q).map (λw=>Y.a<|W.t<|10+w)++[.a ac]).O=j.O:=pt rfl rfl rfl rfl rfl;generalize j.d4 0 W.i.b1 (.d<|(List.range q).map (λw=>Y.a<|W.t<|10+w)++[.a ac])=m at*;generalize OP.Q W.i.b1 (.d<|(List.range q).map (λw=>Y.a<|W.t<|10+w)++[.a ac])=PV at*;refine tq Pw λOI Px Py Pz PA=>?_;have N6:=(F.m.q u).q D;refine ad N6.i<|aK N_.bV ∅<|c4 (N_.k<|(Ox.m N6).bN) (l:=.B 94 2) ∅ ∅<|Z N6.i<|g2 (N_.iq Oz) (v:=.a ac) ?_ ?_;refine Z (P3 ..)<|Z (P6 ..)<|Z (List.length_range ..)<|Z (it (P' _:q<q+[Y.a ac].length) (h3 NN) ..) (?_:(_++[Y.a ac])[q]?=_);have:=e6 ((List.range q).map λw=>Y.a<|W.t<|10+w)<|Y.a ac;rw[P6,List.length_range] at this;exact this;have OC:m.t (10+q)=ac:=Z Px Oq;refine ad OC<|nl N_ (Z OI Ol) (by refine(?_:0<=_);decide) λPP OT=>?_;have h:av m (m.bi (10+q)<|.cx 0 (.a s) e i):=.bi;have M:=N6.q h;have Pu:∀k,k≠10+q->(m.bi (10+q)<|.cx 0 (.a s) e i).p k=m.p k:=λk b=>P4 b;have Oa:=Q.n;have OG:∀k,k<=W.n->(m.bi (10+q)<|.cx 0 (.a s) e i).p k=W.p k:=λk b=>(Pu k<|zW Oa b).trans<|Z OI<|Z (Oc k<|MH Oa N4 b)<|Z F.p rfl;have PJ:∀k,k<=W.n->m.t k=W.t k:=λk b=>N6.t k b;have Pr:fz W (m.bi (10+q)<|.cx 0 (.a s) e i):=.dN M OG ((NO.w.trans O.w).trans F.w) ((NO.u.trans O.u).trans F.u) ((NO.E.trans O.E).trans F.E) ((NO.bG.trans O.bG).trans F.bG) ((NO.aE.trans O.aE).trans F.aE) ?_<|(NO.C.trans O.C).trans F.C;have OV:(m.bi (10+q)<|.cx 0 (.a s) e i).i=W.i:=M.i;refine Pm _ PP (.a A) OT (Ox.m M) M ⟨Q.m.q M,Q.p7.q Pr,by refine(Z Py<|Z T<|Z N4 ?_:m.n=_);exact rfl,λw OF=>?_,?_,?_,?_,?_,?_⟩;by_cases Op:w=q;subst Op;have Os:=(u.q D).q h;have Of:=N3.m.q Os;refine⟨1,s,A,O3,O7,E,l,y,e,i,P8 rfl,P5 _,P5 _,Os.k _ _ I,Os.k _ _ NX,Of.k _ _ U,Of.k _ _<|C.k _ _ dA,?_,?_,cu,S.gC,S.mP⟩;have Pe:∀{Oe NT:List Nat} {a2:List cC},be (λOM r=>L.y OM<|.A [.l "expr",.c 5,.a r]) Oe NT->be (ef N7) NT a2->be (λa PD=>∃r,(m.bi (10+w)<|.cx 0 (.a s) e i).y a (.A [.l "expr",.c 5,.a r])/\fy (m.bi (10+w)<|.cx 0 (.a s) e i) r PD) Oe a2:=λ{Oe NT a2} b=>by induction b generalizing a2 with|aP=>intro b;cases b;exact .aP|aY x OM Pk=>intro b;cases b with|aY t PK=>exact .aY (am _ (Of.k _ _<|NU.k _ _ x)<|(t.bO NQ).m M)<|Pk PK
 exact Pe OE Od;exact eb PC Pq (Of.k _ _<|NU.k _ _ O') (M.k _ _<|NQ _ _ PE)<|M.k _ _<|NQ _ _ PF;obtain⟨O5,PG,O2,O4,O8,Pt,OZ,Po,PM,O6,Pa,Pc,Pd,Pb⟩:=Q.f1 w<|iF OF Op;exact⟨O5,PG,O2,O4,O8,Pt,OZ,Po,PM,O6,(OG _<|an [⟨1,.h (.b 0)<|.e 1,.b 1⟩,⟨1,.h (.e 9)<|.b 1,.b 2⟩] (.h (.e 10)<|.b 0) (.b 2) rfl [w,q,W.n] (iF OF Op) (dw Oa.symm)).trans Pa,Pc,Pd,Pb.m M⟩;refine(Z Oz ?_:m.aG 0=_);refine Z OV<|Z (rfl:(m.bi (10+q)<|.cx 0 (.a s) e i).t=m.t)<|Z List.range_succ<|Z Rd ?_;congr 3;congr 1;exact QB λw NY=>Z (PJ (10+w) (by have:=List.mem_range.1 NY;exact an [⟨1,.h (.b 0)<|.e 1,.b 1⟩,⟨1,.h (.e 9)<|.b 1,.b 2⟩] (.h (.e 10)<|.b 0) (.b 2) rfl [w,q,W.n] this (P2 Oa.symm))) rfl;exact Q3 (λx=>[Y.a x]) OC.symm;exact(Z O0<|Z NW<|Z NP.1<|Z X.1 Q.m1:m.aG 1=_);exact(Z O1<|Z NW<|Z NP.1<|Z X.1 Q.mg:m.aG 2=_);exact(Z Pz<|Z Og.1<|Z F.a6 Q.a6:m.a6=_);exact(Z PA<|Z Og.2<|Z F.O Q.O:m.O=_);exact(Z NO.aA<|Z O.aA<|Z NP.2<|Z X.2 rfl:m.aA=_)
end
def px(vs i g R h f a b:Y)(e d c:Nat):ax:=JM vs i g R h f a b e d c
noncomputable def N.gh(W:N)(b a:Nat)(o:af):N:={W with aG:=λq=>if q=b then some (a,o) else W.aG q,al:=λx=>if x=a then some (.aG b) else W.al x}
noncomputable def eM.i5(S:eM)(a n w:Nat):eM:={S with dW:=a,wW:=n,sV:=w}
def N.hu(W:N)(a n w:Nat)(v:Y):N:={W with i:=W.i.i5 a n w,a6:=v,aG:=λq=>if q=2 then none else W.aG q,al:=λx=>if x=a then some .fd else W.al x}
section
theorem Gd{n:Nat}{p:Bool}{u:I}{U:ai->aa}{t:V}{r W:N}{z:List bU}{NQ:Nat->Option af}{s i x w:Nat}{D A y:Y}(NW:G W t)(NZ:bt W)(N9:W.y i (.h1<|some<|.a W.i.H))(NS:∀a o,NQ a=some o->r.y a o)(P:fR NQ s z)(Q:lM r W z 0)(NT:r.n=9)(N':∀d c k m,G d c->bt d->av W d->lM r d z 3->U (.f<|px (.a s) D (.a W.i.b1) (.a W.i.R) A y k m x w i) c):ci (.cf 3) (bg u (ag (n+4) p) p 52 (as 108 0) (bv (ab 108 0) 6)<|au (ab 108 0) 6 0) aJ 0 (lZ (.a s) D (.a W.i.b1) (.a W.i.R) A x w i<|some y) U t:=by
 obtain⟨fP,mf⟩:∃l,aJ=l+4:=⟨aJ - 4,sI dL⟩;have X:∀{f:N} {E:V} {g:ax} {NO:Nat} (q:Nat),q<3->G f E->bt f->av W f->lM r f z q->(g=lZ (.a s) D (.a W.i.b1) (.a W.i.R) A x w i (some y)\/∃k m,g=px (.a s) D (.a W.i.b1) (.a W.i.R) A y k m x w i)->(∀d c k m,G d c->bt d->av W d->lM r d z (q+1)->ci (.cf 3) (bg u (ag (n+4) p) p 52 (as 108 0) (bv (ab 108 0) 6)<|au (ab 108 0) 6 0) NO (q+1) (px (.a s) D (.a W.i.b1) (.a W.i.R) A y k m x w i) U c)->ci (.cf 3) (bg u (ag (n+4) p) p 52 (as 108 0) (bv (ab 108 0) 6)<|au (ab 108 0) 6 0) (NO+1) q g U E:=λ{f E g NO} q NN F K B L N_ NU=>by refine(ho ?_:J (dv (.cf 3) q) _ E);refine Z (P8 NN) ?_;have NR:f.y i (.h1<|some<|.a f.i.H):=Z B.i<|B.k _ _ N9;refine(?_:bg _ _ _ _ _ _ _ _ _ _ _);(rcases N_ with rfl|⟨k,m,rfl⟩);refine(bR Mc ?_:bg _ _ _ _ _ _ _ ⟨_,_,_⟩ _ _ _);refine ad B.i ?_;exact t_ F K NR NS P L NT NN λd c v M O NP S=>Z B.i<|NU d c _ v M O (B.q NP) S;refine(bR A_ ?_:bg _ _ _ _ _ _ _ ⟨_,_,_⟩ _ _ _);refine ad B.i ?_;exact t_ F K NR NS P L NT NN λd c v M O NP S=>Z B.i<|NU d c _ v M O (B.q NP) S
 have N8:∀{l:Nat},l=fP+4->∀(T:ax->Y->(ai->RI.aa)->RI.aa) (g:ax) (h:ai->RI.aa) t,ci (.cf 3) T (fP+4) 0 g h t->ci (.cf 3) T l 0 g h t:=λ{l} e T g h t b=>Z e b;exact N8 mf _ _ _ _<|X 0 #[] NW NZ .cK Q (.inl rfl) λf E k Oc F K B L=>X 1 #[] F K B L (.inr<|g' _ _ rfl) λOa Of m Od NX N3 j N5=>X 2 #[] NX N3 j N5 (.inr ⟨_,_,rfl⟩) λN7 NV Ob Oe NY N4 C N6=>(ho<|Z (P4 #[])<|N' N7 NV _ _ NY N4 C N6:J (dv (.cf 3) 3) _ NV)
theorem Kn{W:N}:(W.gh b a o).aG b=some (a,o):=P8 rfl
theorem JX{W:N}(b:q≠c):(W.gh c a o).aG q=W.aG q:=P4 b
theorem G.gh{k:V}(h:G W k)(t:W.aG c=none)(b:W.al a=none)(v:k.r a=some o)(u:a<k.f):G (W.gh c a o) k:=by
 have l:(W.gh c a o).aG c=some (a,o):=P8 rfl;have j:∀q,q≠c->(W.gh c a o).aG q=W.aG q:=λq f=>P4 f;have n:∀r,W.bj r->r≠.aG c:=λr f i=>by subst i;refine bA f λd f=>?_;rw[t] at f;exact bm f
 refine h.qt (λg=>rfl) b ⟨v.trans<|Q3 some ?_,u⟩ (λg r f m=>?_) ⟨⟨_,l⟩,?_⟩ (λr e=>?_) (λr e f=>?_) ⟨h.a3.cA,h.a3.dE,h.a3.dj⟩ h.L;refine(?_:_=(match(W.gh c a o).aG c with|some d=>d.2|none=>.d []));refine Z l ?_;rfl;refine bs (h.bw g r m) λp s=>⟨p.trans<|Q3 some ?_,s⟩;induction r with|aG q=>(have:q≠c:=λi=>by subst i;(rcases h.bO g _ m with x|⟨x,_⟩);cases x;exact n _ x rfl);refine(?_:_=(match(W.gh c a o).aG q with|some d=>d.2|none=>.d []));refine Z (j q this) ?_;rfl|_=>rfl
 exact(Z l rfl:a=(match(W.gh c a o).aG c with|some d=>d.1|none=>0));induction r with|aG q=>have:q≠c:=λi=>n _ e<|Z i rfl;refine⟨by refine bA e λd e=>?_;exact⟨d,(j q this).trans e⟩,?_⟩;refine(?_:(match(W.gh c a o).aG q with|some d=>d.1|none=>0)=(match W.aG q with|some d=>d.1|none=>0));exact Z (j q this) rfl|_=>exact⟨e,rfl⟩
 induction r with|aG q=>have:q≠c:=λi=>f<|Z i rfl;exact bA e λd e=>⟨d,(j q this).symm.trans e⟩|_=>exact e
theorem zE(b:W.al a=none):av W (W.gh d a o):=⟨rfl,λx f c=>⟨(P4 λe=>by have:=c.1;replace this:=b▸e▸this;exact bm this).trans c.1,c.2⟩,P5 _,λ_ _=>rfl⟩
theorem G.hu{k:Nat}(j:G W s)(b:W.aG 2=some (c,.aD 7<|ig (W.i.i5 c k w) v))(u:W.i.dW=0)(n:c≠0):G (W.hu c k w v) s:=by
 have m:W.o (.aG 2)=c:=(Z b rfl:(match W.aG 2 with|some f=>f.1|none=>0)=c);have o:=m▸j.bj (.aG 2) ⟨_,b⟩;have l:∀q,q≠2->(W.hu c k w v).aG q=W.aG q:=λq a=>P4 a;have bE:∀g r,g≠c->W.al g=some r->r≠.aG 2/\r≠.fd:=λg r d h=>by refine⟨λa=>?_,λa=>?_⟩;subst a;(rcases j.bO g _ h with x|⟨_,x⟩);cases x;exact d<|x.trans m;subst a;(rcases j.bO g _ h with x|⟨x,_⟩);cases x;exact x u
 refine⟨λg r d=>?_,λg r d=>?_,λr h=>?_,⟨j.a3.cA,j.a3.dE,λ_=>n⟩,j.L⟩;change (if g=c then some cn.fd else W.al g)=some r at d;by_cases a:g=c;subst a;rw[P8 rfl] at d;obtain rfl:=P0 d;exact⟨j.iq b,(j.bw g _ o).2⟩;rw[P4 a] at d;have:=j.bw g r d;refine⟨this.1.trans<|Q3 some ?_,this.2⟩;induction r with|aG q=>refine(?_:_=(match(W.hu c k w v).aG q with|some f=>f.2|none=>.d []));refine Z (l q λi=>(bE g _ a d).1 (by refine Z i ?_;rfl)) ?_;rfl|fd=>exact((bE g _ a d).2 rfl).elim|_=>rfl
 change (if g=c then some cn.fd else W.al g)=some r at d;by_cases a:g=c;rw[P8 a] at d;obtain rfl:=P0 d;exact .inr ⟨n,a⟩;replace d:=(P4 a)▸d;have p:=bE g r a d;rcases j.bO g r d with x|⟨x,t⟩
 exact .inl x;refine .inr ?_;induction r with|aG q=>have i:q≠2:=λi=>p.1 (by refine Z i ?_;rfl);exact⟨by refine bA x λf x=>?_;exact⟨f,(l q i).trans x⟩,t.trans (by refine(?_:(match W.aG q with|some f=>f.1|none=>0)=(match(W.hu c k w v).aG q with|some f=>f.1|none=>0));exact Z (l q i) rfl)⟩|fd=>exact(p.2 rfl).elim|_=>exact⟨x,t⟩
 by_cases e:r=.fd;exact Z e<|P8 rfl;have i:W.bj r/\r≠.aG 2/\(W.hu c k w v).o r=W.o r:=by induction r with|aG q=>obtain⟨f,h⟩:=h;have h:(if q=2 then none else W.aG q)=some f:=h;by_cases a:q=2;rw[P8 a] at h;exact bm h;rw[P4 a] at h;exact⟨⟨f,h⟩,λi=>a (by cases i;rfl),by refine(?_:(match(W.hu c k w v).aG q with|some f=>f.1|none=>0)=_);exact Z (l q a) rfl⟩|fd=>exact(e rfl).elim|_=>exact b9 h (λi=>by cases i) rfl
 refine eN i λy z A=>?_;have:=j.bj r y;exact(Z A<|Z (P4 (λa=>by replace this:=o▸a▸this;exact z (P0 this).symm)) this:(if(W.hu c k w v).o r=c then some cn.fd else W.al<|(W.hu c k w v).o r)=_)
theorem Ds(e:G W i)(b:W.aG 2=some (a,o))(c:W.y x d):(W.hu a k w v).y x d:=by
 have f:W.o (.aG 2)=a:=by refine(Z b ?_:(match W.aG 2 with|some g=>g.1|none=>0)=a);rfl
 exact⟨(P4 λh=>by have:=c.1;rw[h,(f▸e.bj (.aG 2) ⟨_,b⟩:W.al a=some (.aG 2))] at this;exact absurd this (by intros;contradiction)).trans c.1,c.2⟩
end
structure zI(W d:N):Prop where
 i:∃a w,a≠0/\d.i=W.i.i5 a 13 w
 wN:fz W d
 a6:d.a6≠.s
 O:d.O=W.O
 n:d.n=14
section
noncomputable def et(w:Nat)(v:Y):List (Str×Y):=[("number",.c 13),("count",.c 0),("blessed",.s),("weak",.a w),("is_destroyed",.b' false),("is_freed",.b' false),("name",.l "main::_"),("scalar",.s),("array",v),("hash",.s),("code",.s)]
theorem zg(d:G W f)(k:W.n=12)(D:∀c w e,W.ge.al w=none->(W.ge.M w<|.d []).al c=none->c≠0->G (W.ge.M w<|.d []) e->e.r c=some (.aD 7<|et w .s)->c<e.f->h (.a c) e):ag (n+4) p (.B 9 7) [.a W.i.H,.l "main::_"] h i f:=by refine bp BK ∅<|c4 d.dC ∅ ∅<|pX d (aM (dw k) #[]) λl g u=>(jH ∅ ∅<|bp L2 ∅<|j9 ∅<|oF (g.dh _) (g.bH<|P5 _) (c8 _ _) (P' _) λO Q C m a A B=>eF m a A ∅ λR o v E=>eF o a v ∅ λS q x F=>eF q a x ∅ λT r y K=>eF r a y ∅ λX s z L=>eF s a z ∅ λP t j M=>?_);rw[k] at j;exact D l.f O P C.1 a (λb=>cV [⟨1,.h (.b 0)<|.e 1,.b 1⟩,⟨1,.b 1,.b 2⟩,⟨1,.b 2,.e 0⟩] rfl [W.i.H,f.f,l.f] ((d.bw W.i.H _<|d.bj .dC Qd).2) (P2 u.symm) (P2 b)) t (j.trans ∅)<|Z M<|Z L<|Z K<|Z F<|Z E B
theorem Ci{n:Nat}{p:Bool}{h i:Y->aa}{Oj:V}{W:N}(D:G W Oj)(Ob:bt W)(Oq:W.i.dW=0)(Oh:W.C=none)(Oc:W.aG 1=some (W.i.dp,.K []))(Om:W.aG 2=none)(Q:W.n=12)(Os:∀d Ok,G d Ok->bt d->zI W d->h d.a6 Ok):ag (n+6) p (.B 98 4) [.a W.i.i,.l "main::_"] h i Oj:=by have K:=Ob.i;refine bp xx ∅<|c4 (D.k K) ∅ ∅<|bp x' ∅<|aK (D.k K) ∅<|ne (D.iq Oc) rfl (aL<|bJ rfl (aK (D.k K) ∅<|c4 D.dC ∅ ∅<|zg D Q λc w OM Op Og Od Ol On Ot=>?_));have O:=Ol.gh Om Og On Ot;have j:=((⟨rfl,λ_ _ b=>b,Q4 _,λ_ _=>rfl⟩:av W W.ge).q<|.M Op).q<|zE (d:=2) (o:=.aD 7<|et w .s) Og;have E:fz W ((W.ge.M w<|.d []).gh 2 c<|.aD 7<|et w .s):=.dN j (λ_ _=>rfl) rfl rfl rfl rfl rfl rfl rfl;have T:((W.ge.M w<|.d []).gh 2 c<|.aD 7<|et w .s).aG 1=some (W.i.dp,.K []):=(JX #[]).trans Oc;have NU:((W.ge.M w<|.d []).gh 2 c<|.aD 7<|et w .s).aG 2=some (c,.aD 7<|et w .s):=Kn;have N3:((W.ge.M w<|.d []).gh 2 c<|.aD 7<|et w .s).n=13:=(Z Q rfl:W.n+1=_);have N8:((W.ge.M w<|.d []).gh 2 c<|.aD 7<|et w .s).O=W.O:=rfl;revert O j E T NU N3 N8;refine c2 ((W.ge.M w<|.d []).gh 2 c<|.aD 7<|et w .s) λy=>?_;intro O j E T NU N3 N8;refine aK (O.k<|j.k _ _ K) ∅<|mc (O.iq T) rfl (by rfl) ?_;have t:=O.rL T<|.K<|e0 (.l "main::_") (.a c) [];have C:av y (y.d4 1 W.i.dp<|.K<|e0 (.l "main::_") (.a c) []):=.dN rfl rfl rfl rfl rfl;have X:(y.d4 1 W.i.dp<|.K<|e0 (.l "main::_") (.a c) []).aG 1=some (W.i.dp,.K [(.l "main::_",.a c)]):=ss;have U:(y.d4 1 W.i.dp<|.K<|e0 (.l "main::_") (.a c) []).aG 2=some (c,.aD 7<|et w .s):=(pH #[]).trans NU;have r:=E.q<|.dN C (λ_ _=>rfl) rfl rfl rfl rfl rfl rfl rfl;have A:(y.d4 1 W.i.dp<|.K<|e0 (.l "main::_") (.a c) []).n=13:=N3;have N9:(y.d4 1 W.i.dp<|.K<|e0 (.l "main::_") (.a c) []).O=W.O:=N8;have L:=j.q C;revert t C X U r A N9 L;refine c2 (y.d4 1 W.i.dp<|.K<|e0 (.l "main::_") (.a c) []) λq=>?_;intro t C X U r A N9 L;revert t;refine c2 (OM.Q W.i.dp<|.K<|e0 (.l "main::_") (.a c) []) λOR=>?_;intro t;refine aK (t.k<|L.k _ _ K) ∅<|gZ (t.iq X) rfl ∅ (aK (t.iq U) ∅<|x8<|aL<|bJ rfl (aK (t.k<|L.k _ _ K) (v:=.a W.i.H) ∅<|ad L.i<|c4 t.dC ∅ ∅<|r7 t (r.C.trans Oh) (aM (dw A) #[]) λg f e ON NZ Oo Oa=>?_));have R:=Oa.ey rfl;have I:=(((av.M NZ.1).q<|.b_<|h_ NZ.2.1 NZ.2.2).q<|.cX Oo).q<|av.ey (o:=.d []) Oa rfl;have NX:((((q.M f<|.d []).b_ g<|.az 0 false false f e).cX e<|.d []).ey e<|.d []).p 14=some (.az 0 false false f e):=P8 (show 14=q.n+1 by exact v4 A);have N6:((((q.M f<|.d []).b_ g<|.az 0 false false f e).cX e<|.d []).ey e<|.d []).t 14=g:=P8 (show 14=q.n+1 by exact v4 A);have NS:fz q ((((q.M f<|.d []).b_ g<|.az 0 false false f e).cX e<|.d []).ey e<|.d []):=.dN I (λk b=>P4<|show k≠q.n+1 by exact jy b) rfl rfl rfl rfl rfl rfl (r.C.trans Oh).symm;have NQ:((((q.M f<|.d []).b_ g<|.az 0 false false f e).cX e<|.d []).ey e<|.d []).n=14:=(Z A rfl:q.n+1=_);have N_:((((q.M f<|.d []).b_ g<|.az 0 false false f e).cX e<|.d []).ey e<|.d []).O=W.O:=N9;have NV:((((q.M f<|.d []).b_ g<|.az 0 false false f e).cX e<|.d []).ey e<|.d []).aG 1=some (W.i.dp,.K [(.l "main::_",.a c)]):=X;have J:((((q.M f<|.d []).b_ g<|.az 0 false false f e).cX e<|.d []).ey e<|.d []).aG 2=some (c,.aD 7<|et w .s):=U;revert R I NX N6 NS NQ N_ NV J;refine c2 ((((q.M f<|.d []).b_ g<|.az 0 false false f e).cX e<|.d []).ey e<|.d []) λs=>?_;intro R I NX N6 NS NQ N_ NV J;refine eE (R.iq J) ∅<|Z (∅:af.aD 7 (cN ("array":Str) (.a g)<|et w .s)=.aD 7 (et w<|.a g)) ?_;have x:=R.rL J<|.aD 7<|et w<|.a g;have m:av s (s.d4 2 c<|.aD 7<|et w<|.a g):=.dN rfl rfl rfl rfl rfl;have NT:fz s (s.d4 2 c<|.aD 7<|et w<|.a g):=.dN m (λ_ _=>rfl) rfl rfl rfl rfl rfl rfl rfl;have NW:(s.d4 2 c<|.aD 7<|et w<|.a g).aG 1=some (W.i.dp,.K [(.l "main::_",.a c)]):=(pH #[]).trans NV;have NN:(s.d4 2 c<|.aD 7<|et w<|.a g).aG 2=some (c,.aD 7<|et w<|.a g):=ss;have NP:(s.d4 2 c<|.aD 7<|et w<|.a g).p 14=some (.az 0 false false f e):=NX;have NR:(s.d4 2 c<|.aD 7<|et w<|.a g).t 14=g:=N6;have N4:(s.d4 2 c<|.aD 7<|et w<|.a g).n=14:=NQ;have N':(s.d4 2 c<|.aD 7<|et w<|.a g).O=W.O:=N_;revert x m NT NW NN NP NR N4 N';refine c2 (s.d4 2 c<|.aD 7<|et w<|.a g) λl=>?_;intro x m NT NW NN NP NR N4 N';revert x;refine c2 (ON.Q c<|.aD 7<|et w<|.a g) λOO=>?_;intro x;have cr:=x.cr NP;rw[NR] at cr;refine aK (x.iq NN) ∅<|aK cr (v:=.c ((0:Nat):Int)) ∅<|k0 (el #[]) ∅<|eE cr ∅ ?_;have F:=x.a_ NP<|.az 1 false false f e;rw[NR] at F;refine Z (∅:af.aD (bK.az 0 false false f e).ay (cN ("count":Str) (.c<|((0:Nat):Int)+1)<|hx 14<|.az 0 false false f e)=eT 14 (.az 1 false false f e)) ?_;have Oe:=NW;have Of:=NN;revert F;refine c2 (OO.Q g<|eT 14<|.az 1 false false f e) λOP=>?_;intro F;refine aK (F.iq Of) (v:=.a g) ∅ ?_;have S:=F.dG Oe;have NO:((l.a_ 14<|.az 1 false false f e).dG 1 W.i.dp<|.K [(.l "main::_",.a c)]).aG 2=some (c,.aD 7<|et w<|.a g):=(qM #[]).trans Of;have NY:((l.a_ 14<|.az 1 false false f e).dG 1 W.i.dp<|.K [(.l "main::_",.a c)]).y W.i.dp (.K [(.l "main::_",.a c)]):=yu;have M:=(((L.q I).q m).q .a_).q<|uS F Oe;have P:=M.i;have N7:∀k,k<=12->((l.a_ 14<|.az 1 false false f e).dG 1 W.i.dp<|.K [(.l "main::_",.a c)]).p k=W.p k:=λk b=>(P4<|show k≠14 by exact DZ b).trans<|(NT.p k<|Jq NQ b).trans<|(NS.p k<|Lm A b).trans<|r.p k<|Q▸b;have N5:((l.a_ 14<|.az 1 false false f e).dG 1 W.i.dp<|.K [(.l "main::_",.a c)]).w=l.w/\((l.a_ 14<|.az 1 false false f e).dG 1 W.i.dp<|.K [(.l "main::_",.a c)]).u=l.u/\((l.a_ 14<|.az 1 false false f e).dG 1 W.i.dp<|.K [(.l "main::_",.a c)]).E=l.E/\((l.a_ 14<|.az 1 false false f e).dG 1 W.i.dp<|.K [(.l "main::_",.a c)]).bG=l.bG/\((l.a_ 14<|.az 1 false false f e).dG 1 W.i.dp<|.K [(.l "main::_",.a c)]).aE=l.aE/\((l.a_ 14<|.az 1 false false f e).dG 1 W.i.dp<|.K [(.l "main::_",.a c)]).aA=l.aA/\((l.a_ 14<|.az 1 false false f e).dG 1 W.i.dp<|.K [(.l "main::_",.a c)]).C=l.C/\((l.a_ 14<|.az 1 false false f e).dG 1 W.i.dp<|.K [(.l "main::_",.a c)]).O=l.O/\((l.a_ 14<|.az 1 false false f e).dG 1 W.i.dp<|.K [(.l "main::_",.a c)]).n=14:=⟨rfl,rfl,rfl,rfl,rfl,rfl,rfl,rfl,N4⟩;revert S NO NY M P N7 N5;refine c2 ((l.a_ 14<|.az 1 false false f e).dG 1 W.i.dp<|.K [(.l "main::_",.a c)]) λz=>?_;intro S NO NY M P N7 N5;refine aZ λOQ OL=>?_;have u:∀a o,z.y a o->(z.hu c 13 w<|.a g).y a o:=λa o b=>Ds S NO b;obtain⟨OD,OE,OF,OG,OH,OI,OJ,OK,Oi⟩:=N5;have B:=(r.q NS).q NT;obtain⟨Ou,Ov,Ow,Ox,Oy,Oz,OA,OB,_⟩:=(Ob.m M);refine OL<|Os (z.hu c 13 w<|.a g) OP (S.hu (Z NO rfl) (Z P Oq) Od) ⟨u _ _ Ou,u _ _ Ov,u _ _ Ow,u _ _ Ox,u _ _ Oy,u _ _ Oz,u _ _ OA,u _ _ OB,λ_=>?_⟩ ⟨bq c w Od (Z P rfl:z.i.i5 c 13 w=_),⟨λa o b=>u a o<|M.k a o b,by refine(?_:W.n<=z.n);exact Dv Q Oi,λk b=>M.t k b,λk b=>N7 k<|Q▸b,OD.trans B.w,OE.trans B.u,OF.trans B.E,OG.trans B.bG,OH.trans B.aE,OI.trans B.aA,OJ.trans B.C⟩,(by intro OC;cases OC),OK.trans N',Oi⟩;exact(Z P<|u _ _ NY:(z.hu c 13 w<|.a g).y z.i.dp (.K [(.l "main::_",.a c)]))
end
theorem fy.k(e:∀a o,W.y a o->d.y a o)(b:fy W r f):fy d r f:=by induction b with|e8 a=>exact .e8 (e _ _ a)|fc a=>exact .fc (e _ _ a)|eS a=>exact .eS (e _ _ a)|cR a g c=>exact .cR (e _ _ a) (e _ _ g)<|c.bD λ_ _=>e _ _
theorem f7.k{W d:N}(c:∀a o,W.y a o->d.y a o){n g j k l:Nat}{m:Y}(b:f7 W n g j k m i l s):f7 d n g j k m i l s:=by exact c5 b.n λr f e h p=>⟨c _ _ b.l9,c _ _ b.bL,c _ _ b.jc,c _ _ b.mE,b.a2.bD λa q ⟨r,e,h⟩=>am r (c _ _ e)<|h.k c,eb r f (c _ _ e) (c _ _ h)<|c _ _ p,b.cu,b.gC,b.mP⟩
theorem nj.k(e:nj W b)(c:∀a o,W.y a o->d.y a o)(t:d.i.hZ=W.i.hZ)(u:d.i.f6=W.i.f6)(v:d.i.hC=W.i.hC)(w:d.i.c7=W.i.c7)(x:d.i.di=W.i.di)(y:d.i.b1=W.i.b1):nj d b:=by obtain⟨f,g,h,i,j,k,l,m,n,p,q,r,s⟩:=e;exact⟨by refine Z t ?_;exact c _ _ f,by refine Z u ?_;exact c _ _ g,c _ _ h,c _ _ i,c _ _ j,c _ _ k,c _ _ l,c _ _ m,by refine Z v ?_;exact c _ _ n,by refine Z w ?_;exact c _ _ p,by refine Z x ?_;exact c _ _ q,by refine Z y ?_;exact c _ _ r,c _ _ s⟩
noncomputable def js:ap:=⟨[0,1,2],3,[],[],[]⟩
theorem yb(b:a<3):cI js a=1:=by match a,b with|0,_=>rfl|1,_=>rfl|2,_=>rfl
section
theorem zy(Q:jM a j 3)(v:a.u=[]/\a.E=[]/\a.bG=0/\a.C=none)(x:fz j W)(w:W.n=14):bh 16 js W:=by
 refine lC v λB m C D=>?_;have h:=(x.u.trans Q.b3.u).trans B;refine⟨⟨Z x.w Q.a5,rfl,x.w▸Q.bi,x.w▸λk y=>P9 (Q.fI k y) x.n,λe d b _=>?_,λc s b=>?_,am [] (Z h rfl) .aP,by refine Z (h ..) ?_;exact .nil,((x.E.trans Q.b3.E).trans m)▸.aP,(x.C.trans Q.b3.C).trans D,λe b=>(Rc b).elim,λe b=>(Rc b).elim,io (aM (dw w) #[]) (h▸Qp _) (((x.E.trans Q.b3.E).trans m)▸Qp _) (by refine(?_:3<=16);decide) (by refine(?_:3<=16);decide)<|Z ((x.bG.trans Q.b3.bG).trans C)<|Qp _⟩,λe b=>?_⟩;rw[x.w] at b;refine Z (yb<|ad Q.a5<|(P1.1 b).1) ?_;refine aZ λF E=>?_;obtain⟨⟨i,n,o⟩,g,⟨A,p,q⟩,r,l⟩:=(Q.b8 e d b);refine E ⟨am i ((x.p _ l.1).trans n)<|x.k _ _ o,?_,am A ((x.p _ l.2.1).trans p)<|x.k _ _ q,?_,b9 (P9 l.1 x.n) (P9 l.2.1 x.n) l.2.2⟩;exact Z (x.t _ l.2.1)<|x.k _ _ g;exact(Z (x.t _ l.1)<|x.k _ _ r:W.y _ (.aD 8 [("target",.a<|W.t d.bk),("is_weak",.b' false)]));have f:c<3:=(P1.1 b).1;have z:s=(c:Int):=by match c,f with|0,_=>exact(P0 b).symm|1,_=>exact(P0 b).symm|2,_=>exact(P0 b).symm
 exact bZ (Q.vX c f) λd i t u=>(bq (.a d.du) i ((x.p _<|Z Q.n<|mo f).trans u)<|.inr<|eb c d z (x.w▸t) rfl);exact Z (yb b) ⟨λ_=>Nat.one_pos,λ_=>Rc⟩
theorem Fl(c:G W b)(w:W.O=[])(x:∀l f,l.dT=none->W.al l.o=none->G (W.c1<|bz.bM l) f->h .s f):ag (n+2) p (.ay 44) [.a e,W.a6,.c 0,.s,.l "main",.c 1] (λE=>J (h5 (.a W.i.f5) "append" [E]) h) i b:=by refine jH (l:=.B 44 1) ∅ ∅ ?_;have a:=c.bH<|P5 _;refine bp vv ∅<|eF (c.dh _) a (c8 _ _) ∅ λH g q y=>eF g a q ∅ λK j r z=>eF j a r ∅ λL k s A=>eF k a s ∅ λM m t B=>eF m a t ∅ λO o u C=>eF o a u ∅ λF d v D=>(hP d.cH (by refine Z w ?_;rfl) ?_);exact x ⟨b.f,.a e,W.a6,0,.s,.c 1,none⟩ _ rfl a (d.c1 a (v.trans ∅) (Z D<|Z C<|Z B<|Z A<|Z z<|Z y<|P' _:b.f<F.f))
end
noncomputable def sE(vs i g R h f a b:Y)(j:Option Y)(e d c:Nat):ax:=match j with
 |none=>(JM vs i g R h f a b e d c)
 |some x=>Nc vs i g R h f a b x e d c
section
theorem Ju{n:Nat}{u:I}{U:ai->aa}{s:List bU}{K:eO}{vs NR NP NQ M NN NO:Y}{D C B q:Nat}{i:List Nat}(Oa:hY s):∀(k a c:Nat) (W:N) (f:V) (o:ap) (l:bz) (a2:List cC) (g:Option Y),i.length - a<k->G W f->bt W->eR W K->hi W s 1->cz W (4*W.n) [] l->W.aE=[]->bh c o W->c+a2.length*aW 3<=15000->W.y q (.d<|i.map .a)->be (fy W) (i.drop a) a2->(∀g∈a2,g.dY 3)->(∀d t F NZ,G d t->bt d->eR d K->cz d (4*d.n) [] F->d.aE=[]->bh (c+a2.length*aW 3) (a2.foldl (cc s 3) o) d->av W d->((g=none->a2≠[])->NZ≠none)->U (.f<|sE vs NR NP (.a W.i.R) NQ M NN NO NZ D C B) t)->ci (.d<|.a q) (bg u (ag (n+38) false) false 50 (as 108 0) (bv (ab 108 0) 8)<|au (ab 108 0) 8 0) k a (sE vs NR NP (.a W.i.R) NQ M NN NO g D C B) U f:=by intro Oh;induction Oh with|zero=>intro a _ _ _ _ _ _ _ b _ _ _ _ _ _ _ _ _ _ _ _;exact absurd b (Q8 _)|succ k Od=>intro a c W f o l a2 g y p A w P v L R H NV h cE O;refine(ep (p.k NV) ?_:J (dv (.d<|.a q) a) _ f);refine Z Q7 ?_;cases S:i[a]? with|none=>replace h:=(Qj<|PX.1 S)▸h;cases h;exact O W f l g p A w v L (R.bu<|Q_ _ _) .cK λb NS=>b NS rfl|some r=>have NU:=(P1.1 S).1;(have Ob:i.drop a=r::i.drop (a+1):=by refine Z (Qc NU)<|Z ((P1.1 S).2) ?_;rfl);replace h:=Ob▸h;cases h with|@aY _ X _ T N' Oc=>rw[(Z (QA ..)<|Z (Nat.succ_mul ..) pi:c+(X::T).length*aW 3=c+aW 3+T.length*aW 3)] at H O;(have NT:∀(E1:Y->RI.aa),(J (a4<|.A [.l "expr",.c 9,.a r]) λOg=>ag (n+38) false (.B 73 0) [.a W.i.R,Og,.c 0] (λNY=>ci (.d<|.a q) (bg u (ag (n+38) false) false 50 (as 108 0) (bv (ab 108 0) 8)<|au (ab 108 0) 8 0) k (a+1) (sE vs NR NP (.a W.i.R) NQ M NN NO (some<|.a r) D C B) U) E1) f:=λE1=>by refine bF ?_;have NW:=p.bH<|P5 _;have m:=(dB.k (z:=.A [.l "expr",.c 9,.a r]) NW).eI;have E:=m.m;refine bC Oa n (W.M f.f<|.A [.l "expr",.c 9,.a r]) _ K [] l o c f.f r 1 9 X _ _ (p.eK<|.A [.l "expr",.c 9,.a r]) (A.m E) (w.m E) (P.eI m) #[] (v.b3 m rfl) (by refine(?_:0+3<=9);decide) (by refine(Z L (?_:0+3<=9):W.aE.length+3<=9);decide) (R.k NW) (Qo H) dA (N'.m E) (cE _<|.head _) λd t N4 N8 NX F=>?_;have Q:=m.q NX;have e:=Q.m;exact ad e.i<|Od (a+1) (c+aW 3) d t (cc s 3 o X) (l.aU<|.c 9) T _ (ga y NU) N4 (A.m e) (w.m e) (P.eI Q) ((v.b3 m rfl).eI NX (.c 9) F) (Q.aE.trans L) N8 H (e.k _ _ NV) (Oc.bD λ_ _ b=>b.m e) (λx b=>cE x<|.tail _ b) λN9 Oi N_ Oe N5 N7 N6 N3 Of R2 j NY=>Z e.i<|O N9 Oi N_ Oe N5 N7 N6 N3 Of R2 (e.q j) λ_=>NY λNS=>h2 NS);refine(?_:bg _ _ _ _ _ _ _ _ _ _ _);cases g<;>show bg _ _ _ _ _ _ _ ⟨_,_,_⟩ _ _ _;exact bR Kb<|NT _;exact bR Lc<|NT _
theorem Ia{n:Nat}{o:ap}{A:Nat}{f t:Nat}{g:Nat->Nat}:∀(c a:Nat) (W:N) (m:V) (h:List Y->aa) (i:Y->aa),3 - a<c->a<=3->G W m->bh A o W->(∀a,a<3->W.t (a+1)=g a)->W.y f (.d [.a<|g 0,.a<|g 1,.a<|g 2])->W.y t (.h1<|some<|.a W.i.c7)->(∀d r vs,G d r->c' 0 W d->be (e3 d) vs (o.bP.drop a)->h vs r)->bo (.d<|.a f) (λC E E5=>J (b6 t) λNO=>J (ee C "value") λH=>ag (n+2) false (.B 106 0) [NO,H] (λI=>E [I]) E5) c a h i m:=by intro NQ;induction NQ with|zero=>intro a _ _ _ _ b _ _ _ _ _ _ _;exact absurd b (Q8 _)|succ c U=>intro a W m h i X S l R u x w z;refine(ep (l.k x) ?_:J (dv (.d<|.a f) a) _ m);by_cases j:a<3;refine bA (kK R.tohO j) λs p=>(bZ (R.bw a s p) λv NS L M=>?_);(have e:([Y.a<|g 0,.a<|g 1,.a<|g 2])[a]?=some (.a<|W.t<|a+1):=by refine Z (u a j) ?_;exact Nx rfl rfl rfl j);(have P:o.bP.drop a=s::o.bP.drop (a+1):=by refine Z (Qc (P1.1 p).1) ?_;refine Z ((P1.1 p).2) ?_;rfl);have Q:∀c:Nat,s=c->c∉o.aX:=λc NP=>R.sy j (show o.aU a=(c:Int) by unfold ap.aU;exact Z p NP);exact Z e<|b2 (l.k w)<|aK (l.cr L) ∅<|rl l R.tohO M Q λF NR NN D k O=>(U (a+1) F NR _ _ (ga X j) j D (R.fb k) (λq T=>Z k.t<|u q T) (k.m.k _ _ x) (Z k.m.i<|k.m.k _ _ w) λd r vs B y K=>z d r (NN::vs) B (k.q y)<|Z P<|.aY (O.m y.m) K);have:a=3:=Q0 (an [⟨1,.b 0,.e 3⟩] (.b 0) (.e 3) rfl [a] S)<|an [⟨1,.e 3,.b 0⟩] (.e 3) (.b 0) rfl [a] (Nat.le_of_not_lt j);subst this;exact z W m [] l .b3<|Z (Qj<|Z R.dP<|P5 _) .aP
theorem Kd{n:Nat}{k:V}{W:N}{o:ap}{B:Nat}{f r q:Nat}{l:bz}{p:Y->aa}{E1:Y->aa}(i:G W k)(D:cz W (4*W.n) [] l)(R:bh B o W)(t:W.y f (.d [.a<|W.t 1,.a<|W.t 2,.a<|W.t 3]))(P:W.y r (.h1<|some<|.a W.i.c7))(O:W.y q (.h1<|some<|.a W.i.di))(S:∀d z x b vs,G d z->c' 0 W d->d.y x (.A [.a d.i.di,.a b,.c 1,.a d.i.h7])->d.y b (.d vs)->be (e3 d) vs o.bP->p (.a x) z):(J (b6 q) λNO=>bY (.a f) λI=>bo I (λC E E5=>J (b6 r) λNP=>J (ee C "value") λK=>ag (n+2) false (.B 106 0) [NP,K] (λX=>E [X]) E5) aJ 0 (λy=>if Nat.ble y.length bl then J (a4<|.d y) (λT=>J (ee (.a W.i.R) "frames") λF=>ag (n+2) false (.a' "len") [F] (λU=>J (ee (.a W.i.R) "saves") λH=>J (a4<|.A [NO,T,U,H]) λNN=>p NN) E1) else ae) aB) k:=by refine b2 (i.k O)<|dQ (i.k t)<|Ia aJ 0 W k _ _ (aM #[] dL) #[] i R (λ_ _=>rfl) t P λj c vs m Q h=>?_;replace h:=Qq▸h;refine bJ (b5 (by refine Z h.a5<|Z R.dP ?_;decide))<|bF ?_;have u:=m.bH<|P5 _;have e:=m.eK<|.d vs;have g:=Q.q<|c'.k (q:=0) (o:=.d vs) u;have M:(j.M c.f<|.d vs).y c.f (.d vs):=dA;have L:=h.bD λ_ _=>e3.m<|.M (o:=.d vs) u;have g:c' 0 W (j.M c.f<|.d vs):=g;generalize j.M c.f (.d vs)=a at*;generalize c.z (.d vs)=A at*;have s:a.O=[l.bM]:=g.O.trans D.O;refine ad g.m.i<|aK e.bV ∅<|i2 e.cH (by refine Z s ?_;rfl) ?_;refine Z s<|aK e.bV (v:=.a a.i.h7) ∅<|bF ?_;have w:=e.bH<|P5 _;have C:av a (a.M A.f<|.A [.a a.i.di,.a c.f,.c 1,.a a.i.h7]):=.M w;exact S _ _ A.f c.f vs (e.eK<|.A [.a a.i.di,.a c.f,.c 1,.a a.i.h7]) (g.q<|c'.k (q:=0) w) dA (C.k _ _ M)<|L.bD λ_ _=>e3.m C
end
section
structure we(W:N)(b:Nat->Option af)(e d c:Nat):Prop where
 jx:bt W
 fk:W.y c (.h1<|some<|.a W.i.H)
 fT:W.y e (.h1<|some<|.a W.i.c7)
 hB:W.y d (.h1<|some<|.a W.i.di)
 qK:W.u=[]/\W.E=[]/\W.bG=0/\W.C=none
 n:W.n=0
 w:W.w=[]
 L:W.L=[(672,34)]
 my:W.aG 0=some (W.i.b1,.d [])
 m1:W.aG 1=some (W.i.dp,.K [])
 mg:W.aG 2=none
 dj:W.i.dW=0
 O:W.O=[]
 aE:W.aE=[]
 D:∀a o,b a=some o->W.y a o
noncomputable def u0(e:Nat->Option af)(o:ap)(h:Y->aa):Prop:=∀W d c b vs,G W d->(∀a o,e a=some o->W.y a o)->W.y c (.A [.a W.i.di,.a b,.c 1,.a W.i.h7])->W.y b (.d vs)->be (e3 W) vs o.bP->be (dR W) W.E o.E->W.aE=[]->h (.a c) d
theorem C_{n:Nat}{h i:Y->aa}{S:V}{NW W:N}{L:List bU}{y:Nat->Option af}{N7:eO}{O5 N_ f NY NX OD:Nat}{OU O7 O8:Y}{Oa:List Nat}{a2:List cC}(OI:hY L)(NT:G W S)(Oi:bt W)(Q:lM NW W L 3)(Pe:NW.n=9)(Og:nj W N7)(OH:W.i.hC=f)(OM:W.y NY (.h1<|some<|.a W.i.c7))(OL:W.y NX (.h1<|some<|.a W.i.di))(N4:W.y f (.d [.a<|W.t 1,.a<|W.t 2,.a<|W.t 3]))(OO:W.i.dW=0)(OT:W.C=none)(m1:W.aG 1=some (W.i.dp,.K []))(mg:W.aG 2=none)(ON:W.O=[])(N8:W.aE=[])(OJ:∀d,fz W d->d.n=14->bh 16 js d)(H:∀a o,y a=some o->W.y a o)(N5:y N_=some (.d<|Oa.map .a))(N6:be (ef y) Oa a2)(cE:∀O3∈a2,O3.dY 3)(OQ:a2≠[])(N3:a2.length<=3)(OV:u0 y (a2.foldl (cc L 3) js) h):br (ag (n+38) true) (ag (n+38) false) false 53 (as 108 0) (px (.a O5) (.a N_) (.a W.i.b1) (.a W.i.R) (.a f) OU O7 O8 NY NX OD) (List.drop 7<|ab 108 0) (de h i) S:=by
 refine(bR IN ?_:br _ _ _ _ _ ⟨_,_,_⟩ _ _ _);have x:=NT.dG Q.my;have B:=uS NT Q.my;have s:fz W (W.dG 0 W.i.b1<|.d<|(List.range 3).map λw=>.a<|W.t<|10+w):=.dN B (λ_ _=>rfl) rfl rfl rfl rfl rfl rfl rfl;have NO:(W.dG 0 W.i.b1<|.d<|(List.range 3).map λw=>.a<|W.t<|10+w).y W.i.b1 (.d [.a<|W.t 10,.a<|W.t 11,.a<|W.t 12]):=yu;have J:(W.dG 0 W.i.b1<|.d<|(List.range 3).map λw=>.a<|W.t<|10+w).aG 1=some (W.i.dp,.K []):=(qM #[]).trans m1;have I:(W.dG 0 W.i.b1<|.d<|(List.range 3).map λw=>.a<|W.t<|10+w).aG 2=none:=(qM #[]).trans mg;have NQ:(W.dG 0 W.i.b1<|.d<|(List.range 3).map λw=>.a<|W.t<|10+w).n=12:=Q.n;have O:(W.dG 0 W.i.b1<|.d<|(List.range 3).map λw=>.a<|W.t<|10+w).O=[]:=ON;revert x B s NO J I NQ O;refine c2 (W.dG 0 W.i.b1<|.d<|(List.range 3).map λw=>.a<|W.t<|10+w) λr=>?_;intro x B s NO J I NQ O;refine ad B.i<|aK x.bV ∅<|fe x.cH ∅<|bF ?_;have T:=x.eK<|.d [];have j:av r (r.M S.f<|.d []):=.M<|x.bH<|P5 _;have E:=s.q<|fz.dN j (λ_ _=>rfl) rfl rfl rfl rfl rfl rfl rfl;have NS:=B.q j;have NU:=Oi.m NS;refine aK T.bV ∅<|c4 (T.k NU.i) ∅ ∅<|Ci T NU (Z NS.i OO) (E.C.trans OT) (Z j.i<|Z B.i J) I NQ λe Pg Od Oj G3=>(bZ G3.i λNZ Ob Pd OF=>?_);have D:e.i=W.i.i5 NZ 13 Ob:=Z OF<|Z NS.i rfl;refine Z (Z D<|Z B.i rfl:r.i.f5=e.i.f5)<|Z (Z D<|Z B.i rfl:r.i.R=e.i.R)<|Z (Z D<|Z B.i rfl:r.i.b1=e.i.b1)<|Fl Od (G3.O.trans O) λl O_ OK OR C=>?_;have z:av e (e.c1<|bz.bM l):=.c1 OR;have P:fz e (e.c1<|bz.bM l):=.dN z (λ_ _=>rfl) rfl rfl rfl rfl rfl rfl rfl;have t:=(E.q G3.wN).q P;have NP:(e.c1<|bz.bM l).O=[]++[l.bM]:=(Z G3.O<|Z (rfl:(r.M S.f<|.d []).O=r.O)<|Z O rfl:e.O++[l.bM]=_);have m:(e.c1<|bz.bM l).i=W.i.i5 NZ 13 Ob:=D;have u:(e.c1<|bz.bM l).n=14:=G3.n;have NN:(e.c1<|bz.bM l).a6≠.s:=G3.a6;have X:(e.c1<|bz.bM l).i=e.i:=rfl;revert C z P t NP m u NN X;refine c2 (e.c1<|bz.bM l) λq=>?_;intro C z P t NP m u NN X;have p:∀k,k<=12->q.t k=W.t k:=λk b=>t.t k<|Z Q.n b;have Oh:eR q N7:=by obtain⟨Om,On,Oo,Op,Oq,Os,Ot,Ou,Ov,Oy,Oz,OA,OB⟩:=Og.k (d:=q) t.k (Z m rfl) (Z (m ..) rfl) (by exact Z m rfl) (by exact Z (m ..) rfl) (by refine Z m ?_;rfl) (by refine Z (m ..) ?_;rfl);refine⟨Om,On,Oo,Op,Oq,Os,Ot,Ou,Ov,Oy,Oz,OA,OB,?_,?_,dw u.symm⟩;exact Z (p 1 #[])<|Z (p 2 #[])<|Z (p 3 #[])<|Z (Z m OH:q.i.hC=f)<|t.k _ _ N4;rw[p 10 #[],p 11 #[],p 12 #[],show q.i.b1=W.i.b1 from by refine Z m ?_;rfl];exact P.k _ _<|G3.wN.k _ _<|j.k _ _ NO
 have Ok:hi q L 1:=⟨λw N9=>by obtain⟨c,O6,g,Ox,OE,OX,Ow,OW,O9,OC,OY,O0,O1,OZ⟩:=Q.f1 w N9;exact⟨c,O6,g,Ox,OE,OX,Ow,OW,O9,OC,(t.p _<|Z Q.n<|an [⟨1,.h (.b 0)<|.e 1,.e 3⟩] (.h (.e 10)<|.b 0) (.h (.e 9)<|.e 3) rfl [w] N9).trans OY,O0,O1,OZ.k t.k⟩,NN⟩;refine ad X<|dQ (C.k<|t.k _ _<|H _ _ N5)<|Ju OI aJ 0 16 q O_ js l a2 none ?_ C (Oj.m z) Oh Ok ⟨NP,Qp _,by refine Z t.aE<|Z N8 ?_;exact Qp _,λc M=>by rw[OK] at M;exact bm M⟩ (t.aE.trans N8) (OJ q t u) (an [⟨3,.b 0,.e 2757⟩,⟨1,.b 1,.x 3<|.b 0⟩] (.h (.e 16)<|.b 1) (.e 15000) rfl [aW 3,a2.length*aW 3] (P2 (rfl:aW 3=2757)) (QR _ N3)) (t.k _ _<|H _ _ N5) (Z Qq<|N6.bD λ_ _ b=>(b.bO H).k t.k) cE λU Ph Pc N' Oe Pb Pa Oc O4 R5 A O2=>?_;have:=N6.a5;exact(hQ (k:=3) dL (aM (dw this) N3) rfl);obtain⟨Pf,rfl⟩:∃v,N'=some v:=by have:=O2 λ_=>OQ;induction N' with|none=>exact(this rfl).elim|some v=>exact⟨v,rfl⟩
 refine(bR MA ?_:br _ _ _ _ _ ⟨_,_,_⟩ _ _ _);refine ad A.i ?_;have F:∀a o,W.y a o->U.y a o:=λa o b=>A.k _ _<|t.k _ _ b;have NV:=A.i.trans m;refine Kd (p:=λNR=>h NR) Oe Oc R5 ?_ (Z (Z NV rfl:U.i.c7=W.i.c7)<|F _ _ OM) (Z (by exact Z (NV ..) rfl:U.i.di=W.i.di)<|F _ _ OL) λOl O' NR b vs Of K OS OP OG=>?_;exact Z (A.t 1<|yZ u)<|Z (A.t 2<|FD u)<|Z (A.t 3<|Ip u)<|Z (p 1 #[])<|Z (p 2 #[])<|Z (p 3 #[])<|F _ _ N4;exact OV Ol O' NR b vs Of (λa o M=>K.m.k _ _<|F _ _<|H _ _ M) OS OP OG (Z K.E<|R5.E.bD λ_ _=>dR.m K.m)<|K.aE.trans O4
end
section
theorem Kq(e:dx [(672,34)] c g (jk g) f):we (iS c g) c (g+2) (g+1) (g+0):=⟨⟨iT rfl rfl,iT rfl rfl,iT rfl rfl,iT rfl rfl,iT rfl rfl,iT rfl rfl,iT rfl rfl,iT rfl rfl,λb=>(b rfl).elim⟩,iT rfl rfl,iT rfl rfl,iT rfl rfl,iN rfl rfl rfl rfl,rfl,rfl,rfl,rfl,rfl,rfl,rfl,rfl,rfl,λa o b=>(by have d:=(e.k a o b).2;refine⟨?_,?_⟩;refine(Z (P8 d) ?_:(if a<g then _ else _)=_);refine Z b ?_;rfl;refine(Z (P8 d) ?_:(if a<g then _ else _)=_);refine Z b ?_;rfl)⟩
theorem DX{n:Nat}{h i:Y->aa}{NO:V}{W:N}{K:List bU}{t:Nat->Option af}{U X D C B:Nat}{I:List Nat}{a2:List cC}{E0:Y->aa}(N8:hY K)(NR:G W NO)(H:we W t D C B)(P:fR t U K)(N_:t X=some (.d<|I.map .a))(Oa:be (ef t) I a2)(cE:∀Oe∈a2,Oe.dY 3)(N':a2≠[])(N7:a2.length<=3)(Ob:u0 t (a2.foldl (cc K 3) js) h):bo (.cf 3) (λOn NU NQ=>J (b6 B) λOg=>aQ (ag (n+38) false) Og "new_scalar" (λNP=>NP [.s]) (λOd=>NU [Od]) NQ) aJ 0 (λNN=>if Nat.ble NN.length bl then J (a4<|.d NN) (λT=>bY T λOf=>ci Of (bg (ag (n+38) true) (ag (n+38) false) false 54 (as 108 0) (bv (ab 108 0) 4)<|au (ab 108 0) 4 0) aJ 0 (Nw (.a U) (.a X) (.a W.i.b1) (.a W.i.R) T D C B)<|cF (ag (n+38) true) (ag (n+38) false) false 55 (as 108 0) (List.drop 5<|ab 108 0)<|de h i) else ae) E0 NO:=by
 refine JH NR H.jx H.fk ⟨.cK,⟨rfl,rfl⟩,H.n,H.w,λk b=>absurd b<|Q8 _⟩ λOi Oo f M NW q F=>(dQ (M.k F)<|ad q.m.i<|FP (i:=W) M NW (Z q.m.i<|q.m.k _ _ H.fT) H.qK.2.2.2 q F λe Op x A NX v g=>?_);have N9:e.y f (.d [.a<|e.t 1,.a<|e.t 2,.a<|e.t 3]):=by refine Z (v.t 1 (by refine Z q.n ?_;decide)) ?_;refine Z (v.t 2 (by refine Z (q.n ..) ?_;decide)) ?_;refine Z (v.t 3 (by refine Z q.n ?_;decide)) ?_;exact v.k _ _ F
 refine(bR Gi ?_:br _ _ _ _ _ ⟨_,_,_⟩ _ _ _);refine ad v.i ?_;have u:=g.m.i;have Q:e.y D (.h1<|some<|.a e.i.c7):=Z u<|g.m.k _ _ H.fT;have O:e.y C (.h1<|some<|.a e.i.di):=Z u<|g.m.k _ _ H.hB;refine b2 (A.k Q)<|b2 (A.k O)<|I0 A NX (g.b3.L.trans H.L) λm Oq Ok NS NY r NV N3 N5 Oj N6 Oc=>(eU N3 λa c l=>?_);have y:=Oc.trans g.n;refine Z (Z l rfl:e.i.R=m.i.R)<|Z (Z l rfl:e.i.b1=m.i.b1) ?_;have S:∀a o,t a=some o->m.y a o:=λa o b=>r.k _ _<|g.m.k _ _<|H.D a o b;have E:=N5.trans g.b3.aG;refine Gd NS NY (Z (Z l rfl:m.i.H=e.i.H)<|r.k _ _<|Z u<|g.m.k _ _ H.fk) S P ⟨.cK,⟨λ_ _ b=>b,P5 _,λ_ _=>rfl,λ_ _=>rfl,rfl,rfl,rfl,rfl,rfl,rfl,rfl⟩,by exact Z y rfl,λw b=>absurd b<|Q8 _,by refine Z E<|Z (Z l<|Z u rfl:m.i.b1=W.i.b1) ?_;exact H.my,rfl,rfl,rfl,rfl⟩ y λN4 Os Ol Om NT NZ z s=>?_;refine ad z.i ?_;have L:∀k,k<=9->N4.t k=e.t k:=λk b=>(z.t k<|y▸b).trans<|r.t k<|Z g.n b;have j:=z.i;refine C_ N8 NT NZ s y (NV.k z.k (Z j rfl) (Z (j ..) rfl) (by exact Z j rfl) (by exact Z (j ..) rfl) (by refine Z j ?_;rfl) (by refine Z (j ..) ?_;rfl)) (Z j<|Z l rfl) (Z j<|z.k _ _<|Z (Z l rfl:m.i.c7=e.i.c7)<|r.k _ _ Q) (Z j<|z.k _ _<|Z (by exact Z l rfl:m.i.di=e.i.di)<|r.k _ _ O) ?_ (Z j<|Z l<|Z u H.dj) ((s.p7.C.trans r.C).trans<|g.b3.C.trans H.qK.2.2.2) (Z s.m1<|Z E<|Z j<|Z (Z l<|Z u rfl:m.i.dp=W.i.dp) H.m1) ?_ (s.O.trans<|N6.trans<|g.b3.O.trans H.O) ((s.p7.aE.trans r.aE).trans<|g.b3.aE.trans H.aE) (λd Oh p=>zy g H.qK ((r.q s.p7).q Oh) p) (λa o b=>z.k _ _<|S a o b) N_ Oa cE N' N7 Ob;exact Z (L 1 #[])<|Z (L 2 #[])<|Z (L 3 #[])<|z.k _ _<|r.k _ _ N9;exact Z s.mg<|Z E H.mg
end
section
theorem gx.qD(b:∀a o,c a=some o->W.y a o)(e:gx c v s):e3 W v s:=by
 rcases e with e|⟨i,d,j,k,f,g,h⟩
 exact .inl e;exact .inr ⟨i,d,j,k,f,b _ _ g,b _ _ h⟩
theorem fW.DM(b:∀a o,h a=some o->W.y a o)(e:fW h v x):dR W v x:=by induction x with|aX j=>obtain⟨g,c,d⟩:=e;exact am g c (b _ _ d)|fv s=>exact gx.qD b e|e5 f=>obtain⟨g,vs,c,d,i⟩:=e;exact eb g vs c (b _ _ d)<|i.bD λ_ _=>gx.qD b
theorem oj:gO a (n+1) (.c x) (.c x):=.inl<|am x rfl rfl
theorem Lg:gO a (n+1) (.l x) (.l x):=.inr<|.inl<|am x rfl rfl
theorem nx(b:c.r d=some (.d e))(g:c.r q=some (.d f))(a:lo (gO c n) e f):gO c (n+1) (.a d) (.a q):=.inr<|.inr<|.inl<|w1 d q e f rfl rfl b g a
theorem sM(b:c.r d=some (.A e))(g:c.r q=some (.A f))(a:lo (gO c n) e f):gO c (n+1) (.a d) (.a q):=.inr<|.inr<|.inr<|w1 d q e f rfl rfl b g a
theorem qE(b:∀v w a,R v a->R w a->gO i n v w)(l:be R f e):∀{c:List Y},be R c e->lo (gO i n) f c:=by induction l with|aP=>intro c d;cases d;exact Qd|aY a _ j=>(intro c d;cases d with|aY g k=>exact⟨b _ _ _ a g,j k⟩)
theorem sK(c:G W f)(a:e3 W v s)(g:e3 W w s):gO f (n+4) v w:=by
 rcases a with⟨rfl,rfl⟩|⟨d,rfl,m,p,rfl,j,k⟩
 rcases g with⟨_,rfl⟩|⟨d,b,_⟩
 exact oj;exact(km b).elim;rcases g with⟨b,_⟩|⟨l,b,o,q,rfl,h,i⟩
 exact(km b.symm).elim;have e:d=l:=kF b;subst e;exact sM (c.k j) (c.k h)<|b9 oj (nx (c.k k) (c.k i) ⟨oj,Qd⟩) Qd
theorem zJ(b:G W j)(a:dR W v e)(g:dR W w e):gO j (n+5) v w:=by induction e with|aX p=>exact ah a λm h d=>(Z h<|ah g λo h c=>Z h<|sM (b.k d) (b.k c)<|b9 Lg oj Qd)|fv s=>exact sK b a g|e5 f=>exact c5 a λm vs i d l=>Z i<|c5 g λo q i c k=>Z i<|nx (b.k d) (b.k c)<|qE (R:=e3 W) (λ_ _ _ x t=>sK b x t) l k
theorem Ae{o:ap}(a:G W k)(w:W.y h (.A [.a W.i.di,.a b,.c 1,.a W.i.h7]))(r:W.y b (.d vs))(l:be (e3 W) vs o.bP)(n:be (dR W) W.E o.E)(v:W.aE=[])(y:W.y i (.A [.a f,.a c,.c 1,.a e]))(s:W.y c (.d j))(m:be (e3 W) j o.bP)(u:W.y f (.d g))(p:be (dR W) g o.E)(q:W.y e (.d [])):gO k 40 (.a h) (.a i):=by have d:=a.gb;rw[v] at d;exact sM (a.k w) (a.k y)<|pt (nx a.E (a.k u)<|qE (R:=dR W) (λ_ _ _ x t=>zJ a x t) n p) (nx (a.k r) (a.k s)<|qE (R:=e3 W) (λ_ _ _ x t=>sK a x t) l m) oj (nx d (a.k q) Qd) Qd
end
section
noncomputable def q0(vs d c b:Y)(e:Option Y)(a:Nat):ax:=match e with
 |none=>(NE vs d c b a)
 |some x=>Ni vs d c b x a
theorem L5{j:List Nat}(N:l5 B 3 c):∀(k a e:Nat) (d:a9) (g:V) (o:ap) (a2:List cC) (f:Option Y),j.length - a<k->ca d g->bS e d o->d.o 1=A->e+a2.length*aW 3<=60000->fR d.D i B->d.D p=some (.d<|j.map .a)->be (ef d.D) (j.drop a) a2->(∀f∈a2,f.dY 3)->(∀l q Q,ca l q->bS (e+a2.length*aW 3) l (a2.foldl (cc B 3) o)->ea d l->((f=none->a2≠[])->Q≠none)->U (.f<|q0 vs (.a i) E (.a A) Q t) q)->ci (.d<|.a p) (bg u (ag (n+c) false) false 54 (as 111 0) (bv (ab 111 0) 4)<|au (ab 111 0) 4 0) k a (q0 vs (.a i) E (.a A) f t) U g:=by intro NU;induction NU with|zero=>intro a _ _ _ _ _ _ b _ _ _ _ _ _ _ _ _;exact absurd b (Q8 _)|succ k NR=>intro a e d g o a2 f y s H v w P O h L z;refine(ep (s.cg O) ?_:J (dv (.d<|.a p) a) _ g);refine Z Q7 ?_;cases C:j[a]? with|none=>replace h:=(Qj<|PX.1 C)▸h;cases h;exact z d g f s (H.bu<|Q_ _ _) .cK λb F=>b F rfl|some r=>have M:=(P1.1 C).1;(have NO:j.drop a=r::j.drop (a+1):=by refine Z (Qc M)<|Z ((P1.1 C).2) ?_;rfl);replace h:=NO▸h;cases h with|@aY _ R _ D NN NQ=>rw[(Z (QA ..)<|Z (Nat.succ_mul ..) pi:e+(R::D).length*aW 3=e+aW 3+D.length*aW 3)] at w z;(have K:∀(E1:Y->RI.aa),ag (n+c) false (.B 110 0) [.a A,.a i,.a r] (λNW=>ci (.d<|.a p) (bg u (ag (n+c) false) false 54 (as 111 0) (bv (ab 111 0) 4)<|au (ab 111 0) 4 0) k (a+1) (q0 vs (.a i) E (.a A) (some<|.a r) t) U) E1 g:=λE1=>by refine ad v<|N n d g o e i r R _ _ s H (Qo w) P NN (L _<|.head _) λl q S W m=>Z v<|NR (a+1) (e+aW 3) l q _ D _ (ga y M) S W (Z (m.o 1 #[]) v) w (P.cS m.D) (m.D _ _ O) (NQ.bD λ_ _ b=>b.cS m.D) (λx b=>L x<|.tail _ b) λG NV NS T X NT NP=>z G NV NS T X (m.q NT) λ_=>NP λF=>h2 F);refine(?_:bg _ _ _ _ _ _ _ _ _ _ _);cases f<;>show bg _ _ _ _ _ _ _ ⟨_,_,_⟩ _ _ _;exact bR zK<|K _;exact bR Kc<|K _
theorem Ji{n:Nat}{h:Y->aa}{E:V}{a:a9}{m:List bU}{F:Nat}{N U:Nat}{a2:List cC}{I:List Nat}{Q:Y->Y->aa}{E1:Y->Y->aa}(N3:hY m)(K:ca a E)(c:bS F a (a2.foldl (cc m 3) js))(NY:F<=80000)(P:fR a.D N m)(N5:a.D U=some (.d<|I.map .a))(N8:be (ef a.D) I a2)(cE:∀Og∈a2,Og.dY 3)(N6:a2≠[])(NW:a2.length<=3)(N':∀b p,h (.b' true) p->Q b (.b' true) p)(NZ:∀p,h (.b' true) p):(J (ce (.a<|a.o 1)<|.l "holds") λB=>bY B λOh=>bo Oh (λC NP E5=>cU (λOk=>NP [Ok]) λX=>J (cW .Lt C<|.c 0) λNR=>J (dD NR) λNT=>if NT then(X<|.c<|-1) else J (bW .Add (.c 70) C) λOe=>J (a4<|.d [Oe]) λOb=>J (a4<|.A [C,Ob]) λOi=>X Oi) aJ 0 (λG=>if Nat.ble G.length bl then J (a4<|.d G) (λz=>ag (n+39) false (.B 108 0) [.a N,.a U] (λOf=>J (ce (.a<|a.o 1)<|.l "log") λOl=>J (a4<|.d []) λOc=>J (a4<|.A [Ol,z,.c 1,Oc]) λOj=>J (cW .Eq Of Oj) λNS=>Q z NS)<|E1 z) else ae) aB) E:=by refine ah c.eZ λvs Oa Od=>?_;generalize N7:a2.foldl (cc m 3) js=o at*;have q:=K.d8 c.gP;have B:=K.nk c.gP;have T:(a.d8 2<|.d<|o.bP.map .c).aF 1=some (.K<|eY a o):=(lu #[]).trans c.e9;have w:(a.d8 2<|.d<|o.bP.map .c).aF 5=some (.d vs):=(lu #[]).trans Oa;have r:=q.d8 w;have j:=q.nk w;have x:((a.d8 2<|.d<|o.bP.map .c).d8 5<|.d vs).aF 1=some (.K<|eY a o):=(lu #[]).trans T;have s:=r.d8 x;have C:=r.nk x;have aR:=C _ _<|j _ _ oW;have NO:=C _ _ oW;have H:(((a.d8 2<|.d<|o.bP.map .c).d8 5<|.d vs).d8 1<|.K<|eY a o).D (a.o 1)=some (.K<|eY a o):=oW (a:=(a.d8 2<|.d<|o.bP.map .c).d8 5<|.d vs);have Om:=(B.q j).q C;generalize((a.d8 2<|.d<|o.bP.map .c).d8 5<|.d vs).d8 1 (.K<|eY a o)=NQ at*;clear q r T w x B j C;refine gZ (s.cg H) rfl ∅ (dQ (s.cg aR)<|xW (o8 NY) aJ 0 NQ E _ _ (Z c.dP<|aM #[] dL) s aR c.gG λS e d L y i=>?_);replace i:=Qq▸i;refine bJ (b5 (by refine Z i.a5<|Z c.dP ?_;decide))<|bF ?_;have M:=L.a0<|.d d;have l:=L.ch (o:=.d d);have NX:(S.a0 e.f<|.d d).D e.f=some (.d d):=dJ;have A:=Om.q<|y.D.q l.D;generalize S.a0 e.f (.d d)=On at*;refine(bp My ∅<|HJ (g:=(e.z<|af.d d).f) ⟨rfl,λk o b=>bm b,M.k,M.L⟩ λOq R=>DX N3 (KO R) (Kq R) (P.cS A) (A _ _ N5) (N8.bD λ_ _ b=>b.cS A) cE N6 NW<|Z N7 ?_);intro W f Oo b Op u g N_ N4 NU NV N9;refine gZ (u.k<|g _ _<|l.D _ _<|y.D _ _ H) rfl (v:=.a<|a.o 5) ∅ (bF<|bF ?_);have O:=u.eK<|.d [];have NN:av (W.M f.f<|.d []) ((W.M f.f<|.d []).M (f.z<|.d []).f<|.A [.a<|a.o 5,.a e.f,.c 1,.a f.f]):=.M<|O.bH<|P5 _;have t:=(.M<|u.bH<|P5 _:av W (W.M f.f<|.d [])).q NN;refine hF (.fH<|Ae (O.eK<|.A [.a<|a.o 5,.a e.f,.c 1,.a f.f]) (t.k _ _ N_) (t.k _ _ N4) (NU.bD λ_ _=>e3.m t) (NV.bD λ_ _=>dR.m t) N9 dA (t.k _ _<|g _ _ NX) ((i.bD λ_ _=>gx.cS l.D).bD λ_ _ D=>(gx.qD g D).m t) (t.k _ _<|g _ _<|l.D _ _<|y.D _ _ NO) ((Od.bD λ_ _=>fW.cS A).bD λ_ _ D=>(fW.DM g D).m t)<|NN.k _ _ dA)<|N' _ _<|NZ _
end
section
theorem Lf:iD c none (some ((60:Nat):Int))=c.take 60:=by by_cases b:60<=c.length;exact uJ b;refine Z (nH (a:=0) (by dsimp only[sliceBounds,Option.getD_none,show(1:Int)>0 by decide,if_true,if_neg<|show¬(((60:Nat):Int)<0) by decide];refine Z (show max 0 (min ((60:Nat):Int) (c.length:Int))=(c.length:Int) by exact Z (Int.min_eq_right<|Int.ofNat_le.2<|gw<|Nat.not_le.1 b)<|Int.max_eq_right<|Int.natCast_nonneg c.length) ?_;rfl)) ?_;refine Z (Qq ..)<|Z (Nat.sub_zero ..)<|Z (List.take_of_length_le (P5 _) ..)<|Z (List.take_of_length_le (an [⟨1,.h (.b 0)<|.e 1,.e 60⟩] (.b 0) (.e 60) rfl [c.length] (Nat.lt_of_not_le b)) ..) ?_;rfl
theorem CZ(c:dI.length<=63)(k:h (.a a.f) (a.z<|.d<|(dI.take 60).map .c)):J (gW (.cO 5) none<|some 60) h a:=by have b:gW (.cO 5) none (some 60) a (.a a.f) (a.z<|.d<|iD (dI.map .c) none<|some 60):=kc (dI.map .c) rfl (b5<|Z (P6 ..)<|cv c) rfl rfl;rw[show(60:Int)=((60:Nat):Int) from rfl,Lf,<-List.map_take] at b;exact bq _ _ b k
noncomputable def th(x:Y):List Y:=match x with
 |.c a=>[.c<|a % 1000000000]
 |_=>[]
theorem Hf:∀f:List Int,((f.map Y.c).flatMap th)=(f.map λa=>a % 1000000000).map .c:=by intro c;induction c with|nil=>exact rfl|cons a r b=>exact Z QM<|Z List.flatMap_cons<|Z b rfl
theorem AK{i:a9}(m:∀r,r≠0->i.aF r=none):bS 3 (((((i.z 2 d<|.d [.c 0,.c 1,.c 2]).z 3 e<|.d []).z 4 f<|.d []).z 5 g<|.d []).z 1 j<|.K [(.l "holds",.a d),(.l "made",.c 3),(.l "gone",.a e),(.l "kept",.a f),(.l "log",.a g)]) js:=by
 generalize a:(((((i.z 2 d<|.d [.c 0,.c 1,.c 2]).z 3 e<|.d []).z 4 f<|.d []).z 5 g<|.d []).z 1 j<|.K [(.l "holds",.a d),(.l "made",.c 3),(.l "gone",.a e),(.l "kept",.a f),(.l "log",.a g)])=c;have k:c.aF 1=some (.K [(.l "holds",.a d),(.l "made",.c 3),(.l "gone",.a e),(.l "kept",.a f),(.l "log",.a g)]):=by subst a;exact i9
 have l:∀h,c.aF (6+h)=none:=λh=>ad a<|(dM r6).trans<|(dM ob).trans<|(dM mi).trans<|(dM r_).trans<|(dM qL).trans<|m _ λb=>cV [⟨1,.h (.e 6)<|.b 0,.e 0⟩] rfl [h] (P2 b);refine⟨?_,ad a<|(dM #[]).trans<|(dM #[]).trans<|(dM #[]).trans<|(dM #[]).trans i9,ad a<|(dM #[]).trans<|(dM #[]).trans<|(dM #[]).trans i9,ad a<|(dM #[]).trans<|(dM #[]).trans i9,λh o b=>bm b,λh _=>l h,am [] (ad a<|(dM #[]).trans i9) .aP,rfl,λs b=>?_,.nil,λn b=>(Rc b).elim,by refine(?_:0+3<=0+3);decide,by refine(?_:3<=3);decide,⟨Qp _,Qp _⟩⟩;unfold eY;exact Z (ad a<|(gp #[]).trans<|(gp #[]).trans<|(gp #[]).trans<|(gp #[]).trans jt:c.o 2=d)<|Z (ad a<|(gp #[]).trans<|(gp #[]).trans<|(gp #[]).trans jt:c.o 3=e)<|Z (ad a<|(gp #[]).trans<|(gp #[]).trans jt:c.o 4=f)<|Z (ad a<|(gp #[]).trans jt:c.o 5=g) k;have b:s∈([0,1,2]:List Int):=b;simp only[List.mem_cons,List.not_mem_nil,or_false] at b;rcases b with rfl|rfl|rfl
 exact .inr ⟨0,rfl,#[]⟩;exact .inr ⟨1,rfl,#[]⟩;exact .inr ⟨2,rfl,#[]⟩
theorem CH{n:Nat}{h i:Y->aa}{t:V}{l:a9}(Of:dI.length<=63)(S:ca l t)(OD:∀r,l.aF r=none)(Oh:∀Om,h (.b' true) Om):ag (n+40) false (.B 111 0) [.cO 5] h i t:=by
 refine bp AW ∅<|hg<|CZ Of ?_;have X:=S.z (OD 3)<|.h1 none;have N7:(l.z 3 t.f<|.h1 none).aF 3=some (.h1 none):=i9;have NZ:∀r,r≠3->(l.z 3 t.f<|.h1 none).aF r=none:=λr b=>(dM b).trans<|OD r;have NN:(l.z 3 t.f<|.h1 none).o 3=t.f:=jt;revert X N7 NZ NN;refine c2 (l.z 3 t.f<|.h1 none) λE=>?_;intro X N7 NZ NN;revert X;refine c2 (t.z<|.h1 none) λT=>?_;intro X;revert NN;refine c2 t.f λOV=>?_;intro NN;have K:=X.a0<|.d<|(dI.take 60).map .c;have NU:(E.a0 T.f<|.d<|(dI.take 60).map .c).D T.f=some (.d<|(dI.take 60).map .c):=dJ;have N8:(E.a0 T.f<|.d<|(dI.take 60).map .c).aF=E.aF:=rfl;have N_:(E.a0 T.f<|.d<|(dI.take 60).map .c).o=E.o:=rfl;revert K NU N8 N_;refine c2 (E.a0 T.f<|.d<|(dI.take 60).map .c) λNT=>?_;intro K NU N8 N_;revert K;refine c2 (T.z<|.d<|(dI.take 60).map .c) λf=>?_;intro K;refine dQ (K.cg NU)<|kR (K.cg NU) (l:=th) (λx O0 q E' g=>?_) aJ 0 _ _ (Z (P6 ..)<|Z (List.length_take ..)<|hQ (k:=60) dL (Nat.min_le_left 60 dI.length) rfl) ?_;refine ah (Qa.1 O0) λj _ O9=>?_;subst O9;exact ir .uo<|xt #[] g;refine Z (Qq ..)<|Z (Hf ..)<|bJ (b5<|Z (P6 ..)<|Z (P6 ..)<|Z (List.length_take ..)<|aM (Nat.min_le_left ..) #[])<|bF<|bF ?_;have U:=K.a0<|.d<|((dI.take 60).map λj=>j % 1000000000).map .c;have Oa:(NT.a0 f.f<|.d<|((dI.take 60).map λj=>j % 1000000000).map .c).D f.f=some (.d<|((dI.take 60).map λj=>j % 1000000000).map .c):=dJ;have NO:(NT.a0 f.f<|.d<|((dI.take 60).map λj=>j % 1000000000).map .c).aF=E.aF:=N8;have N':(NT.a0 f.f<|.d<|((dI.take 60).map λj=>j % 1000000000).map .c).o=E.o:=N_;revert U Oa NO N';refine c2 (NT.a0 f.f<|.d<|((dI.take 60).map λj=>j % 1000000000).map .c) λM=>?_;intro U Oa NO N';revert U;refine c2 (f.z<|.d<|((dI.take 60).map λj=>j % 1000000000).map .c) λz=>?_;intro U;have L:=U.z (Z NO<|NZ 0 #[])<|.K<|gm f.f 0;have Oj:(M.z 0 z.f<|.K<|gm f.f 0).aF 0=some (.K<|gm f.f 0):=i9;have NR:(M.z 0 z.f<|.K<|gm f.f 0).aF 3=some (.h1 none):=(dM #[]).trans<|Z NO N7;have Ok:∀r,r≠0->r≠3->(M.z 0 z.f<|.K<|gm f.f 0).aF r=none:=λr b OW=>(dM b).trans<|Z NO<|NZ r OW;have Ob:(M.z 0 z.f<|.K<|gm f.f 0).D f.f=some (.d<|((dI.take 60).map λj=>j % 1000000000).map .c):=Oa;refine ad (jt:(M.z 0 z.f<|.K<|gm f.f 0).o 0=z.f)<|ad ((gp #[]).trans<|Z N' NN:(M.z 0 z.f<|.K<|gm f.f 0).o 3=OV) (?_:J (gi _ _) _ (z.z<|.K<|gm f.f 0));revert L;refine c2 (z.z<|.K<|gm f.f 0) λO_=>?_;intro L;revert Oj NR Ok Ob L;refine c2 (M.z 0 z.f<|.K<|gm f.f 0) λd=>?_;intro Oj NR Ok Ob L;refine gR (L.r NR) ?_;have B:=(L.Q NR<|.h1<|some<|.a<|d.o 0).d8 im;have O:((d.Q 3<|.h1<|some<|.a<|d.o 0).d8 3<|.h1<|some<|.a<|d.o 0).D (d.o 3)=some (.h1<|some<|.a<|d.o 0):=oW (a:=d.Q 3<|.h1<|some<|.a<|d.o 0);have Oi:∀r,r≠0->((d.Q 3<|.h1<|some<|.a<|d.o 0).d8 3<|.h1<|some<|.a<|d.o 0).aF r=none:=λr b=>by by_cases g:r=3;exact Z g vd;exact(lu g).trans<|(f3 g).trans<|Ok r b g
 have D5:ew ((d.Q 3<|.h1<|some<|.a<|d.o 0).d8 3<|.h1<|some<|.a<|d.o 0) 0:=⟨f.f,0,P5 _,(lu #[]).trans<|(f3 #[]).trans Oj,_,by refine Z (P6 ..)<|Z (List.length_take ..) ?_;exact aM (Nat.min_le_left ..) #[],((L.Q NR<|.h1<|some<|.a<|d.o 0).nk im) _ _ Ob⟩;have N4:((d.Q 3<|.h1<|some<|.a<|d.o 0).d8 3<|.h1<|some<|.a<|d.o 0).o 0=d.o 0:=rfl;revert B O Oi D5 N4;refine c2 ((d.Q 3<|.h1<|some<|.a<|d.o 0).d8 3<|.h1<|some<|.a<|d.o 0) λOS=>?_;intro B O Oi D5 N4;rw[<-N4] at O B;refine ad N4 ?_;revert B O;refine c2 (d.o 3) λN9=>?_;intro B O;revert B;refine c2 (O_.Q N9<|.h1<|some<|.a<|OS.o 0) λPf=>?_;intro B;refine b2 (B.cg O)<|LQ B D5 #[] Oi λOv Pg O5 Pd On m OU O2 D6 OP NX=>?_;have Oy:Ov.D N9=some (.h1<|some<|.a<|Ov.o 0):=Z OU<|m _ _ O;refine b2 (On.cg Oy)<|hT On D6 #[] #[] λOT O' r OM u D7 C=>i0 ∅ (el<|h3 C)<|Z (rfl:((1:Int)+(r:Int))=((1+r:Nat):Int))<|jK (uE C:1+r<=1000000)<|pT (o:=λR v w=>(∃y,v=.a y/\ef R y w)/\w.dY 3) (Q:=λl=>l.D N9=some (.h1<|some<|.a<|l.o 0)) (λR Pb v a e ⟨⟨y,NP,NQ⟩,Oc⟩=>⟨⟨y,NP,NQ.cS e⟩,Oc⟩) (λl Ou g Ow=>Z Ow.o<|Ow.D _ _ g) (λx l t s h i S g OI Of k=>b2 (S.cg g)<|z2 S OI (cv Of) λOu Om y O7 OK O8 OJ NP NQ=>k Ou Om _ (.cR O7) OK O8 OJ ⟨am y rfl NP,NQ⟩) aJ 0 _ OT O' _ _ (pP dL C) OM (Z u.o<|u.D _ _ Oy) D7 (an [⟨7,.h (.b 0)<|.e 1,.e 3⟩] (.h (.h (.h (.e 0)<|.e 33)<|.e 1)<|.hf (.h (.e 1)<|.b 0) 7) (.e 700) rfl [r] C) λN6 W vs a2 Oo D D8 Ox NY=>?_;have O3:∀{R:Nat->Option af} {vs:List Y} {a2:List cC},be (λv (w:cC)=>(∃y,v=Y.a y/\ef R y w)/\w.dY 3) vs a2->∃OH:List Nat,vs=OH.map .a/\be (ef R) OH a2/\∀w∈a2,w.dY 3:=λ{R vs a2} b=>by induction b with|aP=>exact cp [] rfl .aP (λ_ g=>(Rc g).elim)|aY x y O1=>obtain⟨⟨O6,rfl,NP⟩,NQ⟩:=x;refine cM O1 λp Ol Oc OX=>(Z Ol<|cp (O6::p) rfl (.aY NP Oc) λw g=>?_);(rcases RD.1 g with rfl|g);exact NQ;exact OX w g
 refine cM (O3 Ox) λp Ol Og OF=>?_;subst Ol;have Oe:(p.map Y.a).length=1+r:=Ox.a5.trans NY;refine bJ (b5<|tu C Oe)<|bF ?_;have N:=Oo.a0<|.d<|p.map .a;have NV:=Oo.ch (o:=.d<|p.map .a);have F:(N6.a0 W.f<|.d<|p.map .a).D W.f=some (.d<|p.map .a):=dJ;have I:=OP.cS<|(u.D.q D.D).q NV.D;have NS:=Og.bD λ_ _ b=>b.cS NV.D;have H:∀r,r≠0->(N6.a0 W.f<|.d<|p.map .a).aF r=none:=λr b=>(D.aF r b).trans<|(u.aF r b).trans<|O2 r b;revert N NV F I NS H;refine c2 (N6.a0 W.f<|.d<|p.map .a) λG=>?_;intro N NV F I NS H;revert N;refine c2 (W.z<|.d<|p.map .a) λc=>?_;intro N;revert F;refine c2 W.f λPc=>?_;intro F;refine bF<|bF<|bF<|bF<|bF ?_;have Op:=N.z (H 2 #[])<|.d [.c 0,.c 1,.c 2];have Oq:=Op.z ((dM #[]).trans<|H 3 #[])<|.d [];have Os:=Oq.z ((dM #[]).trans<|(dM #[]).trans<|H 4 #[])<|.d [];have Ot:=Os.z ((dM #[]).trans<|(dM #[]).trans<|(dM #[]).trans<|H 5 #[])<|.d [];have i8:=Ot.z ((dM #[]).trans<|(dM #[]).trans<|(dM #[]).trans<|(dM #[]).trans<|H 1 #[])<|.K [(.l "holds",.a c.f),(.l "made",.c 3),(.l "gone",.a<|c.f+1),(.l "kept",.a<|c.f+1+1),(.l "log",.a<|c.f+1+1+1)];have N5:=AK (j:=c.f+1+1+1+1) (d:=c.f) (e:=c.f+1) (f:=c.f+1+1) (g:=c.f+1+1+1) H;have NW:(((((G.z 2 c.f<|.d [.c 0,.c 1,.c 2]).z 3 (c.f+1)<|.d []).z 4 (c.f+1+1)<|.d []).z 5 (c.f+1+1+1)<|.d []).z 1 (c.f+1+1+1+1)<|.K [(.l "holds",.a c.f),(.l "made",.c 3),(.l "gone",.a<|c.f+1),(.l "kept",.a<|c.f+1+1),(.l "log",.a<|c.f+1+1+1)]).o 1=c.f+1+1+1+1:=jt;have Od:(((((G.z 2 c.f<|.d [.c 0,.c 1,.c 2]).z 3 (c.f+1)<|.d []).z 4 (c.f+1+1)<|.d []).z 5 (c.f+1+1+1)<|.d []).z 1 (c.f+1+1+1+1)<|.K [(.l "holds",.a c.f),(.l "made",.c 3),(.l "gone",.a<|c.f+1),(.l "kept",.a<|c.f+1+1),(.l "log",.a<|c.f+1+1+1)]).D=G.D:=rfl;have i8:ca (((((G.z 2 c.f<|.d [.c 0,.c 1,.c 2]).z 3 (c.f+1)<|.d []).z 4 (c.f+1+1)<|.d []).z 5 (c.f+1+1+1)<|.d []).z 1 (c.f+1+1+1+1)<|.K [(.l "holds",.a c.f),(.l "made",.c 3),(.l "gone",.a<|c.f+1),(.l "kept",.a<|c.f+1+1),(.l "log",.a<|c.f+1+1+1)]) _:=i8;clear Op Oq Os Ot;revert N5 NW Od i8;refine c2 (((((G.z 2 c.f<|.d [.c 0,.c 1,.c 2]).z 3 (c.f+1)<|.d []).z 4 (c.f+1+1)<|.d []).z 5 (c.f+1+1+1)<|.d []).z 1 (c.f+1+1+1+1)<|.K [(.l "holds",.a c.f),(.l "made",.c 3),(.l "gone",.a<|c.f+1),(.l "kept",.a<|c.f+1+1),(.l "log",.a<|c.f+1+1+1)]) λOQ=>?_;intro N5 NW Od i8;rw[<-Od] at I F NS;have OB:a2.length<=3:=by refine ad Og.a5 ?_;rw[P6] at Oe;exact an [⟨1,.h (.b 0)<|.e 1,.e 3⟩,⟨1,.b 1,.h (.e 1)<|.b 0⟩] (.b 1) (.e 3) rfl [r,p.length] C (P2 Oe)
 have OC:a2.length*aW 3<=3*aW 3:=QR _ OB;have Oz:aW 3=2757:=rfl;have OE:a2≠[]:=λg=>by rw[g] at NY;have:0=1+r - 0:=NY;exact ww this
 refine dQ (i8.cg F)<|L5 (A:=c.f+1+1+1+1) (rp NX<|rp NX<|rp NX λn l t o Pa O5 O4 w h i S ON OY P C OA Oh=>sh S ON OY P C (pU OA<|q_ OA) Oh) aJ 0 3 OQ _ js a2 none (by have:=Og.a5;exact pP dL C|>λb=>fp (dw<|this.trans NY) b) i8 N5 NW (an [⟨3,.b 0,.e 2757⟩,⟨1,.b 1,.x 3<|.b 0⟩] (.h (.e 3)<|.b 1) (.e 60000) rfl [aW 3,a2.length*aW 3] (P2 Oz) OC) I F (Z Qq NS) OF λOR Pe OG OL OO N3 OZ=>?_;obtain⟨O4,rfl⟩:∃v,OG=some v:=by have:=OZ λ_=>OE;cases OG with|none=>exact(this rfl).elim|some v=>exact⟨v,rfl⟩
 refine(bR zo ?_:br _ _ _ _ _ ⟨_,_,_⟩ _ _ _);refine Z (((N3.o 1 #[]).trans NW).symm:c.f+1+1+1+1=OR.o 1) ?_;exact Ji (Q:=λ_ v=>h v) NX OL OO (an [⟨3,.b 0,.e 2757⟩,⟨1,.b 1,.x 3<|.b 0⟩] (.h (.e 3)<|.b 1) (.e 80000) rfl [aW 3,a2.length*aW 3] (P2 Oz) OC) (I.cS N3.D) (N3.D _ _ F) (NS.bD λ_ _ b=>b.cS N3.D) OF OE OB (λ_ _ b=>b) Oh
end
theorem KZ(d:dI.length<=63)(c:a.L=[]):ag 50 false (.B 111 0) [.cO 5] (λv _=>v=.b' true) aB a:=CH d (⟨λ_ _ b=>bm b,λ_ _ _ _ b=>bm b,λ_ _ b=>bm b,λ_ _ _ _ b=>bm b,c⟩:ca ⟨λ_=>0,λ_=>none,λ_=>none⟩ a) (λ_=>rfl) λ_=>rfl
namespace H
open PySem.W PySem.Calls PyProof.Rows R
noncomputable abbrev k1:RowW:=PySem.Challenge.rw_qz0115_01.row.toRowW
noncomputable def LN:V:={f:=0,r:=λ_=>none}
theorem zB{c b:Heap}{z:Nat->Obj}(m:aj.co=hideAll b [986,993])(T:kW aj.x.params aj.dH c z)(y:∀g o,c.get? g=some o->b.get? g=some o)(n:c.objs.size<=b.objs.size):aC callerA [] LN b where
  bn a o e:=of_hideAll [986,993] (m▸e)
  d0:=m▸(Z (hideAll_size ..)<|P5 _:(hideAll b [986,993]).objs.size<=_)
  cq:=rfl
  al r l:=nomatch l
  gs p q r u k:=nomatch k
  cQ p o e:=nomatch e
  hk h d:=by
    have f:=T.cq▸n
    have d:h∈f0:=d
    simp only[f0,List.mem_cons,List.not_mem_nil,or_false] at d
    rw[m,hideAll_size]
    rcases d with rfl|rfl
    · exact⟨Ra #[] f,hideAll_none [986,993] #[],([].toArray),y _ _ T.tY,Qd,λ_ _=>rfl⟩
    · exact⟨Ra #[] f,hideAll_none [986,993] #[],([].toArray),y _ _ T.wa,Qd,λ_ _=>rfl⟩
  cH s e j i:=by obtain rfl:=P0 e;exact absurd i nofun
  dU t e:=nomatch e
theorem xF(b:IntsAre vs a):aR (aw []) (a.map .c) vs:=by induction b with|nil=>exact .aP|cons _ _ _ c=>exact .aY ⟨_,rfl⟩ c
theorem AH(m:aj.co=hideAll b [986,993])(T:kW aj.x.params aj.dH c z)(y:∀g o,c.get? g=some o->b.get? g=some o)(R:aC callerA r s f):OldK b f:=by
 have ck:∀d∈f0,∀o,b.get? d.2=some o->asItWas b f d.2 o/\∃p,f.get? d.2=some p:=λd i o e=>by obtain⟨_,_,q,a,_⟩:=R.hk d i;(have k:b.TableAt d.1 d.2 ([].toArray):=by simp only[f0,List.mem_cons,List.not_mem_nil,or_false] at i;(rcases i with rfl|rfl);exact⟨jC _ _ (y _ _ T.vw) rfl rfl rfl,y _ _ T.tY⟩;exact⟨jC _ _ (y _ _ T.u_) rfl rfl rfl,y _ _ T.wa⟩);have j:=k.2;rw[e] at j;obtain rfl:=P0 j;exact⟨.inr<|.inl ⟨k.isCodeTable,rfl,([].toArray),q,rfl,by refine Z a ?_;simp[tabObj]⟩,_,a⟩
 have l:∀g o,b.get? g=some o->g∉[986,993]->f.get? g=some o:=λg o e n=>R.bn g o<|m▸hideAll_get [986,993] e n;refine⟨λg o e=>?_,λg o e=>?_⟩;by_cases a:g=986;subst a;exact(ck (990,986) #[] o e).1;by_cases h:g=993;subst h;exact(ck (995,993) #[] o e).1;exact .inl<|l g o e (by simp[a,h]);by_cases a:g=986;subst a;exact(ck (990,986) #[] o e).2;by_cases h:g=993;subst h;exact(ck (995,993) #[] o e).2;exact⟨o,l g o e<|by simp[a,h]⟩
theorem Bi(m:aj.co=hideAll s.heap [986,993])(p:aj.hn=c.nsMap 3)(k:aj.lS=c.nsMap 0)(T:kW aj.x.params aj.dH c z)(y:∀g o,c.get? g=some o->s.heap.get? g=some o)(e:c.objs.size<=s.heap.objs.size)(j:s.heap.get? 1012=some (listOf vs.toArray n))(b:IntsAre vs dI)(f:∀a,OldK s.heap a.heap->a.os=s.os->a.gens=s.gens->Q (.bool true) a):wpAny (model aI aj.x) callerA (PySem.call (.ref 1011) [.ref 1012]) Q i s:=by refine(Ii (dY m p k T y e j<|xF b) 50 callerA false ⟨⟨[],rfl⟩,by decide+kernel,by decide+kernel⟩ λ_=>rfl).dT (zB m T y e) (l:=.B 111 0) (args:=[.cO 5]) rfl (.aY rfl .aP) (KZ Lb rfl) (λv t r a q d b h=>?_) bc.aB;subst h;exact Z b<|f a (AH m T y d.aH) d.e7 d.go
theorem Al(p:db w.params=c)(y:∀g o,c.get? g=some o->s.heap.get? g=some o)(j:c.objs.size<=s.heap.objs.size)(f:s.heap.get? 1012=some (listOf vs.toArray n))(h:IntsAre vs k)(q:k.length<=63)(d:∀b,OldK s.heap b.heap->b.os=s.os->b.gens=s.gens->Q (.bool true) b):wpAny (model aI w) callerA (PySem.call (.ref 1011) [.ref 1012]) Q i s:=by subst p;refine Classical.byContradiction λe=>?_;obtain⟨w,s,vs,n,Q,i,a,y,j,f,h,_,d,e⟩:=vQ ⟨(sk w s.heap,k),w,s,vs,n,Q,i,rfl,y,j,f,h,q,d,e⟩;have r:aj.x=w:=Q3 cz.x a;subst r;have T:=wv aj.x.params;have l:aj.dH=gQ aj.x.params:=Q3 cz.dH a;rw[<-l] at T;have m:aj.co=hideAll s.heap [986,993]:=Q3 cz.co a;have u:aj.hn=(db aj.x.params).nsMap 3:=Q3 cz.hn a;have t:aj.lS=(db aj.x.params).nsMap 0:=Q3 cz.lS a;exact e<|Bi m u t T y j f h d
end H
namespace H
open PySem.W PySem.Calls PyProof.Rows R
set_option tactic.hygienic true
theorem HC{j:DefRec}(H:j.name="law"):WalkX mK pG (λ_ _=>True) (λs=>s.heap) (λw=>db w.params) k1 j S λl vs=>PySem.call l vs:=by
 intro w Y NS NO NN m f n o NQ U N J G I A y q k D args NU V e K E L M F;clear A y q;wrow_args K E L M F;rename_i NP _ _ _ _ _ _ _ a vs _ t _ _ _ r _ u _;have T:=wv w.params;have f:Y.heap=db w.params:=f;generalize B:db w.params=c at T f;generalize gQ w.params=h at T;generalize cQ w.params=z at T;subst f;obtain⟨i,O⟩:=PySem.W.X.script_at e;have i:a=1012:=i.trans T.cq;subst i;have C:n=1011:=by rw[H] at k;refine ah (wI T (x:="law") (v:=.B 111 0) ∅) λNT p d=>?_;subst p;rw[<-(Heap.Ns.agree m.T.g ((Heap.Ns.of_isNs T.td).keeps e.keeps) "law"),k] at d;(rcases d with d|⟨d,_⟩);(injection d with d);injection d;exact h2 d
 refine Z C<|Al B e.keeps (Z O<|Q4 _) (PySem.W.X.script_obj e t) r (R'.1 λb=>u<|gK b) λNR P Q R=>iN (.inl ⟨.bool true,.bool true,[],rfl,λ_=>rfl,.bool _,?_,?_⟩) P Q<|.of_eq<|R.trans D;kernel_rfl;exact λ_=>⟨.nil,λ_ b=>nomatch b⟩
end H
namespace H
open PySem.W PySem.Calls PyProof.Rows R
theorem JW:k1.prog.bare:=⟨rfl,rfl,rfl,rfl,rfl,by decide+kernel⟩
theorem Dj:(chainsOk mK&&opensWell k1.prog&&(frees k1&&k1.within.isEmpty))=true:=∅
theorem IK:k1.promised:=⟨[ofPy<|.list []],by decide+kernel,by decide+kernel⟩
noncomputable def k5:DefRec:=match(jP[111]?:Option Stmt) with
 |some (Stmt.FunctionDef n a g _ _ _ c _ _ b)=>⟨n,a,g,c,b⟩
 |_=>⟨"",⟨[],[],none,[],[],none,[]⟩,[],default,⟨0,0,0,0⟩⟩
theorem sv:defOf mK "law"=some (k5,[]):=∅
theorem B6:k1.prog.theDef "law"=some (k5.params,k5.body,k5.scope):=∅
theorem qd:kwWritten? k5.params.kwonlyargs k5.params.kw_defaults=some []:=∅
theorem JV:k5.name="law":=∅
theorem lw(s:Shared)(_:qw s=true):RecFacts k1.records s.heap:=recFacts_of rfl
end H
end Mine.Internal.RI
end
open PySem PySem.W Mine.Internal.RI.H in
theorem PySem.Challenge.cw_qz0115_01_holds : PySem.Challenge.rw_qz0115_01.Holds :=
 holds_law Mt λa=>holds_openX (r:=PySem.Challenge.rw_qz0115_01.row) Bn (λ_ _=>trivial) (λ_ _ _ _ _=>trivial) sv B6 qd lw rfl a Dj JW IK (HC JV)
