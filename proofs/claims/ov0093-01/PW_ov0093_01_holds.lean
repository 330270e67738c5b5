import PyProof.Rows.All
import Wide.All
import OpenK.AllK
import Wide.FinOn
import PyProof.ListRange
import KE.KSortTup
import PyProof.Rows.SetFrom
import PyProof.Rows.KernelRfl
import Lean
import PySem.Challenge.RW_ov0093_01
set_option bootstrap.genMatcherCode false
set_option linter.all false
set_option maxRecDepth 100000
set_option Elab.async false
set_option autoImplicit false
set_option maxHeartbeats 1000000
set_option backward.match.sparseCases false
namespace Internal
section
variable{G:Prop}
theorem uS{α β γ δ ε:Type}{p q r s t u:α->β->γ->δ->ε->Prop}(h:∃a b,∃c d e,p a b c d e/\q a b c d e/\r a b c d e/\s a b c d e/\t a b c d e/\u a b c d e)(k:∀a b,∀c d e,p a b c d e->q a b c d e->r a b c d e->s a b c d e->t a b c d e->u a b c d e->G):G:=h.elim fun a h=>h.elim fun b h=>h.elim fun c h=>h.elim fun d h=>h.elim fun e h=>k a b c d e h.1 h.2.1 h.2.2.1 h.2.2.2.1 h.2.2.2.2.1 h.2.2.2.2.2
theorem BG{α β γ:Type}{p q r s t:α->β->γ->Prop}(h:∃a b c,p a b c/\q a b c/\r a b c/\s a b c/\t a b c)(k:∀a b c,p a b c->q a b c->r a b c->s a b c->t a b c->G):G:=h.elim fun a h=>h.elim fun b h=>h.elim fun c h=>k a b c h.1 h.2.1 h.2.2.1 h.2.2.2.1 h.2.2.2.2
theorem xA{p q:Prop}(h:p/\q)(k:p->q->G):G:=k h.1 h.2
theorem xAA{p q r:Prop}(h:p/\q/\r)(k:p->q->r->G):G:=k h.1 h.2.1 h.2.2
theorem xh{p q r s:Prop}(h:p/\q/\r/\s)(k:p->q->r->s->G):G:=k h.1 h.2.1 h.2.2.1 h.2.2.2
theorem BM{p q r s t:Prop}(h:p/\q/\r/\s/\t)(k:p->q->r->s->t->G):G:=k h.1 h.2.1 h.2.2.1 h.2.2.2.1 h.2.2.2.2
theorem BL{p q r s t u:Prop}(h:p/\q/\r/\s/\t/\u)(k:p->q->r->s->t->u->G):G:=k h.1 h.2.1 h.2.2.1 h.2.2.2.1 h.2.2.2.2.1 h.2.2.2.2.2
theorem BK{p q r s t u v w:Prop}(h:p/\q/\r/\s/\t/\u/\v/\w)(k:p->q->r->s->t->u->v->w->G):G:=k h.1 h.2.1 h.2.2.1 h.2.2.2.1 h.2.2.2.2.1 h.2.2.2.2.2.1 h.2.2.2.2.2.2.1 h.2.2.2.2.2.2.2
theorem uV{p q r s t u v w x y z:Prop}(h:p/\q/\r/\s/\t/\u/\v/\w/\x/\y/\z)(k:p->q->r->s->t->u->v->w->x->y->z->G):G:=k h.1 h.2.1 h.2.2.1 h.2.2.2.1 h.2.2.2.2.1 h.2.2.2.2.2.1 h.2.2.2.2.2.2.1 h.2.2.2.2.2.2.2.1 h.2.2.2.2.2.2.2.2.1 h.2.2.2.2.2.2.2.2.2.1 h.2.2.2.2.2.2.2.2.2.2
theorem oN{α β γ:Type}{p q r s t:Prop}{u v w x y z P:α->β->γ->Prop}(h:p/\q/\r/\s/\t/\∃a b c,u a b c/\v a b c/\w a b c/\x a b c/\y a b c/\z a b c/\P a b c)(k:p->q->r->s->t->∀a b c,u a b c->v a b c->w a b c->x a b c->y a b c->z a b c->P a b c->G):G:=h.2.2.2.2.2.elim fun a h1=>h1.elim fun b h2=>h2.elim fun c h3=>k h.1 h.2.1 h.2.2.1 h.2.2.2.1 h.2.2.2.2.1 a b c h3.1 h3.2.1 h3.2.2.1 h3.2.2.2.1 h3.2.2.2.2.1 h3.2.2.2.2.2.1 h3.2.2.2.2.2.2
theorem HH{α:Type}{p q:Prop}{r s t:α->Prop}(h:p/\q/\∃a,r a/\s a/\t a)(k:p->q->∀a,r a->s a->t a->G):G:=h.2.2.elim fun a h1=>k h.1 h.2.1 a h1.1 h1.2.1 h1.2.2
theorem zo{α β:Type}{p q:Prop}{r s t:α->β->Prop}(h:p/\q/\∃a b,r a b/\s a b/\t a b)(k:p->q->∀a b,r a b->s a b->t a b->G):G:=h.2.2.elim fun a h1=>h1.elim fun b h2=>k h.1 h.2.1 a b h2.1 h2.2.1 h2.2.2
theorem xAE{α:Type}{p:Prop}{q:α->Prop}(h:p/\∃a,q a)(k:p->∀a,q a->G):G:=h.2.elim fun a h1=>k h.1 a h1
theorem HG{α β:Type}{p:Prop}{q:α->β->Prop}(h:p/\∃a b,q a b)(k:p->∀a b,q a b->G):G:=h.2.elim fun a h1=>h1.elim fun b h2=>k h.1 a b h2
theorem HF{α β:Type}{p:Prop}{q r s:α->β->Prop}(h:p/\∃a b,q a b/\r a b/\s a b)(k:p->∀a b,q a b->r a b->s a b->G):G:=h.2.elim fun a h1=>h1.elim fun b h2=>k h.1 a b h2.1 h2.2.1 h2.2.2
theorem EK{α β:Type}{p:Prop}{q r s t:α->β->Prop}(h:p/\∃a b,q a b/\r a b/\s a b/\t a b)(k:p->∀a b,q a b->r a b->s a b->t a b->G):G:=h.2.elim fun a h1=>h1.elim fun b h2=>k h.1 a b h2.1 h2.2.1 h2.2.2.1 h2.2.2.2
theorem BJ{α β:Type}{p:Prop}{q r s t u:α->β->Prop}(h:p/\∃a b,q a b/\r a b/\s a b/\t a b/\u a b)(k:p->∀a b,q a b->r a b->s a b->t a b->u a b->G):G:=h.2.elim fun a h1=>h1.elim fun b h2=>k h.1 a b h2.1 h2.2.1 h2.2.2.1 h2.2.2.2.1 h2.2.2.2.2
theorem xE{α:Type}{p:α->Prop}(h:∃a,p a)(k:∀a,p a->G):G:=h.elim fun a h=>k a h
theorem xEA{α:Type}{p q:α->Prop}(h:∃a,p a/\q a)(k:∀a,p a->q a->G):G:=h.elim fun a h=>k a h.1 h.2
theorem nc{α:Type}{p q r:α->Prop}(h:∃a,p a/\q a/\r a)(k:∀a,p a->q a->r a->G):G:=h.elim fun a h=>k a h.1 h.2.1 h.2.2
theorem sA{α:Type}{p q r s:α->Prop}(h:∃a,p a/\q a/\r a/\s a)(k:∀a,p a->q a->r a->s a->G):G:=h.elim fun a h=>k a h.1 h.2.1 h.2.2.1 h.2.2.2
theorem HE{α:Type}{p q r s t:α->Prop}(h:∃a,p a/\q a/\r a/\s a/\t a)(k:∀a,p a->q a->r a->s a->t a->G):G:=h.elim fun a h=>k a h.1 h.2.1 h.2.2.1 h.2.2.2.1 h.2.2.2.2
theorem EJ{α:Type}{p q r s t u:α->Prop}(h:∃a,p a/\q a/\r a/\s a/\t a/\u a)(k:∀a,p a->q a->r a->s a->t a->u a->G):G:=h.elim fun a h=>k a h.1 h.2.1 h.2.2.1 h.2.2.2.1 h.2.2.2.2.1 h.2.2.2.2.2
theorem BI{α:Type}{p q r s t u v:α->Prop}(h:∃a,p a/\q a/\r a/\s a/\t a/\u a/\v a)(k:∀a,p a->q a->r a->s a->t a->u a->v a->G):G:=h.elim fun a h=>k a h.1 h.2.1 h.2.2.1 h.2.2.2.1 h.2.2.2.2.1 h.2.2.2.2.2.1 h.2.2.2.2.2.2
theorem sy{α:Type}{p q r s t u v w:α->Prop}(h:∃a,p a/\q a/\r a/\s a/\t a/\u a/\v a/\w a)(k:∀a,p a->q a->r a->s a->t a->u a->v a->w a->G):G:=h.elim fun a h=>k a h.1 h.2.1 h.2.2.1 h.2.2.2.1 h.2.2.2.2.1 h.2.2.2.2.2.1 h.2.2.2.2.2.2.1 h.2.2.2.2.2.2.2
theorem xg{α:Type}{p q r s t u v w x:α->Prop}(h:∃a,p a/\q a/\r a/\s a/\t a/\u a/\v a/\w a/\x a)(k:∀a,p a->q a->r a->s a->t a->u a->v a->w a->x a->G):G:=h.elim fun a h=>k a h.1 h.2.1 h.2.2.1 h.2.2.2.1 h.2.2.2.2.1 h.2.2.2.2.2.1 h.2.2.2.2.2.2.1 h.2.2.2.2.2.2.2.1 h.2.2.2.2.2.2.2.2
theorem Jz{α β:Type}{p q:α->Prop}{r:α->β->Prop}(h:∃a,p a/\q a/\∃b,r a b)(k:∀a,p a->q a->∀b,r a b->G):G:=h.elim fun a h1=>h1.2.2.elim fun b h2=>k a h1.1 h1.2.1 b h2
theorem GV{α β γ:Type}{p:α->Prop}{q:α->β->γ->Prop}(h:∃a,p a/\∃b c,q a b c)(k:∀a,p a->∀b c,q a b c->G):G:=h.elim fun a h1=>h1.2.elim fun b h2=>h2.elim fun c h3=>k a h1.1 b c h3
theorem xEE{α β:Type}{p:α->β->Prop}(h:∃a b,p a b)(k:∀a b,p a b->G):G:=h.elim fun a h=>h.elim fun b h=>k a b h
theorem m8{α β:Type}{p q:α->β->Prop}(h:∃a b,p a b/\q a b)(k:∀a b,p a b->q a b->G):G:=h.elim fun a h=>h.elim fun b h=>k a b h.1 h.2
theorem bT{α β:Type}{p q r:α->β->Prop}(h:∃a b,p a b/\q a b/\r a b)(k:∀a b,p a b->q a b->r a b->G):G:=h.elim fun a h=>h.elim fun b h=>k a b h.1 h.2.1 h.2.2
theorem m7{α β:Type}{p q r s:α->β->Prop}(h:∃a b,p a b/\q a b/\r a b/\s a b)(k:∀a b,p a b->q a b->r a b->s a b->G):G:=h.elim fun a h=>h.elim fun b h=>k a b h.1 h.2.1 h.2.2.1 h.2.2.2
theorem s8{α β:Type}{p q r s t:α->β->Prop}(h:∃a b,p a b/\q a b/\r a b/\s a b/\t a b)(k:∀a b,p a b->q a b->r a b->s a b->t a b->G):G:=h.elim fun a h=>h.elim fun b h=>k a b h.1 h.2.1 h.2.2.1 h.2.2.2.1 h.2.2.2.2
theorem jN{α β γ δ:Type}{p q:α->β->Prop}{r s t:α->β->γ->δ->Prop}(h:∃a b,p a b/\q a b/\∃c d,r a b c d/\s a b c d/\t a b c d)(k:∀a b,p a b->q a b->∀c d,r a b c d->s a b c d->t a b c d->G):G:=h.elim fun a h1=>h1.elim fun b h2=>h2.2.2.elim fun c h3=>h3.elim fun d h4=>k a b h2.1 h2.2.1 c d h4.1 h4.2.1 h4.2.2
theorem j7{α β γ δ ε ζ:Type}{p q:α->β->Prop}{r s:α->β->γ->δ->Prop}{t u v:α->β->γ->δ->ε->ζ->Prop}(h:∃a b,p a b/\q a b/\∃c d,r a b c d/\s a b c d/\∃e f,t a b c d e f/\u a b c d e f/\v a b c d e f)(k:∀a b,p a b->q a b->∀c d,r a b c d->s a b c d->∀e f,t a b c d e f->u a b c d e f->v a b c d e f->G):G:=h.elim fun a h1=>h1.elim fun b h2=>h2.2.2.elim fun c h3=>h3.elim fun d h4=>h4.2.2.elim fun e h5=>h5.elim fun f h6=>k a b h2.1 h2.2.1 c d h4.1 h4.2.1 e f h6.1 h6.2.1 h6.2.2
theorem BH{α β γ:Type}{p:α->β->γ->Prop}(h:∃a b c,p a b c)(k:∀a b c,p a b c->G):G:=h.elim fun a h=>h.elim fun b h=>h.elim fun c h=>k a b c h
theorem uU{α β γ:Type}{p q:α->β->γ->Prop}(h:∃a b c,p a b c/\q a b c)(k:∀a b c,p a b c->q a b c->G):G:=h.elim fun a h=>h.elim fun b h=>h.elim fun c h=>k a b c h.1 h.2
theorem s7{α β γ:Type}{p q r:α->β->γ->Prop}(h:∃a b c,p a b c/\q a b c/\r a b c)(k:∀a b c,p a b c->q a b c->r a b c->G):G:=h.elim fun a h=>h.elim fun b h=>h.elim fun c h=>k a b c h.1 h.2.1 h.2.2
theorem s6{α β γ:Type}{p q r s:α->β->γ->Prop}(h:∃a b c,p a b c/\q a b c/\r a b c/\s a b c)(k:∀a b c,p a b c->q a b c->r a b c->s a b c->G):G:=h.elim fun a h=>h.elim fun b h=>h.elim fun c h=>k a b c h.1 h.2.1 h.2.2.1 h.2.2.2
theorem fk{α β γ:Type}{p q r s t u:α->β->γ->Prop}(h:∃a b c,p a b c/\q a b c/\r a b c/\s a b c/\t a b c/\u a b c)(k:∀a b c,p a b c->q a b c->r a b c->s a b c->t a b c->u a b c->G):G:=h.elim fun a h=>h.elim fun b h=>h.elim fun c h=>k a b c h.1 h.2.1 h.2.2.1 h.2.2.2.1 h.2.2.2.2.1 h.2.2.2.2.2
theorem uT{α β γ δ:Type}{p:α->β->γ->δ->Prop}(h:∃a b,∃c d,p a b c d)(k:∀a b,∀c d,p a b c d->G):G:=h.elim fun a h=>h.elim fun b h=>h.elim fun c h=>h.elim fun d h=>k a b c d h
theorem HD{α β γ δ:Type}{p q:α->β->γ->δ->Prop}(h:∃a b,∃c d,p a b c d/\q a b c d)(k:∀a b,∀c d,p a b c d->q a b c d->G):G:=h.elim fun a h=>h.elim fun b h=>h.elim fun c h=>h.elim fun d h=>k a b c d h.1 h.2
theorem zn{α β γ δ:Type}{p q r:α->β->γ->δ->Prop}(h:∃a b,∃c d,p a b c d/\q a b c d/\r a b c d)(k:∀a b,∀c d,p a b c d->q a b c d->r a b c d->G):G:=h.elim fun a h=>h.elim fun b h=>h.elim fun c h=>h.elim fun d h=>k a b c d h.1 h.2.1 h.2.2
theorem BF{α β γ δ:Type}{p q r s:α->β->γ->δ->Prop}(h:∃a b,∃c d,p a b c d/\q a b c d/\r a b c d/\s a b c d)(k:∀a b,∀c d,p a b c d->q a b c d->r a b c d->s a b c d->G):G:=h.elim fun a h=>h.elim fun b h=>h.elim fun c h=>h.elim fun d h=>k a b c d h.1 h.2.1 h.2.2.1 h.2.2.2
theorem xc{α β γ δ:Type}{p q r s t u:α->β->γ->δ->Prop}(h:∃a b,∃c d,p a b c d/\q a b c d/\r a b c d/\s a b c d/\t a b c d/\u a b c d)(k:∀a b,∀c d,p a b c d->q a b c d->r a b c d->s a b c d->t a b c d->u a b c d->G):G:=h.elim fun a h=>h.elim fun b h=>h.elim fun c h=>h.elim fun d h=>k a b c d h.1 h.2.1 h.2.2.1 h.2.2.2.1 h.2.2.2.2.1 h.2.2.2.2.2
theorem uR{α β γ δ ε ζ:Type}{p q r s t:α->β->γ->δ->ε->ζ->Prop}(h:∃a b,∃c d,∃e f,p a b c d e f/\q a b c d e f/\r a b c d e f/\s a b c d e f/\t a b c d e f)(k:∀a b,∀c d,∀e f,p a b c d e f->q a b c d e f->r a b c d e f->s a b c d e f->t a b c d e f->G):G:=h.elim fun a h=>h.elim fun b h=>h.elim fun c h=>h.elim fun d h=>h.elim fun e h=>h.elim fun f h=>k a b c d e f h.1 h.2.1 h.2.2.1 h.2.2.2.1 h.2.2.2.2
theorem rK{α β γ δ ε ζ η:Type}{p q r s t u:α->β->γ->δ->ε->ζ->η->Prop}(h:∃a b,∃c d,∃e f g,p a b c d e f g/\q a b c d e f g/\r a b c d e f g/\s a b c d e f g/\t a b c d e f g/\u a b c d e f g)(k:∀a b,∀c d,∀e f g,p a b c d e f g->q a b c d e f g->r a b c d e f g->s a b c d e f g->t a b c d e f g->u a b c d e f g->G):G:=h.elim fun a h=>h.elim fun b h=>h.elim fun c h=>h.elim fun d h=>h.elim fun e h=>h.elim fun f h=>h.elim fun g h=>k a b c d e f g h.1 h.2.1 h.2.2.1 h.2.2.2.1 h.2.2.2.2.1 h.2.2.2.2.2
theorem sw{α β γ δ ε ζ η θ:Type}{p:α->β->γ->δ->ε->ζ->η->θ->Prop}(h:∃a b,∃c d,∃e f,∃g i,p a b c d e f g i)(k:∀a b,∀c d,∀e f,∀g i,p a b c d e f g i->G):G:=h.elim fun a h=>h.elim fun b h=>h.elim fun c h=>h.elim fun d h=>h.elim fun e h=>h.elim fun f h=>h.elim fun g h=>h.elim fun i h=>k a b c d e f g i h
theorem trn{a b c:Nat}(h:a<=b)(k:b<=c):a<=c:=Nat.le_trans h k
theorem tln{a b c:Nat}(h:a<b)(k:b<=c):a<c:=Nat.lt_of_lt_of_le h k
theorem ltn{a b c:Nat}(h:a<=b)(k:b<c):a<c:=Nat.lt_of_le_of_lt h k
theorem lkn{a b:Nat}(h:Nat.ble a b=true):a<=b:=Nat.le_of_ble_eq_true h
theorem tkn{a b c:Nat}(h:a<=b)(k:Nat.ble b c=true):a<=c:=trn h (lkn k)
theorem tmn{a b c:Nat}(h:a<=b)(k:Nat.ble (b+1) c=true):a<c:=ltn h (lkn k)
theorem tnn{a b c:Nat}(h:a<b)(k:Nat.ble b (c+1)=true):a<=c:=Nat.le_of_lt_succ (tln h (lkn k))
theorem eln{a b:Nat}(h:a=b):a<=b:=Nat.le_of_eq h
theorem ern{a b:Nat}(h:a=b):b<=a:=Nat.le_of_eq h.symm
theorem lsn{a b:Nat}(h:Nat.ble (a+1) b=true):a<b:=Nat.le_of_ble_eq_true h
theorem OS{a b c:Int}(h:a<=b)(k:b<=c):a<=c:=Int.le_trans h k
theorem f6{a b c:Int}(h:a<b)(k:b<=c):a<c:=Int.lt_of_lt_of_le h k
theorem OV{a b c:Int}(h:a<=b)(k:b<c):a<c:=Int.lt_of_le_of_lt h k
theorem ug{a b c:Int}(h:a<=b)(k:decide (b<=c)=true):a<=c:=OS h (of_decide_eq_true k)
theorem yn{a b c:Int}(h:a<=b)(k:decide (b<c)=true):a<c:=OV h (of_decide_eq_true k)
end
end Internal
section
set_option tactic.hygienic false
set_option autoImplicit true
set_option backward.match.sparseCases true
open PySem PySem.W PyProof.Rows
namespace Internal
structure PH where
 K:List (Nat×Obj)
 n:Nat
 tk:Nat
noncomputable def ew:List (Nat×Obj)->Nat->Option Obj
 | [],_=>none
 |p::r,a=>match Nat.beq p.1 a with
  |true=>some p.2
  |false=>ew r a
noncomputable def ue:List (Nat×Obj)->Nat->Obj->List (Nat×Obj)
 | [],_,_=>[]
 |p::r,a,o=>match Nat.beq p.1 a with
  |true=>(p.1,o)::r
  |false=>p::ue r a o
noncomputable def D7(code c:Code)(l:List Value):List Value:=match c,code with
 |.builtin _ a,_=>unmarked a.refs
 |.call f a,.builtin .. |.call f a,.call .. =>unmarked (if l.contains borrowed then a.refs else f::a.refs)
 |_,_=>[]
noncomputable def qd(den:Code->Sem Fin)(prog:Program)(P:Params)(h:PH)(t:Thread):Option (PH×Thread):=
 match t with
 |⟨cur,code,pos,stack⟩=>match cur with
  |.pure fin=>match fin with
   |.again c=>match stack with
    |.ret k hd g l cd p kept::rest=>some (h,⟨den c,c,pos,.ret k hd g l cd p (keptBy code c l kept)::rest⟩)
    |_=>none
   |.done f=>match stack with
    |.ret k _ _ _ c p _::rest=>some (h,⟨k (.ok f),c,p,rest⟩)
    |_=>none
  |.raise e=>match stack with
   |.ret k _ _ _ c p _::rest=>some (h,⟨k (.error e),c,p,rest⟩)
   |_=>none
  |.rule _ k=>some (h,⟨k (),code,pos,stack⟩)
  |.at p k=>some (h,⟨k (),code,p,stack⟩)
  |.point _ k=>some (h,⟨k (),code,pos,stack⟩)
  |.load a _ k=>match ew h.K a with
   |some o=>some (h,⟨k o,code,pos,stack⟩)
   |none=>none
  |.loadIfAlive a k=>match ew h.K a with
   |some o=>some (h,⟨k (some o),code,pos,stack⟩)
   |none=>none
  |.update a _ f k=>match ew h.K a with
   |some o=>match (f o).isFreed with
    |true=>none
    |false=>some (⟨ue h.K a (f o),h.n,h.tk⟩,⟨k (),code,pos,stack⟩)
   |none=>none
  |.alloc o k=>match o.isFreed with
   |true=>none
   |false=>some (⟨(h.n,o)::h.K,h.n+1,h.tk⟩,⟨k h.n,code,pos,stack⟩)
  |.fresh k=>some (⟨h.K,h.n,h.tk+1⟩,⟨k h.tk,code,pos,stack⟩)
  |.ask k=>some (h,⟨k ⟨prog,P⟩,code,pos,stack⟩)
  |.call c hd g l k=>some (h,⟨den c,c,pos,.ret k hd g l code pos (D7 code c l)::stack⟩)
  |.handled own k=>some (h,⟨k (topHandled (if own then(match splitAtGen stack with|some (fs,_,_)=>fs|none=>stack)else stack)),code,pos,stack⟩)
  |.stack k=>some (h,⟨k ((code,pos)::stack.map Frame.where_),code,pos,stack⟩)
  |_=>none
noncomputable def CN(den:Code->Sem Fin)(ok:Thread->Bool)(prog:Program)(P:Params)(b:Nat):Nat->PH->Thread->Option (Flow×PH×Code×Pos)
 |0,_,_=>none
 |n+1,h,t=>match endAt b t with
  |some f=>some (f,h,t.code,t.pos)
  |none=>match ok t with
   |false=>none
   |true=>match qd den prog P h t with
    |some r=>CN den ok prog P b n r.1 r.2
    |none=>none
structure Sim(h:PH)(s:Shared):Prop where
 size:s.heap.objs.size=h.n
 toks:s.toks=h.tk
 get:∀a o,ew h.K a=some o->s.heap.get? a=some o
 gens:s.gens= #[]
theorem eS (p:Nat×Obj) (r:List (Nat×Obj)) (b:Nat):ew (p::r) b=if p.1=b then some p.2 else ew r b:=by
 show(match Nat.beq p.1 b with|true=>some p.2|false=>ew r b)=_
 rw[BT.beq_eq]
 by_cases h:p.1=b<;>simp[h]
theorem AR (p:Nat×Obj) (r:List (Nat×Obj)) (a:Nat) (o:Obj):ue (p::r) a o=if p.1=a then(p.1,o)::r else p::ue r a o:=by
 show(match Nat.beq p.1 a with|true=>(p.1,o)::r|false=>p::ue r a o)=_
 rw[BT.beq_eq]
 by_cases h:p.1=a<;>simp[h]
theorem sW:∀{K:List (Nat×Obj)}{a b:Nat}{o d:Obj},ew K a=some d->ew (ue K a o) b=if a=b then some o else ew K b:=by
 intro z
 induction z with
 |nil=>
  rintro _ _ _ _ h
  cases h
 |cons p r F=>
  rintro a b o d h
  rw[AR]
  rw[eS]at h
  by_cases y:p.1=a
  ·rw[if_pos y,eS,eS]
   by_cases q:a=b
   ·simp[y,q]
   ·simp[y,q]
  ·rw[if_neg y]at h⊢
   rw[eS,eS]
   by_cases q:p.1=b
   ·haveI:a≠b:=fun e=>y (q.trans e.symm)
    simp[q,this]
   ·rw[if_neg q,if_neg q]
    exact F h
theorem AQ{K:List (Nat×Obj)}{a b:Nat}{o d:Obj}(h:ew K a=some d)(q:ew K b=none):ew (ue K a o) b=none:=by
 rw[sW h]
 by_cases e:a=b
 ·subst e;rw[h]at q;cases q
 ·rw[if_neg e];exact q
def KK(h:PH)(s s':Shared):Prop:=∀b o,ew h.K b=none->s.heap.get? b=some o->s'.heap.get? b=some o
theorem lN{α:Type}{a:α}(h:(none:Option α)=some a):False:=nomatch h
@[elab_as_elim]theorem mq{α β:Type}{P:α->β->Prop}{a q:α}{b d:β}(e:some (a,b)=some (q,d))(H:P a b):P q d:=by cases e;exact H
noncomputable abbrev PG(den:Code->Sem Fin)(prog:Program)(w:World)(h:PH)(s:Shared)(t:Thread)(h':PH)(t':Thread):Prop:=∃s',step den prog w s t=.go s' t'/\Sim h' s'/\KK h s s'/\(∀a,ew h.K a=none->a<h.n->ew h'.K a=none)/\h.n<=h'.n
theorem oy{aa:Code->Sem Fin}{prog:Program}{w:World}{h h':PH}{t F:Thread}{s:Shared}(e:qd aa prog w.params h t=some (h',F))(S:Sim h s):
  PG aa prog w h s t h' F:=by
 obtain⟨d,ae,drawn,y,os⟩:=s
 obtain⟨hs,Z,L,hz⟩:=S
 dsimp only at hs Z L hz
 subst hz
 obtain⟨ad,z,J,stack⟩:=t
 have keep:Sim h ⟨d,#[],drawn,y,os⟩:=⟨hs,Z,L,rfl⟩
 cases ad with
 |pure ac=>
  cases ac with
  |again c=>
   cases stack with
   |nil=>exact(lN e).elim
   |cons f O=>cases f with
    |gen=>exact(lN e).elim
    |ret k hd g l cd p kept=>
     refine mq (show some (_,_)=some (h',F)from e) ?_
     exact⟨_,step_again,keep,fun _ _ _ x=>x,fun _ x _=>x,Nat.le_refl _⟩
  |done f=>
   cases stack with
   |nil=>exact(lN e).elim
   |cons f O=>cases f with
    |gen=>exact(lN e).elim
    |ret k hd g l cd p kept=>
     refine mq (show some (_,_)=some (h',F)from e) ?_
     exact⟨_,rfl,keep,fun _ _ _ x=>x,fun _ x _=>x,Nat.le_refl _⟩
 |raise v=>
  cases stack with
  |nil=>exact(lN e).elim
  |cons f O=>cases f with
   |gen=>exact(lN e).elim
   |ret k hd g l cd p kept=>
    refine mq (show some (_,_)=some (h',F)from e) ?_
    exact⟨_,rfl,keep,fun _ _ _ x=>x,fun _ x _=>x,Nat.le_refl _⟩
 |rule|«at»|point|ask|call|handled|stack=>
  refine mq (show some (_,_)=some (h',F)from e) ?_
  exact⟨_,rfl,keep,fun _ _ _ x=>x,fun _ x _=>x,Nat.le_refl _⟩
 |load a q k=>
  replace e:(match ew h.K a with|some o=>some (h,(⟨k o,z,J,stack⟩:Thread))|none=>none)=some (h',F):=e
  cases H:ew h.K a with
  |none=>rw[H]at e;exact(lN e).elim
  |some o=>
   rw[H]at e
   refine mq (show some (_,_)=some (h',F)from e) ?_
   refine⟨_,?_,keep,fun _ _ _ x=>x,fun _ x _=>x,Nat.le_refl _⟩
   simp only[step,L a o H]
 |loadIfAlive a k=>
  replace e:(match ew h.K a with|some o=>some (h,(⟨k (some o),z,J,stack⟩:Thread))|none=>none)=some (h',F):=e
  cases H:ew h.K a with
  |none=>rw[H]at e;exact(lN e).elim
  |some o=>
   rw[H]at e
   refine mq (show some (_,_)=some (h',F)from e) ?_
   refine⟨_,?_,keep,fun _ _ _ x=>x,fun _ x _=>x,Nat.le_refl _⟩
   simp only[step,L a o H]
 |update a q f k=>
  replace e:(match ew h.K a with|some o=>(match (f o).isFreed with|true=>none|false=>some ((⟨ue h.K a (f o),h.n,h.tk⟩:PH),(⟨k (),z,J,stack⟩:Thread)))|none=>none)=some (h',F):=e
  cases H:ew h.K a with
  |none=>rw[H]at e;exact(lN e).elim
  |some o=>
   rw[H]at e
   replace e:(match (f o).isFreed with|true=>none|false=>some ((⟨ue h.K a (f o),h.n,h.tk⟩:PH),(⟨k (),z,J,stack⟩:Thread)))=some (h',F):=e
   cases W:(f o).isFreed with
   |true=>rw[W]at e;exact(lN e).elim
   |false=>
    rw[W]at e
    refine mq (show some (_,_)=some (h',F)from e) ?_
    refine⟨⟨d.update a f,#[],drawn,y,os⟩,?_,⟨?_,Z,?_,rfl⟩,?_,fun b r _=>AQ H r,Nat.le_refl _⟩
    ·simp only[step,L a o H,Option.isSome_some,if_true]
    ·exact(Heap.size_after_update ..).trans hs
    ·intro b ob r
     rw[sW H]at r
     by_cases Y:a=b
     ·subst Y
      rw[if_pos rfl]at r
      obtain rfl:=Option.some.inj r
      exact Heap.get?_update_self f (L a o H) W
     ·rw[if_neg Y]at r
      exact(Heap.get?_update_other d f Y).trans (L b ob r)
    ·intro b ob r hx
     haveI:a≠b:=by rintro rfl;rw[H]at r;cases r
     exact(Heap.get?_update_other d f this).trans hx
 |alloc o k=>
  replace e:(match o.isFreed with|true=>none|false=>some ((⟨(h.n,o)::h.K,h.n+1,h.tk⟩:PH),(⟨k h.n,z,J,stack⟩:Thread)))=some (h',F):=e
  cases W:o.isFreed with
  |true=>rw[W]at e;exact(lN e).elim
  |false=>
   rw[W]at e
   refine mq (show some (_,_)=some (h',F)from e) ?_
   refine⟨⟨d.push o,#[],drawn,y,os⟩,?_,⟨?_,Z,?_,rfl⟩,?_,?_,Nat.le_succ _⟩
   ·simp only[step,hs]
   ·show(d.push o).objs.size=h.n+1
    rw[Heap.size_push,hs]
   ·intro b ob r
    rw[eS]at r
    by_cases Y:h.n=b
    ·rw[if_pos Y]at r
     obtain rfl:=Option.some.inj r
     subst Y
     exact hs▸Heap.get?_push_size _ W
    ·rw[if_neg Y]at r
     exact Heap.get?_push_of_some _ (L b ob r)
   ·intro b ob _ hx
    exact Heap.get?_push_of_some _ hx
   ·intro b r ab
    show ew ((h.n,o)::h.K) b=none
    rw[eS,if_neg (Nat.ne_of_gt ab)]
    exact r
 |fresh k=>
  refine mq (show some (_,_)=some (h',F)from e) ?_
  refine⟨⟨d,#[],drawn,y+1,os⟩,?_,⟨hs,by show y+1=h.tk+1;rw[Z],L,rfl⟩,fun _ _ _ x=>x,fun _ x _=>x,Nat.le_refl _⟩
  simp only[step,Z]
 |_=>exact(lN e).elim
theorem qf{z:String->Option Builtin}{prog:Program}{w:World}{n₀:Nat}{ann:Option Value}{b:Nat}:
  ∀{N:Nat} {h h':PH} {t:Thread} {s:Shared} {f:Flow} {c:Code} {p:Pos},CN (denote z) (stepOk n₀ ann) prog w.params b N h t=some (f,h',c,p)->Sim h s->
   ∃s',segRun z prog w n₀ ann b N s t=some (f,s',c,p)/\Sim h' s'/\(∀a o,ew h.K a=none->s.heap.get? a=some o->s'.heap.get? a=some o):=by
 intro m_
 induction m_ with
 |zero=>
  rintro _ _ _ _ _ _ _ e _
  cases e
 |succ N ih=>
  rintro h h' t s f c p e S
  replace e:(match endAt b t with|some f=>some (f,h,t.code,t.pos)|none=>match stepOk n₀ ann t with|false=>none|true=>match qd (denote z) prog w.params h t with|some r=>CN (denote z) (stepOk n₀ ann) prog w.params b N r.1 r.2|none=>none)=some (f,h',c,p):=e
  unfold segRun
  cases he:endAt b t with
  |some f'=>
   rw[he]at e
   simp only[Option.some.injEq,Prod.mk.injEq]at e
   rw[e.1];rw[<-e.2.1];rw[<-e.2.2.1];rw[<-e.2.2.2]
   exact⟨s,rfl,S,fun _ _ _ x=>x⟩
  |none=>
   rw[he]at e
   cases hk:stepOk n₀ ann t with
   |false=>rw[hk]at e;exact(lN e).elim
   |true=>
    rw[hk]at e
    dsimp only at e⊢
    cases W:qd (denote z) prog w.params h t with
    |none=>rw[W]at e;exact(lN e).elim
    |some r=>
     haveI ab:=r.1;haveI Z:=r.2
     rw[W]at e
     refine HE (oy W S) fun aa J O q y _=>?_
     refine nc (ih e O) fun F H L d=>?_
     refine⟨F,by rw[J];exact H,L,fun a o ha hx=>?_⟩
     haveI Y:a<h.n:=S.size▸Heap.lt_size hx
     exact d a o (y a ha Y) (q a o ha hx)
noncomputable def Ba:Code->Sem Fin:=PySem.W.Fast.tw11892475500146522536 PySem.W.Fast.tw14364793385576792824
theorem uu:denote treeTable=Ba:=by
 unfold Ba
 rw[PySem.W.Fast.te11892475500146522536,PySem.W.Fast.te14364793385576792824]
noncomputable def ok':Nat->Option Value->Thread->Bool:=PySem.W.Fast.tw6613529449190102663
theorem CQ: @stepOk=ok':=PySem.W.Fast.te6613529449190102663
end Internal
end
section
set_option autoImplicit true
open PySem PySem.W PyProof.Rows
namespace Internal
structure Hz where
 n:Nat
 tk:Nat
 g:Nat
 s:Nat
 pl:Nat
 m:Value
 pos:Pos
 steps:Nat
noncomputable def gE(P:Params)(x:Str)(t:Nat)(v:Value):DictEntry:=⟨PyData.keyHash P x,.str x t,v⟩
noncomputable def gR(P:Params)(x:Str)(t v:Nat):DictEntry:=gE P x t (.ref v)
noncomputable def Kj(P:Params):List DictEntry:=[
 gE P "__doc__" 166 (.none),
 gE P "__package__" 167 (.none),
 gE P "__loader__" 168 (.builtin "__main__.__loader__#opaque"),
 gE P "__spec__" 169 (.none),
 gR P "__annotations__" 170 6,
 gR P "__builtins__" 171 4,
 gE P "__file__" 173 (.str "/claim/cut.py" 172),
 gE P "__cached__" 174 (.none),
 gR P "_wall" 193 21,
 gR P "NAN" 198 22,
 gR P "INF" 201 23,
 gR P "ZERO" 204 24,
 gR P "gcd" 212 31,
 gR P "make" 221 38,
 gR P "from_int" 228 45,
 gR P "is_na" 235 52,
 gR P "is_finite" 242 59,
 gR P "neg" 249 66,
 gR P "to_whole" 257 73,
 gR P "nearest_whole" 267 80,
 gR P "exponent" 277 87,
 gR P "compare" 287 94,
 gE P "MOST_EXPONENT" 291 (.int 4096 290),
 gR P "whole_text" 301 101,
 gR P "special_text" 308 108,
 gR P "scaled" 318 115,
 gR P "significant" 328 122,
 gR P "without_tail" 336 129,
 gR P "scientific_text" 348 136,
 gR P "fixed_text" 358 143,
 gR P "measures" 371 150,
 gR P "chosen_form" 388 157,
 gR P "formed" 397 164,
 gR P "common_texts" 403 169,
 gR P "number_text" 412 177,
 gR P "decimal_places" 421 184,
 gR P "exact_text" 431 191,
 gR P "digits_value" 441 198,
 gR P "digit_run" 450 205,
 gR P "exponent_value" 459 212,
 gR P "powered" 468 219,
 gR P "unsigned_number" 487 226,
 gR P "parse_number" 499 233,
 gR P "CoveError" 521 243,
 gR P "Refusal" 546 263,
 gE P "MOST_LENGTH" 550 (.int 1000000 549),
 gR P "Null" 579 282,
 gR P "Vector" 621 311,
 gR P "room" 628 322,
 gR P "integer" 635 329,
 gR P "character" 642 336,
 gR P "length" 650 343,
 gR P "is_atomic" 657 350,
 gR P "share" 664 357,
 gR P "get_attr" 674 364,
 gR P "label_text" 682 371,
 gR P "level_at" 690 378,
 gR P "label_texts" 696 383,
 gR P "names_of" 702 388,
 gR P "dim_of" 710 395,
 gR P "dimnames_of" 716 400,
 gR P "class_attr" 724 407,
 gE P "MOST_INTEGER" 728 (.int 2147483647 727),
 gR P "kind_order" 736 414,
 gR P "common_kind" 746 421,
 gR P "note" 754 428,
 gR P "as_logical_text" 761 435,
 gR P "double_to_integer" 770 442,
 gR P "text_to_double" 780 449,
 gR P "to_logical" 788 456,
 gR P "to_integer" 797 463,
 gR P "to_double" 806 470,
 gR P "to_text" 814 477,
 gR P "item_as" 824 484,
 gR P "is_atomic_kind" 831 491,
 gR P "list_item_as" 841 498,
 gR P "refuse_type" 849 505,
 gR P "as_vector_kind" 855 510,
 gR P "with_names" 863 517,
 gR P "as_kind" 869 522,
 gR P "as_list" 876 529,
 gR P "is_lacking" 886 536,
 gR P "compare_items" 895 543,
 gR P "check_sortable" 902 550,
 gR P "compare_places" 918 557,
 gR P "compare_keys" 931 564,
 gR P "merge_runs" 945 571,
 gR P "merge_sort" 951 576,
 gR P "each_key" 957 581,
 gR P "kept_places" 969 588,
 gR P "order_by" 980 596,
 gR P "same_attrs" 993 603,
 gR P "same_items" 1003 610,
 gR P "same_formals" 1012 617,
 gR P "same_slots" 1021 624,
 gR P "same_dots" 1034 631,
 gR P "same_kernel" 1044 638,
 gR P "identical" 1052 645,
 gR P "item_key" 1062 652,
 gR P "is_listed" 1069 659,
 gR P "list_place" 1079 666,
 gR P "first_places" 1091 673,
 gR P "unique_places" 1097 678,
 gR P "make_unique" 1114 685,
 gR P "is_factor" 1123 692,
 gR P "new_frame" 1129 697,
 gR P "plain_rows" 1136 704,
 gR P "frame_rows" 1143 711,
 gR P "column_names" 1149 716,
 gR P "row_names" 1156 723,
 gR P "has_plain_rows" 1164 730,
 gR P "kept_attrs" 1173 737,
 gR P "lacking" 1180 744,
 gR P "pick_items" 1191 751,
 gR P "differing_lengths" 1201 758,
 gR P "recycled_columns" 1207 763,
 gR P "names_as_rows" 1219 770,
 gR P "make_frame" 1232 777,
 gR P "check_row_labels" 1242 784,
 gR P "picked_labels" 1248 789,
 gR P "pick_rows" 1254 794,
 gR P "joined_factor" 1270 801,
 gR P "joined_column" 1276 806,
 gR P "matched_columns" 1287 813,
 gR P "joined_labels" 1293 818,
 gR P "bind_frames_rows" 1299 823,
 gR P "dimnames_list" 1307 828,
 gR P "new_array" 1319 835,
 gR P "column_keys" 1327 840,
 gR P "row_keys" 1333 845,
 gR P "check_by" 1344 852,
 gR P "matched_pairs" 1356 859,
 gR P "lone_places" 1362 864,
 gR P "all_pairs" 1373 871,
 gR P "merged_pairs" 1385 878,
 gR P "key_column" 1399 885,
 gR P "other_names" 1411 892,
 gR P "sort_key" 1418 899,
 gR P "merge_order" 1424 904,
 gR P "merge_frames" 1430 910,
 gR P "is_complete" 1439 917,
 gR P "grouped_places" 1445 922,
 gR P "joined_results" 1453 929,
 gR P "check_groups" 1463 936,
 gR P "aggregate_by" 1469 941,
 gR P "level_row" 1475 946,
 gR P "cross_table" 1489 953,
 gR P "_law_pick" 1501 960,
 gR P "_law_group" 1507 965,
 gR P "_law_sum" 1514 972,
 gR P "_law_places" 1520 977,
 gR P "law" 1526 982]
noncomputable def plAll:List (Int×Int×Nat):=[(1,0,20),(8,0,30),(12,0,37),(22,0,44),(26,0,51),(28,0,58),(30,0,65),(34,0,72),(39,0,79),(45,0,86),(56,0,93),(76,0,100),(87,0,107),(95,0,114),(100,0,121),(109,0,128),(114,0,135),(121,0,142),(129,0,149),(136,0,156),(156,0,163),(163,0,168),(167,0,176),(169,0,183),(181,0,190),(193,0,197),(198,0,204),(202,0,211),(212,0,218),(222,0,225),(254,0,232),(272,0,239),(274,0,252),(280,0,271),(285,0,292),(296,0,321),(300,0,328),(302,0,335),(304,0,342),(315,0,349),(317,0,356),(322,0,363),(326,0,370),(334,0,377),(338,0,382),(344,0,387),(360,0,394),(365,0,399),(370,0,406),(377,0,413),(382,0,420),(388,0,427),(391,0,434),(397,0,441),(405,0,448),(411,0,455),(421,0,462),(429,0,469),(435,0,476),(443,0,483),(457,0,490),(459,0,497),(465,0,504),(467,0,509),(481,0,516),(485,0,521),(492,0,528),(495,0,535),(497,0,542),(505,0,549),(508,0,556),(521,0,563),(527,0,570),(539,0,575),(551,0,580),(555,0,587),(566,0,595),(576,0,602),(585,0,609),(592,0,616),(599,0,623),(606,0,630),(615,0,637),(637,0,644),(642,0,651),(650,0,658),(652,0,665),(657,0,672),(673,0,677),(677,0,684),(699,0,691),(701,0,696),(705,0,703),(707,0,710),(711,0,715),(714,0,722),(718,0,729),(721,0,736),(729,0,743),(733,0,750),(742,0,757),(749,0,762),(760,0,769),(770,0,776),(782,0,783),(792,0,788),(808,0,793),(812,0,800),(828,0,805),(844,0,812),(856,0,817),(871,0,822),(882,0,827),(889,0,834),(897,0,839),(904,0,844),(910,0,851),(918,0,858),(927,0,863),(932,0,870),(939,0,877),(948,0,884),(955,0,891),(961,0,898),(963,0,903),(974,0,909),(1001,0,916),(1006,0,921),(1019,0,928),(1026,0,935),(1031,0,940),(1044,0,945),(1058,0,952),(1069,0,959),(1080,0,964),(1090,0,971),(1092,0,976),(1101,0,981)]
noncomputable def Kz:Obj:=⟨.type "code",none,.fields ([.str "<module>" 182,.str "<module>" 183,.str "/claim/cut.py" 184,.int 1 0,.int 0 0,.int 0 0,.int 0 0,.int 0 0,.ref 11,.bool false,.int 181 0,.ref 12,.none,.none,.none,.none,.int 185 0,.int 1 0,.str "/claim/cut.py" 186]:List Value).toArray,#[]⟩
noncomputable def IJ:Obj:=⟨.type "frame",none,.plain,([some (.ref 13),some (.ref 3),some (.ref 3),none,some (.str "__main__" 164),none,some (.ref 0)]:List (Option Value)).toArray⟩
noncomputable def stages:List Hz:=[
 ⟨15,187,9,0,0,.str "__main__" 164,⟨0,0,0,0⟩,29⟩,
 ⟨22,194,10,0,1,.str "__main__" 164,⟨1,0,3,12⟩,9⟩,
 ⟨22,196,10,0,1,.str "vectorcove.rational" 194,⟨4,0,4,8⟩,12⟩,
 ⟨23,199,11,0,1,.str "vectorcove.rational" 194,⟨5,0,5,3⟩,12⟩,
 ⟨24,202,12,0,1,.str "vectorcove.rational" 194,⟨6,0,6,3⟩,12⟩,
 ⟨25,205,13,0,1,.str "vectorcove.rational" 194,⟨7,0,7,4⟩,30⟩,
 ⟨32,213,14,0,2,.str "vectorcove.rational" 194,⟨8,0,11,12⟩,31⟩,
 ⟨39,222,15,0,3,.str "vectorcove.rational" 194,⟨12,0,21,37⟩,29⟩,
 ⟨46,229,16,0,4,.str "vectorcove.rational" 194,⟨22,0,25,17⟩,29⟩,
 ⟨53,236,17,0,5,.str "vectorcove.rational" 194,⟨26,0,27,49⟩,29⟩,
 ⟨60,243,18,0,6,.str "vectorcove.rational" 194,⟨28,0,29,37⟩,29⟩,
 ⟨67,250,19,0,7,.str "vectorcove.rational" 194,⟨30,0,33,27⟩,30⟩,
 ⟨74,258,20,0,8,.str "vectorcove.rational" 194,⟨34,0,38,44⟩,32⟩,
 ⟨81,268,21,0,9,.str "vectorcove.rational" 194,⟨39,0,44,14⟩,32⟩,
 ⟨88,278,22,0,10,.str "vectorcove.rational" 194,⟨45,0,55,12⟩,32⟩,
 ⟨95,288,23,0,11,.str "vectorcove.rational" 194,⟨56,0,73,36⟩,9⟩,
 ⟨95,290,23,0,11,.str "vectorcove.numtext" 288,⟨74,0,74,8⟩,9⟩,
 ⟨95,292,24,0,11,.str "vectorcove.numtext" 288,⟨75,0,75,13⟩,32⟩,
 ⟨102,302,25,0,12,.str "vectorcove.numtext" 288,⟨76,0,86,23⟩,29⟩,
 ⟨109,309,26,0,13,.str "vectorcove.numtext" 288,⟨87,0,94,40⟩,32⟩,
 ⟨116,319,27,0,14,.str "vectorcove.numtext" 288,⟨95,0,99,61⟩,32⟩,
 ⟨123,329,28,0,15,.str "vectorcove.numtext" 288,⟨100,0,108,45⟩,30⟩,
 ⟨130,337,29,0,16,.str "vectorcove.numtext" 288,⟨109,0,113,21⟩,34⟩,
 ⟨137,349,30,0,17,.str "vectorcove.numtext" 288,⟨114,0,120,70⟩,32⟩,
 ⟨144,359,31,0,18,.str "vectorcove.numtext" 288,⟨121,0,128,15⟩,35⟩,
 ⟨151,372,32,0,19,.str "vectorcove.numtext" 288,⟨129,0,135,50⟩,39⟩,
 ⟨158,389,33,0,20,.str "vectorcove.numtext" 288,⟨136,0,155,32⟩,31⟩,
 ⟨165,398,34,0,21,.str "vectorcove.numtext" 288,⟨156,0,162,38⟩,26⟩,
 ⟨170,404,35,0,22,.str "vectorcove.numtext" 288,⟨163,0,166,40⟩,32⟩,
 ⟨178,413,36,0,23,.str "vectorcove.numtext" 288,⟨167,0,168,39⟩,31⟩,
 ⟨185,422,37,0,24,.str "vectorcove.numtext" 288,⟨169,0,180,27⟩,32⟩,
 ⟨192,432,38,0,25,.str "vectorcove.numtext" 288,⟨181,0,192,52⟩,32⟩,
 ⟨199,442,39,0,26,.str "vectorcove.numtext" 288,⟨193,0,197,16⟩,31⟩,
 ⟨206,451,40,0,27,.str "vectorcove.numtext" 288,⟨198,0,201,13⟩,31⟩,
 ⟨213,460,41,0,28,.str "vectorcove.numtext" 288,⟨202,0,211,57⟩,31⟩,
 ⟨220,469,42,0,29,.str "vectorcove.numtext" 288,⟨212,0,221,35⟩,41⟩,
 ⟨227,488,43,0,30,.str "vectorcove.numtext" 288,⟨222,0,253,65⟩,34⟩,
 ⟨234,500,44,0,31,.str "vectorcove.numtext" 288,⟨254,0,270,52⟩,9⟩,
 ⟨234,502,44,0,31,.str "vectorcove.errors" 500,⟨271,0,271,8⟩,196⟩,
 ⟨247,522,45,2,32,.str "vectorcove.errors" 500,⟨272,0,273,8⟩,245⟩,
 ⟨266,547,46,2,33,.str "vectorcove.errors" 500,⟨274,0,277,30⟩,9⟩,
 ⟨266,549,46,2,33,.str "vectorcove.values" 547,⟨278,0,278,8⟩,9⟩,
 ⟨266,551,47,2,33,.str "vectorcove.values" 547,⟨279,0,279,11⟩,222⟩,
 ⟨287,580,48,2,34,.str "vectorcove.values" 547,⟨280,0,284,25⟩,260⟩,
 ⟨316,622,49,2,35,.str "vectorcove.values" 547,⟨285,0,295,16⟩,29⟩,
 ⟨323,629,50,2,36,.str "vectorcove.values" 547,⟨296,0,299,12⟩,29⟩,
 ⟨330,636,51,2,37,.str "vectorcove.values" 547,⟨300,0,301,41⟩,29⟩,
 ⟨337,643,52,2,38,.str "vectorcove.values" 547,⟨302,0,303,43⟩,30⟩,
 ⟨344,651,53,2,39,.str "vectorcove.values" 547,⟨304,0,314,12⟩,29⟩,
 ⟨351,658,54,2,40,.str "vectorcove.values" 547,⟨315,0,316,66⟩,29⟩,
 ⟨358,665,55,2,41,.str "vectorcove.values" 547,⟨317,0,320,12⟩,9⟩,
 ⟨358,667,55,2,41,.str "vectorcove.attrs" 665,⟨321,0,321,8⟩,30⟩,
 ⟨365,675,56,2,42,.str "vectorcove.attrs" 665,⟨322,0,325,28⟩,30⟩,
 ⟨372,683,57,2,43,.str "vectorcove.attrs" 665,⟨326,0,333,32⟩,30⟩,
 ⟨379,691,58,2,44,.str "vectorcove.attrs" 665,⟨334,0,337,26⟩,26⟩,
 ⟨384,697,59,2,45,.str "vectorcove.attrs" 665,⟨338,0,343,65⟩,26⟩,
 ⟨389,703,60,2,46,.str "vectorcove.attrs" 665,⟨344,0,359,28⟩,30⟩,
 ⟨396,711,61,2,47,.str "vectorcove.attrs" 665,⟨360,0,364,27⟩,26⟩,
 ⟨401,717,62,2,48,.str "vectorcove.attrs" 665,⟨365,0,369,86⟩,30⟩,
 ⟨408,725,63,2,49,.str "vectorcove.attrs" 665,⟨370,0,374,28⟩,9⟩,
 ⟨408,727,63,2,49,.str "vectorcove.coerce" 725,⟨375,0,375,8⟩,9⟩,
 ⟨408,729,64,2,49,.str "vectorcove.coerce" 725,⟨376,0,376,12⟩,30⟩,
 ⟨415,737,65,2,50,.str "vectorcove.coerce" 725,⟨377,0,381,12⟩,32⟩,
 ⟨422,747,66,2,51,.str "vectorcove.coerce" 725,⟨382,0,387,22⟩,30⟩,
 ⟨429,755,67,2,52,.str "vectorcove.coerce" 725,⟨388,0,390,29⟩,29⟩,
 ⟨436,762,68,2,53,.str "vectorcove.coerce" 725,⟨391,0,396,15⟩,31⟩,
 ⟨443,771,69,2,54,.str "vectorcove.coerce" 725,⟨397,0,404,16⟩,32⟩,
 ⟨450,781,70,2,55,.str "vectorcove.coerce" 725,⟨405,0,410,16⟩,30⟩,
 ⟨457,789,71,2,56,.str "vectorcove.coerce" 725,⟨411,0,420,32⟩,31⟩,
 ⟨464,798,72,2,57,.str "vectorcove.coerce" 725,⟨421,0,428,15⟩,31⟩,
 ⟨471,807,73,2,58,.str "vectorcove.coerce" 725,⟨429,0,434,25⟩,30⟩,
 ⟨478,815,74,2,59,.str "vectorcove.coerce" 725,⟨435,0,442,32⟩,32⟩,
 ⟨485,825,75,2,60,.str "vectorcove.coerce" 725,⟨443,0,456,30⟩,29⟩,
 ⟨492,832,76,2,61,.str "vectorcove.coerce" 725,⟨457,0,458,64⟩,32⟩,
 ⟨499,842,77,2,62,.str "vectorcove.coerce" 725,⟨459,0,464,55⟩,30⟩,
 ⟨506,850,78,2,63,.str "vectorcove.coerce" 725,⟨465,0,466,90⟩,26⟩,
 ⟨511,856,79,2,64,.str "vectorcove.coerce" 725,⟨467,0,480,30⟩,30⟩,
 ⟨518,864,80,2,65,.str "vectorcove.coerce" 725,⟨481,0,484,12⟩,26⟩,
 ⟨523,870,81,2,66,.str "vectorcove.coerce" 725,⟨485,0,491,61⟩,29⟩,
 ⟨530,877,82,2,67,.str "vectorcove.coerce" 725,⟨492,0,493,33⟩,9⟩,
 ⟨530,879,82,2,67,.str "vectorcove.sorting" 877,⟨494,0,494,8⟩,30⟩,
 ⟨537,887,83,2,68,.str "vectorcove.sorting" 877,⟨495,0,496,64⟩,31⟩,
 ⟨544,896,84,2,69,.str "vectorcove.sorting" 877,⟨497,0,504,12⟩,29⟩,
 ⟨551,903,85,2,70,.str "vectorcove.sorting" 877,⟨505,0,507,73⟩,38⟩,
 ⟨558,919,86,2,71,.str "vectorcove.sorting" 877,⟨508,0,520,44⟩,35⟩,
 ⟨565,932,87,2,72,.str "vectorcove.sorting" 877,⟨521,0,526,12⟩,36⟩,
 ⟨572,946,88,2,73,.str "vectorcove.sorting" 877,⟨527,0,538,40⟩,26⟩,
 ⟨577,952,89,2,74,.str "vectorcove.sorting" 877,⟨539,0,550,18⟩,26⟩,
 ⟨582,958,90,2,75,.str "vectorcove.sorting" 877,⟨551,0,554,31⟩,34⟩,
 ⟨589,970,91,2,76,.str "vectorcove.sorting" 877,⟨555,0,565,17⟩,34⟩,
 ⟨597,981,92,2,77,.str "vectorcove.sorting" 877,⟨566,0,574,86⟩,9⟩,
 ⟨597,983,92,2,77,.str "vectorcove.identical" 981,⟨575,0,575,8⟩,33⟩,
 ⟨604,994,93,2,78,.str "vectorcove.identical" 981,⟨576,0,584,15⟩,32⟩,
 ⟨611,1004,94,2,79,.str "vectorcove.identical" 981,⟨585,0,591,15⟩,31⟩,
 ⟨618,1013,95,2,80,.str "vectorcove.identical" 981,⟨592,0,598,15⟩,31⟩,
 ⟨625,1022,96,2,81,.str "vectorcove.identical" 981,⟨599,0,605,15⟩,35⟩,
 ⟨632,1035,97,2,82,.str "vectorcove.identical" 981,⟨606,0,614,15⟩,32⟩,
 ⟨639,1045,98,2,83,.str "vectorcove.identical" 981,⟨615,0,636,15⟩,30⟩,
 ⟨646,1053,99,2,84,.str "vectorcove.identical" 981,⟨637,0,640,78⟩,9⟩,
 ⟨646,1055,99,2,84,.str "vectorcove.sets" 1053,⟨641,0,641,8⟩,30⟩,
 ⟨653,1063,100,2,85,.str "vectorcove.sets" 1053,⟨642,0,649,20⟩,29⟩,
 ⟨660,1070,101,2,86,.str "vectorcove.sets" 1053,⟨650,0,651,55⟩,32⟩,
 ⟨667,1080,102,2,87,.str "vectorcove.sets" 1053,⟨652,0,656,15⟩,34⟩,
 ⟨674,1092,103,2,88,.str "vectorcove.sets" 1053,⟨657,0,672,16⟩,26⟩,
 ⟨679,1098,104,2,89,.str "vectorcove.sets" 1053,⟨673,0,675,76⟩,9⟩,
 ⟨679,1100,104,2,89,.str "vectorcove.texts" 1098,⟨676,0,676,8⟩,37⟩,
 ⟨686,1115,105,2,90,.str "vectorcove.texts" 1098,⟨677,0,697,16⟩,9⟩,
 ⟨686,1117,105,2,90,.str "vectorcove.frames" 1115,⟨698,0,698,8⟩,29⟩,
 ⟨693,1124,106,2,91,.str "vectorcove.frames" 1115,⟨699,0,700,119⟩,26⟩,
 ⟨698,1130,107,2,92,.str "vectorcove.frames" 1115,⟨701,0,704,15⟩,29⟩,
 ⟨705,1137,108,2,93,.str "vectorcove.frames" 1115,⟨705,0,706,45⟩,29⟩,
 ⟨712,1144,109,2,94,.str "vectorcove.frames" 1115,⟨707,0,710,43⟩,26⟩,
 ⟨717,1150,110,2,95,.str "vectorcove.frames" 1115,⟨711,0,713,86⟩,29⟩,
 ⟨724,1157,111,2,96,.str "vectorcove.frames" 1115,⟨714,0,717,45⟩,30⟩,
 ⟨731,1165,112,2,97,.str "vectorcove.frames" 1115,⟨718,0,720,93⟩,31⟩,
 ⟨738,1174,113,2,98,.str "vectorcove.frames" 1115,⟨721,0,728,42⟩,29⟩,
 ⟨745,1181,114,2,99,.str "vectorcove.frames" 1115,⟨729,0,732,15⟩,33⟩,
 ⟨752,1192,115,2,100,.str "vectorcove.frames" 1115,⟨733,0,741,57⟩,32⟩,
 ⟨759,1202,116,2,101,.str "vectorcove.frames" 1115,⟨742,0,748,27⟩,26⟩,
 ⟨764,1208,117,2,102,.str "vectorcove.frames" 1115,⟨749,0,759,15⟩,34⟩,
 ⟨771,1220,118,2,103,.str "vectorcove.frames" 1115,⟨760,0,769,15⟩,35⟩,
 ⟨778,1233,119,2,104,.str "vectorcove.frames" 1115,⟨770,0,781,45⟩,32⟩,
 ⟨785,1243,120,2,105,.str "vectorcove.frames" 1115,⟨782,0,791,25⟩,26⟩,
 ⟨790,1249,121,2,106,.str "vectorcove.frames" 1115,⟨792,0,807,45⟩,26⟩,
 ⟨795,1255,122,2,107,.str "vectorcove.frames" 1115,⟨808,0,810,74⟩,9⟩,
 ⟨795,1257,122,2,107,.str "vectorcove.framebind" 1255,⟨811,0,811,8⟩,36⟩,
 ⟨802,1271,123,2,108,.str "vectorcove.framebind" 1255,⟨812,0,827,42⟩,26⟩,
 ⟨807,1277,124,2,109,.str "vectorcove.framebind" 1255,⟨828,0,843,52⟩,33⟩,
 ⟨814,1288,125,2,110,.str "vectorcove.framebind" 1255,⟨844,0,855,16⟩,26⟩,
 ⟨819,1294,126,2,111,.str "vectorcove.framebind" 1255,⟨856,0,870,45⟩,26⟩,
 ⟨824,1300,127,2,112,.str "vectorcove.framebind" 1255,⟨871,0,880,57⟩,9⟩,
 ⟨824,1302,127,2,112,.str "vectorcove.matrix" 1300,⟨881,0,881,8⟩,26⟩,
 ⟨829,1308,128,2,113,.str "vectorcove.matrix" 1300,⟨882,0,888,32⟩,34⟩,
 ⟨836,1320,129,2,114,.str "vectorcove.matrix" 1300,⟨889,0,895,15⟩,9⟩,
 ⟨836,1322,129,2,114,.str "vectorcove.joins" 1320,⟨896,0,896,8⟩,26⟩,
 ⟨841,1328,130,2,115,.str "vectorcove.joins" 1320,⟨897,0,903,42⟩,26⟩,
 ⟨846,1334,131,2,116,.str "vectorcove.joins" 1320,⟨904,0,909,16⟩,33⟩,
 ⟨853,1345,132,2,117,.str "vectorcove.joins" 1320,⟨910,0,917,17⟩,34⟩,
 ⟨860,1357,133,2,118,.str "vectorcove.joins" 1320,⟨918,0,926,16⟩,26⟩,
 ⟨865,1363,134,2,119,.str "vectorcove.joins" 1320,⟨927,0,931,76⟩,33⟩,
 ⟨872,1374,135,2,120,.str "vectorcove.joins" 1320,⟨932,0,938,16⟩,34⟩,
 ⟨879,1386,136,2,121,.str "vectorcove.joins" 1320,⟨939,0,947,16⟩,36⟩,
 ⟨886,1400,137,2,122,.str "vectorcove.joins" 1320,⟨948,0,954,37⟩,34⟩,
 ⟨893,1412,138,2,123,.str "vectorcove.joins" 1320,⟨955,0,960,16⟩,29⟩,
 ⟨900,1419,139,2,124,.str "vectorcove.joins" 1320,⟨961,0,962,44⟩,26⟩,
 ⟨905,1425,140,2,125,.str "vectorcove.joins" 1320,⟨963,0,973,28⟩,27⟩,
 ⟨911,1431,141,2,126,.str "vectorcove.joins" 1320,⟨974,0,1000,60⟩,31⟩,
 ⟨918,1440,142,2,127,.str "vectorcove.joins" 1320,⟨1001,0,1005,15⟩,26⟩,
 ⟨923,1446,143,2,128,.str "vectorcove.joins" 1320,⟨1006,0,1018,68⟩,30⟩,
 ⟨930,1454,144,2,129,.str "vectorcove.joins" 1320,⟨1019,0,1025,33⟩,32⟩,
 ⟨937,1464,145,2,130,.str "vectorcove.joins" 1320,⟨1026,0,1030,60⟩,26⟩,
 ⟨942,1470,146,2,131,.str "vectorcove.joins" 1320,⟨1031,0,1043,79⟩,26⟩,
 ⟨947,1476,147,2,132,.str "vectorcove.joins" 1320,⟨1044,0,1057,52⟩,36⟩,
 ⟨954,1490,148,2,133,.str "vectorcove.joins" 1320,⟨1058,0,1067,83⟩,9⟩,
 ⟨954,1492,148,2,133,.str "law_ov0093_01" 1490,⟨1068,0,1068,8⟩,32⟩,
 ⟨961,1502,149,2,134,.str "law_ov0093_01" 1490,⟨1069,0,1079,16⟩,26⟩,
 ⟨966,1508,150,2,135,.str "law_ov0093_01" 1490,⟨1080,0,1089,12⟩,29⟩,
 ⟨973,1515,151,2,136,.str "law_ov0093_01" 1490,⟨1090,0,1091,49⟩,26⟩,
 ⟨978,1521,152,2,137,.str "law_ov0093_01" 1490,⟨1092,0,1100,88⟩,26⟩,
 ⟨983,1527,153,2,138,.str "law_ov0093_01" 1490,⟨1101,0,1150,86⟩,0⟩]
noncomputable abbrev pw:Program:=PySem.Challenge.pw_ov0093_01
noncomputable def B7:Env:={scope:=pw.main.scope,locals:=mainNs,globals:=mainNs,cells:=[],code:=.ref 13,frame:=some 14}
noncomputable def i8:Code:=.body (behindTheImports pw) B7
noncomputable def glO(P:Params)(m:Value)(k:Nat):Obj:=⟨.type "dict",none,.dict (gE P "__name__" 165 m::(Kj P).take (k-1)).toArray k,#[]⟩
noncomputable def plO(k:Nat):Obj:=⟨.none,none,.fields ((plAll.take k).flatMap fun(l,c,a)=>[Value.int l 0,Value.int c 0,Value.ref a]).toArray,#[]⟩
noncomputable def stO(P:Params)(k:Nat):Obj:=match k with
 |0=>boot_o_2 P
 |_+1=>⟨.none,none,.dict ([gE P "type.__subclasses__.Exception.0" 518 (.int 243 0),gE P "type.__subclasses__.Exception.n" 519 (.int 1 0)]:List DictEntry).toArray 2,#[]⟩
noncomputable def bB(i:Nat):Hz:=stages.getD i ⟨0,0,0,0,0,.none,⟨0,0,0,0⟩,0⟩
noncomputable def g9(P:Params)(i:Nat):List (Nat×Obj):=let g:=bB i
 [(3,glO P g.m g.g),(12,plO g.pl),(13,Kz),(4,boot_o_4 P),(0,boot_o_0 P),(2,stO P g.s),(14,IJ),(1,boot_o_1 P),(5,boot_o_5 P),(6,boot_o_6 P)]
noncomputable def JE:Option Value->Option Str
 |some (.str q _)=>some q
 |_=>none
noncomputable def z4(o:Obj):Option Str:=match o.data with
 |.fields vs=>JE vs.toList[1]?
 |_=>none
noncomputable def G1(as cs:List Nat)(r:Flow×PH×Code×Pos):Flow×Code×Pos×Nat×Nat×List (Option Obj)×List (Option (Option Str)):=
 (r.1,r.2.2.1,r.2.2.2,r.2.1.n,r.2.1.tk,as.map (ew r.2.1.K),cs.map fun c=>(ew r.2.1.K c).map z4)
noncomputable def iF(i:Nat):Stmt:=(behindTheImports pw).getD i (.Pass ⟨0,0,0,0⟩)
noncomputable def eF(st:Stmt)(qual:Option Str)(dV pm:Value)(cd:Nat):FuncData:=match st with
 |.FunctionDef name args body _ _ _ scope _ _ _=>{name,qualname:=qual.getD name,params:=args,body:=.stmts body,scope,globals:=mainNs,closure:=[],defaults:=dV,kwdefaults:=.none,doc:=.none,pyModule:=pm,annotations:=none,code:=.ref cd,closureTuple:=.none,builtins:=builtinsNs}
 |_=>default
noncomputable def fnO(st:Stmt)(qual:Option Str)(dV pm:Value)(cd:Nat):Obj:=⟨.type "function",none,.func (eF st qual dV pm cd),#[]⟩
noncomputable def wc:Stmt:=match iF 43 with
 |.ClassDef _ _ _ body _ _ _ _ _ _ _=>body.getD 0 (.Pass ⟨0,0,0,0⟩)
 |_=>.Pass ⟨0,0,0,0⟩
noncomputable def dflt(i:Nat):Value:=match i with
 |28=>.ref 170
 |89=>.ref 589
 |145=>.ref 905
 |_=>.none
noncomputable def Kp(P:Params):List (Nat×Obj):=[(241,⟨.type "tuple",none,.seq ([]:List Value).toArray 0,#[]⟩),
 (242,⟨.type "dict",none,.dict ([gE P "__module__" 509 (.str "vectorcove.errors" 500),gE P "__firstlineno__" 513 (.int 272 512),gE P "__static_attributes__" 514 (.ref 241),gE P "__weakref__" 516 (.ref 244),gE P "__doc__" 517 (.none)]:List DictEntry).toArray 3,#[]⟩),
 (243,⟨.type "type",none,.cls {name:="CoveError",bases:=[.type "Exception"],mro:=[.ref 243,.type "Exception",.type "BaseException",.type "object"],ns:=242,qualname:="CoveError",hasDict:=true,slotNames:=[],subclasses:=[],abstract:=false,collection:=none,hasDel:=false},([some (.ref 234),none,some (.str "CoveError" 502),some (.str "CoveError" 510),some (.builtin "Exception.__new__"),some (.bool true)]:List (Option Value)).toArray⟩),
 (244,⟨.type "getset_descriptor",none,.fields ([.str "__weakref__" 515,.ref 243,.builtin "ExceptionGroup.__weakref__",.none]:List Value).toArray,#[]⟩),
 (234,⟨.type "tuple",none,.seq ([.type "Exception"]:List Value).toArray 0,#[]⟩)]
noncomputable def KC(P:Params):List (Nat×Obj):=[(311,⟨.type "type",none,.cls {name:="Vector",bases:=[.type "object"],mro:=[.ref 311,.type "object"],ns:=310,qualname:="Vector",hasDict:=true,slotNames:=[],subclasses:=[],abstract:=false,collection:=none,hasDel:=false},([none,none,some (.str "Vector" 580),some (.str "Vector" 588),some (.builtin "object.__new__"),some (.bool true)]:List (Option Value)).toArray⟩),
 (310,⟨.type "dict",none,.dict ([gE P "__module__" 587 (.str "vectorcove.values" 547),gE P "__firstlineno__" 591 (.int 285 590),gE P "__init__" 601 (.ref 301),gE P "copy" 608 (.ref 308),gE P "__static_attributes__" 614 (.ref 309),gE P "__dict__" 616 (.ref 312),gE P "__weakref__" 618 (.ref 313),gE P "__doc__" 619 (.none)]:List DictEntry).toArray 4,#[]⟩),
 (301,fnO wc (some "Vector.__init__") (.ref 294) (.str "vectorcove.values" 547) 300),
 (294,⟨.type "tuple",none,.seq ([.none]:List Value).toArray 0,#[]⟩),
 (312,⟨.type "getset_descriptor",none,.fields ([.str "__dict__" 615,.ref 311,.builtin "function.__dict__",.builtin "function.__dict__#set"]:List Value).toArray,#[]⟩),
 (313,⟨.type "getset_descriptor",none,.fields ([.str "__weakref__" 617,.ref 311,.builtin "ExceptionGroup.__weakref__",.none]:List Value).toArray,#[]⟩)]
noncomputable def zZ(k:Nat):Obj:=match k with
 |0=>⟨.type "tuple",none,.seq ([.bool false,.bool true]:List Value).toArray 0,#[]⟩
 |_=>⟨.type "tuple",none,.seq ([.bool true]:List Value).toArray 0,#[]⟩
noncomputable def f9(P:Params)(i:Nat):List (Nat×Obj)×List (Nat×Str):=
 match i with
 |38=>(Kp P,[])
 |43=>(KC P,[(300,"Vector.__init__")])
 |i=>match iF i with
  |.FunctionDef name _ _ _ _ _ _ _ _ _=>let a:=(bB (i+1)).n
   ((a-1,fnO (iF i) none (dflt i) (bB i).m (a-2))::(match i with|89=>[(589,zZ 0)]|145=>[(905,zZ 1)]|_=>[]),[(a-2,name)])
  |_=>([],[])
noncomputable def nW(P:Params)(i:Nat):List (Nat×Obj):=bif i==39 then Kp P else []
noncomputable def lhs(i:Nat)(P:Params):Option (Flow×Code×Pos×Nat×Nat×List (Option Obj)×List (Option (Option Str))):=
 (CN Ba (ok' 11 (some (.ref 6))) pw P 1 ((bB i).steps+1) ⟨g9 P i++nW P i,(bB i).n,(bB i).tk⟩ (pieceOf (iF i) B7 i8 (bB i).pos [topFrame ⟨0,0,0,0⟩])).map
  (G1 ([3,12,13,4,0,2,14,1,5,6]++(f9 P i).1.map (·.1)) ((f9 P i).2.map (·.1)))
noncomputable def rhs(i:Nat)(P:Params):Option (Flow×Code×Pos×Nat×Nat×List (Option Obj)×List (Option (Option Str))):=
 some (.next,i8,(bB (i+1)).pos,(bB (i+1)).n,(bB (i+1)).tk,(g9 P (i+1)++(f9 P i).1).map fun p=>some p.2,(f9 P i).2.map fun c=>some (some c.2))
noncomputable abbrev pSt(i:Nat)(P:Params):Prop:=lhs i P=rhs i P
section
variable(P:Params)
theorem p0:pSt 0 P:=by kernel_rfl
theorem p1:pSt 1 P:=by kernel_rfl
theorem p2:pSt 2 P:=by kernel_rfl
theorem p3:pSt 3 P:=by kernel_rfl
theorem p4:pSt 4 P:=by kernel_rfl
theorem p5:pSt 5 P:=by kernel_rfl
theorem p6:pSt 6 P:=by kernel_rfl
theorem p7:pSt 7 P:=by kernel_rfl
theorem p8:pSt 8 P:=by kernel_rfl
theorem p9:pSt 9 P:=by kernel_rfl
theorem p10:pSt 10 P:=by kernel_rfl
theorem p11:pSt 11 P:=by kernel_rfl
theorem p12:pSt 12 P:=by kernel_rfl
theorem p13:pSt 13 P:=by kernel_rfl
theorem p14:pSt 14 P:=by kernel_rfl
theorem p15:pSt 15 P:=by kernel_rfl
theorem p16:pSt 16 P:=by kernel_rfl
theorem p17:pSt 17 P:=by kernel_rfl
theorem p18:pSt 18 P:=by kernel_rfl
theorem p19:pSt 19 P:=by kernel_rfl
theorem p20:pSt 20 P:=by kernel_rfl
theorem p21:pSt 21 P:=by kernel_rfl
theorem p22:pSt 22 P:=by kernel_rfl
theorem p23:pSt 23 P:=by kernel_rfl
theorem p24:pSt 24 P:=by kernel_rfl
theorem p25:pSt 25 P:=by kernel_rfl
theorem p26:pSt 26 P:=by kernel_rfl
theorem p27:pSt 27 P:=by kernel_rfl
theorem p28:pSt 28 P:=by kernel_rfl
theorem p29:pSt 29 P:=by kernel_rfl
theorem p30:pSt 30 P:=by kernel_rfl
theorem p31:pSt 31 P:=by kernel_rfl
theorem p32:pSt 32 P:=by kernel_rfl
theorem p33:pSt 33 P:=by kernel_rfl
theorem p34:pSt 34 P:=by kernel_rfl
theorem p35:pSt 35 P:=by kernel_rfl
theorem p36:pSt 36 P:=by kernel_rfl
theorem p37:pSt 37 P:=by kernel_rfl
theorem p38:pSt 38 P:=by kernel_rfl
theorem p39:pSt 39 P:=by kernel_rfl
theorem p40:pSt 40 P:=by kernel_rfl
theorem p41:pSt 41 P:=by kernel_rfl
theorem p42:pSt 42 P:=by kernel_rfl
theorem p43:pSt 43 P:=by kernel_rfl
theorem p44:pSt 44 P:=by kernel_rfl
theorem p45:pSt 45 P:=by kernel_rfl
theorem p46:pSt 46 P:=by kernel_rfl
theorem p47:pSt 47 P:=by kernel_rfl
theorem p48:pSt 48 P:=by kernel_rfl
theorem p49:pSt 49 P:=by kernel_rfl
theorem p50:pSt 50 P:=by kernel_rfl
theorem p51:pSt 51 P:=by kernel_rfl
theorem p52:pSt 52 P:=by kernel_rfl
theorem p53:pSt 53 P:=by kernel_rfl
theorem p54:pSt 54 P:=by kernel_rfl
theorem p55:pSt 55 P:=by kernel_rfl
theorem p56:pSt 56 P:=by kernel_rfl
theorem p57:pSt 57 P:=by kernel_rfl
theorem p58:pSt 58 P:=by kernel_rfl
theorem p59:pSt 59 P:=by kernel_rfl
theorem p60:pSt 60 P:=by kernel_rfl
theorem p61:pSt 61 P:=by kernel_rfl
theorem p62:pSt 62 P:=by kernel_rfl
theorem p63:pSt 63 P:=by kernel_rfl
theorem p64:pSt 64 P:=by kernel_rfl
theorem p65:pSt 65 P:=by kernel_rfl
theorem p66:pSt 66 P:=by kernel_rfl
theorem p67:pSt 67 P:=by kernel_rfl
theorem p68:pSt 68 P:=by kernel_rfl
theorem p69:pSt 69 P:=by kernel_rfl
theorem p70:pSt 70 P:=by kernel_rfl
theorem p71:pSt 71 P:=by kernel_rfl
theorem p72:pSt 72 P:=by kernel_rfl
theorem p73:pSt 73 P:=by kernel_rfl
theorem p74:pSt 74 P:=by kernel_rfl
theorem p75:pSt 75 P:=by kernel_rfl
theorem p76:pSt 76 P:=by kernel_rfl
theorem p77:pSt 77 P:=by kernel_rfl
theorem p78:pSt 78 P:=by kernel_rfl
theorem p79:pSt 79 P:=by kernel_rfl
theorem p80:pSt 80 P:=by kernel_rfl
theorem p81:pSt 81 P:=by kernel_rfl
theorem p82:pSt 82 P:=by kernel_rfl
theorem p83:pSt 83 P:=by kernel_rfl
theorem p84:pSt 84 P:=by kernel_rfl
theorem p85:pSt 85 P:=by kernel_rfl
theorem p86:pSt 86 P:=by kernel_rfl
theorem p87:pSt 87 P:=by kernel_rfl
theorem p88:pSt 88 P:=by kernel_rfl
theorem p89:pSt 89 P:=by kernel_rfl
theorem p90:pSt 90 P:=by kernel_rfl
theorem p91:pSt 91 P:=by kernel_rfl
theorem p92:pSt 92 P:=by kernel_rfl
theorem p93:pSt 93 P:=by kernel_rfl
theorem p94:pSt 94 P:=by kernel_rfl
theorem p95:pSt 95 P:=by kernel_rfl
theorem p96:pSt 96 P:=by kernel_rfl
theorem p97:pSt 97 P:=by kernel_rfl
theorem p98:pSt 98 P:=by kernel_rfl
theorem p99:pSt 99 P:=by kernel_rfl
theorem Ig:pSt 100 P:=by kernel_rfl
theorem OH:pSt 101 P:=by kernel_rfl
theorem OG:pSt 102 P:=by kernel_rfl
theorem OF:pSt 103 P:=by kernel_rfl
theorem OE:pSt 104 P:=by kernel_rfl
theorem OD:pSt 105 P:=by kernel_rfl
theorem OC:pSt 106 P:=by kernel_rfl
theorem OB:pSt 107 P:=by kernel_rfl
theorem OA:pSt 108 P:=by kernel_rfl
theorem Oz:pSt 109 P:=by kernel_rfl
theorem Oy:pSt 110 P:=by kernel_rfl
theorem Ox:pSt 111 P:=by kernel_rfl
theorem Ow:pSt 112 P:=by kernel_rfl
theorem Ov:pSt 113 P:=by kernel_rfl
theorem Ou:pSt 114 P:=by kernel_rfl
theorem Ot:pSt 115 P:=by kernel_rfl
theorem Os:pSt 116 P:=by kernel_rfl
theorem Oq:pSt 117 P:=by kernel_rfl
theorem Op:pSt 118 P:=by kernel_rfl
theorem Oo:pSt 119 P:=by kernel_rfl
theorem On:pSt 120 P:=by kernel_rfl
theorem Om:pSt 121 P:=by kernel_rfl
theorem Ol:pSt 122 P:=by kernel_rfl
theorem Ok:pSt 123 P:=by kernel_rfl
theorem Oj:pSt 124 P:=by kernel_rfl
theorem Oi:pSt 125 P:=by kernel_rfl
theorem Oh:pSt 126 P:=by kernel_rfl
theorem Og:pSt 127 P:=by kernel_rfl
theorem Of:pSt 128 P:=by kernel_rfl
theorem Oe:pSt 129 P:=by kernel_rfl
theorem Od:pSt 130 P:=by kernel_rfl
theorem Oc:pSt 131 P:=by kernel_rfl
theorem Ob:pSt 132 P:=by kernel_rfl
theorem Oa:pSt 133 P:=by kernel_rfl
theorem N9:pSt 134 P:=by kernel_rfl
theorem N8:pSt 135 P:=by kernel_rfl
theorem N7:pSt 136 P:=by kernel_rfl
theorem N6:pSt 137 P:=by kernel_rfl
theorem N5:pSt 138 P:=by kernel_rfl
theorem N4:pSt 139 P:=by kernel_rfl
theorem N3:pSt 140 P:=by kernel_rfl
theorem N2:pSt 141 P:=by kernel_rfl
theorem N1:pSt 142 P:=by kernel_rfl
theorem N0:pSt 143 P:=by kernel_rfl
theorem NZ:pSt 144 P:=by kernel_rfl
theorem NY:pSt 145 P:=by kernel_rfl
theorem NX:pSt 146 P:=by kernel_rfl
theorem NW:pSt 147 P:=by kernel_rfl
theorem NV:pSt 148 P:=by kernel_rfl
theorem NU:pSt 149 P:=by kernel_rfl
theorem NT:pSt 150 P:=by kernel_rfl
theorem NS:pSt 151 P:=by kernel_rfl
theorem NR:pSt 152 P:=by kernel_rfl
theorem NQ:pSt 153 P:=by kernel_rfl
theorem NP:pSt 154 P:=by kernel_rfl
theorem NO:pSt 155 P:=by kernel_rfl
theorem NN:pSt 156 P:=by kernel_rfl
theorem NM:pSt 157 P:=by kernel_rfl
theorem NL:pSt 158 P:=by kernel_rfl
end
end Internal
end
section
set_option tactic.hygienic false
set_option autoImplicit true
open PySem PySem.W PyProof.Rows
namespace Internal
noncomputable def w5:Option Value:=some (.ref 6)
noncomputable def B4:List Frame:=[topFrame ⟨0,0,0,0⟩]
noncomputable def badA:List Nat:=[0,1,2,3,4,5,6,12,13,14,234,241,242,243,244]
noncomputable def pf(P:Params)(i:Nat):List (Nat×Obj)×List (Nat×Str):=bif i==38 then([],[])else f9 P i
noncomputable def ph(P:Params)(i:Nat):PH:=⟨g9 P i++nW P i,(bB i).n,(bB i).tk⟩
structure iE(P:Params)(i:Nat)(s:Shared):Prop where
 sim:Sim (ph P i) s
 objs:∀j,j<i->∀p∈(pf P j).1,s.heap.get? p.1=some p.2
 codes:∀j,j<i->∀c∈(pf P j).2,∃o,s.heap.get? c.1=some o/\z4 o=some c.2
theorem l0:∀{K:List (Nat×Obj)}{a:Nat}{o:Obj},ew K a=some o->(a,o)∈K:=by
 intro d
 induction d with
 |nil=>
  rintro _ _ h
  cases h
 |cons p r q=>
  rintro a o h
  rw[eS]at h
  by_cases e:p.1=a
  ·rw[if_pos e]at h
   obtain rfl:=Option.some.inj h
   subst e
   exact .head _
  ·rw[if_neg e]at h
   exact .tail _ (q h)
theorem AS{K:List (Nat×Obj)}{a:Nat}(h:∀p∈K,p.1≠a):ew K a=none:=by
 cases e:ew K a with
 |none=>rfl
 |some o=>exact absurd rfl (h _ (l0 e))
theorem wp(P:Params):(List.range 159).all (fun i=>(pf P i).1.all (fun p=> !badA.contains p.1)&&(pf P i).2.all (fun p=> !badA.contains p.1))=true:=by kernel_rfl
theorem y6(P:Params):(List.range 160).all (fun i=>(g9 P i++nW P i).all (fun p=>badA.contains p.1))=true:=by kernel_rfl
theorem A8(P:Params)(i:Nat):∀p∈nW P (i+1),p∈(f9 P i).1:=by
 intro p d
 unfold nW at d
 cases e:(i+1==39)with
 |true=>
  rw[e]at d
  obtain rfl:i=38:=Nat.succ.inj (eq_of_beq e)
  exact d
 |false=>rw[e]at d;exact(List.not_mem_nil d).elim
theorem vB{f:Nat->Option Obj}:∀{l:List (Nat×Obj)},(l.map (·.1)).map f=l.map (fun p=>some p.2)->∀p∈l,f p.1=some p.2:=by
 intro d
 induction d with
 |nil=>
  rintro _ _ h
  exact((List.not_mem_nil h).elim)
 |cons q r y=>
  rintro e p h
  simp only[List.map_cons,List.cons.injEq]at e
  rcases List.mem_cons.mp h with rfl|h
  ·exact e.1
  ·exact y (e.2) p h
theorem AI{f:Nat->Option (Option Str)}:∀{l:List (Nat×Str)},(l.map (·.1)).map f=l.map (fun p=>some (some p.2))->∀p∈l,f p.1=some (some p.2):=by
 intro d
 induction d with
 |nil=>
  rintro _ _ h
  exact((List.not_mem_nil h).elim)
 |cons q r y=>
  rintro e p h
  simp only[List.map_cons,List.cons.injEq]at e
  rcases List.mem_cons.mp h with rfl|h
  ·exact e.1
  ·exact y (e.2) p h
theorem wS(P:Params)(i:Nat):(g9 P i).map (·.1)=[3,12,13,4,0,2,14,1,5,6]:=rfl
theorem FT{w:World}{i:Nat}(O:i<159)(e:lhs i w.params=rhs i w.params){s:Shared}(R:iE w.params i s):
  ∃s',segRun treeTable pw w 11 w5 1 ((bB i).steps+1) s (pieceOf (iF i) B7 i8 (bB i).pos B4)=some (.next,s',i8,(bB (i+1)).pos)/\iE w.params (i+1) s':=by
 unfold lhs rhs at e
 rw[<-uu,<-CQ]at e
 refine xEA (Option.map_eq_some_iff.mp e) fun r e1 F=>?_
 obtain⟨fl,h',c,p⟩:=r
 simp only[G1,Prod.mk.injEq]at F
 obtain rfl:=F.1;obtain rfl:=F.2.1;obtain rfl:=F.2.2.1;haveI en:=F.2.2.2.1;haveI et:=F.2.2.2.2.1;haveI Z:=F.2.2.2.2.2.1;haveI ec:=F.2.2.2.2.2.2
 refine nc (qf (n₀:=11) (ann:=w5) e1 R.sim) fun s' r1 J K'=>?_
 refine⟨s',r1,?_⟩
 rw[<-wS w.params (i+1),<-List.map_append]at Z
 haveI ob:=vB Z
 haveI oc:=AI ec
 haveI get:∀p∈g9 w.params (i+1)++(f9 w.params i).1,s'.heap.get? p.1=some p.2:=fun p d=>J.get _ _ (ob p d)
 have y:∀a o,badA.contains a=false->s.heap.get? a=some o->s'.heap.get? a=some o:=fun a o Y hx=>by
  refine K' a o (AS fun p d e=>?_) hx
  have:=List.all_eq_true.mp (List.all_eq_true.mp (y6 w.params) i (List.mem_range.mpr (tln O (lkn rfl)))) p d
  rw[e,Y]at this
  exact Bool.noConfusion this
 have fa:=fun j (q:j<159)=>Bool.and_eq_true_iff.mp (List.all_eq_true.mp (wp w.params) j (List.mem_range.mpr q))
 refine⟨⟨J.size.trans en,J.toks.trans et,fun a o Y=>?_,J.gens⟩,fun j q p d=>?_,fun j q p d=>?_⟩
 ·have H:=l0 Y
  rcases List.mem_append.mp H with H|H
  ·exact get _ (List.mem_append.mpr (.inl H))
  ·exact get _ (List.mem_append.mpr (.inr (A8 _ _ _ H)))
 ·rcases Nat.lt_succ_iff_lt_or_eq.mp q with q|rfl
  ·haveI W:=List.all_eq_true.mp (fa j (tln q (Nat.le_of_lt O))).1 p d
   exact y _ _ (by simpa using W) (R.objs j q p d)
  ·unfold pf at d
   cases e:(j==38)with
   |true=>rw[e]at d;exact(List.not_mem_nil d).elim
   |false=>rw[e]at d;exact get p (List.mem_append.mpr (.inr d))
 ·rcases Nat.lt_succ_iff_lt_or_eq.mp q with q|rfl
  ·have W:=List.all_eq_true.mp (fa j (tln q (Nat.le_of_lt O))).2 p d
   refine xEA (R.codes j q p d) fun o ho hq=>?_
   exact⟨o,y _ _ (by simpa using W) ho,hq⟩
  ·unfold pf at d
   cases e:(j==38)with
   |true=>rw[e]at d;exact(List.not_mem_nil d).elim
   |false=>
    rw[e]at d
    have z:=oc p d
    cases L:ew h'.K p.1 with
    |none=>rw[L]at z;exact nomatch z
    |some o=>
     rw[L]at z
     exact⟨o,J.get _ _ L,by simpa using z⟩
def Go(w:World)(i:Nat):Prop:=∀s,iE w.params i s->∃N r,topRun treeTable pw w 11 w5 N s (restOf ((behindTheImports pw).drop i) B7 i8 (bB i).pos B4)=some r/\iE w.params 159 r
theorem FU{w:World}{i:Nat}(e:lhs i w.params=rhs i w.params)(y:i<159)(z:(behindTheImports pw).drop i=iF i::(behindTheImports pw).drop (i+1))(G:Go w (i+1)):Go w i:=fun s R=>by
 refine xEA (FT y e R) fun q H J=>?_
 refine m8 (G q J) fun N r F d=>?_
 exact⟨_,r,by rw[z];exact piece_cons H F,d⟩
theorem wM:(behindTheImports pw).length=159:=by kernel_rfl
theorem Gr{i:Nat}(h:i<159):(behindTheImports pw).drop i=iF i::(behindTheImports pw).drop (i+1):=by
 haveI d:i<(behindTheImports pw).length:=by rw[wM];exact h
 rw[List.drop_eq_getElem_cons d]
 unfold iF
 simp[List.getElem?_eq_getElem d]
theorem IC(w:World):Go w 159:=fun s R=>by
 refine⟨2,s,?_,R⟩
 rw[List.drop_of_length_le (by rw[wM];exact Nat.le_refl _)]
 obtain⟨q,r,drawn,d,y⟩:=s
 rfl
theorem gob{w:World}{i:Nat}(e:lhs i w.params=rhs i w.params)(d:Nat.ble (i+1) 159=true)(G:Go w (i+1)):Go w i:=FU e (lkn d) (Gr (lkn d)) G
theorem FS(w:World):Go w 0:=
 gob (p0 _) rfl<|  gob (p1 _) rfl<|  gob (p2 _) rfl<|  gob (p3 _) rfl<|  gob (p4 _) rfl<|  gob (p5 _) rfl<|  gob (p6 _) rfl<|  gob (p7 _) rfl<|
 gob (p8 _) rfl<|  gob (p9 _) rfl<|  gob (p10 _) rfl<|  gob (p11 _) rfl<|  gob (p12 _) rfl<|  gob (p13 _) rfl<|  gob (p14 _) rfl<|  gob (p15 _) rfl<|
 gob (p16 _) rfl<|  gob (p17 _) rfl<|  gob (p18 _) rfl<|  gob (p19 _) rfl<|  gob (p20 _) rfl<|  gob (p21 _) rfl<|  gob (p22 _) rfl<|  gob (p23 _) rfl<|
 gob (p24 _) rfl<|  gob (p25 _) rfl<|  gob (p26 _) rfl<|  gob (p27 _) rfl<|  gob (p28 _) rfl<|  gob (p29 _) rfl<|  gob (p30 _) rfl<|  gob (p31 _) rfl<|
 gob (p32 _) rfl<|  gob (p33 _) rfl<|  gob (p34 _) rfl<|  gob (p35 _) rfl<|  gob (p36 _) rfl<|  gob (p37 _) rfl<|  gob (p38 _) rfl<|  gob (p39 _) rfl<|
 gob (p40 _) rfl<|  gob (p41 _) rfl<|  gob (p42 _) rfl<|  gob (p43 _) rfl<|  gob (p44 _) rfl<|  gob (p45 _) rfl<|  gob (p46 _) rfl<|  gob (p47 _) rfl<|
 gob (p48 _) rfl<|  gob (p49 _) rfl<|  gob (p50 _) rfl<|  gob (p51 _) rfl<|  gob (p52 _) rfl<|  gob (p53 _) rfl<|  gob (p54 _) rfl<|  gob (p55 _) rfl<|
 gob (p56 _) rfl<|  gob (p57 _) rfl<|  gob (p58 _) rfl<|  gob (p59 _) rfl<|  gob (p60 _) rfl<|  gob (p61 _) rfl<|  gob (p62 _) rfl<|  gob (p63 _) rfl<|
 gob (p64 _) rfl<|  gob (p65 _) rfl<|  gob (p66 _) rfl<|  gob (p67 _) rfl<|  gob (p68 _) rfl<|  gob (p69 _) rfl<|  gob (p70 _) rfl<|  gob (p71 _) rfl<|
 gob (p72 _) rfl<|  gob (p73 _) rfl<|  gob (p74 _) rfl<|  gob (p75 _) rfl<|  gob (p76 _) rfl<|  gob (p77 _) rfl<|  gob (p78 _) rfl<|  gob (p79 _) rfl<|
 gob (p80 _) rfl<|  gob (p81 _) rfl<|  gob (p82 _) rfl<|  gob (p83 _) rfl<|  gob (p84 _) rfl<|  gob (p85 _) rfl<|  gob (p86 _) rfl<|  gob (p87 _) rfl<|
 gob (p88 _) rfl<|  gob (p89 _) rfl<|  gob (p90 _) rfl<|  gob (p91 _) rfl<|  gob (p92 _) rfl<|  gob (p93 _) rfl<|  gob (p94 _) rfl<|  gob (p95 _) rfl<|
 gob (p96 _) rfl<|  gob (p97 _) rfl<|  gob (p98 _) rfl<|  gob (p99 _) rfl<|  gob (Ig _) rfl<|  gob (OH _) rfl<|  gob (OG _) rfl<|  gob (OF _) rfl<|
 gob (OE _) rfl<|  gob (OD _) rfl<|  gob (OC _) rfl<|  gob (OB _) rfl<|  gob (OA _) rfl<|  gob (Oz _) rfl<|  gob (Oy _) rfl<|  gob (Ox _) rfl<|
 gob (Ow _) rfl<|  gob (Ov _) rfl<|  gob (Ou _) rfl<|  gob (Ot _) rfl<|  gob (Os _) rfl<|  gob (Oq _) rfl<|  gob (Op _) rfl<|  gob (Oo _) rfl<|
 gob (On _) rfl<|  gob (Om _) rfl<|  gob (Ol _) rfl<|  gob (Ok _) rfl<|  gob (Oj _) rfl<|  gob (Oi _) rfl<|  gob (Oh _) rfl<|  gob (Og _) rfl<|
 gob (Of _) rfl<|  gob (Oe _) rfl<|  gob (Od _) rfl<|  gob (Oc _) rfl<|  gob (Ob _) rfl<|  gob (Oa _) rfl<|  gob (N9 _) rfl<|  gob (N8 _) rfl<|
 gob (N7 _) rfl<|  gob (N6 _) rfl<|  gob (N5 _) rfl<|  gob (N4 _) rfl<|  gob (N3 _) rfl<|  gob (N2 _) rfl<|  gob (N1 _) rfl<|  gob (N0 _) rfl<|
 gob (NZ _) rfl<|  gob (NY _) rfl<|  gob (NX _) rfl<|  gob (NW _) rfl<|  gob (NV _) rfl<|  gob (NU _) rfl<|  gob (NT _) rfl<|  gob (NS _) rfl<|
 gob (NR _) rfl<|  gob (NQ _) rfl<|  gob (NP _) rfl<|  gob (NO _) rfl<|  gob (NN _) rfl<|  gob (NM _) rfl<|  gob (NL _) rfl<|IC w
noncomputable def pGo(den:Code->Sem Fin)(ok:Thread->Bool)(prog:Program)(P:Params):Nat->PH->Thread->Option (PH×Thread)
 |0,h,t=>some (h,t)
 |n+1,h,t=>match through t with
  |true=>none
  |false=>match ok t with
   |false=>none
   |true=>match qd den prog P h t with
    |some r=>pGo den ok prog P n r.1 r.2
    |none=>none
theorem AG{q:String->Option Builtin}{prog:Program}{w:World}{n₀:Nat}{ann:Option Value}:
  ∀{N:Nat} {h h':PH} {t d:Thread} {s:Shared},pGo (denote q) (stepOk n₀ ann) prog w.params N h t=some (h',d)->Sim h s->
   ∃s',topGo q prog w n₀ ann N s t=some (s',d)/\Sim h' s':=by
 intro m_
 induction m_ with
 |zero=>
  rintro h h' t d s e S
  obtain⟨rfl,rfl⟩:h=h'/\t=d:=⟨congrArg Prod.fst (Option.some.inj (show some (h,t)=some (h',d)from e)),congrArg Prod.snd (Option.some.inj (show some (h,t)=some (h',d)from e))⟩
  exact⟨s,rfl,S⟩
 |succ N ih=>
  rintro h h' t d s e S
  replace e:(match through t with|true=>none|false=>match stepOk n₀ ann t with|false=>none|true=>match qd (denote q) prog w.params h t with|some r=>pGo (denote q) (stepOk n₀ ann) prog w.params N r.1 r.2|none=>none)=some (h',d):=e
  unfold topGo
  cases Z:through t with
  |true=>rw[Z]at e;cases e
  |false=>
   rw[Z]at e
   cases hk:stepOk n₀ ann t with
   |false=>rw[hk]at e;cases e
   |true=>
    rw[hk]at e
    dsimp only at e⊢
    cases L:qd (denote q) prog w.params h t with
    |none=>rw[L]at e;exact nomatch e
    |some r=>
     haveI Y:=r.1;haveI O:=r.2
     rw[L]at e
     refine nc (oy L S) fun W F J _=>?_
     refine xEA (ih e J) fun y z H=>?_
     exact⟨y,by rw[F];exact z,H⟩
noncomputable def wL(P:Params):List (Nat×Obj):=[(0,boot_o_0 P),(1,boot_o_1 P),(2,boot_o_2 P),(3,boot_o_3 P),(4,boot_o_4 P),(5,boot_o_5 P),(6,boot_o_6 P)]
noncomputable def JZ:Thread:=⟨denote treeTable i8,i8,⟨0,0,0,0⟩,B4⟩
noncomputable def CJ:Thread:=⟨Ba i8,i8,⟨0,0,0,0⟩,B4⟩
noncomputable def J0(P:Params):Option (Thread×Nat×Nat×List (Option Obj)):=
 (pGo Ba (ok' 11 (some (.ref 6))) pw P 12 ⟨wL P,11,boot_toks⟩ (topStub pw)).map fun r=>(r.2,r.1.n,r.1.tk,[3,12,13,4,0,2,14,1,5,6].map (ew r.1.K))
theorem Id(P:Params):J0 P=some (CJ,(bB 0).n,(bB 0).tk,(g9 P 0).map fun p=>some p.2):=by kernel_rfl
theorem Ee(P:Params):CN Ba (ok' 11 (some (.ref 6))) pw P 1 1 (ph P 0) (blockOf (behindTheImports pw) B7 i8 ⟨0,0,0,0⟩ B4)=some (.next,ph P 0,i8,(bB 0).pos):=by kernel_rfl
theorem EO{w:World}{s:Shared}(S:Sim ⟨wL w.params,11,boot_toks⟩ s):∃N r,topRun treeTable pw w 11 w5 N s (topStub pw)=some r/\iE w.params 159 r:=by
 haveI e:=Id w.params
 unfold J0 at e
 refine xEA (Option.map_eq_some_iff.mp e) fun r L F=>?_
 obtain⟨h',t'⟩:=r
 simp only[Prod.mk.injEq]at F
 obtain rfl:=F.1;haveI en:=F.2.1;haveI et:=F.2.2.1;haveI J:=F.2.2.2
 rw[<-CQ,<-uu]at L
 refine xEA (AG (n₀:=11) (ann:=w5) L S) fun z g1 d=>?_
 rw[<-wS w.params 0]at J
 haveI Y:=vB J
 haveI R:iE w.params 0 z:=⟨⟨d.size.trans en,d.toks.trans et,fun a o ha=>by
  haveI Z:(a,o)∈g9 w.params 0:=by
   haveI:=l0 ha
   simpa [ph,nW]using this
  exact d.get _ _ (Y (a,o) Z),d.gens⟩,fun j y=>absurd y (Nat.not_lt_zero _),fun j y=>absurd y (Nat.not_lt_zero _)⟩
 haveI b:=Ee w.params
 rw[<-uu,<-CQ]at b
 refine nc (qf (n₀:=11) (ann:=w5) b R.sim) fun q O H _=>?_
 haveI R2:iE w.params 0 q:=⟨H,fun j y=>absurd y (Nat.not_lt_zero _),fun j y=>absurd y (Nat.not_lt_zero _)⟩
 refine m8 (FS w q R2) fun N r h2 R3=>?_
 haveI W:CJ=JZ:=by unfold CJ JZ;rw[uu]
 rw[W]at g1
 exact⟨_,r,go_top g1 (piece_block O h2),R3⟩
theorem Ea{w:World}{N:Nat}{s:Shared}(y:Nat.ble 600 N=true)(h:fencedOpening treeTable pw w N=some s):Sim ⟨wL w.params,11,boot_toks⟩ s/\s.heap=boot_heap w.params/\s.drawn=boot_drawn:=by
 haveI b:=boot_open (p:=pw) (N:=N) (by kernel_rfl) y (fun _=>by kernel_rfl) w
 rw[h]at b
 simp only[Option.map_some,Option.some.injEq,Prod.mk.injEq]at b
 haveI d:=b.1;haveI H:=b.2.1;haveI F:=b.2.2.1;haveI z:=b.2.2.2
 refine⟨⟨by rw[d];kernel_rfl,z,fun a o r=>?_,H⟩,d,F⟩
 rw[d]
 haveI q:=l0 r
 simp only[wL,List.mem_cons,Prod.mk.injEq,List.not_mem_nil,or_false]at q
 rcases q with⟨rfl,rfl⟩|⟨rfl,rfl⟩|⟨rfl,rfl⟩|⟨rfl,rfl⟩|⟨rfl,rfl⟩|⟨rfl,rfl⟩|⟨rfl,rfl⟩<;>kernel_rfl
end Internal
end
section
set_option autoImplicit true
open PySem
namespace Internal
section
inductive Key where
 |i (n:Int)|s (x:Str)
 deriving DecidableEq
inductive T where
 |none|bool (b:Bool)|int (i:Int)|str (s:Str)
 |list (ts:List T)|tup (ts:List T)|dict (ks:List Key) (vs:List T)
 |vec (k:Str) (items attrs:T)|fn (f:Nat)|hand
noncomputable instance:Inhabited T:=⟨.none⟩
inductive LV where
 |unset|fr (t:T)|ol (ts:List T)|od (ks:List Key) (vs:List T)|odl (ks:List Key) (vss:List (List T))|ov (k:Str) (items:T) (attrs:Option (List Key×List T))
inductive Fld where|kind|items|attrs
inductive Cm where|lt|gt|le|ge
inductive Bo where|add|sub|mul|fdiv|mod
set_option genInjectivity false
set_option genSizeOf false
set_option genCtorIdx false
mutual
inductive X where
 |none|bool (b:Bool)|int (i:Int)|str (s:Str)|powc (a b:Nat)
 |var (i:Nat)|gfn (f:Nat)
 |len (x:X)|abs (x:X)|neg (x:X)|max (a b:X)|str1 (x:X)|sum (x:X)
 |sorted (x:X)|sortedSet (x:X)|lenSet (x:X)|listOf (x:X)|listR (xs:List X)
 |isNone (x:X)|notNone (x:X)|isVec (x:X)|isList (x:X)
 |cmp (c:Cm) (a b:X)|eq (a b:X)|ne (a b:X)|isIn (a b:X)|notIn (a b:X)
 |and (xs:List X)|or (xs:List X)|not (x:X)|ite (c a b:X)
 |bin (o:Bo) (a b:X)
 |attr (x:X) (f:Fld)|idx (x k:X)|get (x k:X)|getD (x k d:X)
 |sliceTo (x n:X)|sliceFrom (x n:X)
 |list (xs:List X)|tup (xs:List X)|mkVec (xs:List X)
 |call (f:Nat) (xs:List X)|callV (i:Nat) (xs:List X)
 |comp (i:Nat) (it:It) (cs:List X) (e:X)|comp2 (i:Nat) (it:It) (j:Nat)
 |join (s:Str) (x:X)|fpair (a:X) (s:Str) (b:X)|countOf (x y:X)|indexOf (x y:X)
 |handGet (i k:Nat)
 |stuck
inductive It where
 |val (x:X)|range (xs:List X)|rev (x:X)
end
inductive S where
 |asg (i:Nat) (x:X)
 |newL (i:Nat) (xs:List X)|newD (i:Nat)|newDL (i:Nat)|newMul (i:Nat) (a n:X)|newSorted (i:Nat) (x:X)
 |newComp (i:Nat) (j:Nat) (it:It) (cs:List X) (e:X)
 |newV (i:Nat) (xs:List X)|newHand (i:Nat) (xs:List X)
 |asgO (i:Nat) (f:Nat) (xs:List X)
 |freeze (i:Nat)
 |unpack2 (i j:Nat) (x:X)
 |aug (i:Nat) (o:Bo) (x:X)
 |append (i:Nat) (x:X)|extend (i:Nat) (x:X)|reverse (i:Nat)
 |store (i:Nat) (k v:X)|augItem (i:Nat) (k x:X)
 |sdApp (i:Nat) (k v:X)|appSd (i j:Nat) (k v:X)
 |setAttrs (i:Nat) (ks:List Str) (xs:List X)|setAttrItem (i:Nat) (k:Str) (x:X)
 |share (i:Nat)|handSet (i k:Nat) (x:X)
 |ite (c:X) (a b:List S)
 |whl (n:Nat) (c:X) (b:List S)
 |for1 (i:Nat) (it:It) (b:List S)|for2 (i j:Nat) (it:It) (b:List S)
 |ret (x:X)|retO (i:Nat) (c:X)|expr (x:X)|cont|stuck
set_option genInjectivity true
set_option genSizeOf true
set_option genCtorIdx true
noncomputable abbrev M(α:Type):=List T->Option (α×List T)
@[reducible]noncomputable def pur{α:Type}(a:α):M α:=fun h=>some (a,h)
@[reducible]noncomputable def sd{α:Type}:M α:=fun _=>.none
@[reducible]noncomputable def bnd{α β:Type}(m:M α)(f:α->M β):M β:=fun h=>match m h with
 |.none=>.none
 |some (a,h')=>f a h'
@[reducible]noncomputable def lft{α:Type}:Option α->M α
 |.none=>sd
 |some a=>pur a
noncomputable abbrev aE:=Nat->LV
noncomputable def upd(ρ:aE)(i:Nat)(v:LV):aE:=fun j=>match Nat.beq j i with|true=>v|false=>ρ j
theorem pQ(ρ:aE)(i j:Nat)(v:LV):upd ρ i v j=if j=i then v else ρ j:=by
 unfold upd
 cases e:Nat.beq j i with
 |true=>rw[if_pos (Nat.eq_of_beq_eq_true e)]
 |false=>rw[if_neg (Nat.ne_of_beq_eq_false e)]
theorem i7(ρ:aE)(i:Nat)(v:LV):upd ρ i v i=v:=(pQ ρ i i v).trans (if_pos rfl)
theorem lw(ρ:aE)(i j:Nat)(v:LV)(d:j≠i):upd ρ i v j=ρ j:=(pQ ρ i j v).trans (if_neg d)
noncomputable def frz:LV->Option T
 |.unset=>.none
 |.fr t=>some t
 |.ol ts=>some (.list ts)
 |.od ks vs=>some (.dict ks vs)
 |.odl ks vss=>some (.dict ks (vss.map .list))
 |.ov k it .none=>some (.vec k it .none)
 |.ov k it (some (ks,vs))=>some (.vec k it (.dict ks vs))
noncomputable def cU:LV->Option T
 |.fr t=>some t
 |.ol ts=>some (.list ts)
 |.od ks vs=>some (.dict ks vs)
 |_=>.none
noncomputable def lim:Nat:=1000
noncomputable def iq:Nat:=100000
noncomputable def isS:T->Bool
 |.none=>true
 |.int _=>true
 |.str _=>true
 |_=>false
noncomputable def qM:T->Bool
 |.tup ts=>ts.all isS
 |t=>isS t
noncomputable def dz:T->Bool
 |.list ts=>ts.all qM
 |t=>qM t
noncomputable def jE:T->T->Bool
 |.none,.none=>true
 |.int a,.int b=>a==b
 |.str a,.str b=>a==b
 |_,_=>false
noncomputable def rB(f:T->T->Bool):List T->List T->Bool
 | [],[]=>true
 |a::as,b::bs=>f a b&&rB f as bs
 |_,_=>false
noncomputable def wR:T->T->Bool
 |.tup as,.tup bs=>rB jE as bs
 |a,b=>jE a b
noncomputable def iO:T->T->Bool
 |.list as,.list bs=>rB wR as bs
 |a,b=>wR a b
noncomputable def eqT(a b:T):Option Bool:=if dz a&&dz b then some (iO a b)else .none
noncomputable def lB(a b:Str):Bool:=decide (a.cps.toList<b.cps.toList)
noncomputable def ltS:T->T->Bool
 |.int a,.int b=>decide (a<b)
 |.str a,.str b=>lB a b
 |_,_=>false
noncomputable def ltL:List T->List T->Bool
 | [],_::_=>true
 |a::as,b::bs=>if jE a b then ltL as bs else ltS a b
 |_,_=>false
noncomputable def ltT:T->T->Bool
 |.tup as,.tup bs=>ltL as bs
 |a,b=>ltS a b
noncomputable def He(x:T)(ts:List T):Option (Option Nat):=if dz x&&ts.all dz&&decide (ts.length<=lim)then some (ts.findIdx? (iO · x))else .none
noncomputable def inL(x:T)(ts:List T):Option Bool:=if dz x&&ts.all dz then some (ts.any (iO · x))else .none
noncomputable def DX(x:T)(ts:List T):Option Nat:=if dz x&&ts.all dz then some (ts.countP (iO · x))else .none
noncomputable def bG:T->Option Key
 |.int n=>some (.i n)
 |.str x=>some (.s x)
 |_=>.none
noncomputable def Key.toT:Key->T
 |.i n=>.int n
 |.s x=>.str x
noncomputable def cJ(k:Key):List Key->List T->Option T
 |a::ks,v::vs=>if a=k then some v else cJ k ks vs
 |_,_=>.none
noncomputable def eO(k:Key)(ks:List Key):Bool:=ks.any fun a=>decide (a=k)
noncomputable def wv(k:Key)(v:T):List Key->List T->List T
 |a::ks,w::vs=>if a=k then v::vs else w::wv k v ks vs
 |_,_=>[]
noncomputable def dN(k:Key)(v:T)(ks:List Key)(vs:List T):List Key×List T:=if eO k ks then(ks,wv k v ks vs)else(ks++[k],vs++[v])
noncomputable def vV(k:Key)(v:T):List Key->List (List T)->List (List T)
 |a::ks,w::vs=>if a=k then(w++[v])::vs else w::vV k v ks vs
 |_,_=>[]
noncomputable def gG(k:Key)(v:T)(ks:List Key)(vss:List (List T)):List Key×List (List T):=if eO k ks then(ks,vV k v ks vss)else(ks++[k],vss++[[v]])
noncomputable def cG(i:Int):Str:=Str.ofString (toString i)
noncomputable def big:Int:=4611686018427387904
noncomputable def small(i:Int):Bool:=decide (-big<i)&&decide (i<big)
noncomputable def tj:T->Option T
 |.none=>some (.str "None")
 |.int i=>if small i then some (.str (cG i))else .none
 |.str s=>some (.str s)
 |_=>.none
noncomputable def oP:List T->Int->Option Int
 | [],a=>some a
 |.int i::r,a=>oP r (a+i)
 |_,_=>.none
noncomputable def nC:T->Option Nat
 |.int i=>if 0<=i/\i<1000000 then some i.toNat else .none
 |_=>.none
noncomputable def place(i:Int)(n:Nat):Option Nat:=if n<=lim then(if 0<=i then(if i.toNat<n then some i.toNat else .none)else if 0<=i+n then some (i+n).toNat else .none)else .none
noncomputable def cL:T->Option Nat
 |.list ts=>if ts.length<=lim then some ts.length else .none
 |.dict ks _=>if ks.length<=lim then some ks.length else .none
 |.str s=>if s.length<=iq then some s.length else .none
 |_=>.none
noncomputable def inT(x:T):T->Option Bool
 |.list ts=>inL x ts
 |.tup ts=>inL x ts
 |.dict ks _=>(bG x).map fun k=>eO k ks
 |_=>.none
noncomputable def cmI(c:Cm)(a b:Int):Bool:=match c with
 |.lt=>decide (a<b)
 |.gt=>decide (a>b)
 |.le=>decide (a<=b)
 |.ge=>decide (a>=b)
noncomputable def cmS(c:Cm)(a b:Str):Option Bool:=match c with
 |.lt=>some (lB a b)
 |.gt=>some (lB b a)
 |_=>.none
noncomputable def Bi(a b:Str):Option Str:=if a.length+b.length<=iq then some (a++b)else .none
noncomputable def biI(o:Bo)(a b:Int):Option T:=match o with
 |.add=>some (.int (a+b))
 |.sub=>some (.int (a-b))
 |.mul=>if small a&&small b then some (.int (a*b))else .none
 |.fdiv=>if 0<b/\b<big then some (.int (a.fdiv b))else .none
 |.mod=>if 0<b/\b<big then some (.int (a.fmod b))else .none
noncomputable def cQ:Fld->T->Option T
 |.kind,.vec k _ _=>some (.str k)
 |.items,.vec _ it _=>some it
 |.attrs,.vec _ _ a=>some a
 |_,_=>.none
noncomputable def nh:List T->Option (List Str)
 | []=>some []
 |.str s::r=>(nh r).map (s:: ·)
 |_=>.none
noncomputable def yr(x:T):List T->List T
 | []=>[x]
 |y::ys=>if ltT x y then x::y::ys else y::yr x ys
noncomputable def ip:List T->List T
 | []=>[]
 |x::xs=>yr x (ip xs)
noncomputable def iW(ts:List T):Bool:=ts.all fun|.int _=>true|_=>false
noncomputable def fY(ts:List T):Bool:=ts.all fun|.str _=>true|_=>false
noncomputable def Iz:T->Bool
 |.str _=>true
 |_=>false
noncomputable def isIn:T->Bool
 |.int _=>true
 |_=>false
noncomputable def yq:T->Bool
 |.tup [a,b,c,d]=>Iz a&&Iz b&&isIn c&&isIn d
 |_=>false
noncomputable def tv(ts:List T):Bool:=decide (ts.length<=6)&&(iW ts||fY ts||ts.all yq)
noncomputable def dD(ts:List T):Option (List T):=if tv ts then some (ip ts)else .none
noncomputable def cZ:List T->List T->List T
 |acc,[]=>acc
 |acc,t::ts=>if acc.any (fun a=>decide (bG a=bG t))then cZ acc ts else cZ (acc++[t]) ts
noncomputable def pU(ts:List T):Option (List T):=if decide (ts.length<=6)&&(iW ts||fY ts)then some (cZ [] ts)else .none
noncomputable def Cp(ts:List T):Bool:=fY ts||ts.all fun|.int i=>i==3||i== -1||i==8|_=>false
noncomputable def qR:List T->Option (List T)
 | []=>some []
 |.list l::r=>if l.length<=lim then(qR r).map (l++ ·)else .none
 |_=>.none
noncomputable def hH(a b c:Int):Option (List T):=if 0<c/\c<=1000/\ -1000<=a/\a<=1000/\ -1000<=b/\b<=1000 then some ((List.range ((b-a+c-1).fdiv c).toNat).map fun(i:Nat)=>.int (a+i*c))else .none
noncomputable def gI{α:Type}(f:T->M (Option α)):List T->M (List α)
 | []=>pur []
 |t::ts=>bnd (f t) fun r=>bnd (gI f ts) fun rs=>pur (match r with|some a=>a::rs|.none=>rs)
inductive Fl where|nxt (ρ:aE)|cnt (ρ:aE)|ret (v:LV)
noncomputable def kZ(f:T->aE->M Fl):List T->aE->M Fl
 | [],ρ=>pur (.nxt ρ)
 |t::ts,ρ=>bnd (f t ρ) fun
  |.nxt ρ'=>kZ f ts ρ'
  |.cnt ρ'=>kZ f ts ρ'
  |.ret v=>pur (.ret v)
noncomputable def pP(c:aE->M Bool)(b:aE->M Fl):Nat->aE->M Fl
 |0,_=>sd
 |n+1,ρ=>bnd (c ρ) fun
  |false=>pur (.nxt ρ)
  |true=>bnd (b ρ) fun
   |.nxt ρ'=>pP c b n ρ'
   |.cnt ρ'=>pP c b n ρ'
   |.ret v=>pur (.ret v)
noncomputable def aZ:T->Bool
 |.none=>true
 |_=>false
noncomputable def bOf:T->Option Bool
 |.bool b=>some b
 |_=>.none
noncomputable def lOf:T->Option (List T)
 |.list ts=>some ts
 |_=>.none
noncomputable def iOf:T->Option Int
 |.int i=>some i
 |_=>.none
noncomputable def sOf:T->Option Str
 |.str x=>some x
 |_=>.none
noncomputable def dOf:T->Option (List Key×List T)
 |.dict ks vs=>some (ks,vs)
 |_=>.none
noncomputable def vOf:T->Option Unit
 |.vec .. =>some ()
 |_=>.none
noncomputable def nOf:T->Option Unit
 |.none=>some ()
 |_=>.none
noncomputable def lE:T->Option (List T)
 |.list ts=>some ts
 |.tup ts=>some ts
 |_=>.none
noncomputable def two:List T->Option (T×T)
 | [a,b]=>some (a,b)
 |_=>.none
noncomputable def tOf:T->Option (List T)
 |.tup ts=>some ts
 |_=>.none
noncomputable def fN:T->Option (List T)
 |.list ts=>if ts.length<=lim then some ts else .none
 |.dict ks _=>if ks.length<=lim then some (ks.map Key.toT)else .none
 |_=>.none
noncomputable def cI:LV->Option T
 |.fr t=>some t
 |_=>.none
noncomputable def gT:LV->Option (List T)
 |.ol ts=>some ts
 |_=>.none
noncomputable def qj:LV->Option (List Key×List T)
 |.od ks vs=>some (ks,vs)
 |_=>.none
noncomputable def vA:LV->Option (List Key×List (List T))
 |.odl ks vss=>some (ks,vss)
 |_=>.none
noncomputable def vu:LV->Option (Str×T×Option (List Key×List T))
 |.ov k it a=>some (k,it,a)
 |_=>.none
noncomputable def vg:LV->Option LV
 |.unset=>.none
 |lv=>some lv
noncomputable def A1(lv:LV):Option Nat:=match cI lv with
 |some (.fn f)=>some f
 |_=>.none
noncomputable def iL(lv:LV):Option Unit:=match cI lv with
 |some .hand=>some ()
 |_=>.none
noncomputable def GN:T->Option T
 |.none=>some .none
 |.dict ks vs=>some (.dict ks vs)
 |_=>.none
noncomputable def mkV(a b c:T):Option T:=(sOf a).bind fun k=>(lOf b).bind fun l=>(GN c).map fun c=>.vec k (.list l) c
noncomputable def j8:List T->Option T
 | [a,b]=>mkV a b .none
 | [a,b,c]=>mkV a b c
 |_=>.none
noncomputable def lI:List T->Option (List T)
 | [b]=>(iOf b).bind fun b=>hH 0 b 1
 | [a,b]=>(iOf a).bind fun a=>(iOf b).bind fun b=>hH a b 1
 | [a,b,c]=>(iOf a).bind fun a=>(iOf b).bind fun b=>(iOf c).bind fun c=>hH a b c
 |_=>.none
noncomputable def yS(c:Cm)(a b:T):Option Bool:=match a with
 |.int a=>(iOf b).map fun b=>cmI c a b
 |.str a=>(sOf b).bind fun b=>cmS c a b
 |_=>.none
noncomputable def hZ(o:Bo)(a b:T):Option T:=match a with
 |.int a=>(iOf b).bind fun b=>biI o a b
 |.str a=>match o with
  |.add=>(sOf b).bind fun b=>(Bi a b).map .str
  |_=>.none
 |.list a=>match o with
  |.add=>(lOf b).bind fun b=>if a.length+b.length<=lim then some (.list (a++b))else .none
  |.mul=>(iOf b).bind fun n=>if 0<=n/\n<=100/\a.length=1 then some (.list (List.replicate n.toNat (a.getD 0 .none)))else .none
  |_=>.none
 |_=>.none
noncomputable def bF(t k:T):Option T:=match t with
 |.list ts=>(iOf k).bind fun i=>(place i ts.length).bind fun j=>ts[j]?
 |.tup ts=>(iOf k).bind fun i=>(place i ts.length).bind fun j=>ts[j]?
 |.dict ks vs=>(bG k).bind fun k=>cJ k ks vs
 |_=>.none
@[reducible]noncomputable def opt{α β:Type}(o:Option α)(f:α->M β):M β:=match o with
 |some a=>f a
 |.none=>sd
@[reducible]noncomputable def cnd{α:Type}(t:T)(a b:M α):M α:=opt (bOf t) fun q=>match q with
 |true=>a
 |false=>b
@[reducible]noncomputable def iff{α:Type}(c:Bool)(m:M α):M α:=match c with
 |true=>m
 |false=>sd
section
variable(C:Nat->List T->M LV)
noncomputable def HL(m:M LV):M T:=bnd m fun v=>lft (frz v)
noncomputable def lq:X->Option Nat
 |.var i=>some i
 |_=>.none
noncomputable def opd(ρ:aE)(x:X)(m:M T):M T:=match lq x with
 |some i=>lft (cU (ρ i))
 |.none=>m
mutual
noncomputable def evX(ρ:aE):X->M T
 |.none=>pur .none
 |.bool b=>pur (.bool b)
 |.int i=>pur (.int i)
 |.str s=>pur (.str s)
 |.powc a b=>iff (a==10&&b==18) (pur (.int 1000000000000000000))
 |.var i=>lft (cI (ρ i))
 |.gfn f=>pur (.fn f)
 |.len x=>bnd (opd ρ x (evX ρ x)) fun t=>lft ((cL t).map fun(n:Nat)=>T.int (n:Int))
 |.abs x=>bnd (evX ρ x) fun t=>opt (iOf t) fun i=>pur (.int i.natAbs)
 |.neg x=>bnd (evX ρ x) fun t=>opt (iOf t) fun i=>pur (.int (-i))
 |.max a b=>bnd (evX ρ a) fun a=>bnd (evX ρ b) fun b=>opt (iOf a) fun a=>opt (iOf b) fun b=>pur (.int (if b>a then b else a))
 |.str1 x=>bnd (evX ρ x) fun t=>lft (tj t)
 |.sum x=>bnd (evX ρ x) fun t=>opt (lOf t) fun ts=>lft ((oP ts 0).map .int)
 |.sorted x=>bnd (opd ρ x (evX ρ x)) fun t=>opt (lOf t) fun ts=>lft ((dD ts).map .list)
 |.sortedSet x=>bnd (evX ρ x) fun t=>opt (lOf t) fun ts=>iff (Cp ts) (lft ((pU ts).bind fun us=>(dD us).map .list))
 |.lenSet x=>bnd (evX ρ x) fun t=>opt (lOf t) fun ts=>lft ((pU ts).map fun us=>.int us.length)
 |.listOf x=>bnd (evX ρ x) fun t=>opt (lOf t) fun ts=>iff (decide (ts.length<=lim)) (pur (.list ts))
 |.listR xs=>bnd (d9 ρ xs) fun ts=>lft ((lI ts).map .list)
 |.isNone x=>bnd (evX ρ x) fun t=>pur (.bool (aZ t))
 |.notNone x=>bnd (evX ρ x) fun t=>pur (.bool !(aZ t))
 |.isVec x=>bnd (evX ρ x) fun t=>opt (vOf t) fun _=>pur (.bool true)
 |.isList x=>bnd (evX ρ x) fun t=>opt (bOf t) fun _=>pur (.bool false)
 |.cmp c a b=>bnd (evX ρ a) fun a=>bnd (evX ρ b) fun b=>lft ((yS c a b).map .bool)
 |.eq a b=>bnd (evX ρ a) fun a=>bnd (evX ρ b) fun b=>lft ((eqT a b).map .bool)
 |.ne a b=>bnd (evX ρ a) fun a=>bnd (evX ρ b) fun b=>lft ((eqT a b).map fun r=>.bool !r)
 |.isIn a b=>bnd (evX ρ a) fun a=>bnd (opd ρ b (evX ρ b)) fun b=>lft ((inT a b).map .bool)
 |.notIn a b=>bnd (evX ρ a) fun a=>bnd (opd ρ b (evX ρ b)) fun b=>lft ((inT a b).map fun r=>.bool !r)
 |.and xs=>mC ρ xs
 |.or xs=>ur ρ xs
 |.not x=>bnd (evX ρ x) fun t=>opt (bOf t) fun q=>pur (.bool !q)
 |.ite c a b=>bnd (evX ρ c) fun t=>cnd t (evX ρ a) (evX ρ b)
 |.bin o a b=>bnd (evX ρ a) fun a=>bnd (evX ρ b) fun b=>lft (hZ o a b)
 |.attr x f=>bnd (evX ρ x) fun t=>lft (cQ f t)
 |.idx x k=>bnd (opd ρ x (evX ρ x)) fun t=>bnd (evX ρ k) fun k=>lft (bF t k)
 |.get x k=>bnd (opd ρ x (evX ρ x)) fun t=>opt (dOf t) fun d=>bnd (evX ρ k) fun k=>opt (bG k) fun k=>pur ((cJ k d.1 d.2).getD .none)
 |.getD x k d=>bnd (opd ρ x (evX ρ x)) fun t=>opt (dOf t) fun e=>bnd (evX ρ k) fun k=>bnd (evX ρ d) fun d=>opt (bG k) fun k=>pur ((cJ k e.1 e.2).getD d)
 |.sliceTo x n=>bnd (evX ρ x) fun t=>bnd (evX ρ n) fun n=>opt (lOf t) fun ts=>opt (nC n) fun n=>iff (decide (ts.length<=lim)) (pur (.list (ts.take n)))
 |.sliceFrom x n=>bnd (evX ρ x) fun t=>bnd (evX ρ n) fun n=>opt (lOf t) fun ts=>opt (nC n) fun n=>iff (decide (ts.length<=lim)) (pur (.list (ts.drop n)))
 |.list xs=>bnd (d9 ρ xs) fun ts=>pur (.list ts)
 |.tup xs=>bnd (d9 ρ xs) fun ts=>pur (.tup ts)
 |.mkVec xs=>bnd (d9 ρ xs) fun ts=>lft (j8 ts)
 |.call f xs=>bnd (d9 ρ xs) fun ts=>HL (C f ts)
 |.callV i xs=>opt (A1 (ρ i)) fun f=>bnd (d9 ρ xs) fun ts=>HL (C f ts)
 |.comp i it cs e=>bnd (evI ρ it) fun ts=>bnd (gI (fun t=>bnd (evC (upd ρ i (.fr t)) cs) fun ok=>match ok with|true=>bnd (evX (upd ρ i (.fr t)) e) fun v=>pur (some v)|false=>pur .none) ts) fun rs=>pur (.list rs)
 |.comp2 i it j=>bnd (evI ρ it) fun ts=>lft ((qR ts).bind fun us=>if us.length<=lim then some (.list us)else .none)
 |.join s x=>bnd (evX ρ x) fun t=>opt (lOf t) fun ts=>lft ((nh ts).bind fun l=>if(l.map (·.length)).sum+l.length*s.length<=iq then some (.str (Str.join s l))else .none)
 |.fpair a s b=>bnd (evX ρ a) fun a=>bnd (evX ρ b) fun b=>opt (iOf a) fun i=>opt (sOf b) fun t=>iff (small i&&decide ((cG i).length+s.length+t.length<=iq)) (pur (.str (cG i++s++t)))
 |.countOf x y=>bnd (opd ρ x (evX ρ x)) fun t=>opt (lOf t) fun ts=>bnd (evX ρ y) fun y=>lft ((DX y ts).map fun(n:Nat)=>T.int (n:Int))
 |.indexOf x y=>bnd (opd ρ x (evX ρ x)) fun t=>bnd (evX ρ y) fun y=>opt (lE t) fun ts=>lft ((He y ts).bind fun r=>r.map fun(n:Nat)=>T.int (n:Int))
 |.handGet i k=>opt (iL (ρ i)) fun _ h=>(h[k]?).map fun t=>(t,h)
 |.stuck=>sd
noncomputable def d9(ρ:aE):List X->M (List T)
 | []=>pur []
 |x::xs=>bnd (evX ρ x) fun t=>bnd (d9 ρ xs) fun ts=>pur (t::ts)
noncomputable def mC(ρ:aE):List X->M T
 | []=>pur (.bool true)
 |x::xs=>bnd (evX ρ x) fun t=>cnd t (mC ρ xs) (pur (.bool false))
noncomputable def ur(ρ:aE):List X->M T
 | []=>pur (.bool false)
 |x::xs=>bnd (evX ρ x) fun t=>cnd t (pur (.bool true)) (ur ρ xs)
noncomputable def evC(ρ:aE):List X->M Bool
 | []=>pur true
 |x::xs=>bnd (evX ρ x) fun t=>cnd t (evC ρ xs) (pur false)
noncomputable def evI(ρ:aE):It->M (List T)
 |.val x=>bnd (evX ρ x) fun t=>lft (fN t)
 |.rev x=>bnd (evX ρ x) fun t=>opt (lOf t) fun ts=>iff (decide (ts.length<=lim)) (pur ts.reverse)
 |.range xs=>bnd (d9 ρ xs) fun ts=>lft (lI ts)
end
noncomputable def aS(as:List T):aE:=fun i=>match as[i]? with|some t=>.fr t|.none=>.unset
noncomputable def rG:List T->M Unit:=fun ts h=>match h,ts with| [],_::_=>some ((),ts)|_,_=>.none
noncomputable def iK:List Str->Bool
 | []=>true
 |a::r=> !(r.any (· ==a))&&iK r
mutual
noncomputable def evS(ρ:aE):S->M Fl
 |.asg i x=>bnd (evX C ρ x) fun t=>pur (.nxt (upd ρ i (.fr t)))
 |.newL i xs=>bnd (d9 C ρ xs) fun ts=>pur (.nxt (upd ρ i (.ol ts)))
 |.newD i=>pur (.nxt (upd ρ i (.od [] [])))
 |.newDL i=>pur (.nxt (upd ρ i (.odl [] [])))
 |.newMul i a n=>bnd (evX C ρ a) fun a=>bnd (evX C ρ n) fun n=>opt (iOf n) fun n=>iff (decide (0<=n/\n<=100)) (pur (.nxt (upd ρ i (.ol (List.replicate n.toNat a)))))
 |.newSorted i x=>bnd (opd ρ x (evX C ρ x)) fun t=>opt (lOf t) fun ts=>opt (dD ts) fun us=>pur (.nxt (upd ρ i (.ol us)))
 |.newComp i j it cs e=>bnd (evI C ρ it) fun ts=>bnd (gI (fun t=>bnd (evC C (upd ρ j (.fr t)) cs) fun ok=>match ok with|true=>bnd (evX C (upd ρ j (.fr t)) e) fun v=>pur (some v)|false=>pur .none) ts) fun rs=>pur (.nxt (upd ρ i (.ol rs)))
 |.newV i xs=>bnd (d9 C ρ xs) fun ts=>opt (two ts) fun p=>opt (sOf p.1) fun k=>opt (lOf p.2) fun l=>pur (.nxt (upd ρ i (.ov k (.list l) .none)))
 |.newHand i xs=>bnd (d9 C ρ xs) fun ts=>bnd (rG ts) fun _=>pur (.nxt (upd ρ i (.fr .hand)))
 |.asgO i f xs=>bnd (d9 C ρ xs) fun ts=>bnd (C f ts) fun v=>pur (.nxt (upd ρ i v))
 |.freeze i=>opt (frz (ρ i)) fun t=>pur (.nxt (upd ρ i (.fr t)))
 |.unpack2 i j x=>bnd (evX C ρ x) fun t=>opt ((lE t).bind two) fun p=>pur (.nxt (upd (upd ρ i (.fr p.1)) j (.fr p.2)))
 |.aug i o x=>match o with
  |.add=>opt ((cI (ρ i)).bind iOf) fun a=>bnd (evX C ρ x) fun t=>opt (iOf t) fun b=>pur (.nxt (upd ρ i (.fr (.int (a+b)))))
  |_=>sd
 |.append i x=>bnd (evX C ρ x) fun t=>opt (gT (ρ i)) fun ts=>iff (decide (ts.length<lim)) (pur (.nxt (upd ρ i (.ol (ts++[t])))))
 |.extend i x=>bnd (evX C ρ x) fun t=>opt (lOf t) fun us=>opt (gT (ρ i)) fun ts=>iff (decide (ts.length+us.length<=lim)) (pur (.nxt (upd ρ i (.ol (ts++us)))))
 |.reverse i=>opt (gT (ρ i)) fun ts=>iff (decide (ts.length<=lim)) (pur (.nxt (upd ρ i (.ol ts.reverse))))
 |.store i k v=>bnd (evX C ρ v) fun v=>bnd (evX C ρ k) fun k=>opt (bG k) fun k=>opt (qj (ρ i)) fun d=>iff (decide (d.1.length<lim)) (pur (.nxt (upd ρ i (.od (dN k v d.1 d.2).1 (dN k v d.1 d.2).2))))
 |.augItem i k x=>bnd (evX C ρ k) fun k=>bnd (evX C ρ x) fun x=>opt (iOf x) fun x=>opt (gT (ρ i)) fun ts=>opt (nC k) fun j=>opt ((ts[j]?).bind iOf) fun a=>pur (.nxt (upd ρ i (.ol (ts.set j (.int (a+x))))))
 |.sdApp i k v=>bnd (evX C ρ k) fun k=>opt (bG k) fun k=>bnd (evX C ρ v) fun v=>opt (vA (ρ i)) fun d=>iff (decide (d.1.length<lim)&&d.2.all (fun l=>decide (l.length<lim))) (pur (.nxt (upd ρ i (.odl (gG k v d.1 d.2).1 (gG k v d.1 d.2).2))))
 |.appSd i j k v=>bnd (evX C ρ k) fun k=>bnd (evX C ρ v) fun v=>opt (bG k) fun k=>opt (gT (ρ i)) fun ts=>opt (qj (ρ j)) fun d=>iff (decide (d.1.length<lim)&&decide (ts.length<lim)) (match cJ k d.1 d.2 with
   |some u=>pur (.nxt (upd ρ i (.ol (ts++[u]))))
   |.none=>pur (.nxt (upd (upd ρ j (.od (d.1++[k]) (d.2++[v]))) i (.ol (ts++[v])))))
 |.setAttrs i ks xs=>bnd (d9 C ρ xs) fun ts=>opt (vu (ρ i)) fun v=>iff (v.2.2.isNone&&iK ks&&decide (ks.length=ts.length)) (pur (.nxt (upd ρ i (.ov v.1 v.2.1 (some (ks.map .s,ts))))))
 |.setAttrItem i k x=>bnd (evX C ρ x) fun t=>opt (vu (ρ i)) fun v=>opt v.2.2 fun d=>iff (decide (d.1.length<lim)) (pur (.nxt (upd ρ i (.ov v.1 v.2.1 (some (dN (.s k) t d.1 d.2))))))
 |.share i=>opt ((cI (ρ i)).bind vOf) fun _=>pur (.nxt ρ)
 |.handSet i k x=>bnd (evX C ρ x) fun t=>opt (iL (ρ i)) fun _ h=>match decide (k<h.length)with|true=>some (.nxt ρ,h.set k t)|false=>.none
 |.ite c a b=>bnd (evX C ρ c) fun t=>cnd t (evB ρ a) (evB ρ b)
 |.whl n c b=>pP (fun ρ=>bnd (evX C ρ c) fun t=>lft (bOf t)) (fun ρ=>evB ρ b) n ρ
 |.for1 i it b=>bnd (evI C ρ it) fun ts=>kZ (fun t ρ=>evB (upd ρ i (.fr t)) b) ts ρ
 |.for2 i j it b=>bnd (evI C ρ it) fun ts=>kZ (fun t ρ=>opt ((tOf t).bind two) fun p=>evB (upd (upd ρ i (.fr p.1)) j (.fr p.2)) b) ts ρ
 |.ret x=>bnd (evX C ρ x) fun t=>pur (.ret (.fr t))
 |.retO i c=>bnd (evX C ρ c) fun t=>cnd t (opt (vg (ρ i)) fun lv=>pur (.ret lv)) (pur (.ret (.fr .none)))
 |.expr x=>bnd (evX C ρ x) fun t=>opt (nOf t) fun _=>pur (.nxt ρ)
 |.cont=>pur (.cnt ρ)
 |.stuck=>sd
termination_by structural s=>s
noncomputable def evB(ρ:aE):List S->M Fl
 | []=>pur (.nxt ρ)
 |s::r=>bnd (evS ρ s) fun f=>match f with
  |.nxt ρ'=>evB ρ' r
  |.cnt ρ'=>pur (.cnt ρ')
  |.ret v=>pur (.ret v)
termination_by structural l=>l
end
end
structure FnD where
 npar:Nat
 dflt:List T
 body:List S
noncomputable def pad(npar:Nat)(dflt as:List T):List T:=as++dflt.drop (dflt.length+as.length-npar)
noncomputable def Ki:Fl->M LV
 |.ret v=>pur v
 |.nxt _=>pur (.fr .none)
 |.cnt _=>sd
noncomputable def aA(tab:Nat->Option FnD):Nat->Nat->List T->M LV
 |0,_,_=>sd
 |n+1,f,as=>opt (tab f) fun d=>iff (decide ((pad d.npar d.dflt as).length=d.npar)) (bnd (evB (aA tab n) (aS (pad d.npar d.dflt as)) d.body) Ki)
end
noncomputable def s__:Str:=⟨#[45]⟩
noncomputable def s_:Str:=⟨#[]⟩
noncomputable def aG:Str:=⟨#[105,110,116,101,103,101,114]⟩
noncomputable def aP:Str:=⟨#[99,104,97,114,97,99,116,101,114]⟩
noncomputable def nr:Str:=⟨#[78,85,76,76]⟩
noncomputable def pY:Str:=⟨#[108,97,110,103,117,97,103,101]⟩
noncomputable def bS:Str:=⟨#[108,111,103,105,99,97,108]⟩
noncomputable def bC:Str:=⟨#[100,111,117,98,108,101]⟩
noncomputable def cN:Str:=⟨#[108,101,118,101,108,115]⟩
noncomputable def gy:Str:=⟨#[102,97,99,116,111,114]⟩
noncomputable def rN:Str:=⟨#[101,110,118,105,114,111,110,109,101,110,116]⟩
noncomputable def iG:Str:=⟨#[110,97,109,101,115]⟩
noncomputable def kf:Str:=⟨#[100,105,109]⟩
noncomputable def iH:Str:=⟨#[99,108,97,115,115]⟩
noncomputable def fQ:Str:=⟨#[108,105,115,116]⟩
noncomputable def eh:Str:=⟨#[101,120,112,114,101,115,115,105,111,110]⟩
noncomputable def pX:Str:=⟨#[112,97,105,114,108,105,115,116]⟩
noncomputable def Ay:Str:=⟨#[78,65]⟩
noncomputable def Cz:Str:=⟨#[61]⟩
noncomputable def cM:Str:=⟨#[114,111,119,46,110,97,109,101,115]⟩
noncomputable def lH:Str:=⟨#[100,97,116,97,46,102,114,97,109,101]⟩
noncomputable def gA:Str:=⟨#[100,105,109,110,97,109,101,115]⟩
noncomputable def s__xx:Str:=⟨#[46]⟩
noncomputable def s__xxx:Str:=⟨#[58]⟩
noncomputable def s_u:Str:=⟨#[117]⟩
noncomputable def s_v:Str:=⟨#[118]⟩
noncomputable def s_z:Str:=⟨#[122]⟩
noncomputable def s_a:Str:=⟨#[97]⟩
noncomputable def s_m:Str:=⟨#[109]⟩
noncomputable def s_g:Str:=⟨#[103]⟩
noncomputable def s_h:Str:=⟨#[104]⟩
noncomputable def s_s:Str:=⟨#[115]⟩
noncomputable def pD:Str:=⟨#[46,120]⟩
noncomputable def Fi:Str:=⟨#[46,121]⟩
noncomputable def bU:Str:=⟨#[102,97,99,116,111,114,32,108,101,118,101,108,115]⟩
noncomputable def zc:List S:=[
 .ite (.isNone (.var 0)) [.stuck] [],
 .ret (.tup [.var 0,.int 1])]
noncomputable def xY:List (Str×Nat):=[("n",0)]
noncomputable def uH:List S:=[
 .asg 1 (.abs (.var 0)),
 .newL 2 [],
 .whl 40 (.cmp .ge (.var 1) (.powc 10 18)) [.stuck],
 .append 2 (.str1 (.var 1)),
 .ite (.cmp .lt (.var 0) (.int 0)) [.append 2 (.str s__)] [],
 .reverse 2,
 .freeze 2,
 .ret (.join s_ (.var 2))]
noncomputable def tL:List (Str×Nat):=[("n",0),("rest",1),("row",2),("part",3)]
noncomputable def rC:List S:=[
 .ite (.isNone (.var 0)) [.stuck] [],
 .ite (.cmp .gt (.idx (.var 0) (.int 1)) (.int 0)) [.ret .none] [],
 .stuck]
noncomputable def qq:List (Str×Nat):=[("x",0)]
noncomputable def uK:List S:=[
 .asg 1 (.call 2 [.var 0]),
 .ite (.notNone (.var 1)) [.stuck] [],
 .ite (.eq (.idx (.var 0) (.int 1)) (.int 1)) [.ret (.call 1 [.idx (.var 0) (.int 0)])] [],
 .stuck]
noncomputable def tY:List (Str×Nat):=[("x",0),("text",1),("places",2),("n",3)]
noncomputable def j0:List S:=[
 .ret (.mkVec [.str aG,.listOf (.var 0)])]
noncomputable def AM:List (Str×Nat):=[("items",0)]
noncomputable def jK:List S:=[
 .ret (.mkVec [.str aP,.listOf (.var 0)])]
noncomputable def vP:List (Str×Nat):=[("items",0)]
noncomputable def rD:List S:=[
 .asg 1 (.attr (.var 0) .kind),
 .ite (.eq (.var 1) (.str nr)) [.stuck] [],
 .ite (.or [.isVec (.var 0),.eq (.var 1) (.str pY)]) [.ret (.len (.attr (.var 0) .items))] [],
 .stuck]
noncomputable def CY:List (Str×Nat):=[("v",0),("kind",1)]
noncomputable def wX:List S:=[
 .ret (.isIn (.attr (.var 0) .kind) (.tup [.str bS,.str aG,.str bC,.str aP]))]
noncomputable def vO:List (Str×Nat):=[("v",0)]
noncomputable def GK:List S:=[
 .ite (.isVec (.var 0)) [.share 0] [],
 .ret (.var 0)]
noncomputable def Fv:List (Str×Nat):=[("v",0)]
noncomputable def zb:List S:=[
 .ite (.isNone (.attr (.var 0) .attrs)) [.ret .none] [],
 .ret (.get (.attr (.var 0) .attrs) (.var 1))]
noncomputable def xX:List (Str×Nat):=[("v",0),("name",1)]
noncomputable def iT:List S:=[
 .ite (.or [.isNone (.var 1),.eq (.var 0) (.str aP)]) [.ret (.var 1)] [],
 .ite (.eq (.var 0) (.str bS)) [.stuck] [],
 .ite (.eq (.var 0) (.str aG)) [.ret (.str1 (.var 1))] [],
 .stuck]
noncomputable def tR:List (Str×Nat):=[("kind",0),("item",1)]
noncomputable def y9:List S:=[
 .ite (.or [.isNone (.var 1),.cmp .lt (.var 1) (.int 1),.cmp .gt (.var 1) (.len (.var 0))]) [.ret .none] [],
 .ret (.idx (.var 0) (.bin .sub (.var 1) (.int 1)))]
noncomputable def xV:List (Str×Nat):=[("texts",0),("code",1)]
noncomputable def eG:List S:=[
 .asg 1 (.call 9 [.var 0,.str cN]),
 .ite (.and [.notNone (.var 1),.eq (.attr (.var 0) .kind) (.str aG),.isIn (.str gy) (.call 15 [.var 0])]) [.asg 2 (.ite (.call 7 [.var 1]) (.call 12 [.var 1]) (.list [])),.ret (.comp 3 (.val (.attr (.var 0) .items)) [] (.call 11 [.var 2,.var 3]))] [],
 .ret (.comp 4 (.val (.attr (.var 0) .items)) [] (.call 10 [.attr (.var 0) .kind,.var 4]))]
noncomputable def rR:List (Str×Nat):=[("value",0),("levels",1),("texts",2)]
noncomputable def y8:List S:=[
 .ite (.eq (.attr (.var 0) .kind) (.str pY)) [.stuck] [],
 .ite (.eq (.attr (.var 0) .kind) (.str rN)) [.stuck] [],
 .asg 2 (.call 14 [.var 0]),
 .ite (.and [.notNone (.var 2),.eq (.len (.var 2)) (.int 1)]) [.stuck] [],
 .asg 4 (.call 9 [.var 0,.str iG]),
 .ite (.isNone (.var 4)) [.ret .none] [],
 .ret (.listOf (.attr (.var 4) .items))]
noncomputable def xU:List (Str×Nat):=[("v",0),("tag",1),("dims",2),("rows",3),("names",4)]
noncomputable def El:List S:=[
 .asg 1 (.call 9 [.var 0,.str kf]),
 .ite (.isNone (.var 1)) [.ret .none] [],
 .stuck]
noncomputable def CZ:List (Str×Nat):=[("v",0),("dims",1)]
noncomputable def uL:List S:=[
 .asg 1 (.call 9 [.var 0,.str iH]),
 .ite (.isNone (.var 1)) [.ret (.list [])] [],
 .ret (.listOf (.attr (.var 1) .items))]
noncomputable def tZ:List (Str×Nat):=[("v",0),("found",1)]
noncomputable def uI:List S:=[
 .asg 1 (.tup [.str nr,.str bS,.str aG,.str bC,.str aP,.str fQ,.str eh]),
 .ite (.isIn (.var 0) (.var 1)) [.ret (.indexOf (.var 1) (.var 0))] [],
 .stuck]
noncomputable def tS:List (Str×Nat):=[("kind",0),("kinds",1)]
noncomputable def ig:List S:=[
 .asg 1 (.tup [.str nr,.str bS,.str aG,.str bC,.str aP,.str fQ,.str eh]),
 .asg 2 (.int 0),
 .for1 3 (.val (.var 0)) [.asg 2 (.max (.var 2) (.call 16 [.var 3]))],
 .ret (.idx (.var 1) (.var 2))]
noncomputable def rV:List (Str×Nat):=[("kinds",0),("names",1),("most",2),("kind",3)]
noncomputable def wT:List S:=[
 .ite (.or [.eq (.var 0) (.str bC),.isNone (.var 1)]) [.ret (.var 1)] [],
 .ite (.eq (.var 0) (.str aP)) [.stuck] [],
 .ret (.call 0 [.var 1])]
noncomputable def vF:List (Str×Nat):=[("kind",0),("item",1),("notes",2)]
noncomputable def Br:List S:=[
 .ite (.eq (.var 0) (.var 2)) [.stuck] [],
 .ite (.or [.eq (.var 2) (.str fQ),.eq (.var 2) (.str eh),.eq (.var 2) (.str pX)]) [.stuck] [],
 .ite (.not (.call 20 [.var 0])) [.stuck] [],
 .ite (.eq (.var 2) (.str bS)) [.stuck] [],
 .ite (.eq (.var 2) (.str aG)) [.stuck] [],
 .ite (.eq (.var 2) (.str bC)) [.ret (.call 18 [.var 0,.var 1,.var 3])] [],
 .stuck]
noncomputable def AL:List (Str×Nat):=[("kind",0),("item",1),("to",2),("notes",3)]
noncomputable def oj:List S:=[
 .ret (.isIn (.var 0) (.tup [.str bS,.str aG,.str bC,.str aP]))]
noncomputable def nH:List (Str×Nat):=[("kind",0)]
noncomputable def uG:List S:=[
 .ite (.notNone (.var 1)) [.stuck] [],
 .ret (.var 0)]
noncomputable def tK:List (Str×Nat):=[("v",0),("names",1)]
noncomputable def om:List S:=[
 .ite (.not (.isVec (.var 0))) [.stuck] [],
 .asg 3 (.attr (.var 0) .items),
 .ite (.ne (.attr (.var 0) .kind) (.var 1)) [.asg 3 (.comp 4 (.val (.attr (.var 0) .items)) [] (.call 19 [.attr (.var 0) .kind,.var 4,.var 1,.var 2]))] [],
 .ret (.call 21 [.mkVec [.var 1,.listOf (.var 3)],.call 13 [.var 0]])]
noncomputable def AN:List (Str×Nat):=[("v",0),("kind",1),("notes",2),("items",3)]
noncomputable def iV:List S:=[
 .ret (.or [.isNone (.var 1),.and [.eq (.var 0) (.str bC),.eq (.var 1) (.tup [.int 0,.int 0])]])]
noncomputable def tW:List (Str×Nat):=[("kind",0),("item",1)]
noncomputable def eJ:List S:=[
 .ite (.eq (.var 0) (.str bC)) [.stuck] [],
 .ite (.cmp .lt (.var 1) (.var 2)) [.ret (.neg (.int 1))] [],
 .ite (.cmp .gt (.var 1) (.var 2)) [.ret (.int 1)] [],
 .ret (.int 0)]
noncomputable def o3:List (Str×Nat):=[("kind",0),("a",1),("b",2)]
noncomputable def fG:List S:=[
 .ite (.notIn (.attr (.var 0) .kind) (.tup [.str bS,.str aG,.str bC,.str aP])) [.stuck] []]
noncomputable def nN:List (Str×Nat):=[("v",0)]
noncomputable def fF:List S:=[
 .asg 5 (.idx (.attr (.var 0) .items) (.var 1)),
 .asg 6 (.idx (.attr (.var 0) .items) (.var 2)),
 .asg 7 (.call 23 [.attr (.var 0) .kind,.var 5]),
 .asg 8 (.call 23 [.attr (.var 0) .kind,.var 6]),
 .ite (.and [.var 7,.var 8]) [.stuck] [],
 .ite (.var 7) [.stuck] [],
 .ite (.var 8) [.stuck] [],
 .asg 9 (.call 24 [.attr (.var 0) .kind,.var 5,.var 6]),
 .ret (.ite (.var 3) (.neg (.var 9)) (.var 9))]
noncomputable def nM:List (Str×Nat):=[("v",0),("i",1),("j",2),("decreasing",3),("na_last",4),("left",5),("right",6),("left_lacking",7),("right_lacking",8),("result",9)]
noncomputable def gP:List S:=[
 .for1 5 (.range [.len (.var 0)]) [.asg 6 (.call 26 [.idx (.var 0) (.var 5),.var 1,.var 2,.idx (.var 3) (.var 5),.var 4]),.ite (.ne (.var 6) (.int 0)) [.ret (.var 6)] []],
 .ret (.int 0)]
noncomputable def qu:List (Str×Nat):=[("vs",0),("i",1),("j",2),("decreasing",3),("na_last",4),("number",5),("result",6)]
noncomputable def mU:List S:=[
 .newL 5 [],
 .asg 6 (.int 0),
 .asg 7 (.int 0),
 .whl 40 (.and [.cmp .lt (.var 6) (.len (.var 0)),.cmp .lt (.var 7) (.len (.var 1))]) [.ite (.cmp .le (.call 27 [.var 2,.idx (.var 0) (.var 6),.idx (.var 1) (.var 7),.var 3,.var 4]) (.int 0)) [.append 5 (.idx (.var 0) (.var 6)),.aug 6 .add (.int 1)] [.append 5 (.idx (.var 1) (.var 7)),.aug 7 .add (.int 1)]],
 .freeze 5,
 .ret (.bin .add (.bin .add (.var 5) (.sliceFrom (.var 0) (.var 6))) (.sliceFrom (.var 1) (.var 7)))]
noncomputable def tP:List (Str×Nat):=[("left",0),("right",1),("vs",2),("decreasing",3),("na_last",4),("merged",5),("i",6),("j",7)]
noncomputable def gd:List S:=[
 .asg 4 (.comp 7 (.val (.var 0)) [] (.list [.var 7])),
 .ite (.eq (.len (.var 4)) (.int 0)) [.ret (.list [])] [],
 .whl 40 (.cmp .gt (.len (.var 4)) (.int 1)) [.newL 5 [],.for1 6 (.range [.int 0,.bin .sub (.len (.var 4)) (.int 1),.int 2]) [.append 5 (.call 28 [.idx (.var 4) (.var 6),.idx (.var 4) (.bin .add (.var 6) (.int 1)),.var 1,.var 2,.var 3])],.ite (.eq (.bin .mod (.len (.var 4)) (.int 2)) (.int 1)) [.append 5 (.idx (.var 4) (.neg (.int 1)))] [],.freeze 5,.asg 4 (.var 5)],
 .ret (.idx (.var 4) (.int 0))]
noncomputable def tO:List (Str×Nat):=[("places",0),("vs",1),("decreasing",2),("na_last",3),("runs",4),("longer",5),("at",6)]
noncomputable def zd:List S:=[
 .ite (.isList (.var 0)) [.stuck] [],
 .ret (.bin .mul (.list [.var 0]) (.var 1))]
noncomputable def xZ:List (Str×Nat):=[("decreasing",0),("count",1)]
noncomputable def ib:List S:=[
 .newL 2 [],
 .for1 3 (.range [.call 6 [.idx (.var 0) (.int 0)]]) [.asg 4 (.bool true),.ite (.isNone (.var 1)) [.stuck] [],.ite (.var 4) [.append 2 (.var 3)] []],
 .freeze 2,
 .ret (.var 2)]
noncomputable def rS:List (Str×Nat):=[("vs",0),("na_last",1),("places",2),("place",3),("keep",4),("v",5)]
noncomputable def lg:List S:=[
 .ite (.eq (.len (.var 0)) (.int 0)) [.stuck] [],
 .for1 3 (.val (.var 0)) [.expr (.call 25 [.var 3]),.ite (.ne (.call 6 [.var 3]) (.call 6 [.idx (.var 0) (.int 0)])) [.stuck] []],
 .asg 4 (.call 30 [.var 1,.len (.var 0)]),
 .ret (.call 29 [.call 31 [.var 0,.var 2],.var 0,.var 4,.or [.isNone (.var 2),.var 2]])]
noncomputable def xT:List (Str×Nat):=[("vs",0),("decreasing",1),("na_last",2),("v",3),("flags",4)]
noncomputable def za:List S:=[
 .ite (.isNone (.var 1)) [.ret (.str Ay)] [],
 .ite (.eq (.var 0) (.str aP)) [.ret (.bin .add (.str Cz) (.var 1))] [],
 .ite (.eq (.var 0) (.str bC)) [.stuck] [],
 .ret (.str1 (.var 1))]
noncomputable def xW:List (Str×Nat):=[("kind",0),("item",1)]
noncomputable def wV:List S:=[
 .ret (.isIn (.attr (.var 0) .kind) (.tup [.str fQ,.str eh,.str pX]))]
noncomputable def vM:List (Str×Nat):=[("v",0)]
noncomputable def gO:List S:=[
 .ite (.call 34 [.var 0]) [.stuck] [],
 .newD 5,
 .newL 2 [],
 .for1 3 (.range [.len (.attr (.var 0) .items)]) [.appSd 2 5 (.call 33 [.attr (.var 0) .kind,.idx (.attr (.var 0) .items) (.var 3)]) (.var 3)],
 .freeze 2,
 .ret (.var 2)]
noncomputable def qt:List (Str×Nat):=[("v",0),("kept",1),("found",2),("place",3),("first",4),("known",5)]
noncomputable def fS:List S:=[
 .asg 1 (.call 35 [.var 0]),
 .ret (.comp 2 (.range [.len (.var 1)]) [.eq (.idx (.var 1) (.var 2)) (.var 2)] (.var 2))]
noncomputable def oT:List (Str×Nat):=[("v",0),("firsts",1)]
noncomputable def kD:List S:=[
 .newD 2,
 .for1 3 (.val (.var 0)) [.store 2 (.var 3) (.bool true)],
 .newD 4,
 .newD 5,
 .newL 6 [],
 .for1 3 (.val (.var 0)) [.ite (.notIn (.var 3) (.var 4)) [.store 4 (.var 3) (.bool true),.append 6 (.var 3),.cont] [],.asg 7 (.getD (.var 5) (.var 3) (.int 1)),.whl 40 (.isIn (.bin .add (.bin .add (.var 3) (.var 1)) (.str1 (.var 7))) (.var 2)) [.stuck],.asg 8 (.bin .add (.bin .add (.var 3) (.var 1)) (.str1 (.var 7))),.store 5 (.var 3) (.bin .add (.var 7) (.int 1)),.store 2 (.var 8) (.bool true),.store 4 (.var 8) (.bool true),.append 6 (.var 8)],
 .freeze 6,
 .ret (.var 6)]
noncomputable def rQ:List (Str×Nat):=[("names",0),("sep",1),("taken",2),("name",3),("seen",4),("counts",5),("found",6),("number",7),("fresh",8)]
noncomputable def wW:List S:=[
 .ret (.and [.eq (.attr (.var 0) .kind) (.str aG),.isIn (.str gy) (.call 15 [.var 0]),.isIn (.str cN) (.attr (.var 0) .attrs),.call 7 [.idx (.attr (.var 0) .attrs) (.str cN)]])]
noncomputable def vN:List (Str×Nat):=[("v",0)]
noncomputable def wU:List S:=[
 .newV 3 [.str fQ,.comp 4 (.val (.var 0)) [] (.call 8 [.var 4])],
 .setAttrs 3 [iG,iH,cM] [.call 5 [.var 1],.call 5 [.list [.str lH]],.var 2],
 .freeze 3,
 .ret (.var 3)]
noncomputable def vJ:List (Str×Nat):=[("columns",0),("names",1),("row_labels",2),("made",3)]
noncomputable def iQ:List S:=[
 .ret (.call 4 [.listR [.int 1,.bin .add (.var 0) (.int 1)]])]
noncomputable def tM:List (Str×Nat):=[("count",0)]
noncomputable def gf:List S:=[
 .ite (.or [.isNone (.attr (.var 0) .attrs),.notIn (.str cM) (.attr (.var 0) .attrs)]) [.stuck] [],
 .ret (.len (.attr (.idx (.attr (.var 0) .attrs) (.str cM)) .items))]
noncomputable def tX:List (Str×Nat):=[("df",0)]
noncomputable def rE:List S:=[
 .asg 1 (.call 13 [.var 0]),
 .ret (.ite (.isNone (.var 1)) (.list []) (.comp 2 (.val (.var 1)) [] (.ite (.isNone (.var 2)) (.str Ay) (.var 2))))]
noncomputable def qv:List (Str×Nat):=[("df",0),("names",1)]
noncomputable def jF:List S:=[
 .ite (.eq (.call 41 [.var 0]) (.int 0)) [.stuck] [],
 .ret (.call 12 [.idx (.attr (.var 0) .attrs) (.str cM)])]
noncomputable def vG:List (Str×Nat):=[("df",0)]
noncomputable def fC:List S:=[
 .asg 1 (.idx (.attr (.var 0) .attrs) (.str cM)),
 .ret (.and [.eq (.attr (.var 1) .kind) (.str aG),.eq (.attr (.var 1) .items) (.listR [.int 1,.bin .add (.len (.attr (.var 1) .items)) (.int 1)])])]
noncomputable def nJ:List (Str×Nat):=[("df",0),("labels",1)]
noncomputable def uJ:List S:=[
 .ite (.isNone (.attr (.var 0) .attrs)) [.ret .none] [],
 .newD 1,
 .for1 2 (.val (.attr (.var 0) .attrs)) [.ite (.notIn (.var 2) (.tup [.str iG,.str kf,.str gA])) [.store 1 (.var 2) (.idx (.attr (.var 0) .attrs) (.var 2))] []],
 .retO 1 (.cmp .gt (.len (.var 1)) (.int 0))]
noncomputable def tV:List (Str×Nat):=[("column",0),("kept",1),("name",2)]
noncomputable def iR:List S:=[
 .newL 2 [],
 .asg 3 (.len (.attr (.var 0) .items)),
 .for1 4 (.val (.var 1)) [.ite (.or [.isNone (.var 4),.cmp .ge (.var 4) (.var 3)]) [.stuck] [.append 2 (.idx (.attr (.var 0) .items) (.var 4))]],
 .freeze 2,
 .ret (.mkVec [.attr (.var 0) .kind,.var 2,.call 45 [.var 0]])]
noncomputable def tN:List (Str×Nat):=[("column",0),("places",1),("items",2),("count",3),("place",4)]
noncomputable def eP:List S:=[
 .newL 2 [],
 .for1 3 (.val (.var 0)) [.asg 4 (.len (.attr (.var 3) .items)),.ite (.eq (.var 4) (.var 1)) [.append 2 (.mkVec [.attr (.var 3) .kind,.attr (.var 3) .items,.call 45 [.var 3]])] [.stuck]],
 .freeze 2,
 .ret (.var 2)]
noncomputable def kO:List (Str×Nat):=[("columns",0),("rows",1),("made",2),("column",3),("count",4)]
noncomputable def fU:List S:=[
 .for1 2 (.val (.var 0)) [.asg 3 (.call 13 [.var 2]),.ite (.and [.notNone (.var 3),.eq (.len (.var 3)) (.var 1),.cmp .gt (.var 1) (.int 0)]) [.stuck] []],
 .ret .none]
noncomputable def oV:List (Str×Nat):=[("columns",0),("rows",1),("column",2),("names",3),("distinct",4),("name",5)]
noncomputable def iS:List S:=[
 .asg 3 (.int 0),
 .for1 4 (.val (.var 0)) [.asg 3 (.max (.var 3) (.len (.attr (.var 4) .items)))],
 .ite (.and [.notNone (.var 2),.eq (.len (.var 0)) (.int 0)]) [.stuck] [],
 .asg 5 (.call 47 [.var 0,.var 3]),
 .ite (.isNone (.var 2)) [.asg 6 (.call 48 [.var 0,.var 3]),.asg 2 (.ite (.isNone (.var 6)) (.call 40 [.var 3]) (.call 5 [.var 6]))] [],
 .expr (.call 50 [.var 2,.var 3]),
 .ret (.call 39 [.var 5,.var 1,.var 2])]
noncomputable def tQ:List (Str×Nat):=[("columns",0),("names",1),("row_labels",2),("rows",3),("column",4),("made",5),("found",6)]
noncomputable def eQ:List S:=[
 .ite (.ne (.len (.attr (.var 0) .items)) (.var 1)) [.stuck] [],
 .newD 2,
 .for1 3 (.val (.attr (.var 0) .items)) [.ite (.isNone (.var 3)) [.stuck] [],.ite (.isIn (.var 3) (.var 2)) [.stuck] [],.store 2 (.var 3) (.bool true)]]
noncomputable def kP:List (Str×Nat):=[("labels",0),("rows",1),("seen",2),("item",3)]
noncomputable def fT:List S:=[
 .asg 2 (.idx (.attr (.var 0) .attrs) (.str cM)),
 .asg 3 (.len (.attr (.var 2) .items)),
 .newD 4,
 .asg 5 (.bool false),
 .for1 6 (.val (.var 1)) [.ite (.or [.isNone (.var 6),.cmp .ge (.var 6) (.var 3),.isIn (.var 6) (.var 4)]) [.stuck] [],.store 4 (.var 6) (.bool true)],
 .ite (.not (.var 5)) [.ret (.mkVec [.attr (.var 2) .kind,.comp 9 (.val (.var 1)) [] (.idx (.attr (.var 2) .items) (.var 9))])] [],
 .stuck]
noncomputable def oU:List (Str×Nat):=[("df",0),("places",1),("labels",2),("count",3),("seen",4),("lacks",5),("place",6),("texts",7),("found",8)]
noncomputable def jG:List S:=[
 .asg 2 (.comp 3 (.val (.attr (.var 0) .items)) [] (.call 46 [.var 3,.var 1])),
 .ret (.call 39 [.var 2,.call 42 [.var 0],.call 51 [.var 0,.var 1]])]
noncomputable def vH:List (Str×Nat):=[("df",0),("places",1),("columns",2)]
noncomputable def i5:List S:=[
 .newL 1 [],
 .newD 2,
 .for1 3 (.val (.var 0)) [.asg 4 (.ite (.call 38 [.var 3]) (.attr (.idx (.attr (.var 3) .attrs) (.str cN)) .items) (.call 12 [.var 3])),.for1 5 (.val (.var 4)) [.ite (.and [.notNone (.var 5),.notIn (.var 5) (.var 2)]) [.append 1 (.var 5),.store 2 (.var 5) (.len (.var 1))] []]],
 .newL 6 [],
 .for1 3 (.val (.var 0)) [.for1 5 (.val (.call 12 [.var 3])) [.append 6 (.ite (.isNone (.var 5)) .none (.idx (.var 2) (.var 5)))]],
 .asgO 7 45 [.idx (.var 0) (.int 0)],
 .freeze 1,
 .store 7 (.str cN) (.call 5 [.var 1]),
 .freeze 7,
 .freeze 6,
 .ret (.mkVec [.str aG,.var 6,.var 7])]
noncomputable def oY:List (Str×Nat):=[("parts",0),("levels",1),("known",2),("part",3),("texts",4),("one",5),("codes",6),("attrs",7)]
noncomputable def eI:List S:=[
 .ite (.call 38 [.idx (.var 0) (.int 0)]) [.ret (.call 53 [.var 0])] [],
 .newL 1 [],
 .for1 2 (.val (.var 0)) [.append 1 (.ite (.call 38 [.var 2]) (.call 5 [.call 12 [.var 2]]) (.var 2))],
 .freeze 1,
 .asg 3 (.call 17 [.comp 5 (.val (.var 1)) [] (.attr (.var 5) .kind)]),
 .newL 4 [],
 .for1 2 (.val (.var 1)) [.ite (.eq (.attr (.var 2) .kind) (.var 3)) [.extend 4 (.attr (.var 2) .items)] [.stuck]],
 .freeze 4,
 .ret (.mkVec [.var 3,.var 4,.call 45 [.idx (.var 0) (.int 0)]])]
noncomputable def oZ:List (Str×Nat):=[("parts",0),("plain",1),("part",2),("kind",3),("items",4)]
noncomputable def mV:List S:=[
 .asg 2 (.call 42 [.var 1]),
 .ite (.ne (.len (.var 2)) (.len (.var 0))) [.stuck] [],
 .ite (.eq (.var 2) (.var 0)) [.ret (.attr (.var 1) .items)] [],
 .stuck]
noncomputable def lO:List (Str×Nat):=[("names",0),("df",1),("own",2),("found",3),("name",4)]
noncomputable def fW:List S:=[
 .asg 1 (.int 0),
 .asg 2 (.bool true),
 .newL 3 [],
 .for1 4 (.val (.var 0)) [.asg 5 (.call 41 [.var 4]),.ite (.call 44 [.var 4]) [.extend 3 (.comp 6 (.range [.var 5]) [] (.str1 (.bin .add (.bin .add (.var 1) (.var 6)) (.int 1))))] [.asg 2 (.bool false),.extend 3 (.call 43 [.var 4])],.aug 1 .add (.var 5)],
 .ite (.var 2) [.ret (.call 4 [.listR [.int 1,.bin .add (.var 1) (.int 1)]])] [],
 .freeze 3,
 .ret (.call 5 [.call 37 [.var 3,.str s__xx]])]
noncomputable def oX:List (Str×Nat):=[("frames",0),("total",1),("plain",2),("texts",3),("df",4),("count",5)]
noncomputable def eR:List S:=[
 .asg 1 (.comp 6 (.val (.var 0)) [.cmp .gt (.len (.attr (.var 6) .items)) (.int 0)] (.var 6)),
 .ite (.eq (.len (.var 1)) (.int 0)) [.stuck] [],
 .asg 2 (.call 42 [.idx (.var 1) (.int 0)]),
 .asg 3 (.comp 7 (.val (.var 1)) [] (.call 55 [.var 2,.var 7])),
 .newL 4 [],
 .for1 5 (.range [.len (.var 2)]) [.append 4 (.call 54 [.comp 8 (.val (.var 3)) [] (.idx (.var 8) (.var 5))])],
 .freeze 4,
 .ret (.call 39 [.var 4,.var 2,.call 56 [.var 1]])]
noncomputable def kQ:List (Str×Nat):=[("frames",0),("kept",1),("names",2),("rows",3),("columns",4),("place",5)]
noncomputable def fX:List S:=[
 .ite (.eq (.len (.comp 3 (.val (.var 0)) [.notNone (.var 3)] (.var 3))) (.int 0)) [.stuck] [],
 .newL 1 [],
 .for1 2 (.val (.var 0)) [.append 1 (.ite (.isNone (.var 2)) .stuck (.call 5 [.var 2]))],
 .freeze 1,
 .ret (.mkVec [.str fQ,.var 1])]
noncomputable def o0:List (Str×Nat):=[("rows",0),("items",1),("names",2)]
noncomputable def jH:List S:=[
 .newV 4 [.var 0,.var 1],
 .setAttrs 4 [kf] [.call 4 [.var 2]],
 .asg 5 (.call 58 [.var 3]),
 .ite (.notNone (.var 5)) [.setAttrItem 4 gA (.var 5)] [],
 .freeze 4,
 .ret (.var 4)]
noncomputable def vK:List (Str×Nat):=[("kind",0),("items",1),("extents",2),("names",3),("made",4),("dimnames",5)]
noncomputable def eH:List S:=[
 .ite (.or [.call 38 [.var 0],.isIn (.attr (.var 0) .kind) (.tup [.str aP,.str bS])]) [.ret (.comp 2 (.val (.call 12 [.var 0])) [] (.ite (.isNone (.var 2)) (.str Ay) (.bin .add (.str Cz) (.var 2))))] [],
 .ite (.isIn (.attr (.var 0) .kind) (.tup [.str aG,.str bC])) [.asg 1 (.attr (.call 22 [.var 0,.str bC,.list []]) .items),.ret (.comp 3 (.val (.var 1)) [] (.ite (.isNone (.var 3)) (.str Ay) (.bin .add (.str Cz) (.call 3 [.var 3]))))] [],
 .stuck]
noncomputable def rW:List (Str×Nat):=[("column",0),("numbers",1)]
noncomputable def ld:List S:=[
 .asg 2 (.comp 5 (.val (.var 0)) [] (.call 60 [.var 5])),
 .newL 3 [],
 .for1 4 (.range [.var 1]) [.append 3 (.join s_ (.comp 6 (.val (.var 2)) [] (.fpair (.len (.idx (.var 6) (.var 4))) s__xxx (.idx (.var 6) (.var 4)))))],
 .freeze 3,
 .ret (.var 3)]
noncomputable def xS:List (Str×Nat):=[("columns",0),("rows",1),("parts",2),("found",3),("place",4)]
noncomputable def ze:List S:=[
 .asg 2 (.call 42 [.var 0]),
 .newL 3 [],
 .for1 4 (.val (.var 1)) [.ite (.ne (.countOf (.var 2) (.var 4)) (.int 1)) [.stuck] [],.append 3 (.indexOf (.var 2) (.var 4))],
 .freeze 3,
 .ret (.var 3)]
noncomputable def x6:List (Str×Nat):=[("df",0),("by",1),("names",2),("places",3),("name",4)]
noncomputable def fV:List S:=[
 .newDL 2,
 .for1 3 (.range [.len (.var 1)]) [.sdApp 2 (.idx (.var 1) (.var 3)) (.var 3)],
 .newL 4 [],
 .freeze 2,
 .for1 3 (.range [.len (.var 0)]) [.for1 5 (.val (.getD (.var 2) (.idx (.var 0) (.var 3)) (.list []))) [.append 4 (.tup [.var 3,.var 5])]],
 .freeze 4,
 .ret (.var 4)]
noncomputable def oW:List (Str×Nat):=[("x_keys",0),("y_keys",1),("table",2),("place",3),("pairs",4),("other",5)]
noncomputable def jI:List S:=[
 .asg 4 (.call 63 [.var 0,.var 1]),
 .ite (.var 2) [.stuck] [],
 .ite (.var 3) [.stuck] [],
 .ret (.var 4)]
noncomputable def qr:List (Str×Nat):=[("x_keys",0),("y_keys",1),("all_x",2),("all_y",3),("pairs",4),("place",5)]
noncomputable def iU:List S:=[
 .asg 3 (.call 54 [.list [.var 0,.var 1]]),
 .asg 4 (.len (.attr (.var 0) .items)),
 .newL 5 [],
 .for2 6 7 (.val (.var 2)) [.append 5 (.ite (.isNone (.var 6)) (.bin .add (.var 4) (.var 7)) (.var 6))],
 .freeze 5,
 .ret (.call 46 [.var 3,.var 5])]
noncomputable def tU:List (Str×Nat):=[("x",0),("y",1),("pairs",2),("joined",3),("count",4),("places",5),("place",6),("other",7)]
noncomputable def sv:List S:=[
 .newL 4 [],
 .for1 5 (.val (.var 0)) [.ite (.notIn (.var 5) (.var 2)) [.append 4 (.ite (.isIn (.var 5) (.var 1)) (.bin .add (.var 5) (.var 3)) (.var 5))] []],
 .freeze 4,
 .ret (.var 4)]
noncomputable def rO:List (Str×Nat):=[("names",0),("others",1),("by",2),("suffix",3),("found",4),("name",5)]
noncomputable def y7:List S:=[
 .ret (.mkVec [.attr (.var 0) .kind,.attr (.var 0) .items])]
noncomputable def xQ:List (Str×Nat):=[("column",0)]
noncomputable def fL:List S:=[
 .ite (.or [.var 1,.and [.eq (.len (.var 0)) (.int 1),.not (.call 38 [.idx (.var 0) (.int 0)])]]) [.ret (.comp 6 (.val (.var 0)) [] (.call 67 [.var 6]))] [],
 .ite (.eq (.len (.var 0)) (.int 1)) [.ret (.list [.call 5 [.call 12 [.idx (.var 0) (.int 0)]]])] [],
 .stuck]
noncomputable def rP:List (Str×Nat):=[("columns",0),("by_columns",1),("rows",2),("texts",3),("place",4),("parts",5)]
noncomputable def jJ:List S:=[
 .asg 7 (.call 62 [.var 0,.var 2]),
 .asg 8 (.call 62 [.var 1,.var 2]),
 .ite (.eq (.len (.var 2)) (.int 0)) [.stuck] [.asg 10 (.call 61 [.comp 19 (.val (.var 7)) [] (.idx (.attr (.var 0) .items) (.var 19)),.call 41 [.var 0]]),.asg 11 (.call 61 [.comp 20 (.val (.var 8)) [] (.idx (.attr (.var 1) .items) (.var 20)),.call 41 [.var 1]]),.asg 9 (.call 64 [.var 10,.var 11,.var 3,.var 4])],
 .newL 12 [],
 .for1 13 (.range [.len (.var 2)]) [.append 12 (.call 65 [.idx (.attr (.var 0) .items) (.idx (.var 7) (.var 13)),.idx (.attr (.var 1) .items) (.idx (.var 8) (.var 13)),.var 9])],
 .ite (.and [.cmp .gt (.len (.var 2)) (.int 0),.var 6]) [.freeze 12,.asg 14 (.call 32 [.call 68 [.var 12,.or [.var 3,.var 4]]]),.asg 9 (.comp 21 (.val (.var 14)) [] (.idx (.var 9) (.var 21))),.newComp 12 22 (.val (.var 12)) [] (.call 46 [.var 22,.var 14])] [],
 .asg 15 (.call 42 [.var 0]),
 .asg 16 (.call 42 [.var 1]),
 .for1 17 (.range [.len (.var 15)]) [.ite (.notIn (.var 17) (.var 7)) [.append 12 (.call 46 [.idx (.attr (.var 0) .items) (.var 17),.comp 23 (.val (.var 9)) [] (.idx (.var 23) (.int 0))])] []],
 .for1 17 (.range [.len (.var 16)]) [.ite (.notIn (.var 17) (.var 8)) [.append 12 (.call 46 [.idx (.attr (.var 1) .items) (.var 17),.comp 24 (.val (.var 9)) [] (.idx (.var 24) (.int 1))])] []],
 .asg 18 (.bin .add (.listOf (.var 2)) (.call 66 [.var 15,.var 16,.var 2,.idx (.var 5) (.int 0)])),
 .asg 18 (.bin .add (.var 18) (.call 66 [.var 16,.var 15,.var 2,.idx (.var 5) (.int 1)])),
 .freeze 12,
 .ret (.call 39 [.var 12,.var 18,.call 40 [.len (.var 9)]])]
noncomputable def qs:List (Str×Nat):=[("x",0),("y",1),("by",2),("all_x",3),("all_y",4),("suffixes",5),("ordered",6),("x_places",7),("y_places",8),("pairs",9),("x_keys",10),("y_keys",11),("columns",12),("step",13),("order",14),("x_names",15),("y_names",16),("place",17),("names",18)]
noncomputable def ic:List S:=[
 .for1 2 (.val (.var 0)) [.ite (.call 23 [.attr (.var 2) .kind,.idx (.attr (.var 2) .items) (.var 1)]) [.ret (.bool false)] []],
 .ret (.bool true)]
noncomputable def rT:List (Str×Nat):=[("columns",0),("place",1),("column",2)]
noncomputable def fE:List S:=[
 .asg 1 (.len (.attr (.idx (.var 0) (.int 0)) .items)),
 .asg 2 (.comp 8 (.range [.var 1]) [.call 70 [.var 0,.var 8]] (.var 8)),
 .asg 3 (.call 61 [.var 0,.var 1]),
 .newDL 4,
 .for1 5 (.val (.var 2)) [.sdApp 4 (.idx (.var 3) (.var 5)) (.var 5)],
 .newL 6 [],
 .freeze 4,
 .for1 5 (.val (.var 2)) [.ite (.eq (.idx (.idx (.var 4) (.idx (.var 3) (.var 5))) (.int 0)) (.var 5)) [.append 6 (.var 5)] []],
 .freeze 6,
 .asg 7 (.comp 9 (.rev (.var 0)) [] (.call 67 [.call 46 [.var 9,.var 6]])),
 .ret (.comp 10 (.val (.call 32 [.var 7])) [] (.idx (.var 4) (.idx (.var 3) (.idx (.var 6) (.var 10)))))]
noncomputable def nK:List (Str×Nat):=[("groups",0),("rows",1),("kept",2),("keys",3),("table",4),("place",5),("firsts",6),("heads",7)]
noncomputable def fB:List S:=[
 .for1 1 (.val (.var 0)) [.ite (.or [.notIn (.attr (.var 1) .kind) (.tup [.str bS,.str aG,.str bC,.str aP]),.ne (.len (.attr (.var 1) .items)) (.int 1)]) [.stuck] []],
 .ite (.eq (.len (.var 0)) (.int 0)) [.stuck] [],
 .ret (.call 54 [.var 0])]
noncomputable def nG:List (Str×Nat):=[("results",0),("one",1)]
noncomputable def gQ:List S:=[
 .asg 2 (.len (.attr (.idx (.var 1) (.int 0)) .items)),
 .for1 3 (.val (.bin .add (.var 0) (.var 1))) [.ite (.ne (.len (.attr (.var 3) .items)) (.var 2)) [.stuck] []]]
noncomputable def qw:List (Str×Nat):=[("values",0),("groups",1),("rows",2),("column",3)]
noncomputable def gS:List S:=[
 .ite (.eq (.len (.var 2)) (.int 0)) [.stuck] [],
 .expr (.call 73 [.var 0,.var 2]),
 .asg 5 (.call 71 [.var 2]),
 .ite (.eq (.len (.var 5)) (.int 0)) [.stuck] [],
 .newL 6 [],
 .for1 7 (.val (.var 2)) [.append 6 (.call 46 [.var 7,.comp 9 (.val (.var 5)) [] (.idx (.var 9) (.int 0))])],
 .for1 8 (.val (.var 0)) [.append 6 (.call 72 [.comp 10 (.val (.var 5)) [] (.callV 4 [.call 46 [.var 8,.var 10]])])],
 .freeze 6,
 .ret (.call 39 [.var 6,.bin .add (.var 3) (.var 1),.call 40 [.len (.var 5)]])]
noncomputable def qy:List (Str×Nat):=[("values",0),("value_names",1),("groups",2),("group_names",3),("fn",4),("rows",5),("columns",6),("group",7),("column",8)]
noncomputable def oJ:List S:=[
 .ite (.call 38 [.var 0]) [.asg 1 (.comp 10 (.val (.attr (.var 0) .items)) [] (.ite (.isNone (.var 10)) .none (.bin .sub (.var 10) (.int 1)))),.ret (.tup [.listOf (.attr (.idx (.attr (.var 0) .attrs) (.str cN)) .items),.var 1])] [],
 .asg 2 (.call 36 [.var 0]),
 .asg 3 (.comp 11 (.val (.var 2)) [.not (.call 23 [.attr (.var 0) .kind,.idx (.attr (.var 0) .items) (.var 11)])] (.var 11)),
 .asg 4 (.call 67 [.call 46 [.var 0,.var 3]]),
 .asg 5 (.comp 12 (.val (.call 32 [.list [.var 4]])) [] (.idx (.var 3) (.var 12))),
 .asg 6 (.call 60 [.var 0]),
 .newD 7,
 .for1 8 (.val (.var 5)) [.store 7 (.idx (.var 6) (.var 8)) (.len (.var 7))],
 .asg 9 (.call 12 [.call 46 [.var 0,.var 5]]),
 .ret (.tup [.var 9,.comp 13 (.val (.var 6)) [] (.get (.var 7) (.var 13))])]
noncomputable def vL:List (Str×Nat):=[("column",0),("codes",1),("places",2),("present",3),("heads",4),("ordered",5),("keys",6),("table",7),("place",8),("texts",9)]
noncomputable def kJ:List S:=[
 .ite (.ne (.len (.attr (.var 0) .items)) (.len (.attr (.var 1) .items))) [.stuck] [],
 .unpack2 2 3 (.call 75 [.var 0]),
 .unpack2 4 5 (.call 75 [.var 1]),
 .newMul 6 (.int 0) (.bin .mul (.len (.var 2)) (.len (.var 4))),
 .for1 7 (.range [.len (.var 3)]) [.ite (.and [.notNone (.idx (.var 3) (.var 7)),.notNone (.idx (.var 5) (.var 7))]) [.augItem 6 (.bin .add (.bin .mul (.idx (.var 5) (.var 7)) (.len (.var 2))) (.idx (.var 3) (.var 7))) (.int 1)] []],
 .freeze 6,
 .ret (.call 59 [.str aG,.var 6,.list [.len (.var 2),.len (.var 4)],.list [.var 2,.var 4]])]
noncomputable def rU:List (Str×Nat):=[("u",0),("v",1),("rows",2),("first",3),("columns",4),("second",5),("counts",6),("place",7)]
noncomputable def eV:List S:=[
 .ite (.eq (.handGet 0 2) (.int 0)) [.ite (.eq (.handGet 0 1) (.len (.handGet 0 0))) [.handSet 0 3 (.bin .mod (.bin .mul (.handGet 0 3) (.int 48271)) (.int 2147483647)),.ret (.bin .mod (.bin .fdiv (.handGet 0 3) (.int 7)) (.var 1))] [],.asg 2 (.idx (.handGet 0 0) (.handGet 0 1)),.handSet 0 1 (.bin .add (.handGet 0 1) (.int 1)),.handSet 0 2 (.ite (.cmp .ge (.var 2) (.int 0)) (.var 2) (.neg (.var 2)))] [],
 .asg 3 (.bin .mod (.handGet 0 2) (.var 1)),
 .handSet 0 2 (.bin .fdiv (.handGet 0 2) (.var 1)),
 .ret (.var 3)]
noncomputable def vQ:List (Str×Nat):=[("hand",0),("limit",1),("figure",2),("digit",3)]
noncomputable def e8:List S:=[
 .asg 2 (.call 77 [.var 0,.int 3]),
 .asg 3 (.comp 5 (.range [.var 1]) [] (.call 77 [.var 0,.int 4])),
 .ite (.eq (.var 2) (.int 0)) [.ret (.mkVec [.str aG,.comp 6 (.val (.var 3)) [] (.idx (.list [.int 3,.neg (.int 1),.int 8,.none]) (.var 6))])] [],
 .ite (.eq (.var 2) (.int 1)) [.ret (.mkVec [.str aP,.comp 7 (.val (.var 3)) [] (.idx (.list [.str s_u,.str s_v,.str s_,.none]) (.var 7))])] [],
 .newV 4 [.str aG,.comp 8 (.val (.var 3)) [] (.idx (.list [.int 1,.int 2,.int 3,.none]) (.var 8))],
 .setAttrs 4 [cN,iH] [.mkVec [.str aP,.list [.str s_z,.str s_a,.str s_m]],.mkVec [.str aP,.list [.str gy]]],
 .freeze 4,
 .ret (.var 4)]
noncomputable def t6:List (Str×Nat):=[("hand",0),("many",1),("form",2),("picks",3),("v",4)]
noncomputable def lh:List S:=[
 .ret (.mkVec [.str aG,.list [.sum (.attr (.var 0) .items)]])]
noncomputable def x7:List (Str×Nat):=[("column",0)]
noncomputable def ii:List S:=[
 .newL 1 [],
 .for1 2 (.val (.attr (.var 0) .items)) [.ite (.and [.notNone (.var 2),.notIn (.var 2) (.var 1)]) [.append 1 (.var 2)] []],
 .newSorted 1 (.var 1),
 .ite (.isIn .none (.attr (.var 0) .items)) [.append 1 .none] [],
 .freeze 1,
 .ret (.comp 3 (.val (.var 1)) [] (.comp 4 (.range [.len (.attr (.var 0) .items)]) [.eq (.idx (.attr (.var 0) .items) (.var 4)) (.var 3)] (.var 4)))]
noncomputable def rX:List (Str×Nat):=[("v",0),("found",1),("item",2)]
noncomputable def b_law:List S:=[
 .asg 1 (.sliceTo (.var 0) (.int 63)),
 .newHand 2 [.var 1,.int 0,.int 0,.bin .mul (.bin .mod (.sum (.var 1)) (.int 100003)) (.int 7)],
 .asg 3 (.bin .add (.int 1) (.call 77 [.var 2,.int 6])),
 .asg 4 (.call 78 [.var 2,.var 3]),
 .asg 5 (.call 78 [.var 2,.var 3]),
 .asg 6 (.comp 28 (.range [.var 3]) [] (.bin .sub (.call 77 [.var 2,.int 9]) (.int 4))),
 .asg 7 (.call 49 [.list [.var 4,.var 5,.mkVec [.str aG,.listOf (.var 6)]],.list [.str s_g,.str s_h,.str s_v],.none]),
 .asg 8 (.call 80 [.var 4]),
 .asg 9 (.comp2 29 (.val (.var 8)) 30),
 .asg 10 (.call 57 [.comp 31 (.val (.var 8)) [] (.call 52 [.var 7,.var 31])]),
 .for1 11 (.range [.int 3]) [.ite (.or [.ne (.attr (.idx (.attr (.var 10) .items) (.var 11)) .kind) (.attr (.idx (.attr (.var 7) .items) (.var 11)) .kind),.ne (.attr (.idx (.attr (.var 10) .items) (.var 11)) .items) (.comp 32 (.val (.var 9)) [] (.idx (.attr (.idx (.attr (.var 7) .items) (.var 11)) .items) (.var 32)))]) [.stuck] [],.ite (.and [.notNone (.attr (.idx (.attr (.var 7) .items) (.var 11)) .attrs),.ne (.attr (.idx (.attr (.idx (.attr (.var 10) .items) (.var 11)) .attrs) (.str cN)) .items) (.list [.str s_z,.str s_a,.str s_m])]) [.stuck] []],
 .asg 12 (.attr (.idx (.attr (.var 10) .attrs) (.str cM)) .items),
 .ite (.or [.ne (.attr (.idx (.attr (.var 10) .attrs) (.str iG)) .items) (.list [.str s_g,.str s_h,.str s_v]),.ne (.len (.var 12)) (.var 3),.ne (.lenSet (.var 12)) (.var 3)]) [.stuck] [],
 .asg 13 (.comp 33 (.range [.var 3]) [.notNone (.idx (.attr (.var 4) .items) (.var 33))] (.var 33)),
 .ite (.ne (.var 13) (.list [])) [.asg 14 (.call 74 [.list [.idx (.attr (.var 7) .items) (.int 2)],.list [.str s_s],.list [.idx (.attr (.var 7) .items) (.int 0)],.list [.str s_g],.gfn 79]),.ite (.ne (.sum (.attr (.idx (.attr (.var 14) .items) (.int 1)) .items)) (.sum (.comp 34 (.val (.var 13)) [] (.idx (.var 6) (.var 34))))) [.stuck] [],.asg 15 (.call 69 [.var 7,.var 14,.list [.str s_g],.bool false,.bool false,.list [.str pD,.str Fi]]),.newL 16 [],.for1 17 (.val (.var 13)) [.asg 18 (.sum (.comp 35 (.val (.var 13)) [.eq (.idx (.attr (.var 4) .items) (.var 35)) (.idx (.attr (.var 4) .items) (.var 17))] (.idx (.var 6) (.var 35)))),.append 16 (.tup [.str1 (.idx (.attr (.var 4) .items) (.var 17)),.str1 (.idx (.attr (.var 5) .items) (.var 17)),.idx (.var 6) (.var 17),.var 18])],.asg 19 (.comp 36 (.range [.len (.attr (.idx (.attr (.var 15) .items) (.int 0)) .items)]) [] (.tup [.str1 (.idx (.attr (.idx (.attr (.var 15) .items) (.int 0)) .items) (.var 36)),.str1 (.idx (.attr (.idx (.attr (.var 15) .items) (.int 1)) .items) (.var 36)),.idx (.attr (.idx (.attr (.var 15) .items) (.int 2)) .items) (.var 36),.idx (.attr (.idx (.attr (.var 15) .items) (.int 3)) .items) (.var 36)])),.ite (.or [.ne (.attr (.idx (.attr (.var 15) .attrs) (.str iG)) .items) (.list [.str s_g,.str s_h,.str s_v,.str s_s]),.ne (.sorted (.var 19)) (.sorted (.var 16))]) [.stuck] []] [],
 .asg 20 (.call 76 [.idx (.attr (.var 7) .items) (.int 0),.idx (.attr (.var 7) .items) (.int 1)]),
 .unpack2 21 22 (.attr (.idx (.attr (.var 20) .attrs) (.str kf)) .items),
 .asg 23 (.call 76 [.idx (.attr (.var 7) .items) (.int 1),.idx (.attr (.var 7) .items) (.int 0)]),
 .ite (.ne (.attr (.idx (.attr (.var 23) .attrs) (.str kf)) .items) (.list [.var 22,.var 21])) [.stuck] [],
 .for1 24 (.range [.var 21]) [.for1 25 (.range [.var 22]) [.ite (.ne (.idx (.attr (.var 20) .items) (.bin .add (.bin .mul (.var 25) (.var 21)) (.var 24))) (.idx (.attr (.var 23) .items) (.bin .add (.bin .mul (.var 24) (.var 22)) (.var 25)))) [.stuck] []]],
 .asg 26 (.ite (.notNone (.attr (.var 4) .attrs)) (.bin .mul (.list [.str bU]) (.int 3)) (.sortedSet (.comp 37 (.val (.attr (.var 4) .items)) [.notNone (.var 37)] (.var 37)))),
 .ite (.ne (.var 21) (.len (.var 26))) [.stuck] [],
 .for1 24 (.range [.var 21]) [.asg 27 (.ite (.notNone (.attr (.var 4) .attrs)) (.bin .add (.var 24) (.int 1)) (.idx (.var 26) (.var 24))),.asg 16 (.len (.comp 38 (.range [.var 3]) [.and [.eq (.idx (.attr (.var 4) .items) (.var 38)) (.var 27),.notNone (.idx (.attr (.var 5) .items) (.var 38))]] (.var 38))),.ite (.ne (.sum (.comp 39 (.range [.var 22]) [] (.idx (.attr (.var 20) .items) (.bin .add (.bin .mul (.var 39) (.var 21)) (.var 24))))) (.var 16)) [.stuck] []],
 .ret (.eq (.sum (.attr (.var 20) .items)) (.len (.comp 40 (.val (.var 13)) [.notNone (.idx (.attr (.var 5) .items) (.var 40))] (.var 40))))]
noncomputable def J6:List (Str×Nat):=[("script",0),("cells",1),("hand",2),("many",3),("one",4),("two",5),("figures",6),("df",7),("places",8),("placed_all",9),("bound",10),("spot",11),("marks",12),("placed",13),("sums",14),("merged",15),("due",16),("at",17),("total",18),("told",19),("table",20),("tall",21),("wide",22),("other",23),("up",24),("down",25),("groups",26),("item",27)]
noncomputable def IT:Nat:=0
noncomputable def F5:Nat:=1
noncomputable def DC:Nat:=2
noncomputable def Gi:Nat:=3
noncomputable def Jt:Nat:=4
noncomputable def Ho:Nat:=5
noncomputable def Kn:Nat:=6
noncomputable def Hn:Nat:=7
noncomputable def L5:Nat:=8
noncomputable def IR:Nat:=9
noncomputable def Gb:Nat:=10
noncomputable def IP:Nat:=11
noncomputable def EC:Nat:=12
noncomputable def IO:Nat:=13
noncomputable def Ko:Nat:=14
noncomputable def Gj:Nat:=15
noncomputable def Gc:Nat:=16
noncomputable def EG:Nat:=17
noncomputable def Hf:Nat:=18
noncomputable def Js:Nat:=19
noncomputable def A3:Nat:=20
noncomputable def F4:Nat:=21
noncomputable def Ju:Nat:=22
noncomputable def Gg:Nat:=23
noncomputable def BE:Nat:=24
noncomputable def A7:Nat:=25
noncomputable def A6:Nat:=26
noncomputable def DG:Nat:=27
noncomputable def F9:Nat:=28
noncomputable def F8:Nat:=29
noncomputable def IU:Nat:=30
noncomputable def ED:Nat:=31
noncomputable def IN:Nat:=32
noncomputable def IQ:Nat:=33
noncomputable def Hl:Nat:=34
noncomputable def DF:Nat:=35
noncomputable def Bw:Nat:=36
noncomputable def EB:Nat:=37
noncomputable def Hm:Nat:=38
noncomputable def Hi:Nat:=39
noncomputable def F6:Nat:=40
noncomputable def Gh:Nat:=41
noncomputable def DH:Nat:=42
noncomputable def Hg:Nat:=43
noncomputable def A4:Nat:=44
noncomputable def Gf:Nat:=45
noncomputable def F7:Nat:=46
noncomputable def yD:Nat:=47
noncomputable def By:Nat:=48
noncomputable def Ga:Nat:=49
noncomputable def yE:Nat:=50
noncomputable def Bx:Nat:=51
noncomputable def Hh:Nat:=52
noncomputable def BB:Nat:=53
noncomputable def BC:Nat:=54
noncomputable def zX:Nat:=55
noncomputable def BA:Nat:=56
noncomputable def yF:Nat:=57
noncomputable def BD:Nat:=58
noncomputable def Hj:Nat:=59
noncomputable def EH:Nat:=60
noncomputable def IM:Nat:=61
noncomputable def IV:Nat:=62
noncomputable def Bz:Nat:=63
noncomputable def DD:Nat:=64
noncomputable def Ge:Nat:=65
noncomputable def Ez:Nat:=66
noncomputable def IL:Nat:=67
noncomputable def EA:Nat:=68
noncomputable def DE:Nat:=69
noncomputable def EE:Nat:=70
noncomputable def A5:Nat:=71
noncomputable def A2:Nat:=72
noncomputable def DJ:Nat:=73
noncomputable def DK:Nat:=74
noncomputable def Hk:Nat:=75
noncomputable def EF:Nat:=76
noncomputable def Hp:Nat:=77
noncomputable def Gk:Nat:=78
noncomputable def IX:Nat:=79
noncomputable def EI:Nat:=80
noncomputable def PS:Nat:=81
noncomputable def tabL:List FnD:=[⟨1,[],zc⟩,
 ⟨1,[],uH⟩,
 ⟨1,[],rC⟩,
 ⟨1,[],uK⟩,
 ⟨1,[],j0⟩,
 ⟨1,[],jK⟩,
 ⟨1,[],rD⟩,
 ⟨1,[],wX⟩,
 ⟨1,[],GK⟩,
 ⟨2,[],zb⟩,
 ⟨2,[],iT⟩,
 ⟨2,[],y9⟩,
 ⟨1,[],eG⟩,
 ⟨1,[],y8⟩,
 ⟨1,[],El⟩,
 ⟨1,[],uL⟩,
 ⟨1,[],uI⟩,
 ⟨1,[],ig⟩,
 ⟨3,[],wT⟩,
 ⟨4,[],Br⟩,
 ⟨1,[],oj⟩,
 ⟨2,[],uG⟩,
 ⟨3,[],om⟩,
 ⟨2,[],iV⟩,
 ⟨3,[],eJ⟩,
 ⟨1,[],fG⟩,
 ⟨5,[],fF⟩,
 ⟨5,[],gP⟩,
 ⟨5,[],mU⟩,
 ⟨4,[],gd⟩,
 ⟨2,[],zd⟩,
 ⟨2,[],ib⟩,
 ⟨3,[.bool false,.bool true],lg⟩,
 ⟨2,[],za⟩,
 ⟨1,[],wV⟩,
 ⟨1,[],gO⟩,
 ⟨1,[],fS⟩,
 ⟨2,[],kD⟩,
 ⟨1,[],wW⟩,
 ⟨3,[],wU⟩,
 ⟨1,[],iQ⟩,
 ⟨1,[],gf⟩,
 ⟨1,[],rE⟩,
 ⟨1,[],jF⟩,
 ⟨1,[],fC⟩,
 ⟨1,[],uJ⟩,
 ⟨2,[],iR⟩,
 ⟨2,[],eP⟩,
 ⟨2,[],fU⟩,
 ⟨3,[],iS⟩,
 ⟨2,[],eQ⟩,
 ⟨2,[],fT⟩,
 ⟨2,[],jG⟩,
 ⟨1,[],i5⟩,
 ⟨1,[],eI⟩,
 ⟨2,[],mV⟩,
 ⟨1,[],fW⟩,
 ⟨1,[],eR⟩,
 ⟨1,[],fX⟩,
 ⟨4,[],jH⟩,
 ⟨1,[],eH⟩,
 ⟨2,[],ld⟩,
 ⟨2,[],ze⟩,
 ⟨2,[],fV⟩,
 ⟨4,[],jI⟩,
 ⟨3,[],iU⟩,
 ⟨4,[],sv⟩,
 ⟨1,[],y7⟩,
 ⟨2,[],fL⟩,
 ⟨7,[.bool true],jJ⟩,
 ⟨2,[],ic⟩,
 ⟨1,[],fE⟩,
 ⟨1,[],fB⟩,
 ⟨2,[],gQ⟩,
 ⟨5,[],gS⟩,
 ⟨1,[],oJ⟩,
 ⟨2,[],kJ⟩,
 ⟨2,[],eV⟩,
 ⟨2,[],e8⟩,
 ⟨1,[],lh⟩,
 ⟨1,[],ii⟩,
 ⟨1,[],b_law⟩]
noncomputable def tab(f:Nat):Option FnD:=tabL[f]?
noncomputable def tabNamesL:List (List (Str×Nat)):=[xY,tL,qq,tY,AM,vP,CY,vO,Fv,xX,tR,xV,rR,xU,CZ,tZ,tS,rV,vF,AL,nH,tK,AN,tW,o3,nN,nM,qu,tP,tO,xZ,rS,xT,xW,vM,qt,oT,rQ,vN,vJ,tM,tX,qv,vG,nJ,tV,tN,kO,oV,tQ,kP,oU,vH,oY,oZ,lO,oX,kQ,o0,vK,rW,xS,x6,oW,qr,tU,rO,xQ,rP,qs,rT,nK,nG,qw,qy,vL,rU,vQ,t6,x7,rX,J6]
noncomputable def cX(f:Nat):List (Str×Nat):=tabNamesL.getD f []
noncomputable def tabName:List String:=["from_int","whole_text","special_text","exact_text","integer","character","length","is_atomic","share","get_attr","label_text","level_at","label_texts","names_of","dim_of","class_attr","kind_order","common_kind","to_double","item_as","is_atomic_kind","with_names","as_kind","is_lacking","compare_items","check_sortable","compare_places","compare_keys","merge_runs","merge_sort","each_key","kept_places","order_by","item_key","is_listed","first_places","unique_places","make_unique","is_factor","new_frame","plain_rows","frame_rows","column_names","row_names","has_plain_rows","kept_attrs","pick_items","recycled_columns","names_as_rows","make_frame","check_row_labels","picked_labels","pick_rows","joined_factor","joined_column","matched_columns","joined_labels","bind_frames_rows","dimnames_list","new_array","column_keys","row_keys","check_by","matched_pairs","merged_pairs","key_column","other_names","sort_key","merge_order","merge_frames","is_complete","grouped_places","joined_results","check_groups","aggregate_by","level_row","cross_table","_law_pick","_law_group","_law_sum","_law_places","law"]
noncomputable def tabStmt:List Nat:=[7,17,18,30,45,46,47,48,49,51,52,53,54,55,56,58,61,62,69,71,72,76,77,80,81,82,83,84,85,86,87,88,89,99,100,102,103,105,107,108,109,110,111,112,113,114,116,118,119,120,121,122,123,125,126,127,128,129,131,132,134,135,136,137,140,141,142,143,144,145,146,147,148,149,150,151,152,154,155,156,157,158]
noncomputable def sOk(x:Str):Bool:=x.cps.all fun c=>decide (c<0x110000)
noncomputable abbrev Nms:=List (Str×NameKind)
noncomputable abbrev Nm:=List (Str×Nat)
noncomputable def rel(cs nms:Nms):Nms:=cs.map fun(n,k)=>if(k==.free&&nms.lookup n==some .cell)then(n,.cell)else(n,k)
noncomputable def dY(nms:Nms)(x:Str)(n:String):Bool:=x==(n:Str)&&nms.lookup x==some .globalImplicit
noncomputable def qL(nm:Nm)(x:Str)(i:Nat):Bool:=nm.lookup x==some i&& !(x==("__debug__" :Str))
noncomputable def uy(nms:Nms)(sc:Scope):Bool:=
 sc.kind==.function&&sc.names.all (fun x=>sc.names.lookup x.1==some x.2)&&sc.names.all (fun x=>match x.2 with|.free=>nms.lookup x.1==some .cell|_=>true)
noncomputable def gF(sc:Scope)(nm:Nm):Nm:=nm.filter fun x=>sc.names.lookup x.1==some .free
noncomputable def lz(sc:Scope)(x:Str):Bool:=(sc.names.lookup x==some .local||sc.names.lookup x==some .cell)&& !(x==("__debug__" :Str))
noncomputable def CP:Bo->Operator
 |.add=>.Add|.sub=>.Sub|.mul=>.Mult|.fdiv=>.FloorDiv|.mod=>.Mod
noncomputable def KB:Cm->CmpOp
 |.lt=>.Lt|.gt=>.Gt|.le=>.LtE|.ge=>.GtE
noncomputable def Hd:Fld->Str
 |.kind=> "kind" |.items=> "items" |.attrs=> "attrs"
noncomputable def fu(f:Nat):String:=tabName.getD f ""
noncomputable def aV:Expr->Bool
 |.Set .. =>false
 |.Starred .. =>false
 |.Slice .. =>false
 |_=>true
noncomputable def bQ(es:List Expr):Bool:=es.all aV&&decide (es.length<=100)
noncomputable def jn:Expr->Bool
 |.ListComp .. =>false
 |.SetComp .. =>false
 |.DictComp .. =>false
 |_=>true
noncomputable def G3:Expr->Bool
 |.Tuple .. =>false
 |_=>true
mutual
noncomputable def bH:X->Bool
 |.var _=>true
 |.call .. =>true
 |.isVec _=>true
 |.isList _=>true
 |.cmp .. =>true
 |.eq .. =>true
 |.ne .. =>true
 |.isIn .. =>true
 |.notIn .. =>true
 |.isNone _=>true
 |.notNone _=>true
 |.and xs=>im xs
 |.or xs=>im xs
 |.not a=>bH a
 |_=>false
termination_by structural x=>x
noncomputable def im:List X->Bool
 | []=>true
 |x::xs=>bH x&&im xs
termination_by structural x=>x
end
noncomputable def eU(nm:Nm)(i:Nat):Bool:=nm.all fun y=> !(y.2==i)
noncomputable def eNm(e:Expr)(k:Str->Bool):Bool:=if h:e.ctorIdx=23 then Expr.Name.elim (motive_1:=fun _=>Bool) e h fun x _=>k x else false
noncomputable def eCo(e:Expr)(k:Const->Bool):Bool:=if h:e.ctorIdx=19 then Expr.Constant.elim (motive_1:=fun _=>Bool) e h fun c _ _=>k c else false
noncomputable def eCl(e:Expr)(k:Expr->List Expr->Pos->Bool):Bool:=if h:e.ctorIdx=16 then Expr.Call.elim (motive_1:=fun _=>Bool) e h fun f es ks p=>ks.isEmpty&&k f es p else false
noncomputable def eAt(e:Expr)(k:Expr->Str->Pos->Bool):Bool:=if h:e.ctorIdx=20 then Expr.Attribute.elim (motive_1:=fun _=>Bool) e h fun t n p=>k t n p else false
noncomputable def eSb(e:Expr)(k:Expr->Expr->Bool):Bool:=if h:e.ctorIdx=21 then Expr.Subscript.elim (motive_1:=fun _=>Bool) e h fun t i _=>k t i else false
noncomputable def eLs(e:Expr)(k:List Expr->Bool):Bool:=if h:e.ctorIdx=24 then Expr.List.elim (motive_1:=fun _=>Bool) e h fun es _=>k es else false
noncomputable def eTp(e:Expr)(k:List Expr->Bool):Bool:=if h:e.ctorIdx=25 then Expr.Tuple.elim (motive_1:=fun _=>Bool) e h fun es _ _=>k es else false
noncomputable def eBi(e:Expr)(k:Expr->Operator->Expr->Bool):Bool:=if h:e.ctorIdx=2 then Expr.BinOp.elim (motive_1:=fun _=>Bool) e h fun a o b _=>k a o b else false
noncomputable def eBo(e:Expr)(k:BoolOp->List Expr->Bool):Bool:=if h:e.ctorIdx=0 then Expr.BoolOp.elim (motive_1:=fun _=>Bool) e h fun o es _=>k o es else false
noncomputable def eUn(e:Expr)(k:UnaryOp->Expr->Bool):Bool:=if h:e.ctorIdx=3 then Expr.UnaryOp.elim (motive_1:=fun _=>Bool) e h fun o a _=>k o a else false
noncomputable def eCm(e:Expr)(k:Expr->List CmpOp->List Expr->Bool):Bool:=if h:e.ctorIdx=15 then Expr.Compare.elim (motive_1:=fun _=>Bool) e h fun a os es _=>k a os es else false
noncomputable def eIf(e:Expr)(k:Expr->Expr->Expr->Bool):Bool:=if h:e.ctorIdx=5 then Expr.IfExp.elim (motive_1:=fun _=>Bool) e h fun c a b _=>k c a b else false
noncomputable def eLc(e:Expr)(k:Expr->List Comprehension->Scope->Bool):Bool:=if h:e.ctorIdx=8 then Expr.ListComp.elim (motive_1:=fun _=>Bool) e h fun e gs sc _=>k e gs sc else false
noncomputable def eDi(e:Expr)(k:List (Option Expr)->List Expr->Bool):Bool:=if h:e.ctorIdx=6 then Expr.Dict.elim (motive_1:=fun _=>Bool) e h fun ks es _=>k ks es else false
noncomputable def eJs(e:Expr)(k:List Expr->Bool):Bool:=if h:e.ctorIdx=18 then Expr.JoinedStr.elim (motive_1:=fun _=>Bool) e h fun es _=>k es else false
noncomputable def eFv(e:Expr)(k:Expr->Int->Option Expr->Bool):Bool:=if h:e.ctorIdx=17 then Expr.FormattedValue.elim (motive_1:=fun _=>Bool) e h fun e c sp _=>k e c sp else false
noncomputable def eSl(e:Expr)(k:Option Expr->Option Expr->Option Expr->Bool):Bool:=if h:e.ctorIdx=26 then Expr.Slice.elim (motive_1:=fun _=>Bool) e h fun a b c _=>k a b c else false
noncomputable def wJ:Const->Bool
 |.none=>true
 |_=>false
noncomputable def Hr:Const->Bool
 |.bool true=>true
 |_=>false
noncomputable def D9(c:Const)(k:Bool->Bool):Bool:=match c with
 |.bool b=>k b
 |_=>false
noncomputable def Bn(c:Const)(k:Int->Bool):Bool:=match c with
 |.int b=>k b
 |_=>false
noncomputable def Bm(c:Const)(k:Str->Bool):Bool:=match c with
 |.str b=>k b
 |_=>false
noncomputable def one{α:Type}(l:List α)(k:α->Bool):Bool:=match l with
 | [a]=>k a
 |_=>false
noncomputable def CM{α:Type}(l:List α)(k:α->α->Bool):Bool:=match l with
 | [a,b]=>k a b
 |_=>false
noncomputable def thr{α:Type}(l:List α)(k:α->α->α->Bool):Bool:=match l with
 | [a,b,c]=>k a b c
 |_=>false
noncomputable def sH{α:Type}(o:Option α)(k:α->Bool):Bool:=match o with
 |some a=>k a
 |none=>false
noncomputable def oi(e:Expr):Bool:= !(eCl e fun f es _=>eNm f (fun _=>true)&&es.isEmpty)
noncomputable def gN(nms:Nms)(e:Expr)(n:String)(k:List Expr->Bool):Bool:=eCl e fun f es _=>eNm f fun x=>dY nms x n&&bQ es&&k es
noncomputable def g1(nms:Nms)(e:Expr)(n:String)(k:Expr->Bool):Bool:=eCl e fun f es _=>eNm f fun x=>one es fun a=>dY nms x n&&aV a&&k a
noncomputable def g2(nms:Nms)(e:Expr)(n:String)(k:Expr->Expr->Bool):Bool:=eCl e fun f es _=>eNm f fun x=>CM es fun a b=>dY nms x n&&aV a&&aV b&&k a b
noncomputable def Fx(e:Expr)(n:String)(k:Expr->List Expr->Bool):Bool:=eCl e fun f es p=>eAt f fun t m ap=>m==(n:Str)&&oi t&&ap.endLine==p.line&&k t es
noncomputable def m1(e:Expr)(n:String)(k:Expr->Expr->Bool):Bool:=Fx e n fun t es=>one es fun a=>aV a&&k t a
noncomputable def m2(e:Expr)(n:String)(k:Expr->Expr->Expr->Bool):Bool:=Fx e n fun t es=>CM es fun a b=>aV a&&aV b&&k t a b
noncomputable def cm1(e:Expr)(o:CmpOp)(k:Expr->Expr->Bool):Bool:=eCm e fun a os es=>one os fun o'=>one es fun b=>o'==o&&k a b
noncomputable def fv1(e:Expr)(k:Expr->Bool):Bool:=eFv e fun a c sp=>c== -1&&sp.isNone&&k a
noncomputable def FW(g:Comprehension)(k:Str->Expr->List Expr->Bool):Bool:=g.is_async==0&&eNm g.target fun x=>k x g.iter g.ifs
noncomputable def lc1(e:Expr)(k:Expr->Str->Expr->List Expr->Scope->Bool):Bool:=eLc e fun a gs sc=>one gs fun g=>FW g fun x it ifs=>k a x it ifs sc
mutual
noncomputable def mX(nms:Nms)(nm:Nm):X->Expr->Bool
 |.none,e=>eCo e wJ
 |.bool b,e=>eCo e fun c=>D9 c fun d=>b==d
 |.int i,e=>eCo e fun c=>Bn c fun j=>i==j
 |.str s,e=>eCo e fun c=>Bm c fun t=>s==t&&sOk s
 |.powc a b,e=>eBi e fun l o r=>o==.Pow&&(eCo l fun c=>Bn c fun i=>i==10)&&(eCo r fun c=>Bn c fun j=>j==18)
 |.var i,e=>eNm e fun x=>qL nm x i
 |.gfn f,e=>eNm e fun x=>dY nms x (fu f)&&decide (f<82)
 |.len x,e=>g1 nms e "len" fun e=>mX nms nm x e
 |.abs x,e=>g1 nms e "abs" fun e=>mX nms nm x e
 |.neg x,e=>eUn e fun o e=>o==.USub&&mX nms nm x e
 |.max a b,e=>g2 nms e "max" fun e e'=>mX nms nm a e&&mX nms nm b e'
 |.str1 x,e=>g1 nms e "str" fun e=>mX nms nm x e
 |.sum x,e=>g1 nms e "sum" fun e=>mX nms nm x e
 |.sorted x,e=>g1 nms e "sorted" fun e=>mX nms nm x e
 |.sortedSet x,e=>g1 nms e "sorted" fun e=>g1 nms e "set" fun e=>mX nms nm x e
 |.lenSet x,e=>g1 nms e "len" fun e=>g1 nms e "set" fun e=>mX nms nm x e
 |.listOf x,e=>g1 nms e "list" fun e=>mX nms nm x e
 |.listR xs,e=>g1 nms e "list" fun e=>gN nms e "range" fun es=>mXs nms nm xs es
 |.isNone x,e=>cm1 e .Is fun e e'=>eCo e' wJ&&mX nms nm x e
 |.notNone x,e=>cm1 e .IsNot fun e e'=>eCo e' wJ&&mX nms nm x e
 |.isVec x,e=>g2 nms e "isinstance" fun e e'=>(eNm e' fun c=>dY nms c "Vector")&&mX nms nm x e
 |.isList x,e=>g2 nms e "isinstance" fun e e'=>(eNm e' fun c=>dY nms c "list")&&mX nms nm x e
 |.cmp c a b,e=>cm1 e (KB c) fun e e'=>aV e'&&mX nms nm a e&&mX nms nm b e'
 |.eq a b,e=>cm1 e .Eq fun e e'=>aV e'&&mX nms nm a e&&mX nms nm b e'
 |.ne a b,e=>cm1 e .NotEq fun e e'=>aV e'&&mX nms nm a e&&mX nms nm b e'
 |.isIn a b,e=>cm1 e .In fun e e'=>aV e'&&mX nms nm a e&&mX nms nm b e'
 |.notIn a b,e=>cm1 e .NotIn fun e e'=>aV e'&&mX nms nm a e&&mX nms nm b e'
 |.and xs,e=>eBo e fun o es=>o==.And&& !xs.isEmpty&&mXs nms nm xs es
 |.or xs,e=>eBo e fun o es=>o==.Or&& !xs.isEmpty&&mXs nms nm xs es
 |.not x,e=>eUn e fun o e=>o==.Not&&bH x&&mX nms nm x e
 |.ite c a b,e=>eIf e fun e e' e''=>bH c&&mX nms nm c e&&mX nms nm a e'&&mX nms nm b e''
 |.bin o a b,e=>eBi e fun e p e'=>p==CP o&&mX nms nm a e&&mX nms nm b e'
 |.attr x f,e=>eAt e fun e n _=>n==Hd f&&oi e&&mX nms nm x e
 |.idx x k,e=>eSb e fun e e'=>aV e'&&mX nms nm x e&&mX nms nm k e'
 |.get x k,e=>m1 e "get" fun e e'=>mX nms nm x e&&mX nms nm k e'
 |.getD x k d,e=>m2 e "get" fun e e' e''=>mX nms nm x e&&mX nms nm k e'&&mX nms nm d e''
 |.sliceTo x n,e=>eSb e fun e i=>eSl i fun a b c=>a.isNone&&c.isNone&&sH b fun e'=>(eNm e fun _=>true)&&mX nms nm x e&&mX nms nm n e'
 |.sliceFrom x n,e=>eSb e fun e i=>eSl i fun a b c=>b.isNone&&c.isNone&&sH a fun e'=>(eNm e fun _=>true)&&mX nms nm x e&&mX nms nm n e'
 |.list xs,e=>eLs e fun es=>bQ es&&mXs nms nm xs es
 |.tup xs,e=>eTp e fun es=>bQ es&&mXs nms nm xs es
 |.mkVec xs,e=>gN nms e "Vector" fun es=>mXs nms nm xs es
 |.call g xs,e=>gN nms e (fu g) fun es=>mXs nms nm xs es
 |.callV i xs,e=>eCl e fun f es _=>eNm f fun x=>qL nm x i&&bQ es&&mXs nms nm xs es
 |.comp i it cs e,ex=>lc1 ex fun e' x g ifs sc=>aV g&&mI nms nm it g&&uy nms sc&&lz sc x&&eU nm i&&cs.all bH&&mXs (rel sc.names nms) ((x,i)::gF sc nm) cs ifs&&mX (rel sc.names nms) ((x,i)::gF sc nm) e e'
 |.comp2 i it j,ex=>eLc ex fun el gs sc=>CM gs fun g g'=>FW g fun x it' ifs=>FW g' fun y it2 ifs2=>ifs.isEmpty&&ifs2.isEmpty&&(eNm el fun y'=>y'==y)&&(eNm it2 fun x'=>x'==x)&&aV it'&&mI nms nm it it'&&uy nms sc&&lz sc x&&lz sc y&& !(x==y)&& !(i==j)&&eU nm i&&eU nm j
 |.join s x,e=>m1 e "join" fun t e=>(eCo t fun c=>Bm c fun u=>s==u)&&sOk s&&mX nms nm x e
 |.fpair a s b,e=>eJs e fun es=>thr es fun e1 e2 e3=>(fv1 e1 fun e=>mX nms nm a e)&&(eCo e2 fun c=>Bm c fun t=>s==t)&&sOk s&&(fv1 e3 fun e=>mX nms nm b e)
 |.countOf x y,e=>m1 e "count" fun e e'=>mX nms nm x e&&mX nms nm y e'
 |.indexOf x y,e=>m1 e "index" fun e e'=>mX nms nm x e&&mX nms nm y e'
 |.handGet i k,e=>eSb e fun t j=>(eNm t fun x=>qL nm x i)&&(eCo j fun c=>Bn c fun j=>j==(k:Int))&&decide (k<100)
 |.stuck,_=>true
termination_by structural x=>x
noncomputable def mXs(nms:Nms)(nm:Nm):List X->List Expr->Bool
 | [],es=>es.isEmpty
 |x::xs,es=>match es with
  |e::es=>mX nms nm x e&&mXs nms nm xs es
  | []=>false
termination_by structural x=>x
noncomputable def mI(nms:Nms)(nm:Nm):It->Expr->Bool
 |.val x,e=>mX nms nm x e
 |.range xs,e=>gN nms e "range" fun es=>mXs nms nm xs es
 |.rev x,e=>g1 nms e "reversed" fun e=>mX nms nm x e
termination_by structural x=>x
end
noncomputable def bL(nm:Nm)(i:Nat)(e:Expr):Bool:=eNm e fun x=>qL nm x i
noncomputable def jS:List Str->List (Option Expr)->Bool
 | [],l=>l.isEmpty
 |s::r,l=>match l with
  |o::l=>(sH o fun e=>eCo e fun c=>Bm c fun t=>s==t&&sOk s)&&jS r l
  | []=>false
noncomputable def zR:X->Bool
 |.comp .. =>true
 |.comp2 .. =>true
 |_=>false
noncomputable def qg(i:Nat)(x:X):Bool:=match lq x with
 |some j=> !(j==i)
 |none=>false
noncomputable def fh(st:Stmt)(k:Expr->Expr->Bool):Bool:=if h:st.ctorIdx=5 then Stmt.Assign.elim (motive_2:=fun _=>Bool) st h fun ts v _=>one ts fun t=>k t v else false
noncomputable def rH(st:Stmt)(k:Expr->Bool):Bool:=if h:st.ctorIdx=24 then Stmt.Expr.elim (motive_2:=fun _=>Bool) st h fun e _=>k e else false
noncomputable def Eu(st:Stmt)(k:Expr->Operator->Expr->Bool):Bool:=if h:st.ctorIdx=7 then Stmt.AugAssign.elim (motive_2:=fun _=>Bool) st h fun t p v _=>k t p v else false
noncomputable def KG(st:Stmt)(k:Expr->List Stmt->List Stmt->Bool):Bool:=if h:st.ctorIdx=12 then Stmt.If.elim (motive_2:=fun _=>Bool) st h fun e a b _=>k e a b else false
noncomputable def Hw(st:Stmt)(k:Expr->List Stmt->Bool):Bool:=if h:st.ctorIdx=11 then Stmt.While.elim (motive_2:=fun _=>Bool) st h fun e b o _=>o.isEmpty&&k e b else false
noncomputable def Es(st:Stmt)(k:Expr->Expr->List Stmt->Bool):Bool:=if h:st.ctorIdx=9 then Stmt.For.elim (motive_2:=fun _=>Bool) st h fun t g b o _=>o.isEmpty&&k t g b else false
noncomputable def Ep(st:Stmt)(k:Expr->Bool):Bool:=if h:st.ctorIdx=3 then Stmt.Return.elim (motive_2:=fun _=>Bool) st h fun e _=>sH e k else false
noncomputable def Et(st:Stmt):Bool:=if h:st.ctorIdx=27 then Stmt.Continue.elim (motive_2:=fun _=>Bool) st h fun _=>true else false
noncomputable def zf(e:Expr)(k:Expr->Expr->Bool):Bool:=eTp e fun es=>CM es k
noncomputable def Hy(e:Expr)(k:Expr->Expr->Bool):Bool:=eBi e fun l o r=>o==.Mult&&eLs l fun es=>one es fun a=>aV a&&k a r
mutual
noncomputable def mS(nms:Nms)(nm:Nm)(s:S)(st:Stmt):Bool:=match s with
 |.asg i x=>fh st fun t v=>bL nm i t&&(jn v||zR x)&&mX nms nm x v
 |.newL i xs=>fh st fun t v=>bL nm i t&&eLs v fun es=>bQ es&&mXs nms nm xs es
 |.newD i=>fh st fun t v=>bL nm i t&&eDi v fun ks es=>ks.isEmpty&&es.isEmpty
 |.newDL i=>fh st fun t v=>bL nm i t&&eDi v fun ks es=>ks.isEmpty&&es.isEmpty
 |.newMul i a n=>fh st fun t v=>bL nm i t&&Hy v fun e e'=>mX nms nm a e&&mX nms nm n e'
 |.newSorted i x=>fh st fun t v=>bL nm i t&&g1 nms v "sorted" fun e=>mX nms nm x e
 |.newComp i j it cs e=>fh st fun t v=>bL nm i t&&lc1 v fun e' x g ifs sc=>aV g&&mI nms nm it g&&uy nms sc&&lz sc x&&eU nm j&&cs.all bH&&mXs (rel sc.names nms) ((x,j)::gF sc nm) cs ifs&&
   mX (rel sc.names nms) ((x,j)::gF sc nm) e e'
 |.newV i xs=>fh st fun t v=>bL nm i t&&gN nms v "Vector" fun es=>mXs nms nm xs es
 |.newHand i xs=>fh st fun t v=>bL nm i t&&eLs v fun es=>bQ es&&mXs nms nm xs es
 |.asgO i f xs=>fh st fun t v=>bL nm i t&&gN nms v (fu f) fun es=>mXs nms nm xs es
 |.unpack2 i j x=>fh st fun t v=>zf t fun t t'=>bL nm i t&&bL nm j t'&& !(i==j)&&jn v&&G3 v&&mX nms nm x v
 |.aug i o x=>Eu st fun t p v=>bL nm i t&&p==CP o&&mX nms nm x v
 |.append i x=>rH st fun e=>m1 e "append" fun t e=>bL nm i t&&mX nms nm x e
 |.extend i x=>rH st fun e=>m1 e "extend" fun t e=>bL nm i t&&mX nms nm x e
 |.reverse i=>rH st fun e=>Fx e "reverse" fun t es=>bL nm i t&&es.isEmpty
 |.store i k v=>fh st fun t e'=>jn e'&&eSb t fun t e=>aV e&&bL nm i t&&mX nms nm k e&&mX nms nm v e'
 |.augItem i k x=>Eu st fun t p e'=>p==.Add&&eSb t fun t e=>aV e&&bL nm i t&&mX nms nm k e&&mX nms nm x e'
 |.sdApp i k v=>rH st fun e=>m1 e "append" fun o e'=>m2 o "setdefault" fun t e l=>bL nm i t&&qg i v&&mX nms nm k e&&mX nms nm v e'&&eLs l fun ls=>ls.isEmpty
 |.appSd i j k v=>rH st fun e=>m1 e "append" fun t o=>m2 o "setdefault" fun t' e e'=>bL nm i t&&bL nm j t'&& !(i==j)&&mX nms nm k e&&mX nms nm v e'
 |.setAttrs i ks xs=>fh st fun t v=>eAt t fun t n _=>n==("attrs" :Str)&&bL nm i t&&eDi v fun ks' es=>jS ks ks'&&mXs nms nm xs es&&bQ es&&decide (ks.length<=15)&& !ks.isEmpty
 |.setAttrItem i k x=>fh st fun t e=>jn e&&eSb t fun t' k'=>(eCo k' fun c=>Bm c fun k'=>k==k'&&sOk k)&&eAt t' fun t n _=>n==("attrs" :Str)&&bL nm i t&&mX nms nm x e
 |.share i=>fh st fun t v=>eCo v Hr&&eAt t fun t n _=>n==("shared" :Str)&&bL nm i t
 |.handSet i k x=>fh st fun t e=>jn e&&eSb t fun t j=>bL nm i t&&mX nms nm x e&&eCo j fun c=>Bn c fun j=>j==(k:Int)&&decide (k<100)
 |.ite c a b=>KG st fun e a' b'=>bH c&&mX nms nm c e&&mB nms nm a a'&&mB nms nm b b'
 |.whl _ c b=>Hw st fun e b'=>bH c&&mX nms nm c e&&mB nms nm b b'
 |.for1 i it b=>Es st fun t g b'=>bL nm i t&&aV g&&mI nms nm it g&&mB nms nm b b'
 |.for2 i j it b=>Es st fun t g b'=>zf t fun t t'=>bL nm i t&&bL nm j t'&& !(i==j)&&aV g&&mI nms nm it g&&mB nms nm b b'
 |.ret x=>Ep st fun e=>mX nms nm x e
 |.retO i c=>Ep st fun e=>eIf e fun e t d=>eCo d wJ&&bH c&&mX nms nm c e&&bL nm i t
 |.expr x=>rH st fun e=>jn e&&mX nms nm x e
 |.cont=>Et st
 |.freeze _=>false
 |.stuck=>true
termination_by structural s
noncomputable def mB(nms:Nms)(nm:Nm):List S->List Stmt->Bool
 | [],l=>l.isEmpty
 |s::r,l=>match s with
  |.stuck=>true
  |.freeze _=>mB nms nm r l
  |s=>match l with
   |st::l'=>mS nms nm s st&&mB nms nm r l'
   | []=>false
termination_by structural s=>s
end
noncomputable def argsOk:List Arg->Nm->Bool
 | [],_=>true
 |a::r,(x,_)::r'=>a.arg==x&&argsOk r r'
 |_::_,[]=>false
noncomputable def E6(nm:Nm):Bool:=nm.map (·.2)==List.range nm.length
noncomputable def mFb(f:Nat)(d:FnD)(name:Str)(args:Arguments)(body:List Stmt)(sc:Scope)(bind:Str):Bool:=
  name==(fu f:Str)&&bind==name&&args.posonlyargs.isEmpty&&args.vararg.isNone&&args.kwonlyargs.isEmpty&&args.kwarg.isNone&&args.args.length==d.npar&&args.defaults.length==d.dflt.length
   &&argsOk args.args (cX f)&&E6 (cX f)&&sc.kind==.function&& !sc.isGenerator&& !sc.isCoroutine
   &&sc.names.all (fun x=>sc.names.lookup x.1==some x.2)&&sc.names.all (fun x=>x.2 !=.free)
   &&(cX f).all (fun x=>sc.names.lookup x.1==some .local||sc.names.lookup x.1==some .cell)
   &&((cX f).map (·.1)).all (fun x=> !(x==("__debug__" :Str)))
   &&mB sc.names (cX f) d.body body
noncomputable def mF(f:Nat)(st:Stmt):Bool:=match tab f with
 |some d=>if h:st.ctorIdx=0 then Stmt.FunctionDef.elim (motive_2:=fun _=>Bool) st h fun name args body de _ tp sc ts bind _=>de.isEmpty&&tp.isEmpty&&ts.isNone&&mFb f d name args body sc bind else false
 |none=>false
noncomputable def bJ(f:Nat):Stmt:=iF (tabStmt.getD f 0)
theorem OQ:(List.range 82).all (fun i=>mF i (bJ i))=true:=by kernel_rfl
theorem mOf{f:Nat}(h:f<82):mF f (bJ f)=true:=List.all_eq_true.mp OQ f (List.mem_range.mpr h)
end Internal
end
section
open PySem
namespace Internal
theorem aH(h:false=true):False:=by cases h
theorem nos{α:Type}{a:α}(h:(none:Option α)=some a):False:=nomatch h
theorem uX{x:X}{i:Nat}(h:lq x=some i):x=.var i:=by
 cases x with
 |var j=>exact congrArg X.var (Option.some.inj h)
 |_=>exact(nos h).elim
theorem cD{c:Prop} [Decidable c]{f:c->Bool}{P:Prop}(h:(if h:c then f h else false)=true)(H:∀q,f q=true->P):P:=by
 by_cases q:c
 ·rw[dif_pos q]at h;exact H q h
 ·rw[dif_neg q]at h;exact(aH h).elim
theorem aK{a b:Bool}{P:Prop}(h:(a&&b)=true)(H:a=true->b=true->P):P:=by
 cases a with
 |false=>exact(aH h).elim
 |true=>exact H rfl h
theorem aY{a b c:Bool}{P:Prop}(h:(a&&b&&c)=true)(H:a=true->b=true->c=true->P):P:=aK h fun h c=>aK h fun a b=>H a b c
theorem cT{a b c d:Bool}{P:Prop}(h:(a&&b&&c&&d)=true)(H:a=true->b=true->c=true->d=true->P):P:=aK h fun h d=>aY h fun a b c=>H a b c d
theorem e9{a b c d e:Bool}{P:Prop}(h:(a&&b&&c&&d&&e)=true)(H:a=true->b=true->c=true->d=true->e=true->P):P:=aK h fun h e=>cT h fun a b c d=>H a b c d e
@[elab_as_elim]
theorem dy{α:Type}{l:List α}{P:List α->Prop}(h:l.isEmpty=true)(H:P []):P l:=by
 cases l with
 |nil=>exact H
 |cons=>exact(aH h).elim
@[elab_as_elim]
theorem kY{α:Type}{o:Option α}{P:Option α->Prop}(h:o.isNone=true)(H:P none):P o:=by
 cases o with
 |none=>exact H
 |some=>exact(aH h).elim
@[elab_as_elim]
theorem bO{α:Type} [BEq α][LawfulBEq α]{a b:α}{P:α->Prop}(h:(a==b)=true)(H:P b):P a:=eq_of_beq h▸H
@[elab_as_elim]
theorem y5{α:Type} [BEq α][LawfulBEq α]{a b:α}{P:α->Prop}(h:(a==b)=true)(H:P a):P b:=eq_of_beq h▸H
section
variable{e:Expr}{P:Expr->Prop}
@[elab_as_elim]
theorem dM{k:Str->Bool}(h:eNm e k=true)(H:∀x p,k x=true->P (.Name x p)):P e:=by
 exact cD h fun q h=>Expr.Name.elim (motive_1:=fun e=>∀q:e.ctorIdx=23,Expr.Name.elim (motive_1:=fun _=>Bool) e q (fun x _=>k x)=true->P e) e q (fun _ _ _ h=>H _ _ h) q h
@[elab_as_elim]
theorem dS{k:Const->Bool}(h:eCo e k=true)(H:∀c i p,k c=true->P (.Constant c i p)):P e:=by
 exact cD h fun q h=>Expr.Constant.elim (motive_1:=fun e=>∀q:e.ctorIdx=19,Expr.Constant.elim (motive_1:=fun _=>Bool) e q (fun c _ _=>k c)=true->P e) e q (fun _ _ _ _ h=>H _ _ _ h) q h
@[elab_as_elim]
theorem qZ{k:Expr->List Expr->Pos->Bool}(h:eCl e k=true)(H:∀f es p,k f es p=true->P (.Call f es [] p)):P e:=by
 exact cD h fun q h=>Expr.Call.elim (motive_1:=fun e=>∀q:e.ctorIdx=16,Expr.Call.elim (motive_1:=fun _=>Bool) e q (fun f es d p=>d.isEmpty&&k f es p)=true->P e) e q (fun _ _ _ _ _ h=>aK h fun y r=>dy (P:=fun d=>P (.Call _ _ d _)) y (H _ _ _ r)) q h
@[elab_as_elim]
theorem k7{k:Expr->Str->Pos->Bool}(h:eAt e k=true)(H:∀t n p,k t n p=true->P (.Attribute t n p)):P e:=by
 exact cD h fun q h=>Expr.Attribute.elim (motive_1:=fun e=>∀q:e.ctorIdx=20,Expr.Attribute.elim (motive_1:=fun _=>Bool) e q (fun t n p=>k t n p)=true->P e) e q (fun _ _ _ _ h=>H _ _ _ h) q h
@[elab_as_elim]
theorem jx{k:Expr->Expr->Bool}(h:eSb e k=true)(H:∀t i p,k t i=true->P (.Subscript t i p)):P e:=by
 exact cD h fun q h=>Expr.Subscript.elim (motive_1:=fun e=>∀q:e.ctorIdx=21,Expr.Subscript.elim (motive_1:=fun _=>Bool) e q (fun t i _=>k t i)=true->P e) e q (fun _ _ _ _ h=>H _ _ _ h) q h
@[elab_as_elim]
theorem qY{k:List Expr->Bool}(h:eLs e k=true)(H:∀es p,k es=true->P (.List es p)):P e:=by
 exact cD h fun q h=>Expr.List.elim (motive_1:=fun e=>∀q:e.ctorIdx=24,Expr.List.elim (motive_1:=fun _=>Bool) e q (fun es _=>k es)=true->P e) e q (fun _ _ _ h=>H _ _ h) q h
@[elab_as_elim]
theorem DO{k:List Expr->Bool}(h:eTp e k=true)(H:∀es c p,k es=true->P (.Tuple es c p)):P e:=by
 exact cD h fun q h=>Expr.Tuple.elim (motive_1:=fun e=>∀q:e.ctorIdx=25,Expr.Tuple.elim (motive_1:=fun _=>Bool) e q (fun es _ _=>k es)=true->P e) e q (fun _ _ _ _ h=>H _ _ _ h) q h
@[elab_as_elim]
theorem yM{k:Expr->Operator->Expr->Bool}(h:eBi e k=true)(H:∀a o b p,k a o b=true->P (.BinOp a o b p)):P e:=by
 exact cD h fun q h=>Expr.BinOp.elim (motive_1:=fun e=>∀q:e.ctorIdx=2,Expr.BinOp.elim (motive_1:=fun _=>Bool) e q (fun a o b _=>k a o b)=true->P e) e q (fun _ _ _ _ _ h=>H _ _ _ _ h) q h
@[elab_as_elim]
theorem DR{k:BoolOp->List Expr->Bool}(h:eBo e k=true)(H:∀o es p,k o es=true->P (.BoolOp o es p)):P e:=by
 exact cD h fun q h=>Expr.BoolOp.elim (motive_1:=fun e=>∀q:e.ctorIdx=0,Expr.BoolOp.elim (motive_1:=fun _=>Bool) e q (fun o es _=>k o es)=true->P e) e q (fun _ _ _ _ h=>H _ _ _ h) q h
@[elab_as_elim]
theorem yJ{k:UnaryOp->Expr->Bool}(h:eUn e k=true)(H:∀o a p,k o a=true->P (.UnaryOp o a p)):P e:=by
 exact cD h fun q h=>Expr.UnaryOp.elim (motive_1:=fun e=>∀q:e.ctorIdx=3,Expr.UnaryOp.elim (motive_1:=fun _=>Bool) e q (fun o a _=>k o a)=true->P e) e q (fun _ _ _ _ h=>H _ _ _ h) q h
@[elab_as_elim]
theorem I1{k:Expr->List CmpOp->List Expr->Bool}(h:eCm e k=true)(H:∀a d es p,k a d es=true->P (.Compare a d es p)):P e:=by
 exact cD h fun q h=>Expr.Compare.elim (motive_1:=fun e=>∀q:e.ctorIdx=15,Expr.Compare.elim (motive_1:=fun _=>Bool) e q (fun a d es _=>k a d es)=true->P e) e q (fun _ _ _ _ _ h=>H _ _ _ _ h) q h
@[elab_as_elim]
theorem DQ{k:Expr->Expr->Expr->Bool}(h:eIf e k=true)(H:∀c a b p,k c a b=true->P (.IfExp c a b p)):P e:=by
 exact cD h fun q h=>Expr.IfExp.elim (motive_1:=fun e=>∀q:e.ctorIdx=5,Expr.IfExp.elim (motive_1:=fun _=>Bool) e q (fun c a b _=>k c a b)=true->P e) e q (fun _ _ _ _ _ h=>H _ _ _ _ h) q h
@[elab_as_elim]
theorem yK{k:Expr->List Comprehension->Scope->Bool}(h:eLc e k=true)(H:∀a gs sc p,k a gs sc=true->P (.ListComp a gs sc p)):P e:=by
 exact cD h fun q h=>Expr.ListComp.elim (motive_1:=fun e=>∀q:e.ctorIdx=8,Expr.ListComp.elim (motive_1:=fun _=>Bool) e q (fun e gs sc _=>k e gs sc)=true->P e) e q (fun _ _ _ _ _ h=>H _ _ _ _ h) q h
@[elab_as_elim]
theorem yL{k:List (Option Expr)->List Expr->Bool}(h:eDi e k=true)(H:∀ks es p,k ks es=true->P (.Dict ks es p)):P e:=by
 exact cD h fun q h=>Expr.Dict.elim (motive_1:=fun e=>∀q:e.ctorIdx=6,Expr.Dict.elim (motive_1:=fun _=>Bool) e q (fun ks es _=>k ks es)=true->P e) e q (fun _ _ _ _ h=>H _ _ _ h) q h
@[elab_as_elim]
theorem IZ{k:List Expr->Bool}(h:eJs e k=true)(H:∀es p,k es=true->P (.JoinedStr es p)):P e:=by
 exact cD h fun q h=>Expr.JoinedStr.elim (motive_1:=fun e=>∀q:e.ctorIdx=18,Expr.JoinedStr.elim (motive_1:=fun _=>Bool) e q (fun es _=>k es)=true->P e) e q (fun _ _ _ h=>H _ _ h) q h
@[elab_as_elim]
theorem I0{k:Expr->Int->Option Expr->Bool}(h:eFv e k=true)(H:∀a c s p,k a c s=true->P (.FormattedValue a c s p)):P e:=by
 exact cD h fun q h=>Expr.FormattedValue.elim (motive_1:=fun e=>∀q:e.ctorIdx=17,Expr.FormattedValue.elim (motive_1:=fun _=>Bool) e q (fun e c d _=>k e c d)=true->P e) e q (fun _ _ _ _ _ h=>H _ _ _ _ h) q h
@[elab_as_elim]
theorem DP{k:Option Expr->Option Expr->Option Expr->Bool}(h:eSl e k=true)(H:∀a b c p,k a b c=true->P (.Slice a b c p)):P e:=by
 exact cD h fun q h=>Expr.Slice.elim (motive_1:=fun e=>∀q:e.ctorIdx=26,Expr.Slice.elim (motive_1:=fun _=>Bool) e q (fun a b c _=>k a b c)=true->P e) e q (fun _ _ _ _ _ h=>H _ _ _ _ h) q h
end
section
variable{c:Const}{P:Const->Prop}
@[elab_as_elim]
theorem mR(h:wJ c=true)(H:P .none):P c:=by cases c<;>first|exact(aH h).elim|exact H
@[elab_as_elim]
theorem D8(h:Hr c=true)(H:P (.bool true)):P c:=by
 cases c<;>first|exact(aH h).elim|skip
 rename_i b
 cases b<;>first|exact(aH h).elim|exact H
@[elab_as_elim]
theorem wK{k:Bool->Bool}(h:D9 c k=true)(H:∀b,k b=true->P (.bool b)):P c:=by cases c<;>first|exact(aH h).elim|exact H _ h
@[elab_as_elim]
theorem mT{k:Int->Bool}(h:Bn c k=true)(H:∀b,k b=true->P (.int b)):P c:=by cases c<;>first|exact(aH h).elim|exact H _ h
@[elab_as_elim]
theorem jZ{k:Str->Bool}(h:Bm c k=true)(H:∀b,k b=true->P (.str b)):P c:=by cases c<;>first|exact(aH h).elim|exact H _ h
end
section
variable{α:Type}{l:List α}{P:List α->Prop}
@[elab_as_elim]
theorem kM{k:α->Bool}(h:one l k=true)(H:∀a,k a=true->P [a]):P l:=by
 rcases l with _|⟨a,_|_⟩<;>first|exact(aH h).elim|exact H _ h
@[elab_as_elim]
theorem lJ{k:α->α->Bool}(h:CM l k=true)(H:∀a b,k a b=true->P [a,b]):P l:=by
 rcases l with _|⟨a,_|⟨b,_|_⟩⟩<;>first|exact(aH h).elim|exact H _ _ h
@[elab_as_elim]
theorem HK{k:α->α->α->Bool}(h:thr l k=true)(H:∀a b c,k a b c=true->P [a,b,c]):P l:=by
 rcases l with _|⟨a,_|⟨b,_|⟨c,_|_⟩⟩⟩<;>first|exact(aH h).elim|exact H _ _ _ h
@[elab_as_elim]
theorem ja{o:Option α}{Q:Option α->Prop}{k:α->Bool}(h:sH o k=true)(H:∀a,k a=true->Q (some a)):Q o:=by
 cases o<;>first|exact(aH h).elim|exact H _ h
end
section
variable{nms:Nms}{e:Expr}{P:Expr->Prop}{n:String}
@[elab_as_elim]
theorem qQ{k:List Expr->Bool}(h:gN nms e n k=true)(H:∀x d es p,dY nms x n=true->bQ es=true->k es=true->P (.Call (.Name x d) es [] p)):P e:=
 qZ h fun f es p h=>dM (P:=fun f=>P (.Call f es [] p)) h fun x d h=>aY h fun a b c=>H x d es p a b c
@[elab_as_elim]
theorem iz{k:Expr->Bool}(h:g1 nms e n k=true)(H:∀x d a p,dY nms x n=true->aV a=true->k a=true->P (.Call (.Name x d) [a] [] p)):P e:=
 qZ h fun f r p h=>dM (P:=fun f=>P (.Call f r [] p)) h fun x d h=>kM (P:=fun r=>P (.Call (.Name x d) r [] p)) h fun a h=>aY h fun q b c=>H x d a p q b c
@[elab_as_elim]
theorem zV{k:Expr->Expr->Bool}(h:g2 nms e n k=true)(H:∀x d a b p,dY nms x n=true->aV a=true->aV b=true->k a b=true->P (.Call (.Name x d) [a,b] [] p)):P e:=
 qZ h fun f r p h=>dM (P:=fun f=>P (.Call f r [] p)) h fun x d h=>lJ (P:=fun r=>P (.Call (.Name x d) r [] p)) h fun a b h=>cT h fun q u v c=>H x d a b p q u v c
@[elab_as_elim]
theorem t7 {k:Expr->List Expr->Bool} (h:Fx e n k=true) (H: ∀t q es p,oi t=true->(q.endLine==p.line)=true->k t es=true->P (.Call (.Attribute t (n:Str) q) es [] p)):P e:=
 qZ h fun f es p h=>k7 (P:=fun f=>P (.Call f es [] p)) h fun t m q h=>cT h fun a b c d=>bO (P:=fun m=>P (.Call (.Attribute t m q) es [] p)) a (H t q es p b c d)
@[elab_as_elim]
theorem oC {k:Expr->Expr->Bool} (h:m1 e n k=true) (H: ∀t d a p,oi t=true->(d.endLine==p.line)=true->aV a=true->k t a=true->P (.Call (.Attribute t (n:Str) d) [a] [] p)):P e:=
 t7 h fun t d q p b c h=>kM (P:=fun q=>P (.Call (.Attribute t (n:Str) d) q [] p)) h fun a h=>aK h fun u v=>H t d a p b c u v
@[elab_as_elim]
theorem C3 {k:Expr->Expr->Expr->Bool} (h:m2 e n k=true) (H: ∀t d a b p,oi t=true->(d.endLine==p.line)=true->aV a=true->aV b=true->k t a b=true->P (.Call (.Attribute t (n:Str) d) [a,b] [] p)):P e:=
 t7 h fun t d q p b c h=>lJ (P:=fun q=>P (.Call (.Attribute t (n:Str) d) q [] p)) h fun a y h=>aY h fun u r v=>H t d a y p b c u r v
@[elab_as_elim]
theorem jB{o:CmpOp}{k:Expr->Expr->Bool}(h:cm1 e o k=true)(H:∀a b p,k a b=true->P (.Compare a [o] [b] p)):P e:=
 I1 h fun a r d p h=>kM (P:=fun r=>P (.Compare a r d p)) h fun y h=>kM (P:=fun d=>P (.Compare a [y] d p)) h fun b h=>aK h fun q h=>bO (P:=fun o=>P (.Compare a [o] [b] p)) q (H a b p h)
@[elab_as_elim]
theorem Dt{k:Expr->Bool}(h:fv1 e k=true)(H:∀a p,k a=true->P (.FormattedValue a (-1) none p)):P e:=
 I0 h fun a c s p h=>aY h fun u v w=>bO (P:=fun c=>P (.FormattedValue a c s p)) u (kY (P:=fun s=>P (.FormattedValue a (-1) s p)) v (H a p w))
@[elab_as_elim]
theorem mr{g:Comprehension}{Q:Comprehension->Prop}{k:Str->Expr->List Expr->Bool}(h:FW g k=true)(H:∀x q it d,k x it d=true->Q ⟨.Name x q,it,d,0⟩):Q g:=by
 obtain⟨t,it,d,a⟩:=g
 exact aK h fun u v=>bO (P:=fun a=>Q ⟨t,it,d,a⟩) u (dM (P:=fun t=>Q ⟨t,it,d,0⟩) v fun x p h=>H x p it d h)
@[elab_as_elim]
theorem yh{k:Expr->Str->Expr->List Expr->Scope->Bool}(h:lc1 e k=true)(H:∀a x q it d sc p,k a x it d sc=true->P (.ListComp a [⟨.Name x q,it,d,0⟩] sc p)):P e:=
 yK h fun a gs sc p h=>kM (P:=fun gs=>P (.ListComp a gs sc p)) h fun g h=>mr (Q:=fun g=>P (.ListComp a [g] sc p)) h fun x q it d h=>H a x q it d sc p h
end
section
variable{st:Stmt}{P:Stmt->Prop}
@[elab_as_elim]
theorem bY{k:Expr->Expr->Bool}(h:fh st k=true)(H:∀t v p,k t v=true->P (.Assign [t] v p)):P st:=by
 exact cD h fun q h=>Stmt.Assign.elim (motive_2:=fun e=>∀q:e.ctorIdx=5,Stmt.Assign.elim (motive_2:=fun _=>Bool) e q (fun d v _=>one d fun t=>k t v)=true->P e) st q (fun _ _ _ _ h=>kM (P:=fun d=>P (.Assign d _ _)) h fun t h=>H _ _ _ h) q h
@[elab_as_elim]
theorem iD{k:Expr->Bool}(h:rH st k=true)(H:∀e p,k e=true->P (.Expr e p)):P st:=by
 exact cD h fun q h=>Stmt.Expr.elim (motive_2:=fun e=>∀q:e.ctorIdx=24,Stmt.Expr.elim (motive_2:=fun _=>Bool) e q (fun e _=>k e)=true->P e) st q (fun _ _ _ h=>H _ _ h) q h
@[elab_as_elim]
theorem w4{k:Expr->Operator->Expr->Bool}(h:Eu st k=true)(H:∀t o v p,k t o v=true->P (.AugAssign t o v p)):P st:=by
 exact cD h fun q h=>Stmt.AugAssign.elim (motive_2:=fun e=>∀q:e.ctorIdx=7,Stmt.AugAssign.elim (motive_2:=fun _=>Bool) e q (fun t p v _=>k t p v)=true->P e) st q (fun _ _ _ _ _ h=>H _ _ _ _ h) q h
@[elab_as_elim]
theorem GQ{k:Expr->List Stmt->List Stmt->Bool}(h:KG st k=true)(H:∀e a b p,k e a b=true->P (.If e a b p)):P st:=by
 exact cD h fun q h=>Stmt.If.elim (motive_2:=fun e=>∀q:e.ctorIdx=12,Stmt.If.elim (motive_2:=fun _=>Bool) e q (fun e a b _=>k e a b)=true->P e) st q (fun _ _ _ _ _ h=>H _ _ _ _ h) q h
@[elab_as_elim]
theorem Eo{k:Expr->List Stmt->Bool}(h:Hw st k=true)(H:∀e b p,k e b=true->P (.While e b [] p)):P st:=by
 exact cD h fun q h=>Stmt.While.elim (motive_2:=fun e=>∀q:e.ctorIdx=11,Stmt.While.elim (motive_2:=fun _=>Bool) e q (fun e b o _=>o.isEmpty&&k e b)=true->P e) st q (fun _ _ _ _ _ h=>aK h fun u v=>dy (P:=fun o=>P (.While _ _ o _)) u (H _ _ _ v)) q h
@[elab_as_elim]
theorem wZ{k:Expr->Expr->List Stmt->Bool}(h:Es st k=true)(H:∀t g b p,k t g b=true->P (.For t g b [] p)):P st:=by
 exact cD h fun q h=>Stmt.For.elim (motive_2:=fun e=>∀q:e.ctorIdx=9,Stmt.For.elim (motive_2:=fun _=>Bool) e q (fun t g b o _=>o.isEmpty&&k t g b)=true->P e) st q (fun _ _ _ _ _ _ h=>aK h fun u v=>dy (P:=fun o=>P (.For _ _ _ o _)) u (H _ _ _ _ v)) q h
@[elab_as_elim]
theorem wY{k:Expr->Bool}(h:Ep st k=true)(H:∀e p,k e=true->P (.Return (some e) p)):P st:=by
 exact cD h fun q h=>Stmt.Return.elim (motive_2:=fun e=>∀q:e.ctorIdx=3,Stmt.Return.elim (motive_2:=fun _=>Bool) e q (fun e _=>sH e k)=true->P e) st q (fun _ _ _ h=>ja (Q:=fun o=>P (.Return o _)) h fun e h=>H _ _ h) q h
@[elab_as_elim]
theorem Bt(h:Et st=true)(H:∀p,P (.Continue p)):P st:=by
 exact cD h fun q h=>Stmt.Continue.elim (motive_2:=fun e=>∀q:e.ctorIdx=27,Stmt.Continue.elim (motive_2:=fun _=>Bool) e q (fun _=>true)=true->P e) st q (fun _ _ h=>H _) q h
end
section
variable{α β:Type}
theorem aB{m:M α}{f:α->M β}{h:List T}{r:β×List T}{P:Prop}(e:bnd m f h=some r)(H:∀a h',m h=some (a,h')->f a h'=some r->P):P:=by
 unfold bnd at e
 cases d:m h with
 |none=>rw[d]at e;cases e
 |some p=>obtain⟨a,h'⟩:=p;rw[d]at e;exact H a h' d e
theorem aN{o:Option α}{f:α->M β}{h:List T}{r:β×List T}{P:Prop}(e:opt o f h=some r)(H:∀a,o=some a->f a h=some r->P):P:=by
 cases o with
 |none=>cases e
 |some a=>exact H a rfl e
theorem dZ{c:Bool}{m:M β}{h:List T}{r:β×List T}{P:Prop}(e:iff c m h=some r)(H:c=true->m h=some r->P):P:=by
 cases c with
 |false=>cases e
 |true=>exact H rfl e
@[elab_as_elim]
theorem yR{t:T}{a b:M β}{h:List T}{r:β×List T}{P:T->Prop}(e:cnd t a b h=some r)(H:a h=some r->P (.bool true))(H':b h=some r->P (.bool false)):P t:=by
 cases t<;>first|cases e;done|skip
 rename_i q
 cases q
 ·exact H' e
 ·exact H e
@[elab_as_elim]
theorem aM{a b:α}{h h':List T}{P:α->List T->Prop}(e:pur a h=some (b,h'))(H:P a h):P b h':=by cases e;exact H
@[elab_as_elim]
theorem bV{o:Option α}{b:α}{h h':List T}{P:List T->Prop}(e:lft o h=some (b,h'))(H:o=some b->P h):P h':=by
 cases o with
 |none=>cases e
 |some a=>cases e;exact H rfl
theorem gj{h:List T}{r:α×List T}(e:(sd:M α) h=some r):False:=by cases e
@[elab_as_elim]
theorem eC{o:Option α}{f:α->β}{b:β}{P:β->Prop}(e:o.map f=some b)(H:∀a,o=some a->P (f a)):P b:=by
 cases o with
 |none=>cases e
 |some a=>cases e;exact H a rfl
theorem bD{o:Option α}{f:α->Option β}{b:β}{P:Prop}(e:o.bind f=some b)(H:∀a,o=some a->f a=some b->P):P:=by
 cases o with
 |none=>cases e
 |some a=>exact H a rfl e
end
@[elab_as_elim]
theorem jd{α:Type}{c:Prop} [Decidable c]{a b:α}{P:α->Prop}(e:(if c then some a else none)=some b)(H:c->P a):P b:=by
 by_cases h:c
 ·rw[if_pos h]at e;cases e;exact H h
 ·rw[if_neg h]at e;cases e
section
variable{t:T}{P:T->Prop}
theorem dA{i:Int}(e:iOf t=some i):t=.int i:=by cases t<;>first|exact(nos e).elim|exact congrArg T.int (Option.some.inj e)
theorem eM{ts:List T}(e:lOf t=some ts):t=.list ts:=by cases t<;>first|exact(nos e).elim|exact congrArg T.list (Option.some.inj e)
theorem pZ{x:Str}(e:sOf t=some x):t=.str x:=by cases t<;>first|exact(nos e).elim|exact congrArg T.str (Option.some.inj e)
theorem li{x:Bool}(e:bOf t=some x):t=.bool x:=by cases t<;>first|exact(nos e).elim|exact congrArg T.bool (Option.some.inj e)
theorem DW {d:List Key×List T} (e:dOf t=some d):t= .dict d.1 d.2:=by cases t<;>first|exact(nos e).elim|exact congrArg (fun d:List Key×List T=>T.dict d.1 d.2) (Option.some.inj e)
@[elab_as_elim]
theorem BY{u:Unit}(e:vOf t=some u)(H:∀k i a,P (.vec k i a)):P t:=by cases t<;>first|exact(nos e).elim|exact H _ _ _
theorem Il{u:Unit}(e:nOf t=some u):t=.none:=by cases t<;>first|exact(nos e).elim|exact rfl
@[elab_as_elim]
theorem vh{ts:List T}(e:lE t=some ts)(H:P (.list ts))(H':P (.tup ts)):P t:=by cases t<;>first|exact(nos e).elim|exact Option.some.inj e▸H|exact Option.some.inj e▸H'
theorem HM{ts:List T}(e:tOf t=some ts):t=.tup ts:=by cases t<;>first|exact(nos e).elim|exact congrArg T.tup (Option.some.inj e)
@[elab_as_elim]
theorem xj{l:List T}{p:T×T}{Q:List T->Prop}(e:two l=some p)(H:Q [p.1,p.2]):Q l:=by
 rcases l with _|⟨a,_|⟨b,_|_⟩⟩<;>cases e;exact H
end
section
variable{lv:LV}
theorem jU{t:T}(e:cI lv=some t):lv=.fr t:=by cases lv<;>first|exact(nos e).elim|exact congrArg LV.fr (Option.some.inj e)
theorem lK{t:List T}(e:gT lv=some t):lv=.ol t:=by cases lv<;>first|exact(nos e).elim|exact congrArg LV.ol (Option.some.inj e)
theorem zI {d:List Key×List T} (e:qj lv=some d):lv= .od d.1 d.2:=by cases lv<;>first|exact(nos e).elim|exact congrArg (fun d:List Key×List T=>LV.od d.1 d.2) (Option.some.inj e)
theorem CR {d:List Key×List (List T)} (e:vA lv=some d):lv= .odl d.1 d.2:=by cases lv<;>first|exact(nos e).elim|exact congrArg (fun d:List Key×List (List T)=>LV.odl d.1 d.2) (Option.some.inj e)
theorem zG {d:Str×T×Option (List Key×List T)} (e:vu lv=some d):lv= .ov d.1 d.2.1 d.2.2:=by cases lv<;>first|exact(nos e).elim|exact congrArg (fun d:Str×T×Option (List Key×List T)=>LV.ov d.1 d.2.1 d.2.2) (Option.some.inj e)
theorem FY{f:Nat}(e:A1 lv=some f):lv=.fr (.fn f):=by
 unfold A1 at e
 cases q:cI lv with
 |none=>rw[q]at e;exact(nos e).elim
 |some t=>
  rw[q]at e
  rw[jU q]
  clear q
  cases t<;>first|exact(nos e).elim|exact congrArg (fun f=>LV.fr (T.fn f)) (Option.some.inj e)
theorem sZ{u:Unit}(e:iL lv=some u):lv=.fr .hand:=by
 unfold iL at e
 cases q:cI lv with
 |none=>rw[q]at e;exact(nos e).elim
 |some t=>
  rw[q]at e
  rw[jU q]
  clear q
  cases t<;>first|exact(nos e).elim|exact rfl
end
end Internal
end
section
set_option tactic.hygienic false
open PySem PySem.W PyProof.Rows
namespace Internal
noncomputable def Key.is:Key->Value->Bool
 |.i n,v=>Value.isInt n v
 |.s x,v=>Value.isStrOf x v
theorem Key.is_i{n:Int}{v:Value}(h:Key.is (.i n) v=true):∃t,v=.int n t:=Value.isInt_shape h
theorem Key.is_s{x:Str}{v:Value}(h:Key.is (.s x) v=true):∃t,v=.str x t:=Value.isStrOf_shape h
theorem qW{prog:Program}{w:World}{A:Around}{E:Value->Shared->Prop}{s:Shared}{a:Int}{b:Str}{t u:Tok}{Q:Bool->Shared->Prop}(h:Q false s):
  wpAny (model prog w) A (PySem.eqBool (.int a t) (.str b u)) Q E s:=SeqAt.EqAt.int_str a t b u prog w E Q h
theorem qV{prog:Program}{w:World}{A:Around}{E:Value->Shared->Prop}{s:Shared}{a:Int}{b:Str}{t u:Tok}{Q:Bool->Shared->Prop}(h:Q false s):
  wpAny (model prog w) A (PySem.eqBool (.str b u) (.int a t)) Q E s:=SeqAt.EqAt.str_int b u a t prog w E Q h
noncomputable def aJ(prog:Program)(w:World):KeyKind prog w Key where
 is:=Key.is
 hash:=fun|.i n=>hashInt n|.s x=>hashStr w x
 inj:=fun v a b ha hb=>by
  cases a with
  |i n=>
   obtain⟨t,rfl⟩:=Key.is_i ha
   cases b with
   |i m=>obtain⟨u,e⟩:=Key.is_i hb;cases e;rfl
   |s x=>obtain⟨u,e⟩:=Key.is_s hb;cases e
  |s x=>
   obtain⟨t,rfl⟩:=Key.is_s ha
   cases b with
   |i m=>obtain⟨u,e⟩:=Key.is_i hb;cases e
   |s y=>obtain⟨u,e⟩:=Key.is_s hb;cases e;rfl
 byValue:=fun k v h=>by
  cases k with
  |i n=>obtain⟨t,rfl⟩:=Key.is_i h;rfl
  |s x=>obtain⟨t,rfl⟩:=Key.is_s h;rfl
 pyHash:=fun{A E s k v Q} hv h=>by
  cases k with
  |i n=>obtain⟨t,rfl⟩:=Key.is_i hv;exact wpAny_pyHash_int h
  |s x=>obtain⟨t,rfl⟩:=Key.is_s hv;exact wpAny_pyHash_str h
 eqBool:=fun{A E s a b u v Q} hu hv h=>by
  cases a with
  |i n=>
   obtain⟨t,rfl⟩:=Key.is_i hu
   cases b with
   |i m=>
    obtain⟨t',rfl⟩:=Key.is_i hv
    refine wpAny_eqBool_int ?_
    have:decide (Key.i n=Key.i m)=(n==m):=by by_cases e:n=m<;>simp[e]
    rw[<-this];exact h
   |s x=>obtain⟨t',rfl⟩:=Key.is_s hv;exact qW (by simpa using h)
  |s x=>
   obtain⟨t,rfl⟩:=Key.is_s hu
   cases b with
   |i m=>obtain⟨t',rfl⟩:=Key.is_i hv;exact qV (by simpa using h)
   |s y=>
    obtain⟨t',rfl⟩:=Key.is_s hv
    refine wpAny_eqBool_str ?_
    have:decide (Key.s x=Key.s y)=decide (x=y):=by by_cases e:x=y<;>simp[e]
    rw[<-this];exact h
 «strs»:=fun k x t v h=>by
  cases k with
  |i n=>obtain⟨t',e⟩:=Key.is_i h;cases e
  |s y=>
   obtain⟨t',e⟩:=Key.is_s h
   cases e
   cases v<;>rfl
structure Wd where
 fz:Addr->Option Obj
 gz:Addr->Option (Value×Value×Value)
 hd:Option Addr
 disj:∀a,(fz a).isSome->¬((gz a).isSome\/hd=some a)
 dis2:∀a,(gz a).isSome->hd≠some a
namespace Wd
def wr(W:Wd)(a:Addr):Prop:=(W.gz a).isSome\/W.hd=some a
def has(W:Wd)(a:Addr):Prop:=(W.fz a).isSome\/W.wr a
structure Le(W W':Wd):Prop where
 fz:∀a o,W.fz a=some o->W'.fz a=some o
 gz:∀a g,W.gz a=some g->W'.gz a=some g
 hd:∀a,W.hd=some a->W'.hd=some a
theorem Le.refl(W:Wd):W.Le W:=⟨fun _ _ h=>h,fun _ _ h=>h,fun _ h=>h⟩
theorem Le.trans{W W' d:Wd}(a:W.Le W')(b:W'.Le d):W.Le d:=
 ⟨fun x o h=>b.fz x o (a.fz x o h),fun x o h=>b.gz x o (a.gz x o h),fun x h=>b.hd x (a.hd x h)⟩
theorem Le.wr{W W':Wd}(l:W.Le W'){a:Addr}(h:W.wr a):W'.wr a:=by
 rcases h with h|h
 ·refine xE (Option.isSome_iff_exists.mp h) fun g d=>?_
  exact .inl (by rw[l.gz a g d];rfl)
 ·exact .inr (l.hd a h)
theorem Le.has{W W':Wd}(l:W.Le W'){a:Addr}(h:W.has a):W'.has a:=by
 rcases h with h|h
 ·refine xE (Option.isSome_iff_exists.mp h) fun g d=>?_
  exact .inl (by rw[l.fz a g d];rfl)
 ·exact .inr (l.wr h)
end Wd
noncomputable def dU:Addr:=311
noncomputable def dB(f:Nat):Addr:=(bB (tabStmt.getD f 0+1)).n-1
noncomputable def fg(d:Addr):Obj:=⟨.ref dU,some d,.plain,#[]⟩
noncomputable def ent(w:World)(x:Str)(t:Tok)(v:Value):DictEntry:=⟨PyData.keyHash w.params x,.str x t,v⟩
def oM(w:World)(g:Value×Value×Value)(o:Obj):Prop:=
 ∃t1 t2 t3 t4 t5 b1 b2 n,o=⟨.type "dict",none,.dict #[ent w "kind" t1 g.1,ent w "items" t2 g.2.1,ent w "attrs" t3 g.2.2,ent w "shared" t4 (.bool b1),ent w "loose" t5 (.bool b2)] n,#[]⟩
noncomputable def gH:Key->Bool
 |.i _=>true
 |.s x=>sOk x
inductive RepS (W:Wd) (c:String) (R:List Value->Prop) (v:Value):Prop
 |mk (a:Addr) (xs:Array Value) (n:Nat) (e:v=.ref a) (f:W.fz a=some (seqObj c xs n)) (r:R xs.toList):RepS W c R v
inductive RepD (w:World) (W:Wd) (ks:List Key) (R:List Value->Prop) (v:Value):Prop
 |mk (a:Addr) (o:Obj) (kvs:List (Key×Value)) (e:v=.ref a) (m:(a==sysModules)=false) (f:W.fz a=some o) (d:o.IsDictOf (aJ pw w) kvs) (k:kvs.map (·.1)=ks) (z:ks.all gH=true) (r:R (kvs.map (·.2))):RepD w W ks R v
inductive RepV (W:Wd) (k:Str) (R R':Value->Prop) (v:Value):Prop
 |mk (x d:Addr) (t:Tok) (i a:Value) (e:v=.ref x) (f:W.fz x=some (fg d)) (g:W.gz d=some (.str k t,i,a)) (r:R i) (r':R' a) (z:sOk k=true):RepV W k R R' v
section
variable(w:World)(W:Wd)
mutual
def Rep:T->Value->Prop
 |.none,v=>v=.none
 |.bool b,v=>v=.bool b
 |.int i,v=>∃t,v=.int i t
 |.str x,v=>∃t,v=.str x t/\sOk x=true
 |.list ts,v=>RepS W "list" (Reps ts) v
 |.tup ts,v=>RepS W "tuple" (Reps ts) v
 |.dict ks vs,v=>RepD w W ks (Reps vs) v
 |.vec k it at',v=>RepV W k (Rep it) (Rep at') v
 |.fn f,v=>v=.ref (dB f)/\f<82
 |.hand,v=>∃a,v=.ref a/\W.hd=some a
def Reps:List T->List Value->Prop
 | [],vs=>vs=[]
 |t::ts,vs=>∃v r,vs=v::r/\Rep t v/\Reps ts r
end
end
section
variable{w:World}{W W':Wd}
mutual
theorem Rep.mono(l:W.Le W'):∀(t:T){v:Value},Rep w W t v->Rep w W' t v
 |.none,_,h=>h
 |.bool _,_,h=>h
 |.int _,_,h=>h
 |.str _,_,h=>h
 |.list y,_,h=>RepS.casesOn h fun a q n e f r=>⟨a,q,n,e,l.fz _ _ f,Reps.mono l y r⟩
 |.tup y,_,h=>RepS.casesOn h fun a q n e f r=>⟨a,q,n,e,l.fz _ _ f,Reps.mono l y r⟩
 |.dict _ H,_,h=>RepD.casesOn h fun a o F e m f d k z r=>⟨a,o,F,e,m,l.fz _ _ f,d,k,z,Reps.mono l H r⟩
 |.vec _ it at',_,h=>RepV.casesOn h fun x d t i a e f g r J z=>⟨x,d,t,i,a,e,l.fz _ _ f,l.gz _ _ g,Rep.mono l it r,Rep.mono l at' J,z⟩
 |.fn _,_,h=>h
 |.hand,_,h=>(h).elim fun a L=>L.elim fun e f=>⟨a,e,l.hd _ f⟩
theorem Reps.mono(l:W.Le W'):∀(ts:List T){vs:List Value},Reps w W ts vs->Reps w W' ts vs
 | [],_,h=>h
 |t::ts,_,h=>bT h fun v r e a b=>⟨v,r,e,Rep.mono l t a,Reps.mono l ts b⟩
end
theorem Reps.length:∀{ts:List T}{vs:List Value},Reps w W ts vs->vs.length=ts.length:=by
 intro q
 induction q with
 |nil=>
  rintro _ h
  cases h;rfl
 |cons t ts y=>
  rintro _ h
  refine bT h fun v r d _ b=>?_;obtain rfl:=d;simp[y b]
theorem Reps.append:∀{ts z:List T}{vs y:List Value},Reps w W ts vs->Reps w W z y->Reps w W (ts++z) (vs++y):=by
 intro F
 induction F with
 |nil=>
  rintro _ _ _ h q
  subst h;exact q
 |cons t ts H=>
  rintro _ _ _ h q
  refine bT h fun v r d a b=>?_;obtain rfl:=d;exact⟨v,r++_,rfl,a,H b q⟩
theorem Reps.one{t:T}{v:Value}(h:Rep w W t v):Reps w W [t] [v]:=⟨v,[],rfl,h,rfl⟩
theorem Reps.get:∀{ts:List T}{vs:List Value}{i:Nat}{t:T},Reps w W ts vs->ts[i]? =some t->∃v,vs[i]? =some v/\Rep w W t v:=by
 intro z
 induction z with
 |nil=>
  rintro _ _ _ _ e
  simp at e
 |cons t ts F=>
  intro q y
  cases y with
  |zero=>
   rintro _ h e
   refine bT h fun v r d a b=>?_;obtain rfl:=d;simp at e;subst e;exact⟨v,rfl,a⟩
  |succ i=>
   rintro _ h e
   refine bT h fun v r d a b=>?_;obtain rfl:=d;simp at e⊢;exact F b e
theorem Reps.take:∀{ts:List T}{vs:List Value}(n:Nat),Reps w W ts vs->Reps w W (ts.take n) (vs.take n):=by
 intro z
 induction z with
 |nil=>
  rintro _ _ h
  subst h;rw[List.take_nil,List.take_nil];exact rfl
 |cons t ts F=>
  intro q y
  cases y with
  |zero=>
   rintro h
   exact rfl
  |succ n=>
   rintro h
   refine bT h fun v r d a b=>?_;obtain rfl:=d;exact⟨v,r.take n,rfl,a,F n b⟩
theorem Reps.drop:∀{ts:List T}{vs:List Value}(n:Nat),Reps w W ts vs->Reps w W (ts.drop n) (vs.drop n):=by
 intro z
 induction z with
 |nil=>
  rintro _ _ h
  cases h;rw[List.drop_nil,List.drop_nil];exact rfl
 |cons t ts F=>
  intro q y
  cases y with
  |zero=>
   rintro h
   exact h
  |succ n=>
   rintro h
   refine bT h fun v r d a b=>?_;obtain rfl:=d;exact F n b
theorem Reps.reverse:∀{ts:List T}{vs:List Value},Reps w W ts vs->Reps w W ts.reverse vs.reverse:=by
 intro q
 induction q with
 |nil=>
  rintro _ h
  cases h;rfl
 |cons t ts y=>
  rintro _ h
  refine bT h fun v r d a b=>?_;obtain rfl:=d
  rw[List.reverse_cons,List.reverse_cons]
  exact Reps.append (y b) (Reps.one a)
end
def fZ(w:World)(W:Wd)(H:List T)(h:Heap):Prop:=match W.hd with
 |none=>H=[]
 |some a=>∃items,h.PlainList a items/\Reps w W H items.toList
structure Fit(w:World)(h0:Heap)(W:Wd)(H:List T)(h:Heap):Prop where
 fz:∀a o,W.fz a=some o->h.get? a=some o
 gz:∀a g,W.gz a=some g->∃o,h.get? a=some o/\oM w g o
 hd:fZ w W H h
 base:∀a o,h0.get? a=some o->h.get? a=some o
 off:∀a,W.wr a->h0.get? a=none
 hn:H=[]->W.hd=none
theorem Fit.alive{w:World}{h0:Heap}{W:Wd}{H:List T}{h:Heap}(F:Fit w h0 W H h){a:Addr}(m:W.has a):∃o,h.get? a=some o:=by
 rcases m with m|m|m
 ·refine xE (Option.isSome_iff_exists.mp m) fun o e=>?_
  exact⟨o,F.fz a o e⟩
 ·refine xE (Option.isSome_iff_exists.mp m) fun g e=>?_
  refine xEA (F.gz a g e) fun o r _=>?_
  exact⟨o,r⟩
 ·haveI:=F.hd
  unfold fZ at this
  rw[m]at this
  refine xEA this fun q d _=>?_;refine xE d fun n e=>?_
  exact⟨_,e⟩
structure Stp(W:Wd)(s:Shared)(W':Wd)(s':Shared):Prop where
 le:W.Le W'
 fresh:∀a,W'.has a->W.has a\/s.heap.get? a=none
 hd:W.hd=W.hd
 keep:∀a o,s.heap.get? a=some o->¬W.wr a->s'.heap.get? a=some o
 same:∃h dr tk,s'={s with heap:=h,drawn:=dr,toks:=tk}
theorem Stp.refl(W:Wd)(s:Shared):Stp W s W s:=⟨.refl W,fun _ h=>.inl h,rfl,fun _ _ h _=>h,⟨_,_,_,rfl⟩⟩
theorem Stp.mutOf{W W':Wd}{s s':Shared}(x:Stp W s W' s'){a:Addr}{o:Obj}(e:s.heap.get? a=some o)(m:W'.wr a):W.wr a:=by
 rcases x.fresh a (.inr m)with h|h
 ·rcases h with h|h
  ·refine xE (Option.isSome_iff_exists.mp h) fun d q=>?_
   exact absurd m (W'.disj a (by rw[x.le.fz a d q];rfl))
  ·exact h
 ·rw[e]at h;cases h
theorem Stp.trans{W W' r:Wd}{s s' q:Shared}(x:Stp W s W' s')(y:Stp W' s' r q):Stp W s r q where
 le:=x.le.trans y.le
 fresh:=fun a h=>by
  rcases y.fresh a h with h|h
  ·exact x.fresh a h
  ·by_cases m:W.wr a
   ·exact .inl (.inr m)
   ·right
    cases e:s.heap.get? a with
    |none=>rfl
    |some o=>rw[x.keep a o e m]at h;exact nomatch h
 hd:=rfl
 keep:=fun a o e m=>y.keep a o (x.keep a o e m) fun H=>m (x.mutOf e H)
 same:=by
  refine BH x.same fun h O L d=>?_;obtain rfl:=d
  refine BH y.same fun J F z d=>?_;obtain rfl:=d
  exact⟨J,F,z,rfl⟩
theorem Stp.of_keep{W:Wd}{s:Shared}{h':Heap}{tk:Nat}(k:∀a o,s.heap.get? a=some o->h'.get? a=some o):Stp W s W {s with heap:=h',toks:=tk}:=
 ⟨.refl W,fun _ h=>.inl h,rfl,fun a o e _=>k a o e,⟨_,_,_,rfl⟩⟩
theorem Stp.of_keepD{W:Wd}{s:Shared}{h':Heap}{tk:Nat}{d:Drawn}(k:∀a o,s.heap.get? a=some o->h'.get? a=some o):Stp W s W {s with heap:=h',drawn:=d,toks:=tk}:=
 ⟨.refl W,fun _ h=>.inl h,rfl,fun a o e _=>k a o e,⟨_,_,_,rfl⟩⟩
theorem Fit.keep{w:World}{h0:Heap}{W:Wd}{H:List T}{h h':Heap}(F:Fit w h0 W H h)(k:∀a o,h.get? a=some o->h'.get? a=some o):Fit w h0 W H h' where
 fz:=fun a o e=>k a o (F.fz a o e)
 gz:=fun a g e=>(F.gz a g e).elim fun o z=>z.elim fun y i=>⟨o,k a o y,i⟩
 hd:=by
  haveI:=F.hd
  unfold fZ at this⊢
  cases q:W.hd with
  |none=>rw[q]at this;exact this
  |some a=>rw[q]at this;refine xEA this fun d p r=>?_;exact⟨d,p.at fun o e=>k a o e,r⟩
 base:=fun a o e=>k a o (F.base a o e)
 hn:=F.hn
 off:=F.off
theorem Fit.tok{w:World}{h0:Heap}{W:Wd}{H:List T}{s:Shared}{tk:Nat}(F:Fit w h0 W H s.heap):Fit w h0 W H ({s with toks:=tk}:Shared).heap:=F
noncomputable def Wd.add(W:Wd)(a:Addr)(o:Obj)(n:¬W.has a):Wd where
 fz:=fun b=>if b=a then some o else W.fz b
 gz:=W.gz
 hd:=W.hd
 disj:=fun b h=>by
  by_cases e:b=a
  ·subst e;exact fun m=>n (.inr m)
  ·rw[if_neg e]at h;exact W.disj b h
 dis2:=W.dis2
theorem Wd.le_add{W:Wd}{a:Addr}{o:Obj}(n:¬W.has a):W.Le (W.add a o n) where
 fz:=fun b d h=>by
  show(if b=a then some o else W.fz b)=some d
  by_cases e:b=a
  ·subst e;exact absurd (.inl (by rw[h];rfl)) n
  ·rw[if_neg e];exact h
 gz:=fun _ _ h=>h
 hd:=fun _ h=>h
theorem Wd.add_at{W:Wd}{a:Addr}{o:Obj}(n:¬W.has a):(W.add a o n).fz a=some o:=if_pos rfl
theorem Wd.has_add{W:Wd}{a b:Addr}{o:Obj}{n:¬W.has a}(h:(W.add a o n).has b):W.has b\/b=a:=by
 by_cases e:b=a
 ·exact .inr e
 ·left
  rcases h with h|h
  ·change ((if b=a then some o else W.fz b):Option Obj).isSome=true at h
   rw[if_neg e]at h;exact .inl h
  ·exact .inr h
theorem Fit.add{w:World}{h0:Heap}{W:Wd}{H:List T}{h:Heap}{a:Addr}{o:Obj}(F:Fit w h0 W H h)(n:¬W.has a)(e:h.get? a=some o):Fit w h0 (W.add a o n) H h where
 fz:=fun b J y=>by
  change (if b=a then some o else W.fz b)=some J at y
  by_cases q:b=a
  ·rw[if_pos q]at y;obtain rfl:=Option.some.inj y;exact q▸e
  ·rw[if_neg q]at y;exact F.fz b J y
 gz:=F.gz
 hd:=by
  haveI:=F.hd
  unfold fZ at this⊢
  show match W.hd with|none=>H=[]|some O=>∃d,h.PlainList O d/\Reps w (W.add a o n) H d.toList
  cases L:W.hd with
  |none=>rw[L]at this;exact this
  |some O=>rw[L]at this;refine xE this fun d z=>?_;haveI p:=z.1;haveI r:=z.2;exact⟨d,p,Reps.mono (Wd.le_add n) _ r⟩
 base:=F.base
 hn:=F.hn
 off:=F.off
theorem Stp.add{W W':Wd}{s s':Shared}{a:Addr}{o:Obj}(x:Stp W s W' s')(n:¬W'.has a)(e:s.heap.get? a=none):Stp W s (W'.add a o n) s' where
 le:=x.le.trans (Wd.le_add n)
 fresh:=fun b h=>by
  rcases Wd.has_add h with h|h
  ·exact x.fresh b h
  ·exact .inr (h▸e)
 hd:=rfl
 keep:=x.keep
 same:=x.same
theorem Fit.not_has{w:World}{h0:Heap}{W:Wd}{H:List T}{h:Heap}{a:Addr}(F:Fit w h0 W H h)(e:h.get? a=none):¬W.has a:=fun m=>by
 refine xE (F.alive m) fun o d=>?_
 rw[e]at d;cases d
theorem Stp.fresh_not_has{W W':Wd}{s s':Shared}(x:Stp W s W' s'){a:Addr}{o:Obj}(e:s.heap.get? a=some o)(n:¬W.has a):¬W'.has a:=fun m=>by
 rcases x.fresh a m with h|h
 ·exact n h
 ·rw[e]at h;cases h
def Cur(env:Env)(h:Heap)(x:Str)(v:Value):Prop:=
 (env.kindOf x=some .local/\∃m,h.Ns env.locals m/\m x=some v)\/(env.kindOf x=some .cell/\∃c,env.cells.lookup x=some c/\h.IsCell c (some v))
def Lists(w:World)(W:Wd)(h:Heap):List Addr->List (List T)->Prop
 | [],[]=>True
 |l::ls,ts::tss=>(∃items,h.PlainList l items/\Reps w W ts items.toList)/\Lists w W h ls tss
 |_,_=>False
inductive KO (w:World) (W:Wd) (h:Heap) (v:Value) (ts:List T) (fp:List Addr):Prop
 |mk (a:Addr) (items:Array Value) (e:v=.ref a) (f:fp=[a]) (p:h.PlainList a items) (r:Reps w W ts items.toList):KO w W h v ts fp
inductive KP (w:World) (W:Wd) (h:Heap) (v:Value) (ks:List Key) (vs:List T) (fp:List Addr):Prop
 |mk (a:Addr) (kvs:List (Key×Value)) (e:v=.ref a) (f:fp=[a]) (m:(a==sysModules)=false) (d:h.DictOf (aJ pw w) a kvs) (k:kvs.map (·.1)=ks) (r:Reps w W vs (kvs.map (·.2))) (z:ks.all gH=true):KP w W h v ks vs fp
inductive HA (w:World) (W:Wd) (h:Heap) (v:Value) (ks:List Key) (vss:List (List T)) (fp:List Addr):Prop
 |mk (a:Addr) (ls:List Addr) (kvs:List (Key×Value)) (e:v=.ref a) (f:fp=a::ls) (m:(a==sysModules)=false) (d:h.DictOf (aJ pw w) a kvs) (k:kvs.map (·.1)=ks) (k2:kvs.map (·.2)=ls.map Value.ref) (l:Lists w W h ls vss) (n:(a::ls).Nodup)
   (z:ks.all gH=true):HA w W h v ks vss fp
inductive KN (w:World) (W:Wd) (h:Heap) (v:Value) (k:Str) (it:T) (fp:List Addr):Prop
 |mk (x d:Addr) (i:Value) (t:Tok) (o:Obj) (e:v=.ref x) (f:fp=[x,d]) (n:x≠d) (h1:h.get? x=some (fg d)) (h2:h.get? d=some o) (g:oM w (.str k t,i,.none) o) (r:Rep w W it i) (z:sOk k=true):KN w W h v k it fp
inductive KQ (w:World) (W:Wd) (h:Heap) (v:Value) (k:Str) (it:T) (ks:List Key) (vs:List T) (fp:List Addr):Prop
 |mk (x d:Addr) (i:Value) (t:Tok) (o:Obj) (e:Addr) (kvs:List (Key×Value)) (q:v=.ref x) (f:fp=[x,d,e]) (n:[x,d,e].Nodup) (h1:h.get? x=some (fg d)) (h2:h.get? d=some o) (g:oM w (.str k t,i,.ref e) o) (r:Rep w W it i) (z:sOk k=true)
   (m:(e==sysModules)=false) (dd:h.DictOf (aJ pw w) e kvs) (q1:kvs.map (·.1)=ks) (rs:Reps w W vs (kvs.map (·.2))) (zs:ks.all gH=true):KQ w W h v k it ks vs fp
def Own(w:World)(W:Wd)(h:Heap)(v:Value)(lv:LV)(fp:List Addr):Prop:=match lv with
 |.unset=>False
 |.fr t=>Rep w W t v/\fp=[]
 |.ol ts=>KO w W h v ts fp
 |.od ks vs=>KP w W h v ks vs fp
 |.odl ks vss=>HA w W h v ks vss fp
 |.ov k it a=>match a with
  |none=>KN w W h v k it fp
  |some kv=>KQ w W h v k it kv.1 kv.2 fp
theorem g8{w:World}{h h':Heap}{a:Addr}{kvs:List (Key×Value)}(x:h.DictOf (aJ pw w) a kvs)(k:∀o,h.get? a=some o->h'.get? a=some o):h'.DictOf (aJ pw w) a kvs:=
 uU x fun o q y d r=>⟨o,q,y,k _ d,r⟩
theorem uw{w:World}{h:Heap}{a:Addr}{kvs:List (Key×Value)}(x:h.DictOf (aJ pw w) a kvs):∃o,h.get? a=some o:=uU x fun o _ _ e _=>⟨o,e⟩
@[elab_as_elim]
theorem Lists.el0{w:World}{W:Wd}{h:Heap}{d:List (List T)}{P:List (List T)->Prop}(x:Lists w W h [] d)(K:P []):P d:=by
 cases d with
 |nil=>exact K
 |cons q d=>exact x.elim
@[elab_as_elim]
theorem Lists.el {w:World} {W:Wd} {h:Heap} {l:Addr} {r:List Addr} {d:List (List T)} {P:List (List T)->Prop} (x:Lists w W h (l::r) d) (K: ∀items ts d,h.PlainList l items->Reps w W ts items.toList->Lists w W h r d->P (ts::d)):P d:=by
 cases d with
 |nil=>exact x.elim
 |cons ts d=>exact x.1.elim fun items q=>K items ts d q.1 q.2 x.2
theorem Lists.frame{w:World}{W W':Wd}{h h':Heap}(l:W.Le W'):∀{y:List Addr}{d:List (List T)},Lists w W h y d->(∀a∈y,∀o,h.get? a=some o->h'.get? a=some o)->Lists w W' h' y d:=by
 intro y
 induction y with
 |nil=>
  intro d x k
  refine Lists.el0 x ?_
  exact trivial
 |cons a y F=>
  intro d x k
  refine Lists.el x fun q z d p r x=>?_
  exact⟨⟨q,p.at fun o e=>k a (.head _) o e,Reps.mono l z r⟩,F x fun b H=>k b (.tail _ H)⟩
theorem Own.frame{w:World}{W W':Wd}{h h':Heap}{v:Value}{lv:LV}{fp:List Addr}(l:W.Le W')(y:Own w W h v lv fp)(k:∀a∈fp,∀o,h.get? a=some o->h'.get? a=some o):Own w W' h' v lv fp:=by
 cases lv with
 |unset=>exact y.elim
 |fr t=>exact⟨Rep.mono l t y.1,y.2⟩
 |ol ts=>obtain⟨a,H,e,rfl,p,r⟩:=y;exact⟨a,H,e,rfl,p.at fun o e=>k a (.head _) o e,Reps.mono l ts r⟩
 |od ks vs=>obtain⟨a,F,e,rfl,m,d,q,r,z⟩:=y;exact⟨a,F,e,rfl,m,g8 d fun o e=>k a (.head _) o e,q,Reps.mono l vs r,z⟩
 |odl ks Z=>obtain⟨a,ls,F,e,rfl,m,d,q,r,z,n,J⟩:=y;exact⟨a,ls,F,e,rfl,m,g8 d fun o e=>k a (.head _) o e,q,r,z.frame l fun b hb=>k b (.tail _ hb),n,J⟩
 |ov kd it at'=>cases at' with
  |none=>obtain⟨x,d,i,t,o,e,rfl,n,O,L,g,r,z⟩:=y;exact⟨x,d,i,t,o,e,rfl,n,k x (.head _) _ O,k d (.tail _ (.head _)) _ L,g,Rep.mono l it r,z⟩
  |some kv=>obtain⟨x,d,i,t,o,Y,F,e,rfl,n,O,L,g,r,z,m,dd,q,rs,J⟩:=y;exact⟨x,d,i,t,o,Y,F,e,rfl,n,k x (.head _) _ O,k d (.tail _ (.head _)) _ L,g,Rep.mono l it r,z,m,g8 dd fun o e=>k Y (.tail _ (.tail _ (.head _))) o e,q,Reps.mono l _ rs,J⟩
def iA(env:Env)(nm:Nm)(fp:Nat->List Addr)(a:Addr):Prop:=
 a=env.locals\/(∃x,env.cells.lookup x=some a)\/∃x i,nm.lookup x=some i/\a∈fp i
structure Vst(w:World)(env:Env)(nm:Nm)(ρ:aE)(fp:Nat->List Addr)(W:Wd)(h:Heap):Prop where
 ns:∃m,h.Ns env.locals m
 nsW:¬W.has env.locals
 cell:∀x c,env.cells.lookup x=some c->(∃v,h.IsCell c v)/\¬W.has c
 cinj:∀x y c,env.cells.lookup x=some c->env.cells.lookup y=some c->x=y
 dom:∀x,env.kindOf x=some .cell->∃c,env.cells.lookup x=some c
 slot:∀x i,nm.lookup x=some i->(env.kindOf x=some .local\/env.kindOf x=some .cell)/\((ρ i=.unset/\fp i=[])\/∃v,Cur env h x v/\Own w W h v (ρ i) (fp i))
 fpW:∀x i a,nm.lookup x=some i->a∈fp i->¬W.has a/\(∃o,h.get? a=some o)/\a≠env.locals/\∀y c,env.cells.lookup y=some c->a≠c
 fpD:∀x y i j a,nm.lookup x=some i->nm.lookup y=some j->a∈fp i->a∈fp j->i=j
 inj:∀x y i,nm.lookup x=some i->nm.lookup y=some i->x=y
section
variable{w:World}{env:Env}{nm:Nm}{ρ:aE}{fp:Nat->List Addr}{W W':Wd}{h h':Heap}
theorem Vst.foot_ok(S:Vst w env nm ρ fp W h){a:Addr}(f:iA env nm fp a):¬W.has a/\∃o,h.get? a=some o:=by
 rcases f with rfl|⟨x,hx⟩|⟨x,i,hx,y⟩
 ·refine uT S.ns fun m o _ _ r=>?_;haveI q:=r.1
  exact⟨S.nsW,o,q⟩
 ·obtain⟨⟨v,o,q,_⟩,n⟩:=S.cell x a hx
  exact⟨n,o,q⟩
 ·haveI d:=S.fpW x i a hx y;haveI n:=d.1;haveI e:=d.2.1
  exact⟨n,e⟩
theorem Cur.at'{x:Str}{v:Value}(c:Cur env h x v)(r:∀o,h.get? env.locals=some o->h'.get? env.locals=some o)(q:∀c o,env.cells.lookup x=some c->h.get? c=some o->h'.get? c=some o):Cur env h' x v:=by
 rcases c with⟨a,m,n,e⟩|⟨a,c,l,o,y,d⟩
 ·exact .inl ⟨a,m,n.at' r,e⟩
 ·exact .inr ⟨a,c,l,o,q c o l y,d⟩
theorem Vst.frame(S:Vst w env nm ρ fp W h)(l:W.Le W')(k:∀a o,iA env nm fp a->h.get? a=some o->h'.get? a=some o)(n:∀a,iA env nm fp a->¬W'.has a):Vst w env nm ρ fp W' h' where
 ns:=S.ns.elim fun m x=>⟨m,x.at' fun o e=>k _ o (.inl rfl) e⟩
 nsW:=n _ (.inl rfl)
 cell:=fun x c e=>m8 (S.cell x c e).1 fun v o q y=>⟨⟨v,o,k c o (.inr (.inl ⟨x,e⟩)) q,y⟩,n c (.inr (.inl ⟨x,e⟩))⟩
 cinj:=S.cinj
 dom:=S.dom
 slot:=fun x i e=>by
  haveI a:=(S.slot x i e).1;haveI b:=(S.slot x i e).2
  refine⟨a,?_⟩
  rcases b with b|⟨v,c,o⟩
  ·exact .inl b
  ·exact .inr ⟨v,c.at' (fun o e=>k _ o (.inl rfl) e) (fun c o r e=>k c o (.inr (.inl ⟨x,r⟩)) e),o.frame l fun a d o z=>k a o (.inr (.inr ⟨x,i,e,d⟩)) z⟩
 fpW:=fun x i a e d=>⟨n a (.inr (.inr ⟨x,i,e,d⟩)),(S.fpW x i a e d).2.1.imp fun o q=>k a o (.inr (.inr ⟨x,i,e,d⟩)) q,(S.fpW x i a e d).2.2⟩
 fpD:=S.fpD
 inj:=S.inj
theorem Vst.stp{s s':Shared}(S:Vst w env nm ρ fp W s.heap)(x:Stp W s W' s'):Vst w env nm ρ fp W' s'.heap:=
 S.frame x.le (fun a o f e=>x.keep a o e fun m=>(S.foot_ok f).1 (.inr m)) fun a f=>(S.foot_ok f).elim fun n d=>d.elim fun _ e=>x.fresh_not_has e n
theorem Vst.tok{s:Shared}{tk:Nat}(S:Vst w env nm ρ fp W s.heap):Vst w env nm ρ fp W ({s with toks:=tk}:Shared).heap:=S
noncomputable def cK(fp:Nat->List Addr)(i:Nat)(f:List Addr):Nat->List Addr:=fun j=>if j=i then f else fp j
structure NewFp(env:Env)(nm:Nm)(fp:Nat->List Addr)(W:Wd)(h:Heap)(i:Nat)(f:List Addr):Prop where
 ok:∀a∈f,¬W.has a/\(∃o,h.get? a=some o)/\a≠env.locals/\∀y c,env.cells.lookup y=some c->a≠c
 apart:∀a∈f,∀y j,nm.lookup y=some j->j≠i->a∉fp j
theorem NewFp.nil{i:Nat}:NewFp env nm fp W h i []:=⟨fun _ h=>((List.not_mem_nil h).elim),fun _ h=>((List.not_mem_nil h).elim)⟩
theorem Vst.put{x:Str}{i:Nat}{v:Value}{lv:LV}{f:List Addr}(S:Vst w env nm ρ fp W h)(hx:nm.lookup x=some i)(l:W.Le W')
  (ns:∃m,h'.Ns env.locals m) (aa:∀y c,env.cells.lookup y=some c->∃v,h'.IsCell c v)
  (n:∀a,iA env nm fp a->a∉f->a∉fp i->¬W'.has a) (ae:Cur env h' x v) (ac:∀y u,y≠x->Cur env h y u->Cur env h' y u) (ab:Own w W' h' v lv f) (L:NewFp env nm fp W' h' i f)
  (k:∀y j a o,nm.lookup y=some j->j≠i->a∈fp j->h.get? a=some o->h'.get? a=some o):Vst w env nm (upd ρ i lv) (cK fp i f) W' h':=by
 have ad:∀a∈fp i,a≠env.locals:=fun a d=>(S.fpW x i a hx d).2.2.1
 have af:∀a∈fp i,∀y c,env.cells.lookup y=some c->a≠c:=fun a d=>(S.fpW x i a hx d).2.2.2
 refine⟨ns,n _ (.inl rfl) (fun F=>(L.ok _ F).2.2.1 rfl) (fun F=>ad _ F rfl),fun y c e=>⟨aa y c e,n _ (.inr (.inl ⟨y,e⟩)) (fun F=>(L.ok _ F).2.2.2 y c e rfl) fun F=>af _ F y c e rfl⟩,S.cinj,S.dom,?_,?_,?_,S.inj⟩
 ·intro y j e
  refine⟨(S.slot y j e).1,?_⟩
  by_cases r:j=i
  ·subst r
   rw[S.inj y x j e hx]
   exact .inr ⟨v,ae,by simpa [i7,cK]using ab⟩
  ·have e1:upd ρ i lv j=ρ j:=lw _ _ _ _ r
   have e2:cK fp i f j=fp j:=if_neg r
   rw[e1,e2]
   rcases(S.slot y j e).2 with b|⟨u,c,o⟩
   ·exact .inl b
   ·refine .inr ⟨u,ac y u (fun q=>r (by subst q;rw[hx]at e;obtain rfl:=Option.some.inj e;rfl)) c,o.frame l fun a d o' e'=>k y j a o' e r d e'⟩
 ·intro y j a e d
  by_cases r:j=i
  ·subst r
   rw[show cK fp j f j=f from if_pos rfl]at d
   exact L.ok a d
  ·rw[show cK fp i f j=fp j from if_neg r]at d
   haveI Z:=S.fpW y j a e d;refine xE Z.2.1 fun o ho=>?_;haveI b:=Z.2.2
   exact⟨n a (.inr (.inr ⟨y,j,e,d⟩)) (fun F=>L.apart a F y j e r d) fun F=>r (S.fpD y x j i a e hx d F),⟨o,k y j a o e r d ho⟩,b⟩
 ·intro y z J H a e1 e2 Y O
  by_cases c1:J=i<;>by_cases c2:H=i
  ·rw[c1,c2]
  ·subst c1
   rw[show cK fp J f J=f from if_pos rfl]at Y
   rw[show cK fp J f H=fp H from if_neg c2]at O
   exact absurd O (L.apart a Y z H e2 c2)
  ·subst c2
   rw[show cK fp H f H=f from if_pos rfl]at O
   rw[show cK fp H f J=fp J from if_neg c1]at Y
   exact absurd Y (L.apart a O y J e1 c1)
  ·rw[show cK fp i f J=fp J from if_neg c1]at Y
   rw[show cK fp i f H=fp H from if_neg c2]at O
   exact S.fpD y z J H a e1 e2 Y O
end
theorem Stp.write{q W:Wd}{d s:Shared}{h':Heap}{tk:Nat}{P:Addr->Prop}(x:Stp q d W s)(k:∀b o,¬P b->s.heap.get? b=some o->h'.get? b=some o)(n:∀a,P a->d.heap.get? a=none):
  Stp q d W {s with heap:=h',toks:=tk} where
 le:=x.le
 fresh:=x.fresh
 hd:=rfl
 keep:=fun a o e m=>k a o (fun p=>by rw[n a p]at e;exact nomatch e) (x.keep a o e m)
 same:=by refine BH x.same fun h y t r=>?_;obtain rfl:=r;exact⟨h',y,tk,rfl⟩
theorem Fit.write{w:World}{h0:Heap}{W:Wd}{H:List T}{h h':Heap}{P:Addr->Prop}(F:Fit w h0 W H h)(k:∀b o,¬P b->h.get? b=some o->h'.get? b=some o)(n:∀a,P a->¬W.has a)(z:∀a,P a->h0.get? a=none):Fit w h0 W H h' where
 fz:=fun a o e=>k a o (fun p=>n a p (.inl (by rw[e];rfl))) (F.fz a o e)
 gz:=fun a g e=>(F.gz a g e).elim fun o L=>L.elim fun J i=>⟨o,k a o (fun p=>n a p (.inr (.inl (by rw[e];rfl)))) J,i⟩
 hd:=by
  haveI:=F.hd
  unfold fZ at this⊢
  cases y:W.hd with
  |none=>rw[y]at this;exact this
  |some a=>rw[y]at this;refine xE this fun d q=>?_;haveI p:=q.1;haveI r:=q.2;exact⟨d,p.at fun o e=>k a o (fun p=>n a p (.inr (.inr y))) e,r⟩
 base:=fun a o e=>k a o (fun p=>by rw[z a p]at e;exact nomatch e) (F.base a o e)
 hn:=F.hn
 off:=F.off
section
variable{w:World}{env:Env}{nm:Nm}{ρ:aE}{fp:Nat->List Addr}{W:Wd}{M:Model}{A:Around}{E:Value->Shared->Prop}{s:Shared}
theorem Vst.store{x:Str}{i:Nat}{v:Value}{lv:LV}{f:List Addr}{Q:Unit->Shared->Prop}(S:Vst w env nm ρ fp W s.heap)(hk:env.scope.kind=.function)(hx:nm.lookup x=some i)
  (ac:Own w W s.heap v lv f) (nf:NewFp env nm fp W s.heap i f)
  (h:∀h' tk a,(a=env.locals\/env.cells.lookup x=some a)->(∀b o,b≠a->s.heap.get? b=some o->h'.get? b=some o)->Vst w env nm (upd ρ i lv) (cK fp i f) W h'->Q () {s with heap:=h',toks:=tk}):
  wpAny M A (storeName env x v) Q E s:=by
 rcases(S.slot x i hx).1 with hl|hl
 ·refine S.ns.elim fun m hn=>?_
  refine wpAny_storeName_local hl hn (fun h' ab aa=>?_) (by rw[hk];rfl)
  have z:∀b o,b≠env.locals->s.heap.get? b=some o->h'.get? b=some o:=fun b o hb e=>aa.extBut b o hb e
  refine h h' _ _ (.inl rfl) z (S.put hx (.refl W) ⟨_,ab⟩ (fun y c e=>?_) (fun a fa _ _=>(S.foot_ok fa).1) (.inl ⟨hl,_,ab,by simp⟩) (fun y u Z c=>?_) (ac.frame (.refl W) fun a L o e=>z a o (nf.ok a L).2.2.1 e) ?_ ?_)
  ·haveI O:=S.cell y c e;refine m8 O.1 fun u o r H=>?_
   refine⟨u,o,z c o (fun q=>?_) r,H⟩
   refine s7 hn fun o' es ep F J _=>?_
   rw[q,F]at r;obtain rfl:=Option.some.inj r
   rw[J]at H;cases H
  ·rcases c with⟨a,m',n',e⟩|⟨a,c,l,o,r,H⟩
   ·refine .inl ⟨a,_,ab,?_⟩
    rw[if_neg Z]
    refine s6 n' fun o1 ah aj g1 d1 _ f1=>?_
    refine s6 hn fun o2 ag ai g2 d2 _ f2=>?_
    rw[g1]at g2;obtain rfl:=Option.some.inj g2
    rw[d1]at d2;cases d2
    rw[<-f2,f1];exact e
   ·refine .inr ⟨a,c,l,o,z c o (fun q=>?_) r,H⟩
    refine s7 hn fun o' es ep F J _=>?_
    rw[q,F]at r;obtain rfl:=Option.some.inj r
    rw[J]at H;cases H
  ·exact⟨fun a L=>xh (nf.ok a L) fun n q b1 b2=>⟨n,q.imp fun o r=>z a o b1 r,b1,b2⟩,nf.apart⟩
  ·intro y j a o Z _ L e
   exact z a o (S.fpW y j a Z L).2.2.1 e
 ·refine(S.dom x hl).elim fun c Y=>?_
  haveI O:=S.cell x c Y;obtain⟨af,hv⟩:=O.1
  refine wpAny_storeName_cell hk hl Y hv fun h' ad aa=>?_
  have z:∀b o,b≠c->s.heap.get? b=some o->h'.get? b=some o:=fun b o hb e=>aa.extBut b o hb e
  have ae:env.locals≠c:=fun q=>by
   refine zn S.ns fun m o' es ep F J _=>?_
   refine xEA hv fun o r H=>?_
   rw[q,r]at F;obtain rfl:=Option.some.inj F
   rw[J]at H;cases H
  refine h h' s.toks _ (.inr Y) z (S.put hx (.refl W) ?_ (fun y d e=>?_) (fun a fa _ _=>(S.foot_ok fa).1) (.inr ⟨hl,c,Y,ad⟩) (fun y u Z cu=>?_) (ac.frame (.refl W) fun a L o e=>z a o ((nf.ok a L).2.2.2 x c Y) e) ?_ ?_)
  ·refine S.ns.elim fun m hn=>?_
   exact⟨m,hn.at' fun o e=>z _ o ae e⟩
  ·by_cases q:d=c
   ·exact q.symm▸⟨_,ad⟩
   ·haveI O:=S.cell y d e;refine m8 O.1 fun u o r H=>?_
    exact⟨u,o,z d o q r,H⟩
  ·exact cu.at' (fun o e=>z _ o ae e) fun d o e r=>z d o (fun q=>Z (S.cinj y x c (q▸e) Y)) r
  ·exact⟨fun a L=>xh (nf.ok a L) fun n q b1 b2=>⟨n,q.imp fun o r=>z a o (b2 x c Y) r,b1,b2⟩,nf.apart⟩
  ·intro y j a o Z _ L e
   exact z a o ((S.fpW y j a Z L).2.2.2 x c Y) e
theorem Vst.load{x:Str}{v:Value}{Q:Value->Shared->Prop}(d:env.scope.kind=.function)(c:Cur env s.heap x v)(h:Q v s):wpAny M A (loadName env x) Q E s:=by
 rcases c with⟨a,m,n,e⟩|⟨a,c,l,b⟩
 ·exact wpAny_loadName_local d a n e h
 ·exact wpAny_loadName_cell d a l b h
end
structure AOk(n:Nat)(A:Around):Prop where
 hd:A.handled=none
 dp:A.depth+n+20<=recursionLimit
 un:A.units+10*n+200<cLine
structure Cx(n:Nat)(A:Around)(env:Env):Prop where
 ao:AOk n A
 kind:env.scope.kind=.function
 glob:env.globals=mainNs
 blt:env.builtins=builtinsNs
noncomputable def blts:List (String×Value):=[("len",.builtin "len"),("abs",.builtin "abs"),("max",.builtin "max"),("str",.type "str"),("sum",.builtin "sum"),("sorted",.builtin "sorted"),("set",.type "set"),("list",.type "list"),
 ("isinstance",.builtin "isinstance"),("range",.type "range"),("reversed",.type "reversed")]
noncomputable def eD(P:Params):Frag:=(KC P)
noncomputable def GW:T->Value
 |.bool b=>.bool b
 |_=>.none
structure cR(w:World)(h:Heap):Prop where
 fn:∀f,f<82->∃o dV pm cd,h.get? (dB f)=some o/\o.data=.func (eF (bJ f) none dV pm cd)/\h.CodeRec (.ref cd) (eF (bJ f) none dV pm cd).qualname/\
  ((tab f).map (·.dflt)=some []/\dV=.none\/∃d a n,(tab f).map (·.dflt)=some d/\d≠[]/\dV=.ref a/\h.get? a=some (seqObj "tuple" (d.map GW).toArray n))
 glob:∃mg,h.Ns mainNs mg/\(∀f,f<82->mg (fu f)=some (.ref (dB f)))/\mg "Vector" =some (.ref dU)/\∀p∈blts,mg p.1=none
 blt:∃mb,h.Ns builtinsNs mb/\∀p∈blts,mb p.1=some p.2
 lim:h.NoLimit
 cls:(eD w.params).In h
 cr:h.CodeRec (.ref 300) "Vector.__init__"
inductive Pst (w:World) (h0:Heap) (W:Wd) (s:Shared) (H':List T) (φ:Wd->Value->Prop) (v:Value) (s':Shared):Prop
 |mk (W':Wd) (x:Stp W s W' s') (F:Fit w h0 W' H' s'.heap) (r:φ W' v):Pst w h0 W s H' φ v s'
noncomputable abbrev Nev:Value->Shared->Prop:=fun _ _=>False
section
variable(w:World)(h0:Heap)(C:Nat->List T->M LV)(n:Nat)
def SX(x:X):Prop:=∀(e:Expr)(A:Around)(env:Env)(nm:Nm)(ρ:aE)(fp:Nat->List Addr)(W:Wd)(H:List T)(s:Shared)(t:T)(H':List T),
 mX env.scope.names nm x e=true->Cx n A env->Vst w env nm ρ fp W s.heap->Fit w h0 W H s.heap->evX C ρ x H=some (t,H')->
 wpAny (model pw w) A (eval e env) (Pst w h0 W s H' fun W' v=>Rep w W' t v) Nev s
def SXs(xs:List X):Prop:=∀(es:List Expr)(A:Around)(env:Env)(nm:Nm)(ρ:aE)(fp:Nat->List Addr)(W:Wd)(H:List T)(s:Shared)(ts:List T)(H':List T)(pos:Pos),
 mXs env.scope.names nm xs es=true->bQ es=true->Cx n A env->Vst w env nm ρ fp W s.heap->Fit w h0 W H s.heap->d9 C ρ xs H=some (ts,H')->
 wpAny (model pw w) A (spliced (backTo pos (starEach es env))) (fun vs s'=>∃W',Stp W s W' s'/\Fit w h0 W' H' s'.heap/\Reps w W' ts vs) Nev s
end
section
variable{w:World}{h0:Heap}{A:Around}{W W':Wd}{H H':List T}{s s':Shared}{t:T}{φ:Wd->Value->Prop}
theorem el4{α:Type}{A B C:α->Prop}{P:Prop}(h:∃x,A x/\B x/\C x)(K:∀x,A x->B x->C x->P):P:=nc h K
theorem Pst.el{v:Value}{P:Prop}(h:Pst w h0 W s H' φ v s')(K:∀W',Stp W s W' s'->Fit w h0 W' H' s'.heap->φ W' v->P):P:=Pst.casesOn h K
theorem Pst.here{v:Value}(F:Fit w h0 W H s.heap)(h:φ W v):Pst w h0 W s H φ v s:=⟨W,.refl W s,F,h⟩
theorem Pst.tok{v:Value}{tk:Nat}(F:Fit w h0 W H s.heap)(h:φ W v):Pst w h0 W s H φ v {s with toks:=tk}:=
 ⟨W,Stp.of_keep (h':=s.heap) fun _ _ e=>e,F,h⟩
theorem Pst.kept{v:Value}{h':Heap}{tk:Nat}(F:Fit w h0 W H s.heap)(k:∀a o,s.heap.get? a=some o->h'.get? a=some o)(h:φ W v):Pst w h0 W s H φ v {s with heap:=h',toks:=tk}:=
 ⟨W,Stp.of_keep k,F.keep k,h⟩
theorem Pst.after{v:Value}{s₁:Shared}{d:Wd}(x:Stp W s d s₁)(h:Pst w h0 d s₁ H φ v s'):Pst w h0 W s H φ v s':=
 Pst.casesOn h fun W' y F p=>⟨W',x.trans y,F,p⟩
theorem Pst.made{v:Value}{a:Addr}{o:Obj}{h':Heap}{tk:Nat}(F:Fit w h0 W H s.heap)(k:∀a o,s.heap.get? a=some o->h'.get? a=some o)(n:s.heap.get? a=none)(e:h'.get? a=some o)
  (h:∀W',W.Le W'->W'.fz a=some o->φ W' v):Pst w h0 W s H φ v {s with heap:=h',toks:=tk}:=by
 haveI d:¬W.has a:=F.not_has n
 exact⟨W.add a o d,(Stp.of_keep k).add d n,(F.keep k).add d e,h _ (Wd.le_add d) (Wd.add_at d)⟩
end
section
variable{w:World}{h0:Heap}{C:Nat->List T->M LV}{n:Nat}
theorem HX:SX w h0 C n .none:=by
 intro e A r z y J W H s t H' d L S F q
 refine dS d fun c kd p d=>?_
 refine mR d ?_
 refine aM q ?_
 rw[eval_Constant]
 exact wpAny_pure (Pst.here F rfl)
theorem H8(b:Bool):SX w h0 C n (.bool b):=by
 intro e A r J z L W H s t H' d O S F q
 refine dS d fun c kd p d=>?_
 refine wK d fun y d=>?_
 obtain rfl:b=y:=eq_of_beq d
 refine aM q ?_
 rw[eval_Constant]
 exact wpAny_pure (Pst.here F rfl)
theorem JR(i:Int):SX w h0 C n (.int i):=by
 intro e A r z y J W H s t H' d L S F q
 refine dS d fun c kd p d=>?_
 refine mT d fun j d=>?_
 obtain rfl:i=j:=eq_of_beq d
 exact aM q (wpAny_Constant_int (Pst.tok F ⟨_,rfl⟩))
theorem JM(x:Str):SX w h0 C n (.str x):=by
 intro e A r z y J W H s t H' d L S F q
 refine dS d fun c kd p d=>?_
 refine jZ d fun j d=>?_
 refine aK d fun m1 m2=>?_
 obtain rfl:x=j:=eq_of_beq m1
 exact aM q (Calls.Constant_str (Pst.tok F ⟨_,rfl,m2⟩))
theorem mh{q:Nm}{x:Str}{i:Nat}(h:qL q x i=true):q.lookup x=some i/\(x==("__debug__" :Str))=false:=by
 unfold qL at h
 rw[Bool.and_eq_true]at h
 exact⟨eq_of_beq h.1,by simpa using h.2⟩
theorem lW{A:Around}{env:Env}{q:Nm}{ρ:aE}{y:Nat->List Addr}{W:Wd}{s:Shared}{x:Str}{i:Nat}{pos:Pos}{Q:Value->Shared->Prop}{E:Value->Shared->Prop}
  (z:qL q x i=true) (J:Cx n A env) (S:Vst w env q ρ y W s.heap) {lv:LV} (r:ρ i=lv) (d:lv≠.unset)
  (h:∀v,Own w W s.heap v lv (y i)->Q v s):wpAny (model pw w) A (eval (.Name x pos) env) Q E s:=by
 refine xA (mh z) fun hx F=>?_
 refine wpAny_Name ?_ F
 rcases(S.slot x i hx).2 with b|⟨v,c,o⟩
 ·exact absurd (r.symm.trans b.1) d
 ·exact Vst.load J.kind c (h v (r▸o))
theorem Dw{t:T}:LV.fr t≠.unset:=fun h=>nomatch h
theorem JK(i:Nat):SX w h0 C n (.var i):=by
 intro e A y L J O W H s t H' d z S F q
 refine dM d fun x r d=>?_
 refine bV q fun q=>?_
 exact lW d z S (jU q) Dw fun v o=>Pst.here F o.1
theorem pB{a b:X}{e e':Expr}{A:Around}{env:Env}{Y:Nm}{ρ:aE}{fp:Nat->List Addr}{W:Wd}{H H1 H2:List T}{s:Shared}{ta tb:T}{Q:Value->Shared->Prop}{op:Value->Value->Sem Value}
  (ha:SX w h0 C n a) (hb:SX w h0 C n b) (m1:mX env.scope.names Y a e=true) (m2:mX env.scope.names Y b e'=true) (cx:Cx n A env) (S:Vst w env Y ρ fp W s.heap) (F:Fit w h0 W H s.heap)
  (e1:evX C ρ a H=some (ta,H1)) (e2:evX C ρ b H1=some (tb,H2))
  (h:∀J y W' s',Stp W s W' s'->Fit w h0 W' H2 s'.heap->Rep w W' ta J->Rep w W' tb y->wpAny (model pw w) A (op J y) Q Nev s'):
  wpAny (model pw w) A (eval e env) (fun J s₁=>wpAny (model pw w) A (eval e' env) (fun y d=>wpAny (model pw w) A (op J y) Q Nev d) Nev s₁) Nev s:=by
 refine wpAny_mono (ha e A env Y ρ fp W H s ta H1 m1 cx S F e1) (fun J s₁ aa=>?_) fun _ _ z=>z
 refine Pst.el aa fun ac r ae O=>?_
 refine wpAny_mono (hb e' A env Y ρ fp ac H1 s₁ tb H2 m2 cx (S.stp r) ae e2) (fun y d Z=>?_) fun _ _ z=>z
 refine Pst.el Z fun ab q ad L=>?_
 exact h J y ab d (r.trans q) ad (Rep.mono q.le _ O) L
end
end Internal
end
section
open PySem PySem.W PyProof.Rows
namespace Internal
noncomputable def wz:T->PyData
 |.int i=>.int i
 |.str x=>.str x
 |_=>.none
noncomputable def wA:T->PyData
 |.tup ts=>.tuple (ts.map wz)
 |t=>wz t
noncomputable def o7:T->PyData
 |.list ts=>.list (ts.map wA)
 |t=>wA t
section
variable{w:World}{h0:Heap}{W:Wd}{H:List T}{h:Heap}
theorem CH{t:T}{v:Value}(r:Rep w W t v)(d:isS t=true):∃z,Reads h v (wz t) z:=by
 cases t<;>first|exact(aH d).elim|skip
 ·obtain rfl:v=.none:=r;exact⟨_,.none⟩
 ·obtain⟨y,rfl⟩:=r;exact⟨_,.int _ _⟩
 ·refine xEA r fun y q _=>?_;obtain rfl:=q;exact⟨_,.str _ _⟩
theorem gg{f:T->Bool}{g:T->PyData}(L:∀t v,Rep w W t v->f t=true->∃z,Reads h v (g t) z):∀{ts:List T}{vs:List Value},Reps w W ts vs->ts.all f=true->∃z,ReadsAll h vs (ts.map g) z:=by
 intro F
 induction F with
 |nil=>
  rintro _ r _
  subst r;exact⟨_,.nil⟩
 |cons t ts J=>
  rintro _ r d
  refine bT r fun v O q a b=>?_;obtain rfl:=q
  rw[List.all_cons,Bool.and_eq_true]at d
  refine xE (L t v a d.1) fun z x=>?_
  refine xE (J b d.2) fun Y y=>?_
  exact⟨_,.cons x y⟩
theorem CI(F:Fit w h0 W H h){t:T}{v:Value}(r:Rep w W t v)(d:qM t=true):∃q,Reads h v (wA t) q:=by
 cases t<;>first|exact CH r d|skip
 obtain⟨a,z,n,rfl,f,y⟩:=r
 obtain⟨q,x⟩:=gg (fun t v r d=>CH (h:=h) r d) y d
 exact⟨_,.tuple (F.fz _ _ f) rfl rfl x⟩
theorem fq(F:Fit w h0 W H h){t:T}{v:Value}(r:Rep w W t v)(d:dz t=true):∃q,Reads h v (o7 t) q:=by
 cases t<;>first|exact CI F r d|skip
 obtain⟨a,z,n,rfl,f,y⟩:=r
 obtain⟨q,x⟩:=gg (fun t v r d=>CI F r d) y d
 exact⟨_,.list (F.fz _ _ f) rfl rfl x⟩
end
theorem ee{w:World}{W:Wd}{f:T->Bool}{g:T->PyData}(F:∀t v,Rep w W t v->f t=true->(g t).canLay0=true):∀{ts:List T}{vs:List Value},Reps w W ts vs->ts.all f=true->PyData.canLayAll0 (ts.map g)=true:=by
 intro y
 induction y with
 |nil=>
  rintro _ _ _
  exact rfl
 |cons t ts z=>
  rintro _ r d
  refine bT r fun v J q a b=>?_;obtain rfl:=q
  rw[List.all_cons,Bool.and_eq_true]at d
  rw[List.map_cons]
  unfold PyData.canLayAll0
  rw[F t v a d.1,z b d.2];rfl
section
variable{w:World}{W:Wd}
theorem J8(t:T)(v:Value)(r:Rep w W t v)(d:isS t=true):(wz t).canLay0=true:=by
 cases t<;>first|exact(aH d).elim|rfl|skip
 refine xEA r fun _ _ z=>?_
 unfold wz PyData.canLay0
 exact z
theorem J9(t:T)(v:Value)(r:Rep w W t v)(d:qM t=true):(wA t).canLay0=true:=by
 cases t<;>first|exact J8 _ v r d|skip
 obtain⟨a,y,n,rfl,f,q⟩:=r
 unfold wA PyData.canLay0
 exact ee J8 q d
theorem kU(t:T)(v:Value)(r:Rep w W t v)(d:dz t=true):(o7 t).canLay0=true:=by
 cases t<;>first|exact J9 _ v r d|skip
 obtain⟨a,y,n,rfl,f,q⟩:=r
 unfold o7 PyData.canLay0
 exact ee J9 q d
end
theorem s2{g:T->PyData}{k:Nat}(r:∀t,(g t).depth<=k):∀ts:List T,PyData.depthAll (ts.map g)<=k:=by
 intro d
 induction d with
 |nil=>
  exact Nat.zero_le _
 |cons t ts q=>
  rw[List.map_cons]
  unfold PyData.depthAll
  exact Nat.max_le.mpr ⟨r t,q⟩
theorem Pl(t:T):(wz t).depth<=0:=by cases t<;>exact Nat.le_refl _
theorem Kx(t:T):(wA t).depth<=1:=by
 cases t<;>first|exact Nat.zero_le _|skip
 show PyData.depth (.tuple _)<=1
 unfold PyData.depth
 haveI:=s2 Pl ‹List T›
 lia
theorem yO(t:T):(o7 t).depth<=2:=by
 cases t<;>first|exact Nat.zero_le _|exact Nat.le_succ_of_le (Kx (.tup _))|skip
 show PyData.depth (.list _)<=2
 unfold PyData.depth
 haveI:=s2 Kx ‹List T›
 lia
theorem Pd{a b:T}(q:isS a=true)(d:isS b=true):PyData.eqv (wz a) (wz b)=jE a b:=by
 cases a<;>first|exact(aH q).elim|skip
 all_goals (cases b<;>first|exact(aH d).elim|rfl)
theorem zY{f:T->Bool}{g:T->PyData}{q:T->T->Bool}(Z:∀a b,f a=true->f b=true->PyData.eqv (g a) (g b)=q a b):
  ∀{r d:List T},r.all f=true->d.all f=true->PyData.eqvAll (r.map g) (d.map g)=rB q r d:=by
 intro O
 induction O with
 |nil=>
  intro y
  cases y with
  |nil=>
   rintro _ _
   exact rfl
  |cons L J=>
   rintro _ _
   exact rfl
 |cons a r Y=>
  intro y
  cases y with
  |nil=>
   rintro _ _
   exact rfl
  |cons b d=>
   rintro F z
   rw[List.all_cons,Bool.and_eq_true]at F z
   rw[List.map_cons,List.map_cons]
   show(PyData.eqv (g a) (g b)&&PyData.eqvAll (r.map g) (d.map g))=(q a b&&rB q r d)
   rw[Z a b F.1 z.1,Y F.2 z.2]
theorem Ku{a b:T}(q:qM a=true)(d:qM b=true):PyData.eqv (wA a) (wA b)=wR a b:=by
 cases a<;>first|exact(aH q).elim|skip
 all_goals (cases b<;>first|exact(aH d).elim|rfl|skip)
 exact zY (fun _ _=>Pd) q d
theorem Gm{a b:T}(q:dz a=true)(d:dz b=true):PyData.eqv (o7 a) (o7 b)=iO a b:=by
 cases a<;>first|exact(aH q).elim|skip
 all_goals (cases b<;>first|exact(aH d).elim|rfl|skip)
 ·exact zY (fun _ _=>Ku) q d
 ·exact Ku (a:=.tup _) (b:=.tup _) q d
theorem wt{a b:T}{r:Bool}(h:eqT a b=some r):dz a=true/\dz b=true/\iO a b=r:=by
 unfold eqT at h
 split at h
 ·rename_i c;rw[Bool.and_eq_true]at c;cases h;exact⟨c.1,c.2,rfl⟩
 ·cases h
theorem GI{b:Int}(r:0<b)(q:b<big)(a:Int):Builtin.divisionGoesByPylong a b=false:=by
 haveI d:b.natAbs.log2<62:=by
  have:b.natAbs<2^62:=by
   haveI:big=2^62:=by decide
   lia
  rcases Nat.eq_zero_or_pos b.natAbs with h|h
  ·lia
  ·exact(Nat.log2_lt (Nat.ne_of_gt (h))).mpr this
 unfold Builtin.divisionGoesByPylong
 dsimp only
 rw[Bool.and_eq_false_iff]
 left
 rw[decide_eq_false_iff_not]
 split<;>lia
theorem xC{a:Int}(h:small a=true):Builtin.Int.intBits a<=64:=by
 unfold small at h
 simp only[Bool.and_eq_true,decide_eq_true_eq]at h
 have:big=4611686018427387904:=rfl
 exact intBits_le_64 (f6 (of_decide_eq_true rfl) (Int.le_of_lt h.1)) (f6 h.2 (of_decide_eq_true rfl))
section
variable{w:World}{h0:Heap}{C:Nat->List T->M LV}{n:Nat}
theorem jq{o:CmpOp}{r:Expr}(h:aV r=true):behindInMarks o r=false:=by
 cases r<;>first|exact(aH h).elim|rfl
theorem I2{c:Cm}{q J:T}{r:Bool}{A:Around}{W:Wd}{s:Shared}{F z:Value}{Q:Value->Shared->Prop}(e:yS c q J=some r)(O:Rep w W q F)(L:Rep w W J z)(h:Q (.bool r) s):
  wpAny (model pw w) A (compareOp (KB c) F z) Q Nev s:=by
 cases q<;>first|(cases e;done)|skip
 ·rename_i a
  revert h
  refine eC e fun b y h=>?_
  obtain rfl:=dA y
  obtain⟨Z,rfl⟩:=O
  obtain⟨Y,rfl⟩:=L
  cases c
  ·exact lt_int h
  ·exact gt_int h
  ·exact le_int h
  ·exact ge_int h
 ·rename_i a
  refine bD e fun b y e=>?_
  obtain rfl:=pZ y
  refine xEA O fun Z d _=>?_;obtain rfl:=d
  refine xEA L fun Y d _=>?_;obtain rfl:=d
  cases c<;>cases e
  ·exact lt_str h
  ·exact P.gt_str h
theorem JV{c:Cm}{a b:X}(Z:SX w h0 C n a)(Y:SX w h0 C n b):SX w h0 C n (.cmp c a b):=by
 intro e A aa nm ρ fp W H s t H' y cx S F d
 refine jB y fun l r L y=>?_
 refine aY y fun O m1 m2=>?_
 refine aB d fun ta H1 e1 d=>?_
 refine aB d fun tb H2 e2 d=>?_
 refine bV d fun e3=>?_
 refine eC e3 fun q e4=>?_
 exact wpAny_Compare1 (pB Z Y m1 m2 cx S F e1 e2 fun va vb W' s' x F' J z=>I2 e4 J z (Pst.after x (Pst.here F' rfl))) (jq O)
theorem Kv{q O:T}{r:Bool}{A:Around}{W:Wd}{H:List T}{s:Shared}{L J:Value}{Q:Value->Shared->Prop}(F:Fit w h0 W H s.heap)(ao:AOk n A)(e:eqT q O=some r)(Z:Rep w W q L)(Y:Rep w W O J)(h:Q (.bool r) s):
  wpAny (model pw w) A (compareOp .Eq L J) Q Nev s:=by
 refine xAA (wt e) fun z y d=>?_;obtain rfl:=d
 refine xE (fq F Z z) fun as xa=>?_
 refine xE (fq F Y y) fun bs xb=>?_
 refine SeqAt.compareEq_reads xa xb (kU _ _ Z z) (kU _ _ Y y) ?_ (by rw[Gm z y];exact h)
 haveI:=yO q;haveI:=ao.un
 lia
theorem J5{q O:T}{r:Bool}{A:Around}{W:Wd}{H:List T}{s:Shared}{L J:Value}{Q:Value->Shared->Prop}(F:Fit w h0 W H s.heap)(ao:AOk n A)(e:eqT q O=some r)(Z:Rep w W q L)(Y:Rep w W O J)(h:Q (.bool !r) s):
  wpAny (model pw w) A (compareOp .NotEq L J) Q Nev s:=by
 refine xAA (wt e) fun z y d=>?_;obtain rfl:=d
 refine xE (fq F Z z) fun as xa=>?_
 refine xE (fq F Y y) fun bs xb=>?_
 refine SeqAt.compareNe_reads xa xb (kU _ _ Z z) (kU _ _ Y y) ?_ (by rw[Gm z y];exact h)
 haveI:=yO q;haveI:=ao.un
 lia
theorem NF{a b:X}(ha:SX w h0 C n a)(hb:SX w h0 C n b):SX w h0 C n (.eq a b):=by
 intro e A aa nm ρ fp W H s t H' y z S F d
 refine jB y fun l r Y y=>?_
 refine aY y fun Z m1 m2=>?_
 refine aB d fun ta H1 e1 d=>?_
 refine aB d fun tb H2 e2 d=>?_
 refine bV d fun e3=>?_
 refine eC e3 fun q e4=>?_
 exact wpAny_Compare1 (pB ha hb m1 m2 z S F e1 e2 fun va vb W' s' x J O L=>Kv J z.ao e4 O L (Pst.after x (Pst.here J rfl))) (jq Z)
theorem NE{a b:X}(ha:SX w h0 C n a)(hb:SX w h0 C n b):SX w h0 C n (.ne a b):=by
 intro e A aa nm ρ fp W H s t H' y z S F d
 refine jB y fun l r Y y=>?_
 refine aY y fun Z m1 m2=>?_
 refine aB d fun ta H1 e1 d=>?_
 refine aB d fun tb H2 e2 d=>?_
 refine bV d fun e3=>?_
 refine eC e3 fun q e4=>?_
 exact wpAny_Compare1 (pB ha hb m1 m2 z S F e1 e2 fun va vb W' s' x J O L=>J5 J z.ao e4 O L (Pst.after x (Pst.here J rfl))) (jq Z)
end
theorem aF {e:Expr} {r:List Expr} {env:Env} {pos:Pos} (h:aV e=true):backTo pos (starEach (e::r) env)=(false,eval e env)::backTo pos (starEach r env):=by
 cases e<;>first|exact(aH h).elim|rfl
theorem em {e:Expr} {r:List Expr} (h:bQ (e::r)=true):aV e=true/\bQ r=true:=by
 unfold bQ at h⊢
 simp only[List.all_cons,List.length_cons,Bool.and_eq_true,decide_eq_true_eq]at h⊢
 exact⟨h.1.1,h.1.2,Nat.le_of_lt h.2⟩
theorem cY:∀{es:List Expr}{env:Env}{pos:Pos},bQ es=true->(backTo pos (starEach es env)).any (·.1)=false:=by
 intro q
 induction q with
 |nil=>
  rintro _ _ _
  exact rfl
 |cons e r y=>
  rintro env pos h
  haveI d:=em h;haveI F:=d.1;haveI z:=d.2
  rw[aF F,List.any_cons,y z];rfl
theorem aR{e:Expr}(h:aV e=true):bQ [e]=true:=by unfold bQ;simp[h]
theorem dR{e d:Expr}(h:aV e=true)(h':aV d=true):bQ [e,d]=true:=by unfold bQ;simp[h,h']
section
variable{w:World}{h0:Heap}{C:Nat->List T->M LV}{n:Nat}
theorem zC:SXs w h0 C n []:=by
 intro y A z O J Z W H s L H' d q Y cx S F r
 cases y<;>first|exact(aH q).elim|skip
 refine aM r ?_
 exact Calls.spliced_nil ⟨W,.refl W s,F,rfl⟩
theorem vl {x:X} {xs:List X} (hx:SX w h0 C n x) (af:SXs w h0 C n xs):SXs w h0 C n (x::xs):=by
 intro es A d nm ρ fp W H s ts H' ae hm hp cx S F Z
 cases es<;>first|exact(aH hm).elim|skip
 rename_i e es
 refine aK (show(mX d.scope.names nm x e&&mXs d.scope.names nm xs es)=true from hm) fun m1 m2=> ?_
 haveI p1:=(em hp).1;haveI p2:=(em hp).2
 refine aB Z fun t H1 e1 Z=> ?_
 refine aB Z fun us H2 e2 Z=> ?_
 refine aM Z ?_
 rw[aF p1]
 refine Calls.spliced_cons (wpAny_mono (hx e A d nm ρ fp W H s t H1 m1 cx S F e1) (fun v y Y=> ?_) fun _ _ z=>z)
 refine Pst.el Y fun ab r ad L=> ?_
 refine wpAny_mono (af es A d nm ρ fp ab H1 y us _ ae m2 p2 cx (S.stp r) ad e2) (fun vs ag O=> ?_) fun _ _ z=>z
 refine el4 O fun aa q ac J=> ?_
 exact⟨aa,r.trans q,ac,v,vs,rfl,Rep.mono q.le _ L,J⟩
theorem gh{d:Nms}{x:Str}{q:String}(h:dY d x q=true):x=(q:Str)/\d.lookup x=some .globalImplicit:=by
 unfold dY at h
 rw[Bool.and_eq_true]at h
 exact⟨eq_of_beq h.1,eq_of_beq h.2⟩
theorem qD{A:Around}{env:Env}{W:Wd}{H:List T}{s:Shared}{x:Str}{d:String}{v:Value}{pos:Pos}{Q:Value->Shared->Prop}(B:cR w h0)(y:Cx n A env)(F:Fit w h0 W H s.heap)
  (O:dY env.scope.names x d=true) (r:(d,v)∈blts) (h:Q v s):wpAny (model pw w) A (eval (.Name x pos) env) Q Nev s:=by
 refine xA (gh O) fun q L=>?_;obtain rfl:=q
 refine sA B.glob fun z g1 _ _ g2=>?_
 refine xEA B.blt fun J Z Y=>?_
 refine Calls.Name_function_global y.kind L (Calls.loadGlobal_builtin (mg:=z) (mb:=J) ?_ (g2 _ r) ?_ (Y _ r) h) ?_
 ·rw[y.glob];exact g1.at' fun o e=>F.base _ o e
 ·rw[y.blt];exact Z.at' fun o e=>F.base _ o e
 ·revert r
  unfold blts
  simp only[List.mem_cons,Prod.mk.injEq,List.not_mem_nil,or_false]
  rintro(⟨rfl,-⟩|⟨rfl,-⟩|⟨rfl,-⟩|⟨rfl,-⟩|⟨rfl,-⟩|⟨rfl,-⟩|⟨rfl,-⟩|⟨rfl,-⟩|⟨rfl,-⟩|⟨rfl,-⟩|⟨rfl,-⟩)<;>decide +kernel
theorem gc{A:Around}{env:Env}{W:Wd}{H:List T}{s:Shared}{x:Str}{d id:String}{e:Expr}{es:List Expr}{r pos:Pos}{Q:Value->Shared->Prop}(B:cR w h0)(J:Cx n A env)(F:Fit w h0 W H s.heap)
  (z:dY env.scope.names x d=true) (y:(d,Value.builtin id)∈blts) (q:bQ (e::es)=true)
  (h:wpAny (model pw w) A (spliced (backTo pos (starEach (e::es) env))) (fun vs s'=>wpAny (model pw w) A (call (.builtin id) vs) Q Nev s') Nev s):
  wpAny (model pw w) A (eval (.Call (.Name x r) (e::es) [] pos) env) Q Nev s:=by
 refine wpAny_Call_NameR (qD B J F z y (Calls.callWith_builtin (cY q) ?_))
 rw[aF (em q).1]at h⊢
 exact Calls.evalArgs_plain h
theorem iN{A:Around}{env:Env}{W:Wd}{H:List T}{s:Shared}{x:Str}{d id:String}{e:Expr}{es:List Expr}{r pos:Pos}{Q:Value->Shared->Prop}(B:cR w h0)(J:Cx n A env)(F:Fit w h0 W H s.heap)
  (z:dY env.scope.names x d=true) (y:(d,Value.type id)∈blts) (q:bQ (e::es)=true)
  (h:wpAny (model pw w) A (spliced (backTo pos (starEach (e::es) env))) (fun vs s'=>wpAny (model pw w) A (call (.type id) vs) Q Nev s') Nev s):
  wpAny (model pw w) A (eval (.Call (.Name x r) (e::es) [] pos) env) Q Nev s:=by
 refine wpAny_Call_NameR (qD B J F z y (PyProof.Rows.callWith_type (cY q) ?_))
 rw[aF (em q).1]at h⊢
 exact Calls.evalArgs_plain h
theorem zh{x:X}{e:Expr}{A:Around}{env:Env}{O:Nm}{ρ:aE}{fp:Nat->List Addr}{W:Wd}{H Z:List T}{s:Shared}{t:T}{pos:Pos}{Q:List Value->Shared->Prop}
  (hx:SX w h0 C n x) (hm:mX env.scope.names O x e=true) (hp:aV e=true) (cx:Cx n A env) (S:Vst w env O ρ fp W s.heap) (F:Fit w h0 W H s.heap) (he:evX C ρ x H=some (t,Z))
  (h:∀v Y s',Stp W s Y s'->Fit w h0 Y Z s'.heap->Rep w Y t v->Q [v] s'):wpAny (model pw w) A (spliced (backTo pos (starEach [e] env))) Q Nev s:=by
 rw[aF hp]
 refine Calls.spliced_cons (wpAny_mono (hx e A env O ρ fp W H s t Z hm cx S F he) (fun v q y=>?_) fun _ _ z=>z)
 refine Pst.el y fun J d L r=>?_
 exact Calls.spliced_nil (h v J q d L r)
theorem Pu{x y:X}{e e':Expr}{A:Around}{env:Env}{nm:Nm}{ρ:aE}{fp:Nat->List Addr}{W:Wd}{H H1 H2:List T}{s:Shared}{t u:T}{pos:Pos}{Q:List Value->Shared->Prop}
  (hx:SX w h0 C n x) (hy:SX w h0 C n y) (hm:mX env.scope.names nm x e=true) (ac:mX env.scope.names nm y e'=true) (hp:aV e=true) (ab:aV e'=true) (cx:Cx n A env)
  (S:Vst w env nm ρ fp W s.heap) (F:Fit w h0 W H s.heap) (he:evX C ρ x H=some (t,H1)) (ad:evX C ρ y H1=some (u,H2))
  (h:∀v v' W' s',Stp W s W' s'->Fit w h0 W' H2 s'.heap->Rep w W' t v->Rep w W' u v'->Q [v,v'] s'):wpAny (model pw w) A (spliced (backTo pos (starEach [e,e'] env))) Q Nev s:=by
 rw[aF hp]
 refine Calls.spliced_cons (wpAny_mono (hx e A env nm ρ fp W H s t H1 hm cx S F he) (fun v ae O=>?_) fun _ _ z=>z)
 refine Pst.el O fun af q aa L=>?_
 refine zh hy ac ab cx (S.stp q) aa ad fun v' Y r d Z J=>?_
 exact h v v' Y r (q.trans d) Z (Rep.mono d.le _ L) J
theorem JN{x:X}(hx:SX w h0 C n x):SX w h0 C n (.neg x):=by
 intro e A L nm Z fp W H s t H' r cx S F y
 refine yJ r fun op e aa r=>?_
 refine aK r fun mo r=>?_
 refine bO mo ?_
 refine aB y fun ta H1 e1 y=>?_
 refine aN y fun i el y=>?_
 obtain rfl:=dA el
 refine aM y ?_
 refine wpAny_UnaryOp (wpAny_mono (hx e A L nm Z fp W H s _ _ r cx S F e1) (fun v O q=>?_) fun _ _ z=>z)
 obtain⟨Y,d,J,u,rfl⟩:=q
 exact neg_int (Pst.after d (Pst.tok J ⟨_,rfl⟩))
theorem JX(B:cR w h0){x:X}(hx:SX w h0 C n x):SX w h0 C n (.abs x):=by
 intro e A aa nm ρ fp W H s t H' hm L S F r
 refine iz hm fun f np e Z m0 J m1=>?_
 refine aB r fun ta H1 e1 r=>?_
 refine aN r fun i el r=>?_
 obtain rfl:=dA el
 refine aM r ?_
 refine gc (id:="abs") B L F m0 (by decide) (aR J) (zh hx m1 J L S F e1 fun v O z d y q=>?_)
 obtain⟨u,rfl⟩:=q
 refine call_abs_int fun Y tk=>Pst.after d (Pst.tok y ⟨Y,?_⟩)
 congr 1
 split<;>omega
theorem JO(B:cR w h0){x y:X}(hx:SX w h0 C n x)(hy:SX w h0 C n y):SX w h0 C n (.max x y):=by
 intro e A ae nm ρ fp W H s t H' O cx S F J
 refine zV O fun f np e e' ad m0 mp z O=>?_
 refine aK O fun m1 m2=>?_
 refine aB J fun ta H1 e1 J=>?_
 refine aB J fun tb H2 e2 J=>?_
 refine aN J fun a el Z=>?_
 obtain rfl:=dA el
 refine aN Z fun b aa Y=>?_
 obtain rfl:=dA aa
 refine aM Y ?_
 refine gc (id:="max") B cx F m0 (by decide) (dR mp z) (Pu hx hy m1 m2 mp z cx S F e1 e2 fun v v' ac ab d L r q=>?_)
 obtain⟨u,rfl⟩:=r
 obtain⟨u',rfl⟩:=q
 refine max_two_ints cx.ao.hd fun h' tk k=>Pst.after d (Pst.kept L k ?_)
 split
 ·exact⟨_,rfl⟩
 ·exact⟨_,rfl⟩
theorem Gx(c:Char):c.toNat<0x110000:=by
 haveI h:=c.valid
 unfold UInt32.isValidChar Nat.isValidChar at h
 show c.val.toNat<_
 lia
theorem iI(x:String):sOk (Str.ofString x)=true:=by
 rw[Str.ofString_eq_toList]
 unfold sOk
 simp only[List.all_toArray,List.all_map,List.all_eq_true]
 intro c _
 exact decide_eq_true (Gx c)
theorem gB{a b:Str}(q:sOk a=true)(d:sOk b=true):sOk (a++b)=true:=by
 unfold sOk at *
 show(a.cps++b.cps).all _=true
 rw[Array.all_append,q,d];rfl
theorem sJ{a:Int}(h:small a=true):a.natAbs.log2<1920:=by
 unfold small at h
 simp only[Bool.and_eq_true,decide_eq_true_eq]at h
 haveI d:big=4611686018427387904:=rfl
 rcases Nat.eq_zero_or_pos a.natAbs with h0|h0
 ·rw[h0];decide
 ·exact Nat.lt_of_lt_of_le ((Nat.log2_lt (Nat.ne_of_gt (h0))).mpr (show a.natAbs<2^62 by omega)) (by decide)
theorem HV(B:cR w h0){x:X}(hx:SX w h0 C n x):SX w h0 C n (.str1 x):=by
 intro e A ac nm ρ fp W H s t H' hm cx S F L
 refine iz hm fun f np e ab m0 Y m1=>?_
 refine aB L fun ta H1 e1 L=>?_
 refine bV L fun Z=>?_
 refine iN (id:="str") B cx F m0 (by decide) (aR Y) (zh hx m1 Y cx S F e1 fun v aa O d r q=>?_)
 cases ta<;>first|cases Z|skip
 ·obtain rfl:=q
  exact P.str_of_none (Pst.after d (Pst.tok r ⟨_,rfl,iI _⟩))
 ·rename_i i
  obtain⟨u,rfl⟩:=q
  haveI J:(if small i then some (T.str (cG i))else none)=some t:=Z
  by_cases hs:small i=true
  ·rw[if_pos hs]at J
   rw[<-Option.some.inj J]
   exact P.str_of_int (sJ hs) (Pst.after d (Pst.tok r ⟨_,rfl,iI _⟩))
  ·rw[if_neg hs]at J;exact(nos J).elim
 ·refine xEA q fun u y z=>?_;obtain rfl:=y
  exact P.str_of_str (Pst.after d (Pst.here r ⟨_,rfl,z⟩))
theorem Rep.isNone{W:Wd}{t:T}{v:Value}(r:Rep w W t v):(v==Value.none)=aZ t:=by
 cases t
 ·obtain rfl:=r;rfl
 ·obtain rfl:=r;rfl
 ·obtain⟨_,rfl⟩:=r;rfl
 ·refine xEA r fun _ d _=>?_;obtain rfl:=d;rfl
 ·obtain⟨_,_,_,rfl,_⟩:=r;rfl
 ·obtain⟨_,_,_,rfl,_⟩:=r;rfl
 ·obtain⟨_,_,_,rfl,_⟩:=r;rfl
 ·obtain⟨_,_,_,_,_,rfl,_⟩:=r;rfl
 ·obtain rfl:=r.1;rfl
 ·refine xEA r fun _ d _=>?_;obtain rfl:=d;rfl
theorem Cw{x:X}(hx:SX w h0 C n x):SX w h0 C n (.isNone x):=by
 intro e A Z nm ρ fp W H s t H' J cx S F Y
 refine jB J fun l r ac J=>?_
 refine aK J fun O J=>?_
 refine dS O fun c kd cp O=>?_
 refine mR O ?_
 refine aB Y fun ta H1 e1 Y=>?_
 refine aM Y ?_
 refine wpAny_Compare1 (wpAny_mono (hx l A Z nm ρ fp W H s _ _ J cx S F e1) (fun v aa y=>?_) fun _ _ z=>z) rfl
 refine Pst.el y fun ab d L q=>?_
 rw[eval_Constant]
 refine wpAny_pure (is_none (Pst.after d (Pst.here L ?_)))
 rw[Rep.isNone q];rfl
theorem Au{x:X}(hx:SX w h0 C n x):SX w h0 C n (.notNone x):=by
 intro e A Z nm ρ fp W H s t H' J cx S F Y
 refine jB J fun l r ac J=>?_
 refine aK J fun O J=>?_
 refine dS O fun c kd cp O=>?_
 refine mR O ?_
 refine aB Y fun ta H1 e1 Y=>?_
 refine aM Y ?_
 refine wpAny_Compare1 (wpAny_mono (hx l A Z nm ρ fp W H s _ _ J cx S F e1) (fun v aa y=>?_) fun _ _ z=>z) rfl
 refine Pst.el y fun ab d L q=>?_
 rw[eval_Constant]
 refine wpAny_pure (isNot_none (Pst.after d (Pst.here L ?_)))
 show(Value.bool !(v==Value.none))=_
 rw[Rep.isNone q]
end
inductive KL (w:World) (W:Wd) (h:Heap) (ts:List T) (v:Value):Prop
 |mk (a:Addr) (items:Array Value) (e:v=.ref a) (p:h.PlainList a items) (r:Reps w W ts items.toList):KL w W h ts v
inductive KM (w:World) (W:Wd) (h:Heap) (ks:List Key) (vs:List T) (v:Value):Prop
 |mk (a:Addr) (kvs:List (Key×Value)) (e:v=.ref a) (m:(a==sysModules)=false) (d:h.DictOf (aJ pw w) a kvs) (k:kvs.map (·.1)=ks) (z:ks.all gH=true) (r:Reps w W vs (kvs.map (·.2))):KM w W h ks vs v
def Shw(w:World)(W:Wd)(h:Heap)(v:Value):T->Prop
 |.list ts=>KL w W h ts v
 |.dict ks vs=>KM w W h ks vs v
 |t=>Rep w W t v
section
variable{w:World}{h0:Heap}{C:Nat->List T->M LV}{n:Nat}
theorem Rep.shw{W:Wd}{H:List T}{h:Heap}{t:T}{v:Value}(F:Fit w h0 W H h)(r:Rep w W t v):Shw w W h v t:=by
 cases t<;>first|exact r|skip
 ·obtain⟨a,J,k,rfl,f,q⟩:=r
  exact⟨a,J,rfl,⟨k,F.fz _ _ f⟩,q⟩
 ·obtain⟨a,o,y,rfl,m,f,d,e,z,q⟩:=r
  exact⟨a,y,rfl,m,Heap.dictOf_iff.mpr ⟨o,F.fz _ _ f,d⟩,e,z,q⟩
def Lk(w:World)(h0:Heap)(W':Wd)(s':Shared)(t:T)(v:Value):Prop:=
 ∀W'' s'' H'',Stp W' s' W'' s''->Fit w h0 W'' H'' s''.heap->Shw w W'' s''.heap v t
theorem Lk.of_rep{W:Wd}{s:Shared}{t:T}{v:Value}(r:Rep w W t v):Lk w h0 W s t v:=fun q d y x F=>(Rep.mono x.le t r).shw F
theorem Lk.stp{W z:Wd}{s s':Shared}{t:T}{v:Value}(x:Stp W s z s')(l:Lk w h0 W s t v):Lk w h0 z s' t v:=fun q d r y F=>l q d r (x.trans y) F
theorem Lk.now{W:Wd}{s:Shared}{H:List T}{t:T}{v:Value}(F:Fit w h0 W H s.heap)(l:Lk w h0 W s t v):Shw w W s.heap v t:=l W s H (.refl W s) F
theorem tH{α:Type}{a:α}(h:none=some a):False:=(nos h).elim
theorem hN{x:X}{e:Expr}{A:Around}{env:Env}{nm:Nm}{ρ:aE}{fp:Nat->List Addr}{W:Wd}{H H':List T}{s:Shared}{t:T}(hx:SX w h0 C n x)
  (O:mX env.scope.names nm x e=true) (cx:Cx n A env) (S:Vst w env nm ρ fp W s.heap) (F:Fit w h0 W H s.heap) (he:opd ρ x (evX C ρ x) H=some (t,H')):
  wpAny (model pw w) A (eval e env) (fun v s'=>∃W',Stp W s W' s'/\Fit w h0 W' H' s'.heap/\Lk w h0 W' s' t v) Nev s:=by
 unfold opd at he
 cases hv:lq x with
 |none=>
  rw[hv]at he
  exact wpAny_mono (hx e A env nm ρ fp W H s t H' O cx S F he) (fun v ag aa=>Pst.el aa fun ab Y ac Z=>⟨ab,Y,ac,.of_rep Z⟩) fun _ _ z=>z
 |some i=>
  rw[hv]at he
  obtain rfl:=uX hv
  refine dM O fun ad ai O=>?_
  refine bV he fun e1=>?_
  refine lW O cx S rfl (fun q=>by rw[q]at e1;exact(nos e1).elim) fun v o=>⟨W,.refl W s,F,?_⟩
  haveI af:=(mh O).1
  intro aj ah ak y F'
  have L:=o.frame y.le fun a ha L e'=>y.keep a L e' fun m=>(S.fpW ad i a af ha).1 (.inr m)
  clear o hx hv O
  generalize ρ i=lv at e1 L
  cases lv<;>cases e1
  ·exact L.1.shw F'
  ·obtain⟨a,J,rfl,_,p,r⟩:=L;exact⟨a,J,rfl,p,r⟩
  ·obtain⟨a,ae,rfl,_,m,d,q,r,z⟩:=L;exact⟨a,ae,rfl,m,d,q,z,r⟩
theorem qb{W:Wd}{H:List T}{h:Heap}{a:Addr}{items:Array Value}{ts:List T}(F:Fit w h0 W H h)(p:h.PlainList a items)(r:Reps w W ts items.toList)(d:ts.all dz=true):∃q,Reads h (.ref a) (.list (ts.map o7)) q:=by
 refine xE (gg (fun t v r d=>fq F r d) r d) fun q x=>?_
 refine xE p fun k e=>?_
 exact⟨_,.list e rfl rfl x⟩
theorem sM{W:Wd}{H:List T}{h:Heap}{v:Value}{ts:List T}(F:Fit w h0 W H h)(r:Rep w W (.tup ts) v)(d:ts.all dz=true):∃q,Reads h v (.tuple (ts.map o7)) q:=by
 obtain⟨a,z,k,rfl,f,y⟩:=r
 obtain⟨q,x⟩:=gg (fun t v r d=>fq F r d) y d
 exact⟨_,.tuple (F.fz _ _ f) rfl rfl x⟩
theorem pO{t:T}:∀{ts:List T},dz t=true->ts.all dz=true->((ts.map o7).any fun y=>PyData.eqv y (o7 t))=ts.any (iO · t):=by
 intro q
 induction q with
 |nil=>
  rintro _ _
  exact rfl
 |cons u z r=>
  rintro h d
  rw[List.all_cons,Bool.and_eq_true]at d
  rw[List.map_cons,List.any_cons,List.any_cons,Gm d.1 h,r h d.2]
theorem f4{W:Wd}{k:Key}:∀{kvs:List (Key×Value)}{vs:List T},Reps w W vs (kvs.map (·.2))->
  (valueAt kvs k=none/\cJ k (kvs.map (·.1)) vs=none)\/∃v t,valueAt kvs k=some v/\cJ k (kvs.map (·.1)) vs=some t/\Rep w W t v:=by
 intro H
 induction H with
 |nil=>
  intro d
  cases d with
  |nil=>
   rintro _
   exact .inl ⟨rfl,rfl⟩
  |cons F z=>
   rintro h
   refine xEE h fun _ _ y=>?_;haveI e:=y.1;exact(List.cons_ne_nil _ _ e.symm).elim
 |cons p kvs J=>
  intro d
  cases d with
  |nil=>
   rintro h
   cases h
  |cons t vs=>
   rintro h
   refine bT h fun v r e a b=>?_
   cases e
   by_cases q:p.1=k
   ·refine .inr ⟨p.2,t,?_,?_,a⟩
    ·simp[valueAt,q]
    ·show(if p.1=k then some t else _)=some t
     rw[if_pos q]
   ·haveI O:valueAt (p::kvs) k=valueAt kvs k:=by simp[valueAt,q]
    haveI L:cJ k ((p::kvs).map (·.1)) (t::vs)=cJ k (kvs.map (·.1)) vs:=by
     show(if p.1=k then some t else _)=_
     rw[if_neg q]
    rw[O,L]
    exact J b
theorem f0{k:Key}{kvs:List (Key×Value)}:(valueAt kvs k).isSome=eO k (kvs.map (·.1)):=by
 unfold valueAt eO
 rw[Option.isSome_map,List.any_map]
 induction kvs with
 |nil=>rfl
 |cons p r d=>
  rw[List.find?_cons,List.any_cons]
  by_cases q:p.1=k
  ·simp[q]
  ·simp[q];simpa using d
theorem fR{W:Wd}{t:T}{k:Key}{v:Value}(e:bG t=some k)(r:Rep w W t v):(aJ pw w).is k v=true/\gH k=true:=by
 cases t<;>cases e
 ·obtain⟨u,rfl⟩:=r;exact⟨by first|exact beq_self_eq_true _|exact decide_eq_true rfl|(show Value.isInt _ _=true;simp[Value.isInt]),rfl⟩
 ·refine xEA r fun u d z=>?_;obtain rfl:=d;exact⟨by first|exact beq_self_eq_true _|exact decide_eq_true rfl|(show Value.isStrOf _ _=true;simp[Value.isStrOf]),z⟩
theorem Kd{q Z:T}{r:Bool}{A:Around}{W:Wd}{H:List T}{s:Shared}{va vb:Value}{Q:Value->Shared->Prop}(F:Fit w h0 W H s.heap)(ao:AOk n A)(e:inT q Z=some r)(O:Rep w W q va)(Y:Shw w W s.heap vb Z)
  (h:∀tk,Q (.bool r) {s with toks:=tk}):wpAny (model pw w) A (compareOp .In va vb) Q Nev s:=by
 haveI hs:Q (.bool r) s:=h s.toks
 haveI un:=ao.un
 cases Z<;>first|cases e|skip
 ·rename_i ts
  obtain⟨a,aa,rfl,p,L⟩:=Y
  have J:(if dz q&&ts.all dz then some (ts.any (iO · q))else none)=some r:=e
  split at J
  ·rename_i c
   rw[Bool.and_eq_true]at c
   obtain rfl:=Option.some.inj J
   refine xE (qb F p L c.2) fun as x=>?_
   refine(fq F O c.1).elim fun bs y=>?_
   refine SeqAt.in_list_reads x y (ee kU L c.2) (kU _ _ O c.1) ?_ (by rw[pO c.1 c.2];exact hs)
   haveI:=yO q
   lia
  ·exact(nos J).elim
 ·rename_i ts
  haveI J:(if dz q&&ts.all dz then some (ts.any (iO · q))else none)=some r:=e
  split at J
  ·rename_i c
   rw[Bool.and_eq_true]at c
   obtain rfl:=Option.some.inj J
   refine xE (sM F Y c.2) fun as x=>?_
   refine xE (fq F O c.1) fun bs y=>?_
   obtain⟨_,_,_,_,_,L⟩:=id Y
   refine SeqAt.in_tuple_reads x y (ee kU L c.2) (kU _ _ O c.1) ?_ (by rw[pO c.1 c.2];exact hs)
   haveI:=yO q
   lia
  ·exact(nos J).elim
 ·obtain⟨a,ab,rfl,m,d,rfl,z,L⟩:=Y
  refine xEA (Option.map_eq_some_iff.mp e) fun k ek er=>?_
  refine wpAny_in_of (fR ek O).1 m d.mapOf ?_
  rw[f0,er]
  exact h _
theorem CU{q Z:T}{r:Bool}{A:Around}{W:Wd}{H:List T}{s:Shared}{va vb:Value}{Q:Value->Shared->Prop}(F:Fit w h0 W H s.heap)(ao:AOk n A)(e:inT q Z=some r)(O:Rep w W q va)(Y:Shw w W s.heap vb Z)
  (h:∀tk,Q (.bool !r) {s with toks:=tk}):wpAny (model pw w) A (compareOp .NotIn va vb) Q Nev s:=by
 haveI hs:Q (.bool !r) s:=h s.toks
 haveI un:=ao.un
 cases Z<;>first|cases e|skip
 ·rename_i ts
  obtain⟨a,aa,rfl,p,L⟩:=Y
  have J:(if dz q&&ts.all dz then some (ts.any (iO · q))else none)=some r:=e
  split at J
  ·rename_i c
   rw[Bool.and_eq_true]at c
   obtain rfl:=Option.some.inj J
   refine xE (qb F p L c.2) fun as x=>?_
   refine xE (fq F O c.1) fun bs y=>?_
   refine SeqAt.notIn_list_reads x y (ee kU L c.2) (kU _ _ O c.1) ?_ (by rw[pO c.1 c.2];exact hs)
   haveI:=yO q
   lia
  ·exact(nos J).elim
 ·rename_i ts
  haveI J:(if dz q&&ts.all dz then some (ts.any (iO · q))else none)=some r:=e
  split at J
  ·rename_i c
   rw[Bool.and_eq_true]at c
   obtain rfl:=Option.some.inj J
   obtain⟨as,x⟩:=sM F Y c.2
   refine(fq F O c.1).elim fun bs y=>?_
   obtain⟨_,_,_,_,_,L⟩:=id Y
   refine SeqAt.notIn_tuple_reads x y (ee kU L c.2) (kU _ _ O c.1) ?_ (by rw[pO c.1 c.2];exact hs)
   haveI:=yO q
   lia
  ·exact(nos J).elim
 ·obtain⟨a,ab,rfl,m,d,rfl,z,L⟩:=Y
  refine xEA (Option.map_eq_some_iff.mp e) fun k ek er=>?_
  refine wpAny_notIn_of (fR ek O).1 m d.mapOf ?_
  rw[f0,er]
  exact h _
theorem HZ{a b:X}(ha:SX w h0 C n a)(hb:SX w h0 C n b):SX w h0 C n (.isIn a b):=by
 intro e A ab nm ρ fp W H s t H' hm cx S F he
 refine jB hm fun l r ag hm=>?_
 refine aY hm fun mp m1 m2=>?_
 refine aB he fun ta H1 e1 he=>?_
 refine aB he fun tb H2 e2 he=>?_
 refine bV he fun e3=>?_
 refine eC e3 fun q e4=>?_
 refine wpAny_Compare1 (wpAny_mono (ha l A ab nm ρ fp W H s ta H1 m1 cx S F e1) (fun va ad Z=>?_) fun _ _ z=>z) (jq mp)
 refine Pst.el Z fun af J aa L=>?_
 refine wpAny_mono (hN hb m2 cx (S.stp J) aa e2) (fun vb ac Y=>?_) fun _ _ z=>z
 refine el4 Y fun ae y d O=>?_
 exact Kd d cx.ao e4 (Rep.mono y.le _ L) (O.now d) fun tk=>Pst.after (J.trans y) (Pst.tok d rfl)
theorem Fa{a b:X}(ha:SX w h0 C n a)(hb:SX w h0 C n b):SX w h0 C n (.notIn a b):=by
 intro e A ab nm ρ fp W H s t H' hm cx S F he
 refine jB hm fun l r ag hm=>?_
 refine aY hm fun mp m1 m2=>?_
 refine aB he fun ta H1 e1 he=>?_
 refine aB he fun tb H2 e2 he=>?_
 refine bV he fun e3=>?_
 refine eC e3 fun q e4=>?_
 refine wpAny_Compare1 (wpAny_mono (ha l A ab nm ρ fp W H s ta H1 m1 cx S F e1) (fun va ad Z=>?_) fun _ _ z=>z) (jq mp)
 refine Pst.el Z fun af J aa L=>?_
 refine wpAny_mono (hN hb m2 cx (S.stp J) aa e2) (fun vb ac Y=>?_) fun _ _ z=>z
 refine el4 Y fun ae y d O=>?_
 exact CU d cx.ao e4 (Rep.mono y.le _ L) (O.now d) fun tk=>Pst.after (J.trans y) (Pst.tok d rfl)
theorem JP(B:cR w h0){x:X}(hx:SX w h0 C n x):SX w h0 C n (.len x):=by
 intro e A af nm ρ fp W H s t H' hm cx S F he
 refine iz hm fun f np e ac m0 mp m1=>?_
 refine aB he fun ta H1 e1 he=>?_
 refine bV he fun e2=>?_
 refine eC e2 fun k e3=>?_
 refine gc (id:="len") B cx F m0 (by decide) (aR mp) ?_
 rw[aF mp]
 refine Calls.spliced_cons (wpAny_mono (hN hx m1 cx S F e1) (fun v L Y=>?_) fun _ _ z=>z)
 refine el4 Y fun ab y r O=>?_
 refine Calls.spliced_nil ?_
 have sh:=O.now r
 haveI hl:lim=1000:=rfl
 haveI ae:iq=100000:=rfl
 cases ta<;>first|cases e3|skip
 ·rename_i x'
  have q:(if x'.length<=iq then some x'.length else none)=some k:=e3
  split at q
  ·obtain rfl:=Option.some.inj q
   refine xEA sh fun u Z _=>?_;obtain rfl:=Z
   exact len_str (by lia) (Pst.after y (Pst.tok r ⟨_,rfl⟩))
  ·exact(nos q).elim
 ·rename_i ts
  haveI q:(if ts.length<=lim then some ts.length else none)=some k:=e3
  split at q
  ·obtain rfl:=Option.some.inj q
   obtain⟨a,aa,rfl,p,rs⟩:=sh
   have J:=rs.length
   rw[Array.length_toList]at J
   refine len_list p.isList (by lia) (Pst.after y (Pst.tok r ⟨L.toks+1,?_⟩))
   rw[J]
  ·exact(nos q).elim
 ·rename_i ks vs
  haveI q:(if ks.length<=lim then some ks.length else none)=some k:=e3
  split at q
  ·obtain rfl:=Option.some.inj q
   obtain⟨a,ad,rfl,m,d,rfl,z,rs⟩:=sh
   rw[List.length_map]at *
   exact call_len_dict m d (by lia) (Pst.after y (Pst.tok r ⟨_,rfl⟩))
  ·exact(nos q).elim
theorem vp{i:Int}{n j:Nat}(h:place i n=some j):(0<=i/\i<n/\j=i.toNat/\n<=1000)\/(i<0/\0<=i+n/\j=(i+n).toNat/\n<=1000):=by
 unfold place at h
 haveI d:lim=1000:=rfl
 split at h
 ·split at h
  ·split at h
   ·rw[Option.some.inj h];left;lia
   ·exact absurd h nofun
  ·split at h
   ·rw[Option.some.inj h];right;lia
   ·exact absurd h nofun
 ·exact nomatch h
theorem AE{i:Int}{n j:Nat}(h:place i n=some j):seqIndex? i n=some j/\ -(2^63)<=i/\i<2^63:=by
 haveI q:∀k:Int,0<=k->k<n->j=k.toNat->(if(decide (0<=k)&&decide (k<((n:Nat):Int)))=true then some k.toNat else none)=some j:=fun k a b c=>by
  rw[decide_eq_true a,decide_eq_true b,c];rfl
 rcases vp h with⟨a,b,c,d⟩|⟨a,b,c,d⟩
 ·refine⟨?_,Int.le_of_lt (f6 (of_decide_eq_true rfl) a),f6 (f6 b (Int.ofNat_le.mpr d)) (of_decide_eq_true rfl)⟩
  haveI:=q i a b c
  unfold seqIndex?
  rw[if_neg ((Int.not_lt.mpr (a)):¬i<0)];exact this
 ·refine⟨?_,by lia,f6 a (of_decide_eq_true rfl)⟩
  haveI:=q (i+n) b (by lia) c
  unfold seqIndex?
  rw[if_pos a];exact this
theorem Al{r:Expr}(d:aV r=true)(o i:Value):subscripted r false o i=operate [o,i] (getItem o i):=by
 cases r<;>first|rfl|exact(aH d).elim
theorem JS{x k:X}(hx:SX w h0 C n x)(hk:SX w h0 C n k):SX w h0 C n (.idx x k):=by
 intro e A ak nm ρ fp W H s t H' hm cx S F he
 refine jx hm fun l r am hm=>?_
 refine aY hm fun mp m1 m2=>?_
 refine aB he fun ta H1 e1 he=>?_
 refine aB he fun tb H2 e2 he=>?_
 refine bV he fun e3=>?_
 refine Subscript_ (wpAny_mono (hN hx m1 cx S F e1) (fun va ab ae=>?_) fun _ _ z=>z)
 refine el4 ae fun ah O ai ac=>?_
 refine wpAny_mono (hk r A ak nm ρ fp ah H1 ab tb _ m2 cx (S.stp O) ai e2) (fun vb aa ad=>?_) fun _ _ z=>z
 refine Pst.el ad fun al L J Z=>?_
 have sh:=(ac.stp L).now J
 haveI Y:∀o i,subscripted r false o i=operate [o,i] (getItem o i):=fun o i=>Al mp o i
 haveI hl:lim=1000:=rfl
 cases ta<;>first|cases e3|skip
 ·rename_i ts
  obtain⟨a,aj,rfl,p,rs⟩:=sh
  refine bD e3 fun i ei e3=>bD e3 fun j ej et=>?_
  obtain rfl:=dA ei
  obtain⟨u,rfl⟩:=Z
  refine xEA (rs.get et) fun v hv rv=>?_
  haveI y:=rs.length
  rw[Array.length_toList]at y
  rw[Array.getElem?_toList]at hv
  haveI ag:Pst w h0 W s _ (fun W' v=>Rep w W' t v) v aa:=Pst.after (O.trans L) (Pst.here J rv)
  rcases vp ej with⟨q1,q2,rfl,q3⟩|⟨q1,q2,rfl,q3⟩
  ·exact subscriptTail_builtinR p.isList.typeIs slot_list_getitem.lookup (wpAny_getItem_list (Q:=fun r s'=>r=v/\_) p.isList q1 (f6 (f6 q2 (Int.ofNat_le.mpr q3)) (of_decide_eq_true rfl)) hv ⟨rfl,ag⟩) (Y _ _)
  ·exact subscriptTail_builtinR p.isList.typeIs slot_list_getitem.lookup (wpAny_getItem_list_neg (Q:=fun r s'=>r=v/\_) p.isList (q1) (by lia) (by lia) (by exact y▸hv) ⟨rfl,ag⟩) (Y _ _)
 ·rename_i ts
  obtain⟨a,xs,kk,rfl,f,rs⟩:=sh
  refine bD e3 fun i ei e3=>bD e3 fun j ej et=>?_
  obtain rfl:=dA ei
  refine xE Z fun u af=>?_;obtain rfl:=af
  refine xEA (rs.get et) fun v hv rv=>?_
  haveI y:=rs.length
  rw[Array.length_toList]at y
  rw[Array.getElem?_toList]at hv
  haveI ht:IsTup aa.heap a xs:=⟨_,J.fz _ _ f,rfl,_,rfl⟩
  refine xAA (AE (y▸ej)) fun h1 h2 h3=>?_
  exact subscriptTail_builtinR ht.typeIs slot_tuple_getitem.lookup (getItem_tuple (Q:=fun r s'=>r=v/\_) ht h2 h3 h1 hv ⟨rfl,Pst.after (O.trans L) (Pst.here J rv)⟩) (Y _ _)
 ·rename_i ks vs
  obtain⟨a,an,rfl,m,d,rfl,z,rs⟩:=sh
  refine bD e3 fun k' ek et=>?_
  rcases f4 (k:=k') rs with⟨_,q⟩|⟨v,t',q1,q2,q3⟩
  ·rw[q]at et;exact(nos et).elim
  ·rw[q2]at et;rw[<-Option.some.inj et]
   exact subscriptTail_builtinR d.typeIs slot_dict_getitem.lookup (wpAny_getItem_of (Q:=fun r s'=>r=v/\_) (fR ek Z).1 d.mapOf q1 ⟨rfl,Pst.after (O.trans L) (Pst.tok J q3)⟩) (Y _ _)
end
end Internal
end
section
set_option tactic.hygienic false
open PySem PySem.W PyProof.Rows
namespace Internal
inductive Tst (w:World) (h0:Heap) (W:Wd) (s:Shared) (H':List T) (b r:Bool) (s':Shared):Prop
 |mk (W':Wd) (x:Stp W s W' s') (F:Fit w h0 W' H' s'.heap) (e:r=b):Tst w h0 W s H' b r s'
section
variable(w:World)(h0:Heap)(C:Nat->List T->M LV)(n:Nat)
def SB(x:X):Prop:=∀(e:Expr)(A:Around)(env:Env)(nm:Nm)(ρ:aE)(fp:Nat->List Addr)(W:Wd)(H:List T)(s:Shared)(b:Bool)(H':List T),
 mX env.scope.names nm x e=true->Cx n A env->Vst w env nm ρ fp W s.heap->Fit w h0 W H s.heap->evX C ρ x H=some (.bool b,H')->
 wpAny (model pw w) A (isTrue e env (eval e env)) (Tst w h0 W s H' b) Nev s
structure SAll(x:X):Prop where
 val:SX w h0 C n x
 tst:bH x=true->SB w h0 C n x
end
section
variable{w:World}{h0:Heap}{C:Nat->List T->M LV}{n:Nat}{W W₁:Wd}{s s₁ s':Shared}{H':List T}{b r:Bool}
theorem Tst.after(x:Stp W s W₁ s₁)(h:Tst w h0 W₁ s₁ H' b r s'):Tst w h0 W s H' b r s':=let⟨d,y,F,e⟩:=h;⟨d,x.trans y,F,e⟩
@[elab_as_elim]
theorem Pst.elE{P:Bool->Prop}(h:Tst w h0 W s H' b r s')(K:∀d,Stp W s d s'->Fit w h0 d H' s'.heap->P b):P r:=let⟨d,x,F,e⟩:=h;e▸K d x F
theorem Pst.elB{v:Value}{P:Value->Prop}(h:Pst w h0 W s H' (fun d v=>Rep w d (.bool b) v) v s')(K:∀d,Stp W s d s'->Fit w h0 d H' s'.heap->P (.bool b)):P v:=let⟨d,x,F,e⟩:=h;(show v=.bool b from e)▸K d x F
end
theorem isTrue_cmp{l r:Expr}{op:CmpOp}{pos:Pos}{env:Env}{d:Sem Value}:
  isTrue (.Compare l [op] [r] pos) env d=(eval (.Compare l [op] [r] pos) env>>=fun c=>holding [c] (truthy c)):=by
 rw[isTrue_Compare1,eval_Compare1]
 simp only[bind_assoc]
noncomputable def uz:X->Bool
 |.cmp .. =>true|.eq .. =>true|.ne .. =>true|.isIn .. =>true|.notIn .. =>true|.isNone _=>true|.notNone _=>true
 |_=>false
theorem Bd{d:Nms}{q:Nm}{x:X}{e:Expr}{P:Expr->Prop}(c:uz x=true)(h:mX d q x e=true)(H:∀l op r pos,P (.Compare l [op] [r] pos)):P e:=by
 cases x<;>first|exact(aH c).elim|exact jB h fun l r pos _=>H l _ r pos
noncomputable def qE:X->Bool
 |.var _=>true|.call .. =>true|.isVec _=>true|.isList _=>true
 |_=>false
theorem yf{d:Nms}{z:Nm}{x:X}{e:Expr}{P:Expr->Prop}(c:qE x=true)(h:mX d z x e=true)(F:∀i p,P (.Name i p))(q:∀f es ks p,P (.Call f es ks p)):P e:=by
 cases x<;>first|exact(aH c).elim|exact dM h fun i p _=>F i p|exact qQ h fun x y es p _ _ _=>q _ _ _ _|exact zV h fun x y a b p _ _ _ _=>q _ _ _ _
section
variable{w:World}{h0:Heap}{C:Nat->List T->M LV}{n:Nat}
theorem Bv{x:X}(hx:SX w h0 C n x)(c:(uz x||qE x)=true):SB w h0 C n x:=by
 intro e A d nm O fp W H s b H' y cx S F L
 haveI val:=hx e A d nm O fp W H s _ H' y cx S F L
 have q:∀v s',Pst w h0 W s H' (fun J v=>Rep w J (.bool b) v) v s'->wpAny (model pw w) A (truthy v) (Tst w h0 W s H' b) Nev s':=fun v s' h=>
  Pst.elB (P:=fun v=>wpAny _ _ (truthy v) _ _ _) h fun J Y F'=>wpAny_truthy_bool ⟨J,Y,F',rfl⟩
 clear L
 rcases Bool.or_eq_true_iff.mp c with c|c
 ·revert val
  refine Bd (P:=fun e=>wpAny _ _ (eval e d) _ _ _->wpAny _ _ (isTrue e d (eval e d)) _ _ _) c y fun l op r Z val=>?_
  exact isTrue_cmp.symm▸wpAny_bind (wpAny_mono val (fun v s' h=>wpAny_holding (q v s' h)) fun _ _ z=>z)
 ·revert val
  exact yf (P:=fun e=>wpAny _ _ (eval e d) _ _ _->wpAny _ _ (isTrue e d (eval e d)) _ _ _) c y (fun i p val=>isTrue_plain (wpAny_mono val q fun _ _ z=>z)) fun f es ks p val=>isTrue_plain (wpAny_mono val q fun _ _ z=>z)
theorem uO{op:BoolOp}{x:Expr}{d:List Expr}{env:Env}{A:Around}{s:Shared}{Q:Bool->Shared->Prop}{M:Model}{E:Value->Shared->Prop}
  (h:wpAny M A (isTrue x env (eval x env)) (fun r s'=>match op,r with|.And,false=>Q false s'|.Or,true=>Q true s'|_,_=>wpAny M A (allTrue op d env) Q E s') E s):
  wpAny M A (allTrue op (x::d) env) Q E s:=by
 rw[arm_allTrue_cons]
 refine wpAny_bind (wpAny_mono h (fun r s' q=>?_) fun _ _ z=>z)
 cases op<;>cases r<;>first|exact wpAny_pure q|exact q
noncomputable def hU(C:Nat->List T->M LV)(ρ:aE)(o:Bool):List X->M T
 | []=>pur (.bool o)
 |x::xs=>bnd (evX C ρ x) fun t=>match o with
  |true=>cnd t (hU C ρ o xs) (pur (.bool false))
  |false=>cnd t (pur (.bool true)) (hU C ρ o xs)
theorem yH(ρ:aE):∀xs,mC C ρ xs=hU C ρ true xs:=by
 intro d
 induction d with
 |nil=>
  exact rfl
 |cons x xs q=>
  exact congrArg (fun m=>bnd (evX C ρ x) fun t=>cnd t m (pur (T.bool false):M T)) (q)
theorem A9(ρ:aE):∀xs,ur C ρ xs=hU C ρ false xs:=by
 intro d
 induction d with
 |nil=>
  exact rfl
 |cons x xs q=>
  exact congrArg (fun m=>bnd (evX C ρ x) fun t=>cnd t (pur (T.bool true):M T) m) (q)
noncomputable def opB(o:Bool):BoolOp:=if o then .And else .Or
theorem jW {ρ:aE} {o:Bool} {x:X} {xs:List X} {H H':List T} {t:T} {P:Prop} (d:hU C ρ o (x::xs) H=some (t,H')) (K:evX C ρ x H=some (.bool !o,H')->t= .bool !o->P)
  (z: ∀y,evX C ρ x H=some (.bool o,y)->hU C ρ o xs y=some (t,H')->P):P:=by
 refine aB d fun F y q d=> ?_
 cases o
 ·dsimp only at d
  revert q
  refine yR d (fun d q=> ?_) fun d q=>z y q d
  cases d;exact K q rfl
 ·dsimp only at d
  revert q
  refine yR d (fun d q=>z y q d) fun d q=> ?_
  cases d;exact K q rfl
theorem wq{ρ:aE}{o:Bool}:∀{xs:List X}{H H':List T}{t:T},hU C ρ o xs H=some (t,H')->∃b,t=.bool b:=by
 intro z
 induction z with
 |nil=>
  rintro _ _ _ y
  refine xA (Prod.mk.inj (Option.some.inj y)) fun q d=>?_;obtain rfl:=q;obtain rfl:=d;exact⟨_,rfl⟩
 |cons x xs F=>
  rintro _ _ _ y
  exact jW y (fun _ e=>⟨_,e⟩) fun _ _ e=>F e
theorem Aj{o:Bool}:∀{xs:List X}{es:List Expr}{A:Around}{env:Env}{J:Nm}{ρ:aE}{L:Nat->List Addr}{W:Wd}{H:List T}{s:Shared}{b:Bool}{H':List T},(∀x∈xs,SB w h0 C n x)->
  mXs env.scope.names J xs es=true->Cx n A env->Vst w env J ρ L W s.heap->Fit w h0 W H s.heap->hU C ρ o xs H=some (.bool b,H')->wpAny (model pw w) A (allTrue (opB o) es env) (Tst w h0 W s H' b) Nev s:=by
 intro m_
 induction m_ with
 |nil=>
  rintro es A env J ρ L W H s b H' hx Y Z S F he
  cases he
  refine dy (P:=fun es=>wpAny _ _ (allTrue _ es env) _ _ _) Y ?_
  cases o<;>exact wpAny_pure ⟨W,.refl W s,F,rfl⟩
 |cons x xs ih=>
  intro n_
  cases n_ with
  |nil=>
   rintro A env J ρ L W H s b H' hx Y Z S F he
   exact(aH Y).elim
  |cons e es=>
   rintro A env J ρ L W H s b H' hx Y Z S F he
   refine aK Y fun m1 m2=>?_
   refine uO ?_
   refine jW he (fun e1 et=>?_) fun H1 e1 e2=>?_
   ·cases et
    refine wpAny_mono (hx x (.head _) e A env J ρ L W H s _ H' m1 Z S F e1) (fun z s₁ q=>?_) fun _ _ z=>z
    obtain⟨W₁,d,y,rfl⟩:=q
    cases o<;>exact⟨W₁,d,y,rfl⟩
   ·refine wpAny_mono (hx x (.head _) e A env J ρ L W H s _ H1 m1 Z S F e1) (fun z s₁ q=>?_) fun _ _ z=>z
    obtain⟨W₁,d,y,rfl⟩:=q
    haveI r:=wpAny_mono (ih (fun x aa=>hx x (.tail _ aa)) m2 Z (S.stp d) y e2) (fun z ab O=>Tst.after d O) fun _ _ z=>z
    cases z<;>exact r
set_option backward.match.sparseCases true in
theorem BX{o:Bool}{pos:Pos}:∀{xs:List X}{es:List Expr}{A:Around}{env:Env}{Y:Nm}{ρ:aE}{Z:Nat->List Addr}{W:Wd}{H:List T}{s:Shared}{b:Bool}{H':List T},xs≠[]->(∀x∈xs,SX w h0 C n x)->
  mXs env.scope.names Y xs es=true->Cx n A env->Vst w env Y ρ Z W s.heap->Fit w h0 W H s.heap->hU C ρ o xs H=some (.bool b,H')->wpAny (model pw w) A (boolOp pos (opB o) (evalEach es env)) (Pst w h0 W s H' fun W' v=>Rep w W' (.bool b) v) Nev s:=by
 intro xs
 induction xs with
 |nil=>intro es A env Y ρ Z W H s b H' hn;exact(hn rfl).elim
 |cons x xs ih=>
  intro es
  cases es with
  |nil=>intro A env Y ρ Z W H s b H' hn hx hm;exact(aH hm).elim
  |cons e es=>
   intro A env Y ρ Z W H s b H' hn hx hm
   refine aK hm fun m1 m2=>?_
   clear hm hn
   cases xs with
   |nil=>
    intro cx S F he
    refine dy (P:=fun es=>wpAny _ _ (boolOp pos _ (evalEach (e::es) env)) _ _ _) m2 ?_
    haveI O:evX C ρ x H=some (.bool b,H'):=jW he (fun O et=>by cases et;exact O) fun H1 O e2=>by cases e2;exact O
    exact hx x (.head _) e A env Y ρ Z W H s _ H' m1 cx S F O
   |cons y xs=>
    cases es with
    |nil=>exact(aH m2).elim
    |cons e' es=>
     intro cx S F he
     show wpAny (model pw w) A (do let v<-eval e env;standAt pos;let t<-holding [v] (truthy v);match opB o,t with|.And,false|.Or,true=>pure v|_,_=>boolOp pos (opB o) (evalEach (e'::es) env)) _ _ s
     refine wpAny_bind ?_
     refine jW he (fun O et=>?_) fun H1 O e2=>?_
     ·cases et
      refine wpAny_mono (hx x (.head _) e A env Y ρ Z W H s _ H' m1 cx S F O) (fun v s₁ J=>?_) fun _ _ z=>z
      obtain⟨W₁,d,L,rfl⟩:=J
      refine wpAny_bind (wpAny_standAt (wpAny_bind (wpAny_holding (wpAny_truthy_bool ?_))))
      cases o<;>exact wpAny_pure ⟨W₁,d,L,rfl⟩
     ·refine wpAny_mono (hx x (.head _) e A env Y ρ Z W H s _ H1 m1 cx S F O) (fun v s₁ J=>?_) fun _ _ z=>z
      obtain⟨W₁,d,L,rfl⟩:=J
      refine wpAny_bind (wpAny_standAt (wpAny_bind (wpAny_holding (wpAny_truthy_bool ?_))))
      haveI r:=wpAny_mono (ih (fun q=>(List.cons_ne_nil _ _ q).elim) (fun x ab=>hx x (.tail _ ab)) m2 cx (S.stp d) L e2) (fun z ac aa=>Pst.after d aa) fun _ _ z=>z
      cases o<;>exact r
theorem Ex{xs:List X}{o:Bool}{x:X}(hx:∀x∈xs,SX w h0 C n x)(ht:∀x∈xs,bH x=true->SB w h0 C n x)
  (Y:∀ρ,evX C ρ x=hU C ρ o xs) (O:∀J Z e,mX J Z x e=eBo e fun p es=>p==opB o&& !xs.isEmpty&&mXs J Z xs es) (ab:bH x=im xs):SAll w h0 C n x:=by
 haveI ac:(!xs.isEmpty)=true->xs≠[]:=fun h q=>by rw[q]at h;exact(aH h).elim
 refine⟨?_,fun t=>?_⟩
 ·intro e A ad Z ρ fp W H s t H' d cx S F z
  rw[O]at d
  rw[Y]at z
  refine DR d fun p es aa d=>?_
  refine aY d fun mp mn d=>?_
  refine bO mp ?_
  obtain⟨b,rfl⟩:=wq z
  rw[arm_eval_BoolOp]
  exact BX (ac mn) hx d cx S F z
 ·haveI tt:∀{xs:List X},im xs=true->∀x∈xs,bH x=true:=by
   intro xs
   induction xs with
   |nil=>exact fun _ _ h=>(List.not_mem_nil h).elim
   |cons y ys ih=>exact fun h x hx=>aK h fun a b=>(List.mem_cons.mp hx).elim (fun e=>e▸a) (ih b x)
  rw[ab]at t
  intro e A ad Z ρ fp W H s b H' d cx S F z
  rw[O]at d
  rw[Y]at z
  refine DR d fun p es aa d=>?_
  refine aY d fun mp mn d=>?_
  refine bO mp ?_
  rw[arm_isTrue_BoolOp]
  exact Aj (fun x L=>ht x L (tt t x L)) d cx S F z
theorem KJ{x:X}(hx:SAll w h0 C n x):SAll w h0 C n (.not x):=by
 refine⟨?_,fun ht=>?_⟩
 ·intro e A Y nm Z fp W H s t H' J cx S F O
  refine yJ J fun op e aa J=>?_
  refine aY J fun mo ht m=>?_
  refine bO mo ?_
  refine aB O fun ta H1 e1 O=>?_
  refine aN O fun b el L=>?_
  obtain rfl:=li el
  refine aM L ?_
  refine wpAny_UnaryOp (wpAny_mono (hx.val e A Y nm Z fp W H s _ _ m cx S F e1) (fun v s₁ q=>?_) fun _ _ z=>z)
  obtain⟨W₁,d,y,rfl⟩:=q
  exact not_of (wpAny_truthy_bool ⟨W₁,d,y,rfl⟩)
 ·intro e A Y nm Z fp W H s b H' J cx S F O
  refine yJ J fun op e aa J=>?_
  refine aY J fun mo ht m=>?_
  refine bO mo ?_
  refine aB O fun ta H1 e1 O=>?_
  refine aN O fun b el L=>?_
  obtain rfl:=li el
  cases L
  refine isTrue_not (wpAny_mono (hx.tst ht e A Y nm Z fp W H s b _ m cx S F e1) (fun v s₁ q=>?_) fun _ _ z=>z)
  obtain⟨W₁,d,y,rfl⟩:=q
  exact⟨W₁,d,y,rfl⟩
theorem JQ{c a b:X}(hc:SAll w h0 C n c)(ha:SX w h0 C n a)(hb:SX w h0 C n b):SX w h0 C n (.ite c a b):=by
 intro e A L nm Z fp W H s t H' hm cx S F J
 refine DQ hm fun ec ea eb ad hm=>?_
 refine cT hm fun ht m1 m2 m3=>?_
 refine aB J fun tc H1 Y J=>?_
 have ac:∀q,evX C Z c H=some (.bool q,H1)->(if q=true then evX C Z a else evX C Z b) H1=some (t,H')->wpAny (model pw w) A (eval (.IfExp ec ea eb ad) L) (Pst w h0 W s H' fun W' v=>Rep w W' t v) Nev s:=fun q Y J=>
  wpAny_IfExp (wpAny_mono (hc.tst ht ec A L nm Z fp W H s q H1 m1 cx S F Y) (fun r s₁ ab=>Pst.elE (P:=fun r=>if r=true then _ else _) ab fun W₁ d O=>by
   cases q
   ·exact wpAny_mono (hb eb A L nm Z fp W₁ H1 s₁ t H' m3 cx (S.stp d) O J) (fun v aa y=>y.after d) fun _ _ z=>z
   ·exact wpAny_mono (ha ea A L nm Z fp W₁ H1 s₁ t H' m2 cx (S.stp d) O J) (fun v aa y=>y.after d) fun _ _ z=>z) fun _ _ z=>z)
 revert Y
 exact yR J (fun J Y=>ac true Y J) fun J Y=>ac false Y J
theorem pG{d:Nms}{q:Nm}:∀{xs:List X}{es:List Expr},mXs d q xs es=true->xs.length=es.length:=by
 intro z
 induction z with
 |nil=>
  rintro es h
  exact dy (P:=fun es=>0=es.length) h rfl
 |cons x xs F=>
  intro y
  cases y with
  |nil=>
   rintro h
   exact(aH h).elim
  |cons e es=>
   rintro h
   exact aK h fun _ h=>congrArg Nat.succ (F h)
theorem my{ρ:aE}:∀{xs:List X}{H:List T}{ts:List T}{H':List T},d9 C ρ xs H=some (ts,H')->ts.length=xs.length:=by
 intro y
 induction y with
 |nil=>
  rintro H ts H' h
  refine xA (Prod.mk.inj (Option.some.inj h)) fun q d=>?_;obtain rfl:=q;obtain rfl:=d;rfl
 |cons x xs z=>
  rintro H ts H' h
  exact aB h fun t O _ h=>aB h fun J L F h=>by refine xA (Prod.mk.inj (Option.some.inj h)) fun q d=>?_;obtain rfl:=q;obtain rfl:=d;exact congrArg Nat.succ (z F)
theorem ji{es:List Expr}(h:bQ es=true):es.length<=100:=aK h fun _ b=>of_decide_eq_true b
theorem BR{d:Nms}{q:Nm}{xs:List X}{es:List Expr}{ρ:aE}{H H':List T}{ts:List T}{W:Wd}{vs:List Value}(m:mXs d q xs es=true)(y:bQ es=true)(e:d9 C ρ xs H=some (ts,H'))(r:Reps w W ts vs):vs.length<=sizeLine:=by
 rw[r.length,my e,pG m,sizeLine_eq]
 haveI:=ji y
 exact tkn this rfl
theorem HC{xs:List X}(hx:SXs w h0 C n xs):SX w h0 C n (.list xs):=by
 intro e A Z nm ρ fp W H s t H' O cx S F Y
 refine qY O fun es L O=>?_
 refine aK O fun mp m=>?_
 refine aB Y fun ts H1 e1 Y=>?_
 refine aM Y ?_
 refine List_ (wpAny_mono (hx es A Z nm ρ fp W H s ts _ L m mp cx S F e1) (fun vs s₁ y=>?_) fun _ _ z=>z)
 refine el4 y fun W₁ q J d=>?_
 exact wpAny_newList (Pst.after q (Pst.made (tk:=s₁.toks) J (fun a o e=>Heap.get?_push_of_some _ e) (Heap.get?_none_of_le (Nat.le_refl _)) (Heap.get?_push_size _ rfl) fun W' l f=>⟨_,_,0,rfl,f,Reps.mono l _ (show Reps w W₁ ts vs.toArray.toList from d)⟩)) (BR m mp e1 d)
theorem Jy{xs:List X}(hx:SXs w h0 C n xs):SX w h0 C n (.tup xs):=by
 intro e A Z nm ρ fp W H s t H' O cx S F Y
 refine DO O fun es k L O=>?_
 refine aK O fun mp m=>?_
 refine aB Y fun ts H1 e1 Y=>?_
 refine aM Y ?_
 refine Tuple_ (wpAny_mono (hx es A Z nm ρ fp W H s ts _ L m mp cx S F e1) (fun vs s₁ y=>?_) fun _ _ z=>z)
 refine el4 y fun W₁ q J d=>?_
 exact wpAny_newTuple (Pst.after q (Pst.made (tk:=s₁.toks) J (fun a o e=>Heap.get?_push_of_some _ e) (Heap.get?_none_of_le (Nat.le_refl _)) (Heap.get?_push_size _ rfl) fun W' l f=>⟨_,_,0,rfl,f,Reps.mono l _ (show Reps w W₁ ts vs.toArray.toList from d)⟩)) (BR m mp e1 d)
end
end Internal
end
section
open PySem PySem.W PyProof.Rows
namespace Internal
section
variable{prog:Program}{w:World}{A:Around}{E:Value->Shared->Prop}{s:Shared}
theorem Bh{l b:Addr}{xs q:Array Value}{Q:Value->Shared->Prop}(y:s.heap.PlainList l xs)(z:s.heap.PlainList b q)(hsz:xs.size+q.size<=sizeLine)
  (h:Q (.ref s.heap.objs.size) {s with heap:=s.heap.push (seqObj "list" (xs++q) 0)}):wpAny (model prog w) A (binaryOp .Add (.ref l) (.ref b)) Q E s:=by
 refine xE y fun i r=>?_
 refine xE z fun j d=>?_
 exact concat_meets ⟨_,r,rfl⟩ ⟨_,d,rfl⟩ noFill_list_add seq_list_add PySem.F.slot_list_add PySem.F.entry_list_add (PySem.F.args_list_add_2 _ _) (list_addW l b xs q i j none none #[] #[] hsz) ⟨r,d,h⟩
theorem sS{l:Addr}{xs:Array Value}{x:Int}{u:Tok}{Q:Value->Shared->Prop}(d:s.heap.PlainList l xs)(q:0<=x)(r:x<=1000)(hsz:xs.size<=1000)
  (h:Q (.ref s.heap.objs.size) {s with heap:=s.heap.push (seqObj "list" (List.foldl (fun H z=>H++z) #[] (List.replicate (if xs.isEmpty=true then 0 else x.toNat) xs)) 0)}):
  wpAny (model prog w) A (binaryOp .Mult (.ref l) (.int x u)) Q E s:=by
 refine d.elim fun k d=>?_
 haveI y:xs.size*x.toNat<=1000*1000:=Nat.mul_le_mul hsz (by lia)
 exact wpAny_binaryOp_repeat_ref (T:="list") (U:="int") (by decide) ⟨_,d,rfl⟩ (fun J=>typeIs_int J x u) noFill_list_mul F.fills_int_mul F.slot_int_rmul repeat_list F.slot_int_index.lookup
  (call_meets F.slot_int_rmul (typeIs_int s x u) F.entry_int_rmul (F.args_int_rmul_2 _ _) (int___rmul___int_list x u l xs k)
   ⟨d,rfl,⟨_,d,rfl⟩,call_meets F.slot_list_mul ⟨_,d,rfl⟩ F.entry_list_mul (F.args_list_mul_2 _ _)
    (AutoListH.list___mul___list_int_3 l xs k x u (by simp[Builtin.List.listFitsIndex];exact⟨Int.le_of_lt (f6 (of_decide_eq_true rfl) q),yn r rfl⟩) (Nat.not_lt.mpr (tkn y rfl)) (by simp[Builtin.List.listTooLong,sizeLine];exact tkn y rfl)) ⟨d,h⟩⟩)
end
theorem wi(v:Value)(k:Nat):(List.foldl (fun q d=>q++d) #[] (List.replicate k #[v]):Array Value)=(List.replicate k v).toArray:=by
 haveI:∀(acc:Array Value) (k:Nat),List.foldl (fun q d=>q++d) acc (List.replicate k #[v])=acc++(List.replicate k v).toArray:=by
  intro acc k
  induction k generalizing acc with
  |zero=>simp
  |succ k r=>
   rw[List.replicate_succ,List.foldl_cons,r,List.replicate_succ]
   apply Array.toList_inj.mp
   simp
 rw[this];simp
section
variable{w:World}{h0:Heap}{C:Nat->List T->M LV}{n:Nat}
theorem Reps.replicate{W:Wd}{t:T}{v:Value}(r:Rep w W t v):∀k,Reps w W (List.replicate k t) (List.replicate k v):=by
 intro d
 induction d with
 |zero=>
  exact rfl
 |succ k q=>
  exact⟨v,List.replicate k v,rfl,r,q⟩
theorem sT{ts:List T}{xs:Array Value}{W:Wd}{H:List T}{s:Shared}(F:Fit w h0 W H s.heap)(q:Reps w W ts xs.toList):Pst w h0 W s H (fun d v=>Rep w d (.list ts) v) (.ref s.heap.objs.size) {s with heap:=s.heap.push (seqObj "list" xs 0)}:=
 Pst.made (tk:=s.toks) F (fun a o e=>Heap.get?_push_of_some _ e) (Heap.get?_none_of_le (Nat.le_refl _)) (Heap.get?_push_size _ rfl) fun d l f=>⟨_,_,0,rfl,f,Reps.mono l _ q⟩
theorem GH{o:Bo}{a b:Int}{t:T}{r q:Tok}{A:Around}{W:Wd}{H:List T}{s:Shared}(F:Fit w h0 W H s.heap)(e:biI o a b=some t):
  wpAny (model pw w) A (binaryOp (CP o) (.int a r) (.int b q)) (Pst w h0 W s H fun y v=>Rep w y t v) Nev s:=by
 cases o
 ·cases e;exact add_int (Pst.tok F ⟨_,rfl⟩)
 ·obtain rfl:=Option.some.inj e;exact sub_int (Pst.tok F ⟨_,rfl⟩)
 ·haveI d:(if small a&&small b then some (T.int (a*b))else none)=some t:=e
  split at d
  ·rename_i c
   obtain rfl:=Option.some.inj d
   exact mul_int (Pst.tok F ⟨_,rfl⟩) (IntMulOk.of_left (xC (Bool.and_eq_true_iff.mp c).1))
  ·cases d
 ·haveI d:(if 0<b/\b<big then some (T.int (a.fdiv b))else none)=some t:=e
  split at d
  ·rename_i c
   obtain rfl:=Option.some.inj d
   exact floordiv_int (Int.ne_of_gt c.1) (Pst.tok F ⟨_,rfl⟩) (.inl (GI c.1 c.2 a))
  ·exact(nos d).elim
 ·haveI d:(if 0<b/\b<big then some (T.int (a.fmod b))else none)=some t:=e
  split at d
  ·rename_i c
   cases d
   exact mod_int (Int.ne_of_gt c.1) (Pst.tok F ⟨_,rfl⟩)
  ·exact absurd d nofun
theorem CF{W:Wd}{ts:List T}{xs:Array Value}(q:Reps w W ts xs.toList)(h:ts.length=1):∃t v,ts=[t]/\xs= #[v]/\Rep w W t v:=by
 cases ts with
 |nil=>cases h
 |cons t r=>
  cases r with
  |cons=>cases h
  |nil=>
   refine bT q fun v r e d y=>?_
   exact⟨t,v,rfl,Array.toList_inj.mp (y▸e),d⟩
theorem Ei{o:Bo}{a:List T}{O t:T}{l:Addr}{xs:Array Value}{i:Nat}{A:Around}{W:Wd}{H:List T}{s:Shared}{L:Value}(F:Fit w h0 W H s.heap)(f:W.fz l=some (seqObj "list" xs i))(z:Reps w W a xs.toList)(e:hZ o (.list a) O=some t)(Y:Rep w W O L):
  wpAny (model pw w) A (binaryOp (CP o) (.ref l) L) (Pst w h0 W s H fun W' v=>Rep w W' t v) Nev s:=by
 have hl:lim=1000:=rfl
 haveI aa:=sizeLine_eq
 cases o<;>first|exact(tH e).elim|skip
 ·refine bD e fun b J d=>?_
  obtain rfl:=eM J
  obtain⟨l2,ys,j,rfl,f2,q⟩:=Y
  haveI lx:=z.length
  haveI ly:=q.length
  rw[Array.length_toList]at lx ly
  split at d
  ·obtain rfl:=Option.some.inj d
   exact Bh ⟨i,F.fz _ _ f⟩ ⟨j,F.fz _ _ f2⟩ (by lia) (sT F (by exact Array.toList_append.symm▸Reps.append z q))
  ·exact(nos d).elim
 ·refine bD e fun b J d=>?_
  obtain rfl:=dA J
  obtain⟨t2,rfl⟩:=Y
  split at d
  ·rename_i c
   obtain rfl:=Option.some.inj d
   refine bT (CF z c.2.2) fun t v y r Z=>?_;obtain rfl:=y;obtain rfl:=r
   refine sS ⟨i,F.fz _ _ f⟩ c.1 (ug c.2.1 rfl) (by simp) ?_
   haveI e3:(if(#[v]:Array Value).isEmpty=true then 0 else b.toNat)=b.toNat:=rfl
   rw[e3,wi]
   exact sT F (show Reps w W (List.replicate b.toNat t) (List.replicate b.toNat v)from Reps.replicate Z _)
  ·exact absurd d nofun
theorem I7{o:Bo}{r Z t:T}{A:Around}{W:Wd}{H:List T}{s:Shared}{Y O:Value}(F:Fit w h0 W H s.heap)(e:hZ o r Z=some t)(z:Rep w W r Y)(y:Rep w W Z O):
  wpAny (model pw w) A (binaryOp (CP o) Y O) (Pst w h0 W s H fun W' v=>Rep w W' t v) Nev s:=by
 cases r<;>first|exact(tH e).elim|skip
 ·refine bD e fun b J L=>?_
  obtain rfl:=dA J
  obtain⟨t1,rfl⟩:=z
  obtain⟨t2,rfl⟩:=y
  exact GH F L
 ·cases o<;>first|exact(tH e).elim|skip
  refine bD e fun b J L=>?_
  obtain rfl:=pZ J
  obtain⟨t1,rfl,z1⟩:=z
  refine xEA y fun t2 d z2=>?_;obtain rfl:=d
  refine eC L fun c q=>?_
  unfold Bi at q
  split at q
  ·rename_i hc
   obtain rfl:=Option.some.inj q
   haveI ab:iq=100000:=rfl
   have aa:=sizeLine_eq
   exact add_str (fun t' tk=>Pst.tok F ⟨_,rfl,gB z1 z2⟩) (tkn hc rfl)
  ·exact absurd q nofun
 ·obtain⟨l,xs,i,rfl,f,rs⟩:=z
  exact Ei F f rs e y
theorem JW{o:Bo}{a b:X}(ha:SX w h0 C n a)(Z:SX w h0 C n b):SX w h0 C n (.bin o a b):=by
 intro e A aa nm ρ fp W H s t H' q cx S F d
 refine yM q fun l p r O q=>?_
 refine aY q fun Y m1 m2=>?_
 refine bO Y ?_
 refine aB d fun ta H1 e1 d=>?_
 refine aB d fun tb H2 e2 d=>?_
 refine bV d fun e3=>?_
 exact wpAny_BinOp (pB ha Z m1 m2 cx S F e1 e2 fun va vb W' s' x F' L J=>wpAny_mono (I7 F' e3 L J) (fun v y h=>h.after x) fun _ _ z=>z)
theorem zr(P:Params):findIn (eD P) (.ref dU) "__getattribute__" =some (some (.builtin "object.__getattribute__"))/\hasDictIn (eD P) dU=true/\
  findIn (eD P) (.ref dU) "kind" =some none/\findIn (eD P) (.ref dU) "items" =some none/\findIn (eD P) (.ref dU) "attrs" =some none:=by
 refine⟨?_,?_,?_,?_,?_⟩<;>kernel_rfl
theorem uh{W:Wd}{H:List T}{h:Heap}{x d:Addr}{g:Value×Value×Value}(F:Fit w h0 W H h)(hx:W.fz x=some (fg d))(y:W.gz d=some g):∃o,oM w g o/\h.get? d=some o/\InstAt h x (fg d) dU (some o):=by
 refine xE (F.gz d g y) fun o q=>?_;haveI r:=q.1;haveI i:=q.2
 exact⟨o,i,r,⟨F.fz _ _ hx,rfl,rfl,r⟩⟩
theorem Dn{W:Wd}{t:T}{v:Value}(r:Rep w W t v):handedIn v=true:=by
 cases t
 ·obtain rfl:=r;rfl
 ·obtain rfl:=r;rfl
 ·obtain⟨_,rfl⟩:=r;rfl
 ·refine xEA r fun _ d _=>?_;obtain rfl:=d;rfl
 ·obtain⟨_,_,_,rfl,_⟩:=r;rfl
 ·obtain⟨_,_,_,rfl,_⟩:=r;rfl
 ·obtain⟨_,_,_,rfl,_⟩:=r;rfl
 ·obtain⟨_,_,_,_,_,rfl,_⟩:=r;rfl
 ·obtain⟨rfl,_⟩:=r;rfl
 ·refine xEA r fun _ d _=>?_;obtain rfl:=d;rfl
theorem Bs{f:Fld}{t u:T}(e:cQ f t=some u):∃k it a,t=.vec k it a:=by
 cases f<;>cases t<;>first|exact(nos e).elim|exact⟨_,_,_,rfl⟩
theorem GL(B:cR w h0){f:Fld}{L t:T}{A:Around}{W:Wd}{H:List T}{s:Shared}{v:Value}(F:Fit w h0 W H s.heap)(e:cQ f L=some t)(r:Rep w W L v):
  wpAny (model pw w) A (getAttr v (Hd f) true) (Pst w h0 W s H fun W' v=>Rep w W' t v) Nev s:=by
 refine BH (Bs e) fun k it at' J=>?_;obtain rfl:=J
 obtain⟨x,d,Z,i,a,rfl,hx,hd,O,Y,z⟩:=r
 refine nc (uh F hx hd) fun o id ho I=>?_
 haveI q:=zr w.params;haveI g1:=q.1;haveI g2:=q.2.1;haveI g3:=q.2.2.1;haveI g4:=q.2.2.2.1;haveI g5:=q.2.2.2.2
 haveI X:(eD w.params).In s.heap:=fun a o e=>F.base a o (B.cls a o e)
 refine sw id fun t1 t2 t3 t4 t5 b1 b2 m y=>?_;obtain rfl:=y
 cases f<;>obtain rfl:=Option.some.inj e
 ·exact get_value (v:=.str k Z) X I g1 (findObj_own g2 g3 rfl rfl) rfl (Pst.tok F ⟨_,rfl,z⟩)
 ·exact get_value (v:=i) X I g1 (findObj_own g2 g4 rfl rfl) (Dn O) (Pst.tok F O)
 ·exact get_value (v:=a) X I g1 (findObj_own g2 g5 rfl rfl) (Dn Y) (Pst.tok F Y)
theorem iP{o:Expr}{a:Str}{env:Env}{m:Sem Value}(h:oi o=true):attributeBase o a env m=m:=by
 cases o<;>first|rfl|skip
 rename_i f as ks p
 cases f<;>first|rfl|skip
 cases as<;>first|rfl|skip
 cases ks<;>first|rfl|skip
 exact(aH h).elim
theorem H9(B:cR w h0){x:X}{f:Fld}(hx:SX w h0 C n x):SX w h0 C n (.attr x f):=by
 intro e A O nm ρ fp W H s t H' J cx S F L
 refine k7 J fun l a ab J=>?_
 refine aY J fun m0 mb m1=>?_
 refine bO m0 ?_
 refine aB L fun ta H1 e1 L=>?_
 refine bV L fun e3=>?_
 refine Attribute_any_ (wpAny_mono (hx l A O nm ρ fp W H s ta _ m1 cx S F e1) (fun v Y r=>?_) fun _ _ z=>z) ?_
 ·obtain⟨Z,d,y,q⟩:=r
  exact wpAny_mono (GL B y e3 q) (fun v aa h=>h.after d) fun _ _ z=>z
 ·rw[arm_eval_Attribute]
  rw[iP mb]
theorem Fd(B:cR w h0){x:X}(hx:SX w h0 C n x):SX w h0 C n (.isVec x):=by
 intro e A ab nm ρ fp W H s t H' hm Y S F he
 refine zV hm fun f np e e' ae m0 mp _ hm=>?_
 refine aK hm fun Z m1=>?_
 refine dM Z fun c cp Z=>?_
 refine aB he fun ta H1 e1 he=>?_
 refine aN he fun u ev aa=>?_
 refine aM aa ?_
 refine gc (id:="isinstance") B Y F m0 (by decide) (dR mp rfl) ?_
 rw[aF mp,aF (e:=.Name c cp) rfl]
 refine Calls.spliced_cons (wpAny_mono (hx e A ab nm ρ fp W H s _ _ m1 Y S F e1) (fun v ac J=>?_) fun _ _ z=>z)
 refine Pst.el J fun ad y q r=>?_
 haveI L:=gh Z;obtain rfl:=L.1;haveI hk:=L.2
 refine xE B.glob fun mg O=>?_;haveI g1:=O.1;haveI g3:=O.2.2.1
 refine Calls.spliced_cons (Calls.Name_function_global Y.kind hk (Calls.loadGlobal_global (mg:=mg) (by exact Y.glob.symm▸g1.at' fun o e=>q.base _ o e) g3 (Calls.spliced_nil ?_)) (by decide +kernel))
 clear e1
 revert r
 refine BY ev fun k it at' r=>?_
 obtain⟨x',d,tk,i,a,rfl,h1,h2,_⟩:=r
 refine nc (uh q h1 h2) fun o _ _ I=>?_
 exact isi_call (K:=eD w.params) (fun a o e=>q.base a o (B.cls a o e)) (fun M=>I.type) (by kernel_rfl) (fun h=>nomatch h) (Pst.after y (Pst.here q rfl))
end
theorem Am{s:Str}{l:List Str}(hs:sOk s=true)(d:∀x∈l,sOk x=true):sOk (Str.join s l)=true:=by
 induction l with
 |nil=>unfold Str.join sOk Str.empty;simp
 |cons x r q=>
  cases r with
  |nil=>exact d x (.head _)
  |cons y r=>exact gB (gB (d x (.head _)) hs) (q fun z F=>d z (.tail _ F))
section
variable{w:World}{h0:Heap}{C:Nat->List T->M LV}{n:Nat}
theorem HW(a b:Nat):SX w h0 C n (.powc a b):=by
 intro e A O Z Y fp W H s t H' y cx S F z
 refine yM y fun l o r J y=>?_
 refine aY y fun L q d=>?_
 refine bO L ?_
 refine dS q fun c k1 p1 q=>?_
 refine mT q fun i q=>?_
 refine dS d fun c k2 p2 d=>?_
 refine mT d fun j d=>?_
 refine bO q ?_
 refine bO d ?_
 refine dZ z fun _ z=>?_
 refine aM z ?_
 refine wpAny_BinOp (wpAny_Constant_int (wpAny_Constant_int (pow_int_small (by decide) (by decide) (by decide) ?_)))
 exact Pst.tok (s:=s) F ⟨_,rfl⟩
theorem JT(B:cR w h0)(f:Nat):SX w h0 C n (.gfn f):=by
 intro e A Z nm ρ fp W H s t H' r J S F Y
 refine dM r fun x L r=>?_
 refine aM Y ?_
 refine aK r fun m1 m2=>?_
 haveI y:=of_decide_eq_true m2
 haveI q:=gh m1;obtain rfl:=q.1;haveI O:=q.2
 refine sA B.glob fun z g1 g2 _ _=>?_
 refine Calls.Name_function_global J.kind O (Calls.loadGlobal_global (mg:=z) (by exact J.glob▸g1.at' fun o e=>F.base _ o e) (g2 f y) (Pst.here F ⟨rfl,y⟩)) ?_
 haveI:(List.range 82).all (fun f=>((fu f:Str)==("__debug__" :Str))==false)=true:=by kernel_rfl
 exact eq_of_beq (List.all_eq_true.mp this f (List.mem_range.mpr y))
theorem Cy(B:cR w h0){x:X}(hx:SX w h0 C n x):SX w h0 C n (.isList x):=by
 intro e A Y nm ρ fp W H s t H' J Z S F O
 refine zV J fun f np e e' ac m0 mp _ J=>?_
 refine aK J fun y m1=>?_
 refine dM y fun c cp y=>?_
 refine aB O fun ta H1 e1 O=>?_
 refine aN O fun u ev L=>?_
 obtain rfl:=li ev
 refine aM L ?_
 refine gc (id:="isinstance") B Z F m0 (by decide) (dR mp rfl) ?_
 rw[aF mp,aF (e:=.Name c cp) rfl]
 refine Calls.spliced_cons (wpAny_mono (hx e A Y nm ρ fp W H s _ _ m1 Z S F e1) (fun v aa r=>?_) fun _ _ z=>z)
 obtain⟨ab,q,d,rfl⟩:=r
 refine Calls.spliced_cons (qD (v:=.type "list") B Z d y (by decide) (Calls.spliced_nil ?_))
 exact IsiPair.bool_list (Pst.after q (Pst.tok d rfl))
theorem FO{W:Wd}:∀{ts:List T}{vs:List Value}{a b:Int},Reps w W ts vs->oP ts a=some b->∃xs:List (Int×Tok),vs=xs.map (fun p=>Value.int p.1 p.2)/\b=a+(xs.map (·.1)).sum:=by
 intro z
 induction z with
 |nil=>
  rintro _ a b r e
  subst r;rw[Option.some.inj e];exact⟨[],rfl,by simp⟩
 |cons t ts F=>
  rintro _ a b r e
  obtain⟨v,J,rfl,q,y⟩:=r
  cases t<;>first|cases e|skip
  rename_i i
  refine xE q fun u d=>?_;obtain rfl:=d
  refine xEA (F y (show oP ts (a+i)=some b from e)) fun xs d H=>?_;obtain rfl:=d
  exact⟨(i,u)::xs,rfl,by rw[H];simp;exact Int.add_assoc ..⟩
theorem tD(xs:Array (Int×Tok)):preSum (numAt xs) xs.size=(xs.toList.map (·.1)).sum:=by
 haveI:∀k,k<=xs.size->preSum (numAt xs) k=((xs.toList.take k).map (·.1)).sum:=by
  intro k
  induction k with
  |zero=>intro _;rfl
  |succ k d=>
   intro h
   haveI q:k<xs.toList.length:=by rw[Array.length_toList];exact h
   rw[show preSum (numAt xs) (k+1)=preSum (numAt xs) k+numAt xs k from rfl,d (Nat.le_of_lt h),List.take_succ_eq_append_getElem q,List.map_append,List.sum_append]
   simp[numAt]
   haveI:k<xs.size:=h
   simp[this]
 rw[this _ (Nat.le_refl _),List.take_of_length_le (by simp)]
theorem JL(B:cR w h0){x:X}(hx:SX w h0 C n x):SX w h0 C n (.sum x):=by
 intro e A ac nm ρ fp W H s t H' hm O S F L
 refine iz hm fun f np e ab m0 Z m1=>?_
 refine aB L fun ta H1 e1 L=>?_
 refine aN L fun ts el J=>?_
 obtain rfl:=eM el
 refine bV J fun e2=>?_
 refine eC e2 fun k ek=>?_
 refine gc (id:="sum") B O F m0 (by decide) (aR Z) (zh hx m1 Z O S F e1 fun v aa r q d y=>?_)
 obtain⟨a,Y,i,rfl,fz,rs⟩:=y
 refine xEA (FO rs ek) fun z ex hb=>?_
 haveI hy:Y=intItems z.toArray:=by
  apply Array.toList_inj.mp
  rw[ex]
  simp[intItems]
 refine sum_intListG O.ao.hd (xs:=z.toArray) (l:=a) (by rw[<-hy];exact(show r.heap.PlainList a Y from⟨i,d.fz _ _ fz⟩).isList) fun h' tk t' k'=>Pst.after q (Pst.kept d k' ⟨t',?_⟩)
 rw[tD,hb]
 simp
theorem fv{es:List Expr}{env:Env}{pos:Pos}(h:bQ es=true)(q:es.length<=4):((backTo pos (starEach es env)).all (fun x=> !x.1)&&(backToKw pos (keywordEach [] env)).all (fun x=>x.1.isSome)
   &&decide (es.length+([]:List Keyword).length+(if([]:List Keyword).isEmpty then 0 else 1)<30))=true:=by
 haveI d:(backTo pos (starEach es env)).all (fun x=> !x.1)=true:=by
  haveI:=cY (env:=env) (pos:=pos) h
  rw[List.all_eq_not_any_not]
  simpa using this
 rw[d]
 simp only[Bool.true_and,Bool.and_eq_true,decide_eq_true_eq]
 refine⟨rfl,?_⟩
 simp only[List.length_nil,List.isEmpty_nil,if_true]
 lia
theorem pL{h:Heap}{a:Addr}{kvs:List (Key×Value)}(d:h.DictOf (aJ pw w) a kvs):∀b,Value.ref a=.ref b->∃q,h.get? b=some q/\q.dict=none:=d.mapOf.noDict
theorem gV{h:Heap}{a:Addr}{xs:Array Value}(d:h.PlainList a xs):∀b,Value.ref a=.ref b->∃q,h.get? b=some q/\q.dict=none:=fun b e=>by
 cases e
 refine xE d fun i e=>?_
 exact⟨_,e,rfl⟩
theorem JU{x k:X}(hx:SX w h0 C n x)(hk:SX w h0 C n k):SX w h0 C n (.get x k):=by
 intro e A ag nm ρ fp W H s t H' hm cx S F he
 refine oC hm fun o ap e ak hb hl mp hm=>?_
 refine aK hm fun m1 m2=>?_
 refine aB he fun ta H1 e1 he=>?_
 refine aN he fun d el af=>?_
 obtain rfl:=DW el
 refine aB af fun tk H2 e2 ae=>?_
 refine aN ae fun kk e7 ad=>?_
 refine aM ad ?_
 refine wpAny_Call_method (iP hb) (fv (aR mp) (by simp)) hl PySem.F.plainAttrs_dict PySem.F.slot_dict_get PySem.F.type_dict_get (wpAny_mono (hN hx m1 cx S F e1) (fun v O aa=>?_) fun _ _ z=>z)
 refine el4 aa fun ab r L y=>?_
 obtain⟨a,al,rfl,m,d,_,z,rs⟩:=y.now L
 refine⟨d.typeIs,pL d,?_⟩
 rw[aF mp]
 refine wpAny_dict_get1 (knd:=aJ pw w) m (wpAny_mono (hk e A ag nm ρ fp ab H1 O tk _ m2 cx (S.stp r) L e2) (fun kv ah Z=>?_) fun _ _ z=>z)
 refine Pst.el Z fun aj q J Y=>?_
 obtain⟨a',ai,e5,m',d',e6,z',ac⟩:=(y.stp q).now J
 cases e5
 refine⟨kk,_,(fR e7 Y).1,d'.mapOf,Pst.after (r.trans q) (Pst.tok J ?_)⟩
 rw[<-e6]
 rcases f4 (k:=kk) ac with⟨q1,q2⟩|⟨v,t',q1,q2,q3⟩
 ·rw[q1,q2];rfl
 ·rw[q1,q2];exact q3
theorem H0{x k y:X}(hx:SX w h0 C n x)(hk:SX w h0 C n k)(hy:SX w h0 C n y):SX w h0 C n (.getD x k y):=by
 intro e A ah nm ρ fp W H s t H' hm cx S F he
 refine C3 hm fun o ap e e' aw hb hl mp ad hm=>?_
 refine aY hm fun m1 m2 m3=>?_
 refine aB he fun ta H1 e1 he=>?_
 refine aN he fun d el aq=>?_
 obtain rfl:=DW el
 refine aB aq fun tk H2 e2 ao=>?_
 refine aB ao fun td H3 e4 an=>?_
 refine aN an fun kk e7 am=>?_
 refine aM am ?_
 refine wpAny_Call_method (iP hb) (fv (dR mp ad) (by simp)) hl PySem.F.plainAttrs_dict PySem.F.slot_dict_get PySem.F.type_dict_get (wpAny_mono (hN hx m1 cx S F e1) (fun v aa ag=>?_) fun _ _ z=>z)
 refine el4 ag fun aj J Y L=>?_
 obtain⟨a,ax,rfl,m,d,_,z,rs⟩:=L.now Y
 refine⟨d.typeIs,pL d,?_⟩
 rw[aF mp,aF ad]
 refine wpAny_dict_get2 (knd:=aJ pw w) m (wpAny_mono (hk e A ah nm ρ fp aj H1 aa tk _ m2 cx (S.stp J) Y e2) (fun kv Z af=>?_) fun _ _ z=>z)
 refine Pst.el af fun ai r ak ac=>?_
 refine wpAny_mono (hy e' A ah nm ρ fp ai H2 Z td _ m3 cx ((S.stp J).stp r) ak e4) (fun dv ar ae=>?_) fun _ _ z=>z
 refine Pst.el ae fun av q O ab=>?_
 obtain⟨a',au,e5,m',d',e6,z',al⟩:=((L.stp r).stp q).now O
 cases e5
 refine⟨kk,_,(fR e7 (Rep.mono q.le _ ac)).1,d'.mapOf,Pst.after ((J.trans r).trans q) (Pst.tok O ?_)⟩
 rw[<-e6]
 rcases f4 (k:=kk) al with⟨q1,q2⟩|⟨v,t',q1,q2,q3⟩
 ·rw[q1,q2];exact ab
 ·rw[q1,q2];exact q3
theorem ER{W:Wd}:∀{ts:List T}{vs:List Value}{l:List Str},Reps w W ts vs->nh ts=some l->StrsAre vs l/\∀x∈l,sOk x=true:=by
 intro L
 induction L with
 |nil=>
  rintro _ _ r e
  subst r;obtain rfl:=Option.some.inj e;exact⟨.nil,fun _ h=>(List.not_mem_nil h).elim⟩
 |cons t ts O=>
  rintro _ l r e
  obtain⟨v,Y,rfl,H,J⟩:=r
  cases t<;>first|cases e|skip
  rename_i x
  obtain⟨u,rfl,z⟩:=H
  refine xEA (Option.map_eq_some_iff.mp (show(nh ts).map (x:: ·)=some l from e)) fun Z el d=>?_;obtain rfl:=d
  haveI q:=O J el;haveI a:=q.1;haveI b:=q.2
  exact⟨.cons x u a,fun y F=>by rcases List.mem_cons.mp F with rfl|F;exact z;exact b y F⟩
theorem HY{q:Str}{x:X}(hx:SX w h0 C n x):SX w h0 C n (.join q x):=by
 intro e A ac nm ρ fp W H s t H' hm cx S F he
 refine oC hm fun o ap e af hb ml mp hm=>?_
 refine aY hm fun Y mz m1=>?_
 refine dS Y fun c kk cp Y=>?_
 refine jZ Y fun L Y=>?_
 obtain rfl:q=L:=eq_of_beq Y
 refine aB he fun ta H1 e1 he=>?_
 refine aN he fun ts el ab=>?_
 obtain rfl:=eM el
 refine bV ab fun e2=>?_
 refine bD e2 fun l ad e3=>?_
 haveI ag:iq=100000:=rfl
 split at e3
 ·rename_i hc
  rw[<-Option.some.inj e3]
  refine wpAny_Call_method (iP rfl) (fv (aR mp) (by simp)) ml PySem.F.plainAttrs_str PySem.F.slot_str_join PySem.F.type_str_join (Calls.Constant_str ⟨typeIs_str _ _ _,(fun _ e=>nomatch e),?_⟩)
  refine Calls.callWith_builtin (cY (aR mp)) ?_
  rw[aF mp]
  refine Calls.evalArgs_plain (Calls.spliced_cons (wpAny_mono (hx e A ac nm ρ fp W H {s with toks:=s.toks+1} _ _ m1 cx S F e1) (fun v J Z=>?_) fun _ _ z=>z))
  refine Pst.el Z fun ae r d O=>?_
  refine Calls.spliced_nil ?_
  obtain⟨b,ys,i,rfl,fz,rs⟩:=O
  haveI aa:=ER rs ad;haveI sa:=aa.1;haveI sz:=aa.2
  haveI y:Stp W s W {s with toks:=s.toks+1}:=Stp.of_keep (h':=s.heap) fun _ _ e=>e
  exact join_list (show J.heap.PlainList b ys from⟨i,d.fz _ _ fz⟩).isList sa (tkn hc rfl) fun t' k=>Pst.after (y.trans r) (Pst.tok d ⟨t',by show Value.str (Builtin.Str.glued q l) t'=_;rw[StrLaws.glued_eq_join],Am mz sz⟩)
 ·cases e3
theorem F1{A:Around}{s:Shared}{e:Expr}{env:Env}{pos:Pos}{Q:Value->Shared->Prop}
  (h:wpAny (model pw w) A (eval e env) (fun v s₁=>∃i t,v=.int i t/\small i=true/\∀r tk,Q (.str (cG i) r) {s₁ with toks:=tk}) Nev s):wpAny (model pw w) A (eval (.FormattedValue e (-1) none pos) env) Q Nev s:=by
 refine wpAny_FormattedValue_plain (wpAny_mono h (fun v s₁ d=>?_) fun _ _ z=>z)
 refine bT d fun i t q hs y=>?_;obtain rfl:=q
 exact wpAny_formatField_int (sJ hs) (y _ _)
theorem FZ{A:Around}{s:Shared}{e:Expr}{env:Env}{pos:Pos}{Q:Value->Shared->Prop}
  (h:wpAny (model pw w) A (eval e env) (fun v s₁=>∃x t,v=.str x t/\x.length<=iq/\∀y tk,Q (.str x y) {s₁ with toks:=tk}) Nev s):wpAny (model pw w) A (eval (.FormattedValue e (-1) none pos) env) Q Nev s:=by
 refine wpAny_FormattedValue_plain (wpAny_mono h (fun v s₁ d=>?_) fun _ _ z=>z)
 refine bT d fun x t q hs r=>?_;obtain rfl:=q
 haveI H:iq=100000:=rfl
 haveI F:=sizeLine_eq
 exact wpAny_formatField_str (r t s₁.toks) (r _ _) (tkn hs rfl)
theorem Fe{x y:X}{ae:Str}(hx:SX w h0 C n x)(hy:SX w h0 C n y):SX w h0 C n (.fpair x ae y):=by
 intro e A aa nm ρ fp W H s t H' hm cx S F he
 refine IZ hm fun es ao hm=>?_
 refine HK hm fun q1 q2 q3 hm=>?_
 refine cT hm fun h1 h2 mz h3=>?_
 refine Dt h1 fun e p m1=>?_
 refine dS h2 fun c tp kp h2=>?_
 refine jZ h2 fun k h2=>?_
 refine y5 h2 ?_
 refine Dt h3 fun e' p' m2=>?_
 refine aB he fun ta H1 e1 aj=>?_
 refine aB aj fun tb H2 e2 ai=>?_
 refine aN ai fun i ei ah=>?_
 obtain rfl:=dA ei
 refine aN ah fun z ez ag=>?_
 obtain rfl:=pZ ez
 refine dZ ag fun hc af=>?_
 ·rw[Bool.and_eq_true,decide_eq_true_eq]at hc
  refine aM af ?_
  haveI aq:iq=100000:=rfl
  haveI ap:=sizeLine_eq
  haveI J:∀a b:Str,(a++b).length=a.length+b.length:=fun a b=>strLen_append ..
  refine JoinedStr_many (joinParts_cons (F1 (wpAny_mono (hx e A aa nm ρ fp W H s _ H1 m1 cx S F e1) (fun v d Z=>?_) fun _ _ z=>z)))
  obtain⟨q,r,ad,u,rfl⟩:=Z
  have ab:=S.stp r
  refine⟨i,u,rfl,hc.1,fun t' tk=>⟨by rw[J];show Str.empty.length+_<=_;haveI:Str.empty.length=0:=rfl;lia,?_⟩⟩
  refine joinParts_cons (Calls.Constant_str ⟨by rw[J,J];haveI:Str.empty.length=0:=rfl;lia,?_⟩)
  refine joinParts_cons (FZ (wpAny_mono (hy e' A aa nm ρ fp q H1 {d with toks:=tk+1} _ _ m2 cx ab ad e2) (fun v ak Y=>?_) fun _ _ z=>z))
  obtain⟨al,L,ac,u',rfl,zz⟩:=Y
  refine⟨z,u',rfl,trn (Nat.le_add_left ..) hc.2,fun an am=>⟨by rw[J,J,J];haveI:Str.empty.length=0:=rfl;lia,?_⟩⟩
  haveI O:Stp q d q {d with toks:=tk+1}:=Stp.of_keep (h':=d.heap) fun _ _ e=>e
  haveI e0:Str.empty++cG i=cG i:=by
   show Str.append _ _=_
   unfold Str.append Str.empty
   simp
  rw[e0]
  exact joinParts_nil (Pst.after (r.trans (O.trans L)) (Pst.tok ac ⟨_,rfl,gB (gB (iI _) mz) zz⟩)) (by rw[J,J];exact tkn hc.2 rfl)
theorem Aw(i k:Nat):SX w h0 C n (.handGet i k):=by
 intro e A ab nm ρ fp W H s t H' Y cx S F he
 refine jx Y fun l r aa Y=>?_
 refine aY Y fun m1 z y=>?_
 haveI q:=of_decide_eq_true y
 refine dM m1 fun x xp m1=>?_
 refine dS z fun c ck cp z=>?_
 refine mT z fun j z=>?_
 refine bO z ?_
 refine aN he fun _ hh d=>?_
 obtain⟨y,rfl⟩:H[k]? =some t/\H=H':=by
  cases y:H[k]? with
  |none=>simp only[y]at d;cases d
  |some u=>simp only[y]at d;haveI L:=Prod.mk.inj (Option.some.inj d);rw[L.1];rw[L.2];exact⟨rfl,rfl⟩
 refine Subscript_ (lW m1 cx S (sZ hh) Dw fun v o=>?_)
 refine xEA o.1 fun a J hd=>?_;obtain rfl:=J
 refine wpAny_Constant_int ?_
 haveI Z:=F.hd
 unfold fZ at Z
 rw[hd]at Z
 refine xEA Z fun O p rs=>?_
 refine xEA (rs.get y) fun v hv rv=>?_
 rw[Array.getElem?_toList]at hv
 exact subscriptTail_builtinR (s:={s with toks:=s.toks+1}) p.isList.typeIs slot_list_getitem.lookup (wpAny_getItem_list (s:={s with toks:=s.toks+1}) (Q:=fun r s'=>r=v/\_) p.isList (Int.natCast_nonneg _) (f6 (Int.ofNat_lt.mpr q) (of_decide_eq_true rfl)) (hv) ⟨rfl,Pst.tok F rv⟩) rfl
theorem xP {t:T} {k:Nat} (h:nC t=some k):t= .int (k:Int)/\k<1000000:=by
 cases t<;>first|cases h|skip
 rename_i i
 haveI d:(if 0<=i/\i<1000000 then some i.toNat else none)=some k:=h
 split at d
 ·rw[<-Option.some.inj d]
  exact⟨by congr 1;lia,by lia⟩
 ·cases d
theorem ve{l:Expr}{sl:Expr}{a:Addr}{items:Array Value}{q d:Value}{z F:Option Int}{A:Around}{s:Shared}{Q:Value->Shared->Prop}(L:(eNm l fun _=>true)=true)(p:s.heap.PlainList a items)(hsz:items.size<=1000)
  (H:IsPart q z) (pu:IsPart d F) (hs:∀o i,subscripted sl false o i=operate [i,o] (getItem o i))
  (h:Q (.ref (s.heap.objs.size+1)) {s with heap:=(s.heap.push {cls:=.type "slice",data:=.fields #[q,d,.none]}).push (seqObj "list" (slicePick items z F none) 0)}):
  wpAny (model pw w) A (subscriptTail l sl (.ref a) (.ref s.heap.objs.size)) Q Nev {s with heap:=s.heap.push {cls:=.type "slice",data:=.fields #[q,d,.none]}}:=by
 haveI y:(s.heap.push {cls:=.type "slice",data:=.fields #[q,d,.none]}).PlainList a items:=p.at fun o e=>Heap.get?_push_of_some _ e
 haveI J:=sizeLine_eq
 refine subscriptTail_ops (s:={s with heap:=s.heap.push {cls:=.type "slice",data:=.fields #[q,d,.none]}}) y.isList.typeIs slot_list_getitem.lookup
  (wpAny_getItem_list_slice y.isList (Heap.IsSliceOf.new ..) H pu .none (by simp) ?_ (tkn hsz rfl)) (hs _ _) (fun r=>by cases l<;>first|exact(aH L).elim|rfl)
 show Q (.ref (s.heap.push _).objs.size) _
 rw[Heap.size_push]
 exact h
theorem vk{x k:X}(hx:SX w h0 C n x)(hk:SX w h0 C n k):SX w h0 C n (.sliceFrom x k):=by
 intro e A ac nm ρ fp W H s t H' O cx S F he
 refine jx O fun l r am O=>?_
 refine DP O fun a b c sp O=>?_
 refine aY O fun h1 h2 h3=>?_
 refine kY h1 ?_
 refine kY h2 ?_
 refine ja h3 fun lo O=>?_
 refine aY O fun mn m1 m2=>?_
 refine aB he fun ta H1 e1 aj=>?_
 refine aB aj fun tb H2 e2 ai=>?_
 refine aN ai fun ts el ah=>?_
 obtain rfl:=eM el
 refine aN ah fun j hq ag=>?_
 haveI ab:=xP hq;obtain rfl:=ab.1;haveI hj:=ab.2
 refine dZ ag fun hl af=>?_
 haveI hl:=of_decide_eq_true hl
 refine aM af ?_
 ·skip
  refine Subscript_ (wpAny_mono (hx l A ac nm ρ fp W H s _ H1 m1 cx S F e1) (fun v Y aa=>?_) fun _ _ z=>z)
  obtain⟨ad,q,ae,a,xs,i,rfl,fz,rs⟩:=aa
  refine wpAny_Slice (wpAny_mono (hk lo A ac nm ρ fp ad H1 Y _ _ m2 cx (S.stp q) ae e2) (fun v y Z=>?_) fun _ _ z=>z)
  obtain⟨al,d,L,u,rfl⟩:=Z
  haveI J:=rs.length
  rw[Array.length_toList]at J
  have ak:lim=1000:=rfl
  refine wpAny_pure (wpAny_pure (ve (sl:=.Slice (some lo) none none sp) mn ⟨i,L.fz _ _ (d.le.fz _ _ fz)⟩ (tkn (trn (eln J) hl) rfl) (.int _ _) .none (fun o i=>rfl) ?_))
  rw[slicePick_from']
  refine Pst.after (q.trans d) (Pst.made (tk:=y.toks) (o:=seqObj "list" (xs.toList.drop j).toArray 0) L (fun a o e=>Heap.get?_push_of_some _ (Heap.get?_push_of_some _ e)) (Heap.get?_none_of_le (Nat.le_succ _)) ?_ fun W' l f=>⟨_,_,0,rfl,f,?_⟩)
  ·haveI:=Heap.get?_push_size (y.heap.push {cls:=.type "slice",data:=.fields #[Value.int (j:Int) u,.none,.none]}) (o:=seqObj "list" (xs.toList.drop j).toArray 0) rfl
   rwa [Heap.size_push]at this
  ·exact Reps.mono (d.le.trans l) _ (Reps.drop j rs)
theorem At{x k:X}(hx:SX w h0 C n x)(hk:SX w h0 C n k):SX w h0 C n (.sliceTo x k):=by
 intro e A ac nm ρ fp W H s t H' O cx S F he
 refine jx O fun l r am O=>?_
 refine DP O fun a b c sp O=>?_
 refine aY O fun h1 h2 h3=>?_
 refine kY h1 ?_
 refine kY h2 ?_
 refine ja h3 fun lo O=>?_
 refine aY O fun mn m1 m2=>?_
 refine aB he fun ta H1 e1 aj=>?_
 refine aB aj fun tb H2 e2 ai=>?_
 refine aN ai fun ts el ah=>?_
 obtain rfl:=eM el
 refine aN ah fun j hq ag=>?_
 refine xA (xP hq) fun ab hj=>?_;obtain rfl:=ab
 refine dZ ag fun hl af=>?_
 haveI hl:=of_decide_eq_true hl
 refine aM af ?_
 ·skip
  refine Subscript_ (wpAny_mono (hx l A ac nm ρ fp W H s _ H1 m1 cx S F e1) (fun v Y aa=>?_) fun _ _ z=>z)
  obtain⟨ad,q,ae,a,xs,i,rfl,fz,rs⟩:=aa
  refine wpAny_Slice (wpAny_pure (wpAny_mono (hk lo A ac nm ρ fp ad H1 Y _ _ m2 cx (S.stp q) ae e2) (fun v y Z=>?_) fun _ _ z=>z))
  obtain⟨al,d,L,u,rfl⟩:=Z
  haveI J:=rs.length
  rw[Array.length_toList]at J
  have ak:lim=1000:=rfl
  refine wpAny_pure (ve (sl:=.Slice none (some lo) none sp) mn ⟨i,L.fz _ _ (d.le.fz _ _ fz)⟩ (tkn (trn (eln J) hl) rfl) .none (.int _ _) (fun o i=>rfl) ?_)
  rw[slicePick_upto']
  refine Pst.after (q.trans d) (Pst.made (tk:=y.toks) (o:=seqObj "list" (xs.toList.take j).toArray 0) L (fun a o e=>Heap.get?_push_of_some _ (Heap.get?_push_of_some _ e)) (Heap.get?_none_of_le (Nat.le_succ _)) ?_ fun W' l f=>⟨_,_,0,rfl,f,?_⟩)
  ·haveI:=Heap.get?_push_size (y.heap.push {cls:=.type "slice",data:=.fields #[.none,Value.int (j:Int) u,.none]}) (o:=seqObj "list" (xs.toList.take j).toArray 0) rfl
   rwa [Heap.size_push]at this
  ·exact Reps.mono (d.le.trans l) _ (Reps.take j rs)
end
end Internal
end
section
set_option tactic.hygienic false
open PySem PySem.W PyProof.Rows
namespace Internal
section
variable{w:World}{h0:Heap}{C:Nat->List T->M LV}{n:Nat}
noncomputable def wu(h:Heap)(t:T)(y:Value):Bool:=PyData.eqv (SeqAt.readOf h y) (o7 t)
theorem ut{W:Wd}{H:List T}{s:Shared}{A:Around}{items:Array Value}{ts:List T}{t:T}{v:Value}(F:Fit w h0 W H s.heap)(z:Reps w W ts items.toList)(q:Rep w W t v)(d:ts.all dz=true)(J:dz t=true)(L:A.units+10<cLine):
  ∀y,y∈items->SeqAt.EqAt A.in1 s y v (wu s.heap t y):=by
 refine xE (gg (h:=s.heap) (fun t v r d=>fq F r d) z d) fun Y x=>?_
 refine xE (fq F q J) fun O y=>?_
 refine SeqAt.items_eqAt x y (ee kU z d) (kU _ _ q J) ?_
 have:=yO t
 omega
theorem qU{W:Wd}{H:List T}{h:Heap}{items:Array Value}{ts:List T}{t:T}(F:Fit w h0 W H h)(q:Reps w W ts items.toList)(d:ts.all dz=true)(L:dz t=true):
  items.toList.map (wu h t)=ts.map (iO · t):=by
 refine xE (gg (h:=h) (fun t v r d=>fq F r d) q d) fun O x=>?_
 have e:=SeqAt.readsAll_map _ _ _ (ee kU q d) x
 have J:items.toList.map (wu h t)=(items.toList.map (SeqAt.readOf h)).map fun y=>PyData.eqv y (o7 t):=by rw[List.map_map];rfl
 rw[J,e,List.map_map]
 refine List.map_congr_left fun u z=>?_
 exact Gm (List.all_eq_true.mp d u z) L
theorem q6{α:Type}(f:α->Bool):∀l:List α,l.countP f=(l.map f).countP id:=by
 intro d
 induction d with
 |nil=>
  exact rfl
 |cons a l q=>
  rw[List.countP_cons,List.map_cons,List.countP_cons,q];rfl
theorem oE{α:Type}(f:α->Bool):∀l:List α,l.findIdx? f=(l.map f).findIdx? id:=by
 intro d
 induction d with
 |nil=>
  exact rfl
 |cons a l q=>
  rw[List.findIdx?_cons,List.map_cons,List.findIdx?_cons,q];rfl
theorem Ax{x y:X}(hx:SX w h0 C n x)(hy:SX w h0 C n y):SX w h0 C n (.countOf x y):=by
 intro e A aj nm ρ fp W H s t H' hm cx S F he
 refine oC hm fun o ap e al hb hl mp hm=>?_
 refine aK hm fun m1 m2=>?_
 refine aB he fun ta H1 e1 he=>?_
 refine aN he fun ts el ai=>?_
 obtain rfl:=eM el
 refine aB ai fun ty H2 e2 ah=>?_
 refine bV ah fun e3=>?_
 refine eC e3 fun k ek=>?_
 have Z:(if dz ty&&ts.all dz then some (ts.countP (iO · ty))else none)=some k:=ek
 split at Z
 ·rename_i hc
  rw[Bool.and_eq_true]at hc
  cases Z
  refine wpAny_Call_method (iP hb) (fv (aR mp) (by simp)) hl PySem.F.plainAttrs_list PySem.F.slot_list_count PySem.F.type_list_count (wpAny_mono (hN hx m1 cx S F e1) (fun v aa ae=>?_) fun _ _ z=>z)
  refine el4 ae fun af J Y O=>?_
  obtain⟨b,ag,rfl,p,rs⟩:=O.now Y
  refine⟨p.isList.typeIs,gV p,Calls.callWith_builtin (cY (aR mp)) ?_⟩
  rw[aF mp]
  refine Calls.evalArgs_plain (Calls.spliced_cons (wpAny_mono (hy e A aj nm ρ fp af H1 aa ty _ m2 cx (S.stp J) Y e2) (fun v L ad=>?_) fun _ _ z=>z))
  refine Pst.el ad fun ak r d ab=>?_
  obtain⟨b',q,e5,p',ac⟩:=(O.stp r).now d
  cases e5
  refine Calls.spliced_nil ?_
  have un:=cx.ao.un
  refine xE p' fun i p'=>?_
  refine call_meets PySem.F.slot_list_count ⟨_,p',rfl⟩ PySem.F.entry_list_count (PySem.F.args_list_count_2 _ _) (SeqAt.list_countAt b q i none #[] v (wu L.heap ty)) ⟨p',ut d ac ab hc.2 hc.1 (by omega),?_⟩
  refine Pst.after (J.trans r) (Pst.tok d ⟨L.toks,?_⟩)
  rw[q6,qU d ac hc.2 hc.1,<-q6]
 ·cases Z
theorem Ej{h:Heap}{t:T}{items:Array Value}{ts:List T}(e:items.toList.map (wu h t)=ts.map (iO · t)){k:Nat}(q:ts.findIdx? (iO · t)=some k):
  ∃H:k<items.size,wu h t items[k]=true/\∀m (y:m<items.size),m<k->wu h t items[m]=false:=by
 rw[oE,<-e,<-oE]at q
 obtain⟨r,F,z⟩:=List.findIdx?_eq_some_iff_getElem.mp q
 rw[Array.length_toList]at r
 refine⟨r,by simpa using F,fun m y d=>?_⟩
 have:=z m d
 simpa using this
theorem uZ{t:Addr}{items:Array Value}{v:Value}{e:Value->Bool}{A:Around}{s:Shared}{k:Nat}{Q:Value->Shared->Prop}(Y:IsTup s.heap t items)(he:∀y,y∈items->SeqAt.EqAt A.in1.in1 s y v (e y))
  (Z:k<items.size) (hit:e items[k]=true) (O:∀m (hm:m<items.size),m<k->e items[m]=false) (h:Q (.int (k:Int) s.toks) {s with toks:=s.toks+1}):
  wpAny (model pw w) A (call (.builtin "tuple.index") [.ref t,v]) Q Nev s:=by
 refine wpAny_call_entry PySem.F.slot_tuple_index Y.typeIs PySem.F.entry_tuple_index ?_ (PySem.F.args_tuple_index_2 _ _)
 unfold Builtin.«tuple.index»
 refine wpAny_bind (wpAny_pure ?_)
 dsimp only
 refine wpAny_bind (tupleItemsOf_ Y ?_)
 refine wpAny_bind (wpAny_pure (wpAny_bind (wpAny_pure (wpAny_bind ?_))))
 rw[Std.Legacy.Range.forIn_eq_forIn_range']
 have L:(Std.Legacy.Range.size [0:min items.size items.size])=items.size:=by simp[Std.Legacy.Range.size]
 rw[L]
 refine wpAny_forIn_list _ (fun d b J=>J=s/\b=(none,())/\∃i,d=List.range' i (items.size-i)/\i<=k) _ ?_ ?_ _ _ ⟨rfl,rfl,0,by simp,Nat.zero_le _⟩
 ·rintro x d b J ⟨rfl,rfl,i,H,W⟩
  have q:i<items.size:=ltn W Z
  have e1:items.size-i=(items.size-(i+1))+1:=by omega
  rw[e1,List.range'_succ]at H
  haveI z:=List.cons.inj H;obtain rfl:=z.1;obtain rfl:=z.2
  have hx:items[x]? =some items[x]:=Array.getElem?_eq_getElem q
  simp only[hx]
  refine wpAny_bind (wpAny_of_in1 (he _ (Array.getElem_mem q) pw w _ _ ?_))
  by_cases r:x=k
  ·subst r
   rw[hit,if_pos rfl]
   exact wpAny_bind (show wpAny (model pw w) A.in1 (mkInt (x:Int)>>=fun v=>ret v) _ _ _ from wpAny_bind (wpAny_mkInt (wpAny_pure (wpAny_pure (wpAny_pure ⟨_,rfl,h⟩)))))
  ·rw[O x q (Nat.lt_of_le_of_ne W r),if_neg (by decide)]
   exact wpAny_pure ⟨rfl,rfl,x+1,rfl,by omega⟩
 ·rintro b J ⟨rfl,rfl,i,H,W⟩
  exfalso
  have:(List.range' i (items.size-i)).length=0:=by rw[<-H];rfl
  rw[List.length_range']at this
  omega
theorem Av{x y:X}(hx:SX w h0 C n x)(hy:SX w h0 C n y):SX w h0 C n (.indexOf x y):=by
 intro e A ar nm ρ fp W H s t H' hm cx S F he
 refine oC hm fun o ap e az hb hl mp hm=>?_
 refine aK hm fun m1 m2=>?_
 refine aB he fun ta H1 e1 ay=>?_
 refine aB ay fun ty H2 e2 ax=>?_
 have un:=cx.ao.un
 refine aN ax fun ts el aw=>?_
 refine bV aw fun e3=>?_
 refine bD e3 fun q eq e4=>?_
 refine xEA (Option.map_eq_some_iff.mp e4) fun k aq e5=>?_;obtain rfl:=aq
 rw[<-e5]
 revert e1
 refine vh el (fun e1=>?_) fun e1=>?_
 ·skip
  have ab:(if dz ty&&ts.all dz&&decide (ts.length<=lim)then some (ts.findIdx? (iO · ty))else none)=some (some k):=eq
  split at ab
  ·rename_i Z
   rw[Bool.and_eq_true,Bool.and_eq_true,decide_eq_true_eq]at Z
   obtain⟨Z,ak⟩:=Z
   have an:lim=1000:=rfl
   have hk:=Option.some.inj ab
   refine wpAny_Call_method (iP hb) (fv (aR mp) (by simp)) hl PySem.F.plainAttrs_list PySem.F.slot_list_index PySem.F.type_list_index (wpAny_mono (hN hx m1 cx S F e1) (fun v ac ah=>?_) fun _ _ z=>z)
   refine el4 ah fun ai L r ad=>?_
   obtain⟨b,Y,rfl,p,rs⟩:=ad.now r
   refine⟨p.isList.typeIs,gV p,Calls.callWith_builtin (cY (aR mp)) ?_⟩
   rw[aF mp]
   refine Calls.evalArgs_plain (Calls.spliced_cons (wpAny_mono (hy e A ar nm ρ fp ai H1 ac ty _ m2 cx (S.stp L) r e2) (fun v O ag=>?_) fun _ _ z=>z))
   refine Pst.el ag fun au J d af=>?_
   obtain⟨b',aj,e5,p',ae⟩:=(ad.stp J).now d
   cases e5
   refine Calls.spliced_nil ?_
   obtain⟨i,p'⟩:=p'
   haveI aa:=Ej (qU d ae Z.2 Z.1) hk;haveI hj:=aa.1;haveI hit:=aa.2.1;haveI al:=aa.2.2
   have am:=ae.length
   rw[Array.length_toList]at am
   exact call_meets PySem.F.slot_list_index ⟨_,p',rfl⟩ PySem.F.entry_list_index (PySem.F.args_list_index_2 _ _) (SeqAt.list_indexAt b aj i none #[] v (wu O.heap ty) k hj (f6 (f6 (f6 (Int.ofNat_lt.mpr hj) (Int.ofNat_le.mpr (eln am))) (Int.ofNat_le.mpr ak)) (of_decide_eq_true rfl)) hit al)
    ⟨p',ut d ae af Z.2 Z.1 (by omega),Pst.after (L.trans J) (Pst.tok d ⟨O.toks,rfl⟩)⟩
  ·cases ab
 ·skip
  have ab:(if dz ty&&ts.all dz&&decide (ts.length<=lim)then some (ts.findIdx? (iO · ty))else none)=some (some k):=eq
  split at ab
  ·rename_i Z
   rw[Bool.and_eq_true,Bool.and_eq_true,decide_eq_true_eq]at Z
   refine xA Z fun Z ak=>?_
   have an:lim=1000:=rfl
   have hk:=Option.some.inj ab
   refine wpAny_Call_method (iP hb) (fv (aR mp) (by simp)) hl PySem.F.plainAttrs_tuple PySem.F.slot_tuple_index PySem.F.type_tuple_index (wpAny_mono (hN hx m1 cx S F e1) (fun v ac ah=>?_) fun _ _ z=>z)
   refine el4 ah fun ai L r ad=>?_
   obtain⟨b,Y,i,rfl,fz,rs⟩:=ad.now r
   have ht:IsTup ac.heap b Y:=⟨_,r.fz _ _ fz,rfl,_,rfl⟩
   refine⟨ht.typeIs,(fun b' e=>by cases e;exact⟨_,r.fz _ _ fz,rfl⟩),Calls.callWith_builtin (cY (aR mp)) ?_⟩
   rw[aF mp]
   refine Calls.evalArgs_plain (Calls.spliced_cons (wpAny_mono (hy e A ar nm ρ fp ai H1 ac ty _ m2 cx (S.stp L) r e2) (fun v O ag=>?_) fun _ _ z=>z))
   refine Pst.el ag fun au J d af=>?_
   have ae:=Reps.mono J.le _ rs
   have av:IsTup O.heap b Y:=⟨_,d.fz _ _ (J.le.fz _ _ fz),rfl,_,rfl⟩
   refine Calls.spliced_nil ?_
   haveI aa:=Ej (qU d ae Z.2 Z.1) hk;haveI hj:=aa.1;haveI hit:=aa.2.1;haveI al:=aa.2.2
   exact uZ av (ut (A:=A.in1) d ae af Z.2 Z.1 (by show A.units+1+10<cLine;omega)) hj hit al (Pst.after (L.trans J) (Pst.tok d ⟨O.toks,rfl⟩))
  ·cases ab
end
end Internal
end
section
open PySem PySem.W PyProof.Rows
namespace Internal
noncomputable abbrev dO(es:List DictEntry)(n:Nat):Obj:=⟨.type "dict",none,.dict es.toArray n,#[]⟩
section
variable{w:World}{A:Around}{s:Shared}
theorem pA(P:Params):findIn (eD P) (.ref dU) "__setattr__" =some (some (.builtin "object.__setattr__"))/\plainOver (eD P) dU=true/\(clsIn (eD P) dU).any (·.hasDict)=true/\
  takerIn (eD P) dU "kind" =some none/\takerIn (eD P) dU "items" =some none/\takerIn (eD P) dU "attrs" =some none/\takerIn (eD P) dU "shared" =some none/\takerIn (eD P) dU "loose" =some none:=by
 refine⟨?_,?_,?_,?_,?_,?_,?_,?_⟩<;>kernel_rfl
theorem gu{x d:Addr}{es q:List DictEntry}{n F:Nat}{name:Str}{v:Value}{Q:Unit->Shared->Prop}(X:(eD w.params).In s.heap)(L:takerIn (eD w.params) dU name=some none)
  (hx:s.heap.get? x=some (fg d)) (y:s.heap.get? d=some (dO es n)) (r:(lookIn name (dO es n)).isSome=true)
  (e:Obj.putName name (PyData.keyHash w.params name) (.str name (s.toks+1)) v (dO es n)=dO q F) (hz:q.length<=1000)
  (h:∀h',h'.get? d=some (dO q F)->Heap.SameBut d s.heap h'->Q () {s with heap:=h',toks:=s.toks+2}):wpAny (model pw w) A (setAttr (.ref x) name v) Q Nev s:=by
 refine xh (pA w.params) fun g1 g2 W _=>?_
 haveI I:InstAt s.heap x (fg d) dU (some (dO es n)):=⟨hx,rfl,rfl,y⟩
 refine set_plain X I g1 (osa_open (s:={s with toks:=s.toks+1}) X I g2 L fun b=>?_)
 refine xEA (any_some W) fun cd O H=>?_
 haveI J:(s.heap.update d (Obj.putName name (PyData.keyHash w.params name) (.str name (s.toks+1)) v)).get? d=some (dO q F):=by
  rw[Heap.get?_update_self _ y (by rw[e];rfl),e]
 refine wpAny_bind (wpAny_pure (wpAny_bind (wpAny_bind (wpAny_loadPart (s:={s with toks:=s.toks+1}) hx (wpAny_bind (Looks.here (s:={s with toks:=s.toks+1}) (looks_clsIn X O) ?_))))))
 rw[H]
 refine wpAny_pure (a:=some d) (wpAny_bind (wpAny_pure (wpAny_bind ?_)))
 unfold nsSet
 refine wpAny_bind (wpAny_bind (wpAny_askSetting (wpAny_pure (wpAny_bind (wpAny_mkText (wpAny_bind (wpAny_loadPart (s:={s with toks:=s.toks+1+1}) y ?_)))))))
 dsimp only
 unfold lookIn at r
 dsimp only at r
 haveI c:(!es.toArray.any (·.key.isStr name)&&es.toArray.any (·.refKey))=false:=by
  rw[<-Array.any_toList,<-Array.any_toList]
  split at r
  ·rename_i en he
   rw[List.any_eq_true.mpr ⟨en,List.mem_of_find?_eq_some he,List.find?_some he⟩];rfl
  ·split at r
   ·exact(aH r).elim
   ·rename_i z;rw[Bool.not_eq_true]at z;rw[z,Bool.and_false]
 rw[aRefKeyMayBeTheName_at,c]
 refine wpAny_updatePart (s:={s with toks:=s.toks+1+1}) y ?_
 refine wpAny_bind (wpAny_lookBehind (s:={s with heap:=s.heap.update d (Obj.putName name (PyData.keyHash w.params name) (.str name (s.toks+1)) v),toks:=s.toks+1+1}) J (pastItsLine_dict (by rw[List.size_toArray,sizeLine_eq];exact tkn hz rfl)) ?_)
 exact wpAny_pure (h _ J (Heap.SameBut.update ..))
end
end Internal
end
section
set_option tactic.hygienic false
open PySem PySem.W PyProof.Rows
namespace Internal
theorem lV{α:Type}{x:Str}:∀{N:List Str}{d:List α},d.length=N.length->x∈N->((N.zip d).lookup x).isSome=true:=by
 intro z
 induction z with
 |nil=>
  rintro _ _ h
  exact(List.not_mem_nil h).elim
 |cons y N F=>
  intro r
  cases r with
  |nil=>
   rintro q _
   exact Nat.noConfusion q
  |cons v d=>
   rintro q h
   rw[List.zip_cons_cons,List.lookup_cons]
   by_cases e:x=y
   ·subst e;simp
   ·haveI:(x==y)=false:=beq_eq_false_iff_ne.mpr e
    exact this▸F (by simpa using q) ((List.mem_cons.mp h).resolve_left e)
theorem qS{α β:Type}{f g:α->Option β}:∀{l:List α},(∀a∈l,f a=g a)->l.filterMap f=l.filterMap g:=by
 intro d
 induction d with
 |nil=>
  rintro _
  exact rfl
 |cons a l q=>
  rintro h
  rw[List.filterMap_cons,List.filterMap_cons,h a (.head _),q fun b r=>h b (.tail _ r)]
theorem qC{α:Type}:∀{N:List Str}{d:List α},d.length=N.length->N.Nodup->N.filterMap (fun n=>((N.zip d).lookup n).map (n,·))=N.zip d:=by
 intro F
 induction F with
 |nil=>
  rintro _ _ _
  exact rfl
 |cons y N H=>
  intro z
  cases z with
  |nil=>
   rintro q _
   exact nomatch q
  |cons v d=>
   rintro q r
   haveI O:=(List.nodup_cons.mp r).1;haveI L:=(List.nodup_cons.mp r).2
   rw[List.zip_cons_cons,List.filterMap_cons]
   simp only[List.lookup_cons,beq_self_eq_true,Option.map_some]
   congr 1
   refine Eq.trans (qS fun n J=>?_) (H (by simpa using q) L)
   haveI:(n==y)=false:=beq_eq_false_iff_ne.mpr fun e=>O (e▸J)
   rw[this]
theorem wm{N:List Str}{d:List Value}(q:d.length=N.length)(k:Nat):(List.filter (fun n=>(List.lookup n (N.zip d)).isNone) (List.take k N))=[]:=by
 rw[List.filter_eq_nil_iff]
 intro x hx
 haveI:=lV q (List.mem_of_mem_take hx)
 rw[Option.isSome_iff_ne_none]at this
 simpa using this
theorem wP{fd:FuncData}{d:List Value}(L:fd.params.posonlyargs=[])(J:fd.params.vararg=none)(H:fd.params.kwonlyargs=[])(F:fd.params.kwarg=none)(z:fd.defaults=.none)
  (y:(fd.params.args.map (·.arg)).Nodup) (W:d.length=fd.params.args.length):bindArgs fd ⟨d,[]⟩=pure ((fd.params.args.map (·.arg)).zip d):=by
 haveI r:d.length=(fd.params.args.map (·.arg)).length:=by rw[List.length_map];exact W
 obtain⟨_,Z,⟨po,as,Y,ko,kd,kw,ds⟩,_,_,_,_,df,O⟩:=fd
 dsimp only at L J H F z y r⊢
 rw[L];rw[J];rw[H];rw[F];rw[z]
 refine(pure_bind _ _).trans ?_
 refine(pure_bind _ _).trans ?_
 dsimp only
 refine(if_neg ?a).trans ((if_neg ?b).trans ?_)
 case a=>exact fun q=>Nat.ne_of_gt (of_decide_eq_true (Bool.and_eq_true_iff.mp q).1) r
 case b=>exact fun q=>Bool.false_ne_true ((congrArg (fun l:List Str=> !l.isEmpty) (wm r _)).symm.trans q)
 refine(congrArg (fun l=>forIn (List.zip _ l) _ _>>=_) (List.drop_nil (α:=Value))).trans ?_
 refine(congrArg (fun l=>forIn l _ _>>=_) (List.zip_nil_right (β:=Value))).trans ?_
 refine(pure_bind _ _).trans ?_
 refine(pure_bind _ _).trans ?_
 refine(if_neg Bool.false_ne_true).trans ?_
 exact congrArg pure ((congrArg (List.filterMap _) (List.append_nil _)).trans (qC r y))
noncomputable def bP(name:Str)(v:Option Str)(st:Stmt):Bool:=fh st fun t e=>eAt t fun o a _=>(eNm o fun x=>x==("self" :Str))&&a==name&&match v with
 |some y=>eNm e fun z=>z==y
 |none=>eCo e fun c=>D9 c fun b=> !b
noncomputable def initFd:FuncData:=eF wc (some "Vector.__init__") (.ref 294) (.str "vectorcove.values" 547) 300
noncomputable def mi:List Stmt:=match initFd.body with
 |.stmts b=>b
 |.expr _=>[]
theorem yt:(match mi with
 | [a,b,c,d,e]=>bP "kind" (some "kind") a&&bP "items" (some "items") b&&bP "attrs" (some "attrs") c&&bP "shared" none d&&bP "loose" none e
 |_=>false)=true:=by kernel_rfl
theorem yu:["self", "kind", "items", "attrs"].all (fun x=>initFd.scope.names.lookup (x:Str)==some .local)=true:=by kernel_rfl
theorem yv:initFd.scope.names.all (fun x=> !(x.2==.cell))=true:=by kernel_rfl
section
variable{w:World}{A:Around}{s:Shared}{env:Env}{m:Str->Option Value}
theorem pV{st:Stmt}{name y:Str}{x:Addr}{v:Value}{Q:Flow->Shared->Prop}(h:bP name (some y) st=true)(F:env.scope.kind=.function)(J:env.kindOf "self" =some .local)(H:env.kindOf y=some .local)
  (z:s.heap.Ns env.locals m) (Z:m "self" =some (.ref x)) (Y:m y=some v) (O:(y==("__debug__" :Str))=false) (L:wpAny (model pw w) A (setAttr (.ref x) name v) (fun _ s'=>Q .next s') Nev s):wpAny (model pw w) A (exec st env) Q Nev s:=by
 refine bY h fun t v p h=>?_
 refine k7 h fun o a ap h=>?_
 refine aY h fun r W q=>?_
 refine dM r fun xx xp r=>?_
 refine bO r ?_
 refine bO W ?_
 refine dM q fun yy yp q=>?_
 refine bO q ?_
 exact plainObj_wpAny_Assign_Attribute (wpAny_Name (wpAny_loadName_local F H z Y (wpAny_Name (wpAny_loadName_local F J z Z L) (by decide +kernel))) O)
theorem pW{st:Stmt}{name:Str}{x:Addr}{Q:Flow->Shared->Prop}(h:bP name none st=true)(F:env.scope.kind=.function)(r:env.kindOf "self" =some .local)
  (z:s.heap.Ns env.locals m) (J:m "self" =some (.ref x)) (y:wpAny (model pw w) A (setAttr (.ref x) name (.bool false)) (fun _ s'=>Q .next s') Nev s):wpAny (model pw w) A (exec st env) Q Nev s:=by
 refine bY h fun t v p h=>?_
 refine k7 h fun o a Y h=>?_
 refine aY h fun q H d=>?_
 refine dM q fun L O q=>?_
 refine bO q ?_
 refine bO H ?_
 refine dS d fun c ck W d=>?_
 refine wK d fun b d=>?_
 obtain rfl:b=false:=(Bool.not_eq_true' _).mp d
 refine plainObj_wpAny_Assign_Attribute ?_
 rw[eval_Constant]
 exact wpAny_pure (wpAny_Name (wpAny_loadName_local F r z J y) (by decide +kernel))
end
theorem BS(P:Params):makesIn (eD P) dU=true/\findIn (eD P) (.ref dU) "__init__" =some (some (.ref 301))/\typeIn (eD P) (.ref 301)=some (.type "function"):=by
 refine⟨?_,?_,?_⟩<;>kernel_rfl
theorem pJ(P:Params):(eD P).lookup 301=some (⟨.type "function",none,.func initFd,#[]⟩:Obj)/\(eD P).lookup 294=some (seqObj "tuple" #[.none] 0):=by
 refine⟨?_,?_⟩<;>rfl
theorem wb(a b c:Value){s:Shared}(d:s.heap.get? 294=some (seqObj "tuple" #[.none] 0)):BindsTo s initFd ⟨[a,b,c],[]⟩ [("self",a),("kind",b),("items",c),("attrs",.none)]:=
 BindsTo.of_defaults (T:=294) rfl d rfl rfl (by kernel_rfl)
theorem v9(a b c d:Value){s:Shared}(q:s.heap.get? 294=some (seqObj "tuple" #[.none] 0)):BindsTo s initFd ⟨[a,b,c,d],[]⟩ [("self",a),("kind",b),("items",c),("attrs",d)]:=
 BindsTo.of_defaults (T:=294) rfl q rfl rfl (by kernel_rfl)
theorem NK(w:World){t:Tok}{v:Value}:Obj.putName "kind" (PyData.keyHash w.params "kind") (.str "kind" t) v (dO [] 0)=dO [ent w "kind" t v] 1:=rfl
theorem NJ(w:World){q t:Tok}{d v:Value}:Obj.putName "items" (PyData.keyHash w.params "items") (.str "items" t) v (dO [ent w "kind" q d] 1)=dO [ent w "kind" q d,ent w "items" t v] 2:=by kernel_rfl
theorem NI(w:World){y r t:Tok}{q d v:Value}:Obj.putName "attrs" (PyData.keyHash w.params "attrs") (.str "attrs" t) v (dO [ent w "kind" y q,ent w "items" r d] 2)=dO [ent w "kind" y q,ent w "items" r d,ent w "attrs" t v] 3:=by kernel_rfl
theorem NH(w:World){F z y t:Tok}{r q d v:Value}:Obj.putName "shared" (PyData.keyHash w.params "shared") (.str "shared" t) v (dO [ent w "kind" F r,ent w "items" z q,ent w "attrs" y d] 3)=
  dO [ent w "kind" F r,ent w "items" z q,ent w "attrs" y d,ent w "shared" t v] 4:=by kernel_rfl
theorem NG(w:World){H F z t4 t:Tok}{y r q d v:Value}:Obj.putName "loose" (PyData.keyHash w.params "loose") (.str "loose" t) v (dO [ent w "kind" H y,ent w "items" F r,ent w "attrs" z q,ent w "shared" t4 d] 4)=
  dO [ent w "kind" H y,ent w "items" F r,ent w "attrs" z q,ent w "shared" t4 d,ent w "loose" t v] 5:=by kernel_rfl
section
variable{w:World}{A:Around}{s:Shared}
theorem AX:∃a b c d e,mi=[a,b,c,d,e]/\bP "kind" (some "kind") a=true/\bP "items" (some "items") b=true/\bP "attrs" (some "attrs") c=true/\bP "shared" none d=true/\bP "loose" none e=true:=by
 haveI q:=yt
 revert q
 rcases hI:mi with _|⟨a,_|⟨b,_|⟨c,_|⟨d,_|⟨e,_|_⟩⟩⟩⟩⟩<;>intro q<;>first|exact(aH q).elim|skip
 refine⟨a,b,c,d,e,rfl,?_⟩
 refine aK (show(bP "kind" (some "kind") a&&bP "items" (some "items") b&&bP "attrs" (some "attrs") c&&bP "shared" none d&&bP "loose" none e)=true from q) fun h r=>aK h fun h y=>aK h fun h z=>aK h fun H F=>⟨H,F,z,y,r⟩
theorem Dj{x d:Addr}{Y iv av:Value}{R:Result->Shared->Prop}(X:(eD w.params).In s.heap)(hx:s.heap.get? x=some (fg d))(hd:s.heap.get? d=some (dO [] 0))(hK:∀b o,(eD w.params).lookup b=some o->b≠d)(aa:A.depth<recursionLimit)(ad:s.heap.NoLimit)
  (aj:s.heap.CodeRec (.ref 300) "Vector.__init__") {O:List Value} (hb:BindsTo s initFd ⟨O,[]⟩ [("self",.ref x),("kind",Y),("items",iv),("attrs",av)])
  (h:∀h' tk o,h'.get? x=some (fg d)->h'.get? d=some o->oM w (Y,iv,av) o->(∀b o,b≠d->s.heap.get? b=some o->h'.get? b=some o)->R (.ok (.ret .none)) {s with heap:=h',toks:=tk}):
  codeAny (model pw w) A (.call (.ref 301) ⟨O,[]⟩) R s:=by
 haveI i1:=(pJ w.params).1;haveI i2:=(pJ w.params).2
 haveI ae:=pA w.params;haveI t1:=ae.2.2.2.1;refine xh ae.2.2.2.2 fun t2 t3 t4 t5=>?_
 haveI kd:∀y∈(["self","kind","items","attrs"]:List String),initFd.scope.names.lookup (y:Str)=some .local:=fun y hy=>eq_of_beq (List.all_eq_true.mp yu y hy)
 haveI ac:initFd.body=.stmts mi:=by rfl
 refine codeAny_call_def (fd:=initFd) aa (X _ _ i1) rfl ad aj ac hb (fun y hy e=>?_) (fun y hy=>?_) (fun J ab keep=>?_) rfl rfl rfl
 ·haveI:=List.all_eq_true.mp yv y hy
  rw[e]at this;exact(aH this).elim
 ·simp only[List.mem_cons,List.not_mem_nil,or_false]at hy
  rcases hy with rfl|rfl|rfl|rfl
  ·exact kd "self" (.head _)
  ·exact kd "kind" (.tail _ (.head _))
  ·exact kd "items" (.tail _ (.tail _ (.head _)))
  ·exact kd "attrs" (.tail _ (.tail _ (.tail _ (.head _))))
 ·refine uS AX fun a b c dd e hI q1 q2 q3 q4 q5=>?_
  rw[hI]
  haveI hL:∀o,s.heap.get? s.heap.objs.size≠some o:=fun o e=>Nat.lt_irrefl _ (Heap.lt_size e)
  haveI dL:d≠s.heap.objs.size:=fun e=>hL _ (e▸hd)
  have X0:(eD w.params).In J:=fun b o e=>keep b o (X b o e)
  haveI xd:x≠d:=fun e=>by rw[e,hd]at hx;exact nomatch hx
  haveI m1:(fun y=>List.lookup y ([("self",Value.ref x),("kind",Y),("items",iv),("attrs",av)]:List (Str×Value)).reverse) "self" =some (.ref x):=by rfl
  haveI m2:(fun y=>List.lookup y ([("self",Value.ref x),("kind",Y),("items",iv),("attrs",av)]:List (Str×Value)).reverse) "kind" =some Y:=by rfl
  haveI m3:(fun y=>List.lookup y ([("self",Value.ref x),("kind",Y),("items",iv),("attrs",av)]:List (Str×Value)).reverse) "items" =some iv:=by rfl
  haveI m4:(fun y=>List.lookup y ([("self",Value.ref x),("kind",Y),("items",iv),("attrs",av)]:List (Str×Value)).reverse) "attrs" =some av:=by rfl
  generalize (fun y=>List.lookup y ([("self",Value.ref x),("kind",Y),("items",iv),("attrs",av)]:List (Str×Value)).reverse)=mm at ab m1 m2 m3 m4
  haveI Z:∀y∈(["self","kind","items","attrs"]:List String),(callEnv initFd s.heap.objs.size 301).kindOf (y:Str)=some .local:=kd
  have q:∀{st:Stmt} {s':Shared} {Q:Flow->Shared->Prop} {E:Value->Shared->Prop},wpAny (model pw w) (A.deeper (callEnv initFd s.heap.objs.size 301)) (exec st (callEnv initFd s.heap.objs.size 301)) Q Nev s'->
    wpAny (model pw w) (A.deeper (callEnv initFd s.heap.objs.size 301)) (exec st (callEnv initFd s.heap.objs.size 301)) Q E s':=fun z=>wpAny_mono z (fun _ _ z=>z) fun _ _ z=>z.elim
  refine wpAny_execs_cons (q (pV q1 rfl (Z "self" (.head _)) (Z "kind" (.tail _ (.head _))) ab m1 m2 (by decide +kernel) (gu X0 t1 (keep _ _ hx) (keep _ _ hd) rfl (NK w) (by simp) fun h1 d1 L=>?_)))
  have Xn:∀{hh:Heap},Heap.SameBut d J hh->(eD w.params).In hh:=fun sb b o e=>(sb.2 b (hK b o e)).trans (X0 b o e)
  have xn:∀{hh:Heap},Heap.SameBut d J hh->hh.get? x=some (fg d):=fun sb=>(sb.2 x xd).trans (keep _ _ hx)
  have nn:∀{hh:Heap},Heap.SameBut d J hh->hh.Ns s.heap.objs.size mm:=fun sb=>ab.sameBut sb dL.symm
  refine wpAny_execs_cons (q (pV q2 rfl (Z "self" (.head _)) (Z "items" (.tail _ (.tail _ (.head _)))) (nn L) m1 m3 (by decide +kernel)
   (gu (Xn L) t2 (xn L) d1 rfl (NJ w) (by simp) fun h2 d2 ai=>?_)))
  haveI H:=L.trans ai
  refine wpAny_execs_cons (q (pV q3 rfl (Z "self" (.head _)) (Z "attrs" (.tail _ (.tail _ (.tail _ (.head _))))) (nn H) m1 m4 (by decide +kernel)
   (gu (Xn H) t3 (xn H) d2 rfl (NI w) (by simp) fun h3 d3 ah=>?_)))
  haveI F:=H.trans ah
  refine wpAny_execs_cons (q (pW q4 rfl (Z "self" (.head _)) (nn F) m1
   (gu (Xn F) t4 (xn F) d3 rfl (NH w) (by simp) fun h4 d4 ag=>?_)))
  haveI r:=F.trans ag
  refine wpAny_execs_cons (q (pW q5 rfl (Z "self" (.head _)) (nn r) m1
   (gu (Xn r) t5 (xn r) d4 rfl (NG w) (by simp) fun h5 d5 af=>?_)))
  haveI W:=r.trans af
  refine wpAny_execs_nil ?_
  exact h h5 _ _ (xn W) d5 ⟨_,_,_,_,_,_,_,_,rfl⟩ fun b o hb e=>(W.2 b hb).trans (keep b o e)
theorem vR{h0:Heap}(B:cR w h0)(W:∀b o,h0.get? b=some o->s.heap.get? b=some o)(Y:A.depth+10<recursionLimit){J L O:Value}{r:List Value}
  (hv:(r=[J,L]/\O=.none)\/r=[J,L,O]) {Q:Value->Shared->Prop}
  (h:∀x d h' tk o,s.heap.get? x=none->s.heap.get? d=none->x≠d->h'.get? x=some (fg d)->h'.get? d=some o->oM w (J,L,O) o->(∀b o,s.heap.get? b=some o->h'.get? b=some o)->Q (.ref x) {s with heap:=h',toks:=tk}):
  wpAny (model pw w) A (call (.ref dU) r) Q Nev s:=by
 haveI H:=BS w.params;haveI g1:=H.1;haveI g2:=H.2.1;haveI g3:=H.2.2
 haveI i1:=(pJ w.params).1;haveI i2:=(pJ w.params).2
 haveI X:(eD w.params).In s.heap:=fun b o e=>W b o (B.cls b o e)
 obtain⟨y,g,dr,tk,os⟩:=s
 refine wpAny_call (make_core (makes_of X g1) (looks_findIn X g2) (fun F=>bind_fn X F g3) (.inl rfl) ?_)
 have z:∀b o,y.get? b=some o->((y.push emptyDict).push (instObj dU y.objs.size)).get? b=some o:=fun b o e=>Heap.get?_push_of_some _ (Heap.get?_push_of_some _ e)
 haveI hx:((y.push emptyDict).push (instObj dU y.objs.size)).get? (y.objs.size+1)=some (fg y.objs.size):=by
  haveI:=Heap.get?_push_size (y.push emptyDict) (o:=instObj dU y.objs.size) rfl
  rwa [Heap.size_push]at this
 haveI hd:((y.push emptyDict).push (instObj dU y.objs.size)).get? y.objs.size=some (dO [] 0):=Heap.get?_push_of_some _ (Heap.get?_push_size _ rfl)
 have Z:(eD w.params).In ((y.push emptyDict).push (instObj dU y.objs.size)):=fun b o e=>z b o (X b o e)
 haveI hb:BindsTo ⟨(y.push emptyDict).push (instObj dU y.objs.size),g,dr,tk,os⟩ initFd ⟨.ref (y.objs.size+1)::r,[]⟩ [("self",.ref (y.objs.size+1)),("kind",J),("items",L),("attrs",O)]:=by
  rcases hv with⟨rfl,rfl⟩|rfl
  ·exact wb _ _ _ (Z _ _ i2)
  ·exact v9 _ _ _ _ (Z _ _ i2)
 refine Dj (s:=⟨(y.push emptyDict).push (instObj dU y.objs.size),g,dr,tk,os⟩) Z hx hd (fun b o e q=>?_) ?_ ?_ ?_ hb fun h' aa o e1 e2 e3 e4=>?_
 ·haveI:=X b o e
  rw[q]at this
  exact Nat.lt_irrefl _ (Heap.lt_size this)
 ·show A.depth+_<recursionLimit
  have:(Code.builtin "type.__call__" ⟨.ref dU::r,[]⟩).weight<=9:=by
   unfold Code.weight
   haveI h1:(Code.builtin "type.__call__" ⟨.ref dU::r,[]⟩).isGuard=false:=by show guardIds.contains "type.__call__" =false;decide +kernel
   haveI h2:(Code.builtin "type.__call__" ⟨.ref dU::r,[]⟩).isCaller=false:=rfl
   haveI h3:(Code.builtin "type.__call__" ⟨.ref dU::r,[]⟩).frames=0:=rfl
   rw[h1,h2,h3]
   first|(rw[show(Code.builtin "type.__call__" ⟨.ref dU::r,[]⟩).isCreation=true from rfl];decide)|(rw[show(Code.builtin "type.__call__" ⟨.ref dU::r,[]⟩).isCreation=false from rfl];decide)|(simp only[Code.isCreation];decide)
  lia
 ·exact B.lim.keeps fun b o e=>z b o (W b o e)
 ·exact B.cr.keeps fun b o e=>z b o (W b o e)
 ·refine⟨rfl,?_⟩
  refine h _ _ _ _ _ (Heap.get?_none_of_le (Nat.le_succ _)) (Heap.get?_none_of_le (Nat.le_refl _)) (Nat.succ_ne_self _) e1 e2 e3 fun b o e=>e4 b o (fun q=>?_) (z b o e)
  rw[q]at e
  exact Nat.lt_irrefl _ (Heap.lt_size e)
end
noncomputable def Wd.addV(W:Wd)(x d:Addr)(g:Value×Value×Value)(nx:¬W.has x)(nd:¬W.has d)(xd:x≠d):Wd where
 fz:=fun b=>if b=x then some (fg d)else W.fz b
 gz:=fun b=>if b=d then some g else W.gz b
 hd:=W.hd
 disj:=fun b h m=>by
  by_cases e:b=x
  ·subst e
   rw[if_neg xd]at m
   exact nx (.inr m)
  ·rw[if_neg e]at h
   by_cases e2:b=d
   ·subst e2;exact nd (.inl h)
   ·rw[if_neg e2]at m;exact W.disj b h m
 dis2:=fun b h=>by
  by_cases e2:b=d
  ·subst e2;exact fun q=>nd (.inr (.inr q))
  ·rw[if_neg e2]at h;exact W.dis2 b h
section
variable{w:World}{h0:Heap}{W:Wd}{H:List T}{h:Heap}{x d:Addr}{g:Value×Value×Value}{nx:¬W.has x}{nd:¬W.has d}{xd:x≠d}
theorem Wd.le_addV:W.Le (W.addV x d g nx nd xd) where
 fz:=fun b o e=>by
  show(if b=x then some (fg d)else W.fz b)=some o
  by_cases q:b=x
  ·subst q;exact absurd (.inl (by rw[e];rfl)) nx
  ·rw[if_neg q];exact e
 gz:=fun b o e=>by
  show(if b=d then some g else W.gz b)=some o
  by_cases q:b=d
  ·subst q;exact absurd (.inr (.inl (by rw[e];rfl))) nd
  ·rw[if_neg q];exact e
 hd:=fun _ e=>e
theorem Wd.addV_x:(W.addV x d g nx nd xd).fz x=some (fg d):=if_pos rfl
theorem Wd.addV_d:(W.addV x d g nx nd xd).gz d=some g:=if_pos rfl
theorem Wd.has_addV{b:Addr}(m:(W.addV x d g nx nd xd).has b):W.has b\/b=x\/b=d:=by
 by_cases e:b=x
 ·exact .inr (.inl e)
 ·by_cases q:b=d
  ·exact .inr (.inr q)
  ·left
   rcases m with m|m|m
   ·change ((if b=x then some (fg d)else W.fz b):Option Obj).isSome=true at m
    rw[if_neg e]at m;exact .inl m
   ·change ((if b=d then some g else W.gz b):Option _).isSome=true at m
    rw[if_neg q]at m;exact .inr (.inl m)
   ·exact .inr (.inr m)
theorem Fit.addV{o:Obj}(F:Fit w h0 W H h)(ex:h.get? x=some (fg d))(ed:h.get? d=some o)(i:oM w g o)(d0:h0.get? d=none):Fit w h0 (W.addV x d g nx nd xd) H h where
 fz:=fun b L z=>by
  change (if b=x then some (fg d)else W.fz b)=some L at z
  by_cases q:b=x
  ·rw[if_pos q]at z;obtain rfl:=Option.some.inj z;exact q▸ex
  ·rw[if_neg q]at z;exact F.fz b L z
 gz:=fun b Y z=>by
  change (if b=d then some g else W.gz b)=some Y at z
  by_cases q:b=d
  ·rw[if_pos q]at z;obtain rfl:=Option.some.inj z;exact⟨o,q.symm▸ed,i⟩
  ·rw[if_neg q]at z;exact F.gz b Y z
 hd:=by
  haveI:=F.hd
  unfold fZ at this⊢
  show match W.hd with|none=>H=[]|some Z=>∃y,h.PlainList Z y/\Reps w (W.addV x d g nx nd xd) H y.toList
  cases O:W.hd with
  |none=>rw[O]at this;exact this
  |some Z=>rw[O]at this;refine xE this fun y J=>?_;haveI p:=J.1;haveI r:=J.2;exact⟨y,p,Reps.mono Wd.le_addV _ r⟩
 base:=F.base
 hn:=F.hn
 off:=fun b m=>by
  rcases m with m|m
  ·change ((if b=d then some g else W.gz b):Option _).isSome=true at m
   by_cases q:b=d
   ·exact q▸d0
   ·rw[if_neg q]at m;exact F.off b (.inl m)
  ·exact F.off b (.inr m)
end
structure Frz(w:World)(h0:Heap)(W:Wd)(H:List T)(h:Heap)(fp:List Addr)(W':Wd):Prop where
 le:W.Le W'
 hd:W'.hd=W.hd
 has:∀a,W'.has a->W.has a\/a∈fp
 fit:Fit w h0 W' H h
theorem Frz.refl{w:World}{h0:Heap}{W:Wd}{H:List T}{h:Heap}(F:Fit w h0 W H h):Frz w h0 W H h [] W:=⟨.refl W,rfl,fun _ m=>.inl m,F⟩
theorem Frz.trans{w:World}{h0:Heap}{W r q:Wd}{H:List T}{h:Heap}{f g:List Addr}(x:Frz w h0 W H h f r)(y:Frz w h0 r H h g q):Frz w h0 W H h (f++g) q:=
 ⟨x.le.trans y.le,y.hd.trans x.hd,fun a m=>by
  rcases y.has a m with m|m
  ·rcases x.has a m with m|m
   ·exact .inl m
   ·exact .inr (List.mem_append_left _ m)
  ·exact .inr (List.mem_append_right _ m),y.fit⟩
section
variable{w:World}{h0:Heap}{W:Wd}{H:List T}{h:Heap}
theorem mv{a:Addr}{o:Obj}(F:Fit w h0 W H h)(n:¬W.has a)(e:h.get? a=some o):Frz w h0 W H h [a] (W.add a o n):=
 ⟨Wd.le_add n,rfl,fun b m=>(Wd.has_add m).imp id fun e=>by simp[e],F.add n e⟩
theorem A0:∀{ls:List Addr}{q:List (List T)}{W:Wd},Fit w h0 W H h->Lists w W h ls q->ls.Nodup->(∀a∈ls,¬W.has a)->∃J,Frz w h0 W H h ls J/\Reps w J (q.map .list) (ls.map .ref):=by
 intro m_
 induction m_ with
 |nil=>
  intro L
  cases L with
  |nil=>
   rintro W F _ _ _
   exact⟨W,.refl F,rfl⟩
  |cons ab aa=>
   rintro _ _ x _ _
   exact x.elim
 |cons l ls ih=>
  intro L
  cases L with
  |nil=>
   rintro _ _ x _ _
   exact x.elim
  |cons ts q=>
   rintro W F ⟨⟨y,⟨k,p⟩,r⟩,x⟩ nd n
   haveI h1:=(List.nodup_cons.mp nd).1;haveI h2:=(List.nodup_cons.mp nd).2
   have Y:=n l (.head _)
   haveI z:=mv F Y p
   obtain⟨J,O,rs⟩:=ih z.fit (x.frame z.le fun _ _ _ e=>e) h2 fun a Z m=>by
    rcases Wd.has_add m with m|rfl
    ·exact n a (.tail _ Z) m
    ·exact h1 Z
   exact⟨J,z.trans O,_,_,rfl,⟨l,y,k,rfl,O.le.fz _ _ (Wd.add_at Y),Reps.mono (z.le.trans O.le) _ r⟩,rs⟩
theorem freeze{v:Value}{lv:LV}{t:T}{fp:List Addr}(F:Fit w h0 W H h)(y:Own w W h v lv fp)(e:frz lv=some t)(n:∀a∈fp,¬W.has a)(n0:∀a∈fp,h0.get? a=none):
  ∃W',Frz w h0 W H h fp W'/\Rep w W' t v:=by
 cases lv with
 |unset=>exact y.elim
 |fr u=>refine xA y fun r q=>?_;rw[q];obtain rfl:=Option.some.inj e;exact⟨W,.refl F,r⟩
 |ol ts=>
  obtain⟨a,Y,q,f,⟨k,p⟩,r⟩:=y
  subst f;obtain rfl:=Option.some.inj e
  haveI O:=n a (by simp)
  haveI J:=mv F O p
  exact⟨_,J,a,Y,k,q,Wd.add_at O,Reps.mono J.le _ r⟩
 |od ks vs=>
  obtain⟨a,L,q,f,m,dd,q2,r,z⟩:=y
  subst f;obtain rfl:=Option.some.inj e
  haveI O:=n a (by simp)
  obtain⟨o,ho,io⟩:=Heap.dictOf_iff.mp dd
  haveI J:=mv F O ho
  exact⟨_,J,a,o,L,q,m,Wd.add_at O,io,q2,z,Reps.mono J.le _ r⟩
 |odl ks ac=>
  obtain⟨a,ls,L,q,f,m,dd,q2,q3,x,nd,z⟩:=y
  subst f;obtain rfl:=Option.some.inj e
  haveI h1:=(List.nodup_cons.mp nd).1;haveI h2:=(List.nodup_cons.mp nd).2
  refine xEA (A0 F x h2 fun b Z=>n b (.tail _ Z)) fun W' J rs=>?_
  have O:¬W'.has a:=fun m=>by
   rcases J.has a m with m|m
   ·exact n a (.head _) m
   ·exact h1 m
  refine xEA (Heap.dictOf_iff.mp dd) fun o ho io=>?_
  haveI f2:=mv J.fit O ho
  have f3:=J.trans f2
  refine⟨_,⟨f3.le,f3.hd,fun b m=>(f3.has b m).imp id fun Z=>?_,f3.fit⟩,a,o,L,q,m,Wd.add_at O,io,q2,z,?_⟩
  ·rcases List.mem_append.mp Z with Z|Z
   ·exact .tail _ Z
   ·rw[List.mem_singleton.mp Z];exact .head _
  ·rw[q3];exact Reps.mono f2.le _ rs
 |ov k it at'=>cases at' with
  |none=>
   obtain⟨x,d,i,tk,o,q,f,xd,h1,h2,g,r,z⟩:=y
   subst f;obtain rfl:=Option.some.inj e
   have nx:=n x (by simp)
   have nd:=n d (by simp)
   refine⟨W.addV x d (.str k tk,i,.none) nx nd xd,⟨Wd.le_addV,rfl,fun b m=>(Wd.has_addV m).imp id fun q=>by simpa using q,F.addV h1 h2 g (n0 d (by simp))⟩,x,d,tk,i,.none,q,Wd.addV_x,Wd.addV_d,Rep.mono Wd.le_addV _ r,rfl,z⟩
  |some kv=>
   obtain⟨x,d,i,tk,o,e',L,q,f,nd,h1,h2,g,r,z,m,dd,q2,rs,zk⟩:=y
   subst f;obtain rfl:=Option.some.inj e
   have hn:=List.nodup_cons.mp nd
   haveI ab:=List.nodup_cons.mp hn.2
   have ne:=n e' (by simp)
   refine xEA (Heap.dictOf_iff.mp dd) fun oe he ie=>?_
   have J:=mv F ne he
   have nx:¬(W.add e' oe ne).has x:=fun m=>by
    rcases Wd.has_add m with m|rfl
    ·exact n x (by simp) m
    ·exact hn.1 (by simp)
   have aa:¬(W.add e' oe ne).has d:=fun m=>by
    rcases Wd.has_add m with m|rfl
    ·exact n d (by simp) m
    ·exact ab.1 (by simp)
   have xd:x≠d:=fun q=>hn.1 (by simp[q])
   refine⟨(W.add e' oe ne).addV x d (.str k tk,i,.ref e') nx aa xd,⟨J.le.trans Wd.le_addV,rfl,fun b m=>?_,J.fit.addV h1 h2 g (n0 d (by simp))⟩,x,d,tk,i,.ref e',q,Wd.addV_x,Wd.addV_d,Rep.mono (J.le.trans Wd.le_addV) _ r,
    ⟨e',oe,L,rfl,m,Wd.le_addV.fz _ _ (Wd.add_at ne),ie,q2,zk,Reps.mono (J.le.trans Wd.le_addV) _ rs⟩,z⟩
   rcases Wd.has_addV m with m|rfl|rfl
   ·rcases Wd.has_add m with m|rfl
    ·exact .inl m
    ·exact .inr (by simp)
   ·exact .inr (by simp)
   ·exact .inr (by simp)
theorem Frz.stp{r z:Wd}{q s:Shared}{y:List Addr}(x:Stp r q W s)(f:Frz w h0 W H s.heap y z)(n:∀a∈y,q.heap.get? a=none):Stp r q z s where
 le:=x.le.trans f.le
 fresh:=fun a m=>by
  rcases f.has a m with m|m
  ·exact x.fresh a m
  ·exact .inr (n a m)
 hd:=rfl
 keep:=x.keep
 same:=x.same
end
theorem gZ{M:Model}{A:Around}{E:Value->Shared->Prop}{s:Shared}{f:Value}{es:List Expr}{env:Env}{pos:Pos}{Q:Args->Shared->Prop}(p:bQ es=true)
  (h:wpAny M A (spliced (backTo pos (starEach es env))) (fun vs s'=>Q ⟨vs,[]⟩ s') E s):wpAny M A (evalArgs f true (backTo pos (starEach es env)) []) Q E s:=by
 cases es with
 |nil=>
  unfold evalArgs
  show wpAny M A (spliced []>>=_) Q E s
  refine wpAny_bind (wpAny_mono h (fun vs s' d=>?_) fun _ _ z=>z)
  first
   |exact wpAny_bind (wpAny_pure (wpAny_holding (wpAny_bind (wpAny_pure (wpAny_bind (wpAny_pure (wpAny_pure d)))))))
   |exact wpAny_holding (wpAny_bind (wpAny_pure (wpAny_bind (wpAny_pure (wpAny_pure d)))))
 |cons e r=>
  rw[aF (em p).1]at h⊢
  exact Calls.evalArgs_plain h
section
variable(w:World)(h0:Heap)(C:Nat->List T->M LV)(n:Nat)
def il:Prop:=∀(f:Nat)(A:Around)(W:Wd)(H:List T)(s:Shared)(ts:List T)(vals:List Value)(lv:LV)(H':List T),AOk n A->Fit w h0 W H s.heap->Reps w W ts vals->C f ts H=some (lv,H')->
 wpAny (model pw w) A (call (.ref (dB f)) vals) (fun v s'=>f<82/\∃W' fp,Stp W s W' s'/\Fit w h0 W' H' s'.heap/\Own w W' s'.heap v lv fp/\∀a∈fp,¬W'.has a/\s.heap.get? a=none) Nev s
def iX:Prop:=∀f ts H r,C f ts H=some r->f<82
end
section
variable{w:World}{h0:Heap}{C:Nat->List T->M LV}{n:Nat}
theorem GM{c d:T}(e:GN c=some d):d=c:=by cases c<;>cases e<;>rfl
inductive GT (w:World) (W:Wd) (t:T) (vs:List Value):Prop
 |mk (k:Str) (us:List T) (c:T) (kv iv av:Value) (e:t=.vec k (.list us) c) (r1:Rep w W (.str k) kv) (r2:Rep w W (.list us) iv) (r3:Rep w W c av) (h:(vs=[kv,iv]/\av=.none)\/vs=[kv,iv,av]):GT w W t vs
theorem sC{W:Wd}{a b c t:T}{u v x:Value}{vs:List Value}(e:mkV a b c=some t)(y:Rep w W a u)(r:Rep w W b v)(q:Rep w W c x)(h:(vs=[u,v]/\x=.none)\/vs=[u,v,x]):GT w W t vs:=by
 refine bD e fun k z e=>?_
 refine bD e fun l el e=>?_
 refine eC e fun d F=>?_
 obtain rfl:=pZ z;obtain rfl:=eM el;obtain rfl:=GM F
 exact⟨k,l,d,u,v,x,rfl,y,r,q,h⟩
theorem BV{W:Wd}{ts:List T}{t:T}{vs:List Value}(e:j8 ts=some t)(J:Reps w W ts vs):GT w W t vs:=by
 rcases ts with _|⟨a,_|⟨b,_|⟨c,_|_⟩⟩⟩<;>first|(cases e;done)|skip
 ·refine jN J fun O Z q H L Y d F z=>?_;obtain rfl:=q;obtain rfl:=d;obtain rfl:=z
  exact sC (c:=.none) e H F rfl (.inl ⟨rfl,rfl⟩)
 ·refine j7 J fun O Z q H L Y d F v3 r3 y a3 r=>?_;obtain rfl:=q;obtain rfl:=d;obtain rfl:=y;obtain rfl:=r
  exact sC e H F a3 (.inr rfl)
theorem Fit.no0{W:Wd}{H:List T}{h:Heap}(F:Fit w h0 W H h){a:Addr}(n:h.get? a=none):h0.get? a=none:=by
 cases q:h0.get? a with
 |none=>rfl
 |some o=>exact absurd ((F.base a o q).symm.trans n) nofun
theorem AOk.room{A:Around}(h:AOk n A):A.depth+10<recursionLimit:=by haveI:=h.dp;lia
theorem BU(B:cR w h0){A:Around}{W:Wd}{H:List T}{s:Shared}{t:T}{vs:List Value}(room:A.depth+10<recursionLimit)(F:Fit w h0 W H s.heap)(h:GT w W t vs):
  wpAny (model pw w) A (call (.ref dU) vs) (Pst w h0 W s H fun W' v=>Rep w W' t v) Nev s:=by
 obtain⟨k,us,c,kv,z,J,rfl,⟨r,rfl,L⟩,Z,ra,hv⟩:=h
 refine vR B F.base room hv fun x d h' Y o y q O ex ed io keep=>?_
 refine⟨W.addV x d (.str k r,z,J) (F.not_has y) (F.not_has q) O,⟨Wd.le_addV,fun b m=>?_,rfl,fun b o e _=>keep b o e,⟨_,_,_,rfl⟩⟩,(F.keep keep).addV ex ed io (F.no0 q),x,d,r,z,J,rfl,Wd.addV_x,Wd.addV_d,Rep.mono Wd.le_addV _ Z,Rep.mono Wd.le_addV _ ra,L⟩
 rcases Wd.has_addV m with m|rfl|rfl
 ·exact .inl m
 ·exact .inr y
 ·exact .inr q
theorem Fb(B:cR w h0){xs:List X}(hx:SXs w h0 C n xs):SX w h0 C n (.mkVec xs):=by
 intro e A aa nm ρ fp W H s t H' hm L S F he
 refine qQ hm fun c np es O mc Y m1=>?_
 refine aB he fun ts H1 e1 Z=>?_
 refine bV Z fun e2=>?_
 haveI J:=gh mc;obtain rfl:=J.1;haveI hk:=J.2
 refine sA B.glob fun mg g1 _ g3 _=>?_
 refine wpAny_Call_NameR (Calls.Name_function_global L.kind hk (Calls.loadGlobal_global (mg:=mg) (L.glob.symm▸g1.at' fun o e=>F.base _ o e) g3 ?_) (by decide +kernel))
 refine callWith_of (P:=fun h=>(eD w.params).In h) (by rw[cY Y];rfl) (fun h X=>keeps_K (by kernel_rfl) h X) (gZ Y ?_)
 refine wpAny_mono (hx es A aa nm ρ fp W H s ts _ O m1 Y L S F e1) (fun vs ac y=>?_) fun _ _ z=>z
 refine el4 y fun ad q d rs=>⟨fun a o e=>d.base a o (B.cls a o e),?_⟩
 exact wpAny_mono (BU B L.ao.room d (BV e2 rs)) (fun v ab r=>r.after q) fun _ _ z=>z
theorem zx{f:Nat}{ts:List T}{A:Around}{W:Wd}{H H':List T}{s:Shared}{d:List Value}{t:T}(K:il w h0 C n)(ao:AOk n A)(F:Fit w h0 W H s.heap)(rs:Reps w W ts d)(e:HL (C f ts) H=some (t,H')):
  wpAny (model pw w) A (call (.ref (dB f)) d) (Pst w h0 W s H' fun W' v=>Rep w W' t v) Nev s:=by
 refine aB e fun lv H1 e1 e2=>?_
 refine bV e2 fun e3=>?_
 refine wpAny_mono (K f A W H s ts d lv _ ao F rs e1) (fun v aa J=>?_) fun _ _ z=>z
 refine m7 J.2 fun ab fp y Y Z nf=>?_
 refine xEA (freeze Y Z e3 (fun a L=>(nf a L).1) fun a L=>F.no0 (nf a L).2) fun O q r=>?_
 exact⟨O,q.stp y fun a L=>(nf a L).2,q.fit,r⟩
theorem DA:(List.range 82).all (fun f=>((fu f:Str)==("__debug__" :Str))==false)=true:=by kernel_rfl
theorem zM(B:cR w h0){f:Nat}(r:f<82){A:Around}{env:Env}{x:Str}{W:Wd}{H:List T}{s:Shared}{pos:Pos}{Q:Value->Shared->Prop}(J:dY env.scope.names x (fu f)=true)(y:Cx n A env)(F:Fit w h0 W H s.heap)
  (h:Q (.ref (dB f)) s):wpAny (model pw w) A (eval (.Name x pos) env) Q Nev s:=by
 haveI d:=gh J;obtain rfl:=d.1;haveI z:=d.2
 refine sA B.glob fun q g1 g2 _ _=>?_
 exact Calls.Name_function_global y.kind z (Calls.loadGlobal_global (mg:=q) (y.glob▸g1.at' fun o e=>F.base _ o e) (g2 f r) h) (eq_of_beq (List.all_eq_true.mp DA f (List.mem_range.mpr r)))
theorem rA(B:cR w h0){f:Nat}(L:f<82){A:Around}{env:Env}{es:List Expr}{pos:Pos}{W:Wd}{H:List T}{s:Shared}{Q:Value->Shared->Prop}(F:Fit w h0 W H s.heap)(y:bQ es=true)
  (h:wpAny (model pw w) A (spliced (backTo pos (starEach es env))) (fun vs s'=>(∀a o,h0.get? a=some o->s'.heap.get? a=some o)/\wpAny (model pw w) A (call (.ref (dB f)) vs) Q Nev s') Nev s):
  wpAny (model pw w) A (callWith pos (.ref (dB f)) [] (backTo pos (starEach es env)) []) Q Nev s:=by
 refine uT (B.fn f L) fun o Y r cd d=>?_;haveI J:=d.1;haveI O:=d.2.1
 refine Calls.callWith_function (o:=o) (fd:=eF (bJ f) none Y r cd) (gZ y (wpAny_mono h (fun vs s' q=>?_) fun _ _ z=>z))
 exact⟨⟨q.1 _ _ J,O⟩,by rw[List.nil_append];exact q.2⟩
theorem H7(B:cR w h0)(K:il w h0 C n)(L:iX C)(f:Nat){xs:List X}(hx:SXs w h0 C n xs):SX w h0 C n (.call f xs):=by
 intro e A Y nm ρ fp W H s t H' hm Z S F he
 refine qQ hm fun c np es O mc mp m1=>?_
 refine aB he fun ts H1 e1 J=>?_
 haveI hf:f<82:=aB J fun lv H2 e2 _=>L _ _ _ _ e2
 refine wpAny_Call_NameR (zM B hf mc Z F (rA B hf F mp ?_))
 refine wpAny_mono (hx es A Y nm ρ fp W H s ts H1 O m1 mp Z S F e1) (fun vs ab y=>?_) fun _ _ z=>z
 refine el4 y fun ac q d rs=>?_
 exact⟨d.base,wpAny_mono (zx K Z.ao d rs J) (fun v aa r=>r.after q) fun _ _ z=>z⟩
theorem Fh(B:cR w h0)(K:il w h0 C n)(L:iX C)(i:Nat){xs:List X}(hx:SXs w h0 C n xs):SX w h0 C n (.callV i xs):=by
 intro e A aa nm ρ fp W H s t H' J cx S F Z
 refine qZ J fun g es Y J=>?_
 refine dM J fun c np J=>?_
 refine aY J fun mc mp m1=>?_
 refine aN Z fun f ef Z=>?_
 refine aB Z fun ts H1 e1 O=>?_
 haveI hf:f<82:=aB O fun lv H2 e2 _=>L _ _ _ _ e2
 refine wpAny_Call_NameR (lW mc cx S (FY ef) Dw fun v o=>?_)
 obtain rfl:=o.1.1
 refine rA B hf F mp ?_
 refine wpAny_mono (hx es A aa nm ρ fp W H s ts H1 Y m1 mp cx S F e1) (fun vs ac y=>?_) fun _ _ z=>z
 refine el4 y fun ad q d rs=>?_
 exact⟨d.base,wpAny_mono (zx K cx.ao d rs O) (fun v ab r=>r.after q) fun _ _ z=>z⟩
end
noncomputable def nz(o:Obj):Bool:=match o.cls with
 |.type c=>c=="list_iterator" ||c=="dict_keyiterator" ||c=="list_reverseiterator" ||c=="range_iterator"
 |_=>false
theorem ny{o:Obj}{c:String}(h:o.cls=.type c)(k:(c=="list_iterator" ||c=="dict_keyiterator" ||c=="list_reverseiterator" ||c=="range_iterator")=true):nz o=true:=by
 unfold nz;rw[h];exact k
inductive Itr (w:World) (A:Around) (W:Wd) (h:Heap) (ts:List T) (it:Value):Prop
 |mk (I:Addr) (fp:List Addr) (n:Nat) (P:Nat->Value->Prop) (St:Nat->Heap->Prop) (e:it=.ref I) (k:Walks pw w A I fp [I] n P St) (l:n=ts.length) (s:St 0 h) (b:∀b∈fp,b=I\/(W.fz b).isSome) (nI:¬W.has I)
   (q:∀i h',St i h'->∃o,h'.get? I=some o/\nz o=true) (r:∀i v t,P i v->ts[i]? =some t->Rep w W t v):Itr w A W h ts it
inductive Itd (w:World) (h0:Heap) (A:Around) (W:Wd) (s:Shared) (H':List T) (ts:List T) (i:Value) (s₂:Shared):Prop
 |mk (l:ts.length<=3000) (W':Wd) (x:Stp W s W' s₂) (F:Fit w h0 W' H' s₂.heap) (it:Itr w A W' s₂.heap ts i) (nw:∀I,i=.ref I->s.heap.get? I=none):Itd w h0 A W s H' ts i s₂
section
variable(w:World)(h0:Heap)(C:Nat->List T->M LV)(n:Nat)
def SI(it:It):Prop:=∀(e:Expr)(A:Around)(env:Env)(nm:Nm)(ρ:aE)(fp:Nat->List Addr)(W:Wd)(H:List T)(s:Shared)(ts:List T)(H':List T),
 mI env.scope.names nm it e=true->Cx n A env->Vst w env nm ρ fp W s.heap->Fit w h0 W H s.heap->evI C ρ it H=some (ts,H')->
 wpAny (model pw w) A (eval e env) (fun x s₁=>wpAny (model pw w) A (pyIter x) (Itd w h0 A W s H' ts) Nev s₁) Nev s
end
theorem f5{e:Expr}{env:Env}(p:aV e=true)(x:Value):foldedSetIterable e env x=pure x:=by
 cases e<;>first|exact(aH p).elim|rfl
section
variable{w:World}{h0:Heap}{C:Nat->List T->M LV}{n:Nat}
theorem aX{h:Heap}:h.get? h.objs.size=none:=by
 cases e:h.get? h.objs.size with
 |none=>rfl
 |some o=>exact absurd (Heap.lt_size e) (Nat.lt_irrefl _)
theorem cB{W d:Wd}{s s':Shared}(x:Stp W s d s'){a:Addr}(e:s'.heap.get? a=none)(n:¬d.has a):s.heap.get? a=none:=by
 cases q:s.heap.get? a with
 |none=>rfl
 |some o=>rw[x.keep a o q fun m=>n (x.le.has (.inr m))]at e;cases e
theorem l9{A:Around}{W d:Wd}{H:List T}{s s₁:Shared}{ts:List T}{o:Obj}{Y:List Addr}{m:Nat}{P:Nat->Value->Prop}{y:Nat->Heap->Prop}(x:Stp W s d s₁)(F:Fit w h0 d H s₁.heap)(L:ts.length<=3000)
  (r:Walks pw w A s₁.heap.objs.size Y [s₁.heap.objs.size] m P y) (hn:m=ts.length) (fr:o.isFreed=false) (st:(s₁.heap.push o).get? s₁.heap.objs.size=some o->(∀a q,s₁.heap.get? a=some q->(s₁.heap.push o).get? a=some q)->y 0 (s₁.heap.push o))
  (al:∀i h',y i h'->∃o,h'.get? s₁.heap.objs.size=some o/\nz o=true) (O:∀b∈Y,b=s₁.heap.objs.size\/(d.fz b).isSome) (z:∀i v t,P i v->ts[i]? =some t->Rep w d t v) {tk:Nat}:
  Itd w h0 A W s H ts (.ref s₁.heap.objs.size) {s₁ with heap:=s₁.heap.push o,toks:=tk}:=by
 haveI Z:¬d.has s₁.heap.objs.size:=F.not_has aX
 haveI at':(s₁.heap.push o).get? s₁.heap.objs.size=some o:=Heap.get?_push_size _ fr
 haveI J:∀a q,s₁.heap.get? a=some q->(s₁.heap.push o).get? a=some q:=fun a q e=>Heap.get?_push_of_some _ e
 refine⟨L,d,x.trans (Stp.of_keep J),F.keep J,⟨_,Y,m,P,y,rfl,r,hn,st at' J,O,Z,al,z⟩,fun I e=>?_⟩
 cases e
 exact cB x aX Z
theorem uk{W:Wd}{H:List T}{h:Heap}{a:Addr}{xs:Array Value}{k:Nat}(F:Fit w h0 W H h)(e:W.fz a=some (seqObj "list" xs k)):h.PlainList a xs:=⟨k,F.fz _ _ e⟩
theorem FF{W:Wd}{k:Key}{v:Value}(h:Key.is k v=true)(z:gH k=true):Rep w W k.toT v:=by
 cases k with
 |i n=>exact Key.is_i h
 |s x=>refine xE (Key.is_s h) fun t e=>?_;exact⟨t,e,z⟩
theorem tG{W:Wd}{I a:Addr}{o:Obj}(f:W.fz a=some o):∀b∈[I,a],b=I\/(W.fz b).isSome:=fun b d=>by
 rcases List.mem_cons.mp d with rfl|d
 ·exact .inl rfl
 ·rw[List.mem_singleton.mp d,f];exact .inr rfl
theorem yz{W:Wd}{H:List T}{h:Heap}{a:Addr}{o:Obj}(F:Fit w h0 W H h)(f:W.fz a=some o):a≠h.objs.size:=fun q=>Nat.lt_irrefl _ (q▸Heap.lt_size (F.fz _ _ f))
theorem ye{k:Nat}(h:k<=lim):k<=3000:=Nat.le_trans h (by decide)
theorem AT{A:Around}{W d:Wd}{H:List T}{s s₁:Shared}{ts:List T}{v:Value}(hd:A.handled=none)(x:Stp W s d s₁)(F:Fit w h0 d H s₁.heap)(Z:ts.length<=lim)(r:Rep w d (.list ts) v):
  wpAny (model pw w) A (pyIter v) (Itd w h0 A W s H ts) Nev s₁:=by
 obtain⟨a,J,k,rfl,f,q⟩:=r
 have y:=uk F f
 refine wpAny_pyIter_list y.isList ?_
 refine l9 x F (ye Z) (Walks.list hd _ a (yz F f) J) (Array.length_toList.symm.trans q.length) rfl (fun e L=>⟨⟨_,e,rfl,rfl⟩,y.isList.at fun o e=>L _ o e⟩) (fun i h' st=>let⟨o,e,c,_⟩:=st.1;⟨o,e,ny c rfl⟩) (tG f) fun i v t O Y=>?_
 refine xEA (q.get Y) fun u z r=>?_
 rw[Array.getElem?_toList]at z
 exact Option.some.inj (z.symm.trans O)▸r
theorem AU{A:Around}{W d:Wd}{H:List T}{s s₁:Shared}{ks:List Key}{vs:List T}{v:Value}(hd:A.handled=none)(x:Stp W s d s₁)(F:Fit w h0 d H s₁.heap)(hl:ks.length<=lim)(r:Rep w d (.dict ks vs) v):
  wpAny (model pw w) A (pyIter v) (Itd w h0 A W s H (ks.map Key.toT)) Nev s₁:=by
 obtain⟨a,o,q,rfl,hs,f,⟨es,O,d1,d2,d3,d4,d5⟩,J,hz,rs⟩:=r
 have Y:s₁.heap.DictAt (aJ pw w) a q O:=⟨o,es,F.fz _ _ f,d1,d2,d3,d4,d5⟩
 refine wpAny_pyIter_dict hs Y ?_
 refine l9 x F (by rw[List.length_map];exact ye hl) (Walks.dictKeys hd _ a (yz F f) q O) (by rw[<-J,List.length_map,List.length_map]) rfl (fun e Z=>⟨⟨_,e,rfl,rfl⟩,Y.at' fun o e=>Z _ o e⟩) (fun i h' st=>let⟨o,e,c,_⟩:=st.1;⟨o,e,ny c rfl⟩) (tG f) ?_
 rintro i v t ⟨k,y,z,hi⟩ L
 rw[<-J,List.map_map,List.getElem?_map,z]at L
 refine Option.some.inj L▸FF hi (List.all_eq_true.mp hz k ?_)
 exact J▸List.mem_map.mpr ⟨(k,y),List.mem_of_getElem? z,rfl⟩
theorem FI{t:T}{ts:List T}{P:T->List T->Prop}(e:fN t=some ts)(H:∀d,d.length<=lim->P (.list d) d)(H':∀ks vs,ks.length<=lim->P (.dict ks vs) (ks.map Key.toT)):P t ts:=by
 cases t with
 |list d=>exact jd (P:=P _) e fun h=>H d h
 |dict ks vs=>exact jd (P:=P _) e fun h=>H' ks vs h
 |_=>cases e
theorem Dc{x:X}(hx:SX w h0 C n x):SI w h0 C n (.val x):=by
 intro e A O nm ρ fp W H s Z H' hm Y S F J
 refine aB J fun t H1 e1 J=>?_
 refine bV J fun J=>?_
 refine wpAny_mono (hx e A O nm ρ fp W H s t H1 hm Y S F e1) (fun v r y=>?_) fun _ _ z=>z
 refine Pst.el y fun L d q=>?_
 exact FI (P:=fun t Z=>Rep w L t v->wpAny (model pw w) A (pyIter v) (Itd w h0 A W s H1 Z) Nev r) J (fun us h=>AT Y.ao.hd d q h) fun ks vs h=>AU Y.ao.hd d q h
theorem Dd(B:cR w h0){x:X}(hx:SX w h0 C n x):SI w h0 C n (.rev x):=by
 intro e A ad nm ρ fp W H s ts H' hm cx S F Z
 refine iz hm fun f np e ac m0 mp m1=>?_
 refine aB Z fun t H1 e1 Z=>?_
 refine aN Z fun us eu Y=>?_
 refine dZ Y fun hl O=>?_
 obtain rfl:=eM eu
 refine aM O ?_
 refine iN (id:="reversed") B cx F m0 (by decide) (aR mp) (zh hx m1 mp cx S F e1 fun v ab aa q d y=>?_)
 obtain⟨a,J,k,rfl,f,rs⟩:=y
 have pl:=uk d f
 haveI z:J.size=us.length:=Array.length_toList.symm.trans rs.length
 refine call_reversed_list pl.isList ?_
 refine wpAny_pyIter_revIter (l:=a) (i:=(J.size:Int)-1) ⟨_,Heap.get?_push_size _ rfl,rfl,rfl⟩ ?_
 refine l9 q d (by rw[List.length_reverse];exact ye (of_decide_eq_true hl)) (Walks.listRev cx.ao.hd _ a (yz d f) J) (by rw[List.length_reverse];exact z) rfl
  (fun e kp=>⟨Nat.zero_le _,⟨_,e,rfl,congrArg (fun i=>(revObj a i).data) (Int.sub_zero _).symm⟩,pl.isList.at fun o e=>kp _ o e⟩) (fun i h' st=>let⟨o,e,c,_⟩:=st.2.1;⟨o,e,ny c rfl⟩) (tG f) fun i v t hv L=>?_
 haveI hi:i<us.reverse.length:=(List.getElem?_eq_some_iff.mp L).1
 rw[List.length_reverse]at hi
 rw[List.getElem?_reverse hi]at L
 refine xEA (rs.get L) fun u hu r=>?_
 rw[Array.getElem?_toList]at hu
 rw[z]at hv
 exact Option.some.inj (hu.symm.trans hv)▸r
theorem sN{a b c:Int}(d:0<c):Builtin.Range.rangeSize a b c=((((b-a+c-1).fdiv c).toNat:Nat):Int):=by
 unfold Builtin.Range.rangeSize
 rw[if_pos d,Int.fdiv_eq_ediv_of_nonneg _ (Int.le_of_lt d)]
 haveI e:b-a+c-1=(b-a-1)+1*c:=by lia
 rw[e,Int.add_mul_ediv_right _ _ (Int.ne_of_gt (d))]
 by_cases h:a<b
 ·rw[if_pos h]
  haveI:0<=(b-a-1)/ c:=Int.ediv_nonneg (by lia) (Int.le_of_lt d)
  omega
 ·rw[if_neg h]
  haveI:(b-a-1)/ c<0:=Int.ediv_neg_of_neg_of_pos (by lia) d
  omega
theorem ox{a b c:Int}(d:0<c)(r: -1000<=a)(q:b<=1000):(((b-a+c-1).fdiv c).toNat)<=2000:=by
 rw[Int.fdiv_eq_ediv_of_nonneg _ (Int.le_of_lt d)]
 haveI e:b-a+c-1=(b-a-1)+1*c:=by omega
 rw[e,Int.add_mul_ediv_right _ _ (Int.ne_of_gt (d))]
 by_cases h:a<b
 ·haveI y:(b-a-1)/ c<=b-a-1:=Int.ediv_le_self _ (by omega)
  omega
 ·haveI:(b-a-1)/ c<0:=Int.ediv_neg_of_neg_of_pos (by omega) d
  omega
theorem vo{a b c:Int}(d:0<c)(r:c<=1000)(z: -1000<=a)(y:a<=1000)(F: -1000<=b)(q:b<=1000):Builtin.Range.small a b c=true:=by
 haveI e:=sN (a:=a) (b:=b) d
 haveI H:=ox (a:=a) (b:=b) d z q
 unfold Builtin.Range.small
 simp only[Builtin.Range.rangeFitsLong,Bool.and_eq_true,Bool.or_eq_true,decide_eq_true_eq,beq_iff_eq,e]
 rw[if_pos (show c>0 from d)]
 simp only[Bool.and_eq_true,decide_eq_true_eq]
 refine⟨⟨⟨⟨?_,?_⟩,?_⟩,?_⟩,.inr ?_⟩<;>constructor<;>lia
theorem nu{a b c:Int}{ts:List T}(e:hH a b c=some ts):0<c/\Builtin.Range.small a b c=true/\Builtin.Range.rangeSize a b c=(ts.length:Int)/\ts.length<=2000/\c<=1000/\∀(i:Nat)(t:T),ts[i]? =some t->t=T.int (a+i*c):=by
 unfold hH at e
 split at e
 ·rename_i h
  haveI r:=h.1;haveI H:=h.2.1;haveI F:=h.2.2.1;haveI O:=h.2.2.2.1;haveI L:=h.2.2.2.2.1;haveI z:=h.2.2.2.2.2
  rw[<-Option.some.inj e]
  refine⟨r,vo r H F O L z,by rw[List.length_map,List.length_range];exact sN r,by rw[List.length_map,List.length_range];exact ox r F z,H,fun i t y=>?_⟩
  rw[List.getElem?_map]at y
  refine xEA (Option.map_eq_some_iff.mp y) fun j J d=>?_;obtain rfl:=d
  haveI:=List.getElem?_eq_some_iff.mp J
  haveI _:=this.1;haveI q:=this.2
  rw[List.getElem_range]at q
  rw[q]
 ·exact(nos e).elim
theorem qc(B:cR w h0){A:Around}{W:Wd}{H:List T}{s:Shared}{ws us:List T}{vs:List Value}{Q:Value->Shared->Prop}(F:Fit w h0 W H s.heap)(rs:Reps w W ws vs)
  (e:lI ws=some us)
  (h:∀a b c t u v tk,hH a b c=some us->IsRange (s.heap.push {cls:=.type "range",data:=.fields #[Value.int a t,Value.int b u,Value.int c v]}) s.heap.objs.size a b c t u v->
   Q (.ref s.heap.objs.size) {s with heap:=s.heap.push {cls:=.type "range",data:=.fields #[Value.int a t,Value.int b u,Value.int c v]},toks:=tk}):
  wpAny (model pw w) A (call (.type "range") vs) Q Nev s:=by
 rcases ws with _|⟨a,_|⟨b,_|⟨c,_|_⟩⟩⟩<;>first|(cases e;done)|skip
 ·refine bD e fun a ea O=>?_
  obtain rfl:=dA ea
  refine bT rs fun v1 r1 d q Z=>?_;obtain rfl:=d;obtain⟨t,rfl⟩:=q;obtain rfl:=Z
  exact call_range_1 (h _ _ _ _ _ _ _ O (IsRange.new ..))
 ·refine bD e fun a ea e=>?_
  refine bD e fun b eb O=>?_
  obtain rfl:=dA ea;obtain rfl:=dA eb
  refine jN rs fun v1 r1 d q v2 r2 r y Y=>?_;obtain rfl:=d;obtain⟨t,rfl⟩:=q;obtain rfl:=r;obtain⟨u,rfl⟩:=y;obtain rfl:=Y
  exact call_range_2 (h _ _ _ _ _ _ _ O (IsRange.new ..))
 ·refine bD e fun a ea e=>?_
  refine bD e fun b eb e=>?_
  refine bD e fun c ec O=>?_
  obtain rfl:=dA ea;obtain rfl:=dA eb;obtain rfl:=dA ec
  refine j7 rs fun v1 r1 d q v2 r2 r y v3 r3 J L z=>?_;obtain rfl:=d;obtain⟨t,rfl⟩:=q;obtain rfl:=r;obtain⟨u,rfl⟩:=y;obtain rfl:=J;obtain⟨v,rfl⟩:=L;obtain rfl:=z
  refine BL (nu O) fun c0 _ _ _ c1 _=>?_
  exact call_range_3 (fun e=>absurd (e▸c0) (by decide)) (h _ _ _ _ _ _ _ O (IsRange.new ..)) (.inl (PyProof.noPylong_small (by omega)))
theorem jh{d q:List T}(e:lI d=some q):d≠[]:=by
 rintro rfl
 exact(nos e).elim
theorem oF{xs:List X}{ρ:aE}{H:List T} {ts H'}(e:d9 C ρ xs H=some (ts,H'))(h:ts≠[]):xs≠[]:=by
 rintro rfl
 cases e
 exact h rfl
theorem v6(B:cR w h0){xs:List X}(hx:SXs w h0 C n xs):SI w h0 C n (.range xs):=by
 intro e A ab nm ρ fp W H s ts H' hm cx S F he
 refine qQ hm fun f np es Z m0 mp m1=>?_
 refine aB he fun ws H1 e1 aa=>?_
 refine bV aa fun O=>?_
 haveI nx:=oF e1 (jh O)
 rcases xs with _|⟨x,xs⟩
 ·exact(nx rfl).elim
 rcases es with _|⟨e,es⟩
 ·exact(aH m1).elim
 refine iN (id:="range") B cx F m0 (by decide) mp (wpAny_mono (hx _ A ab nm ρ fp W H s ws H1 Z m1 mp cx S F e1) (fun vs q L=>?_) fun _ _ z=>z)
 refine el4 L fun Y J r rs=>?_
 refine qc B r rs O fun a b c t u v tk hr ir=>?_
 haveI d:=nu hr;haveI c0:=d.1;haveI sm:=d.2.1;haveI sz:=d.2.2.1;haveI bd:=d.2.2.2.1;haveI c1:=d.2.2.2.2.1;haveI it:=d.2.2.2.2.2
 haveI kp:∀a o',q.heap.get? a=some o'->(q.heap.push ({cls:=.type "range",data:=.fields #[.int a t,.int b u,.int c v]}:Obj)).get? a=some o':=fun a o' e=>Heap.get?_push_of_some _ e
 refine wpAny_pyIter_range ir sm ?_
 haveI y:Stp W s Y {q with heap:=q.heap.push {cls:=.type "range",data:=.fields #[.int a t,.int b u,.int c v]},toks:=tk}:=J.trans (Stp.of_keep fun a o e=>Heap.get?_push_of_some _ e)
 refine l9 y (r.keep fun a o e=>Heap.get?_push_of_some _ e) (tkn d.2.2.2.1 rfl) (Walks.range cx.ao.hd _ a c ts.length) rfl rfl (fun e kp=>?_) (fun i h' st=>⟨_,st,rfl⟩) (fun b hb=>.inl (List.mem_singleton.mp hb)) ?_
 ·rw[sz]at e
  show IsRangeIter _ _ _ _ _
  simp only[Int.ofNat_zero,Int.zero_mul,Int.add_zero,Int.sub_zero]
  rw[sz]
  exact e
 ·rintro i v t ⟨ac,rfl⟩ ht
  rw[it i t ht]
  exact⟨_,rfl⟩
end
noncomputable def mE(env:Env):Nms->List (Str×Addr)->List (Str×Addr)
 | [],acc=>acc
 |(n,k)::r,acc=>if k==.free then mE env r ((n,(env.cells.lookup n).getD 0)::acc)else mE env r acc
theorem uA(env:Env)(n:Str)(k:NameKind)(r:Nms)(acc:List (Str×Addr)):mE env ((n,k)::r) acc=if k==.free then mE env r ((n,(env.cells.lookup n).getD 0)::acc)else mE env r acc:=rfl
theorem wF{env:Env}:∀(d:Nms)(acc:List (Str×Addr)),(∀x∈d,x.2=.free->∃c,env.cells.lookup x.1=some c)->(∀y c,acc.lookup y=some c->env.cells.lookup y=some c)->
  ∀y c,(mE env d acc).lookup y=some c->env.cells.lookup y=some c:=by
 intro L
 induction L with
 |nil=>
  rintro _ _ z
  exact z
 |cons F r H=>
  obtain⟨n,k⟩:=F
  rintro acc h z
  rw[uA]
  split
  ·rename_i hk
   refine H _ (fun x hx=>h x (.tail _ hx)) fun y c e=>?_
   rw[List.lookup_cons]at e
   cases q:y==n with
   |true=>
    rw[q]at e
    obtain rfl:=eq_of_beq q
    obtain⟨O,J⟩:=h (y,k) (.head _) (eq_of_beq hk)
    dsimp only at J
    rw[J]at e⊢
    exact e
   |false=>rw[q]at e;exact z y c e
  ·exact H acc (fun x hx=>h x (.tail _ hx)) z
theorem wG{env:Env}:∀(d:Nms)(acc:List (Str×Addr))(y:Str),((y,NameKind.free)∈d\/(acc.lookup y).isSome)->((mE env d acc).lookup y).isSome:=by
 intro F
 induction F with
 |nil=>
  rintro _ y h
  exact h.elim (fun h=>(List.not_mem_nil h).elim) id
 |cons q r z=>
  obtain⟨n,k⟩:=q
  rintro acc y h
  rw[uA]
  split
  ·rename_i hk
   refine z _ y ?_
   rcases h with h|h
   ·rcases List.mem_cons.mp h with h|h
    ·cases h;exact .inr (by simp)
    ·exact .inl h
   ·right
    rw[List.lookup_cons]
    cases y==n<;>simp[h]
  ·rename_i hk
   refine z acc y ?_
   rcases h with h|h
   ·rcases List.mem_cons.mp h with h|h
    ·cases h;exact(hk rfl).elim
    ·exact .inl h
   ·exact .inr h
theorem D5{env:Env}:∀(d:Nms)(acc:List (Str×Addr))(y:Str)(c:Addr),(mE env d acc).lookup y=some c->(y,NameKind.free)∈d\/acc.lookup y=some c:=by
 intro H
 induction H with
 |nil=>
  rintro _ _ _ h
  exact .inr h
 |cons z r F=>
  obtain⟨n,k⟩:=z
  rintro acc y c h
  rw[uA]at h
  split at h
  ·rename_i hk
   rcases F _ y c h with h|h
   ·exact .inl (.tail _ h)
   ·rw[List.lookup_cons]at h
    cases q:y==n with
    |true=>obtain rfl:=eq_of_beq q;rw[eq_of_beq hk];exact .inl (.head _)
    |false=>rw[q]at h;exact .inr h
  ·exact(F acc y c h).imp (.tail _) id
theorem rd{q:Scope}{env:Env}(h:∀x∈q.names,x.2=.free->∃c,env.cells.lookup x.1=some c):closureFor q env=pure (mE env q.names []):=by
 haveI z:∀(d:Nms) (acc:List (Str×Addr)),(∀x∈d,x.2=.free->∃c,env.cells.lookup x.1=some c)->
   (forIn d acc fun(x:Str×NameKind) J=>if x.2==.free then(do let c<-cellOf env x.1;pure (ForInStep.yield ((x.1,c)::J)))else pure (ForInStep.yield J):Sem (List (Str×Addr)))=pure (mE env d acc):=by
  intro d
  induction d with
  |nil=>intro acc _;rfl
  |cons x r H=>
   intro acc h
   obtain⟨n,k⟩:=x
   rw[List.forIn_cons]
   rw[uA]
   try dsimp only
   by_cases y:k==.free
   ·rw[if_pos y,if_pos y]
    refine(h (n,k) (.head _) (eq_of_beq y)).elim fun c F=>?_
    dsimp only at F
    haveI:cellOf env n=pure c:=by unfold cellOf;rw[F]
    rw[this,F]
    simp only[pure_bind,Option.getD_some]
    exact H _ fun x hx=>h x (.tail _ hx)
   ·rw[if_neg y,if_neg y]
    simp only[pure_bind]
    exact H _ fun x hx=>h x (.tail _ hx)
 haveI:=z q.names [] h
 unfold closureFor
 simp only[bind_pure]
 exact this
theorem dP:∀(d:Nms)(m:Nat)(acc:List (Str×Addr)),cellsFrom m d acc=cellsFrom m d []++acc:=by
 intro z
 induction z with
 |nil=>
  rintro _ _
  exact rfl
 |cons q r y=>
  obtain⟨n,k⟩:=q
  rintro m acc
  unfold cellsFrom
  split
  ·rw[y (m+1) ((n,m)::acc),y (m+1) [(n,m)],List.append_assoc];rfl
  ·exact y m acc
theorem fJ{α:Type}:∀(l d:List (Str×α))(y:Str),(l++d).lookup y=(l.lookup y).or (d.lookup y):=by
 intro z
 induction z with
 |nil=>
  rintro _ _
  exact rfl
 |cons q r F=>
  obtain⟨n,v⟩:=q
  rintro d y
  rw[List.cons_append,List.lookup_cons,List.lookup_cons]
  cases y==n
  ·exact F d y
  ·rfl
theorem kC:∀(d:Nms)(m:Nat)(y:Str)(c:Addr),(y,c)∈cellsFrom m d []->(y,NameKind.cell)∈d:=by
 intro F
 induction F with
 |nil=>
  rintro _ _ _ h
  exact(List.not_mem_nil h).elim
 |cons q r z=>
  obtain⟨n,k⟩:=q
  rintro m y c h
  unfold cellsFrom at h
  split at h
  ·rename_i hk
   rw[dP]at h
   rcases List.mem_append.mp h with h|h
   ·exact .tail _ (z _ y c h)
   ·rw[List.mem_singleton]at h
    cases h
    rw[eq_of_beq hk];exact .head _
  ·exact .tail _ (z _ y c h)
theorem hY:∀(d:Nms)(m:Nat)(y:Str),(y,NameKind.cell)∈d->∃c,(cellsFrom m d []).lookup y=some c:=by
 intro F
 induction F with
 |nil=>
  rintro _ _ h
  exact(List.not_mem_nil h).elim
 |cons q r z=>
  obtain⟨n,k⟩:=q
  rintro m y h
  unfold cellsFrom
  split
  ·rename_i hk
   rw[dP,fJ]
   rcases List.mem_cons.mp h with h|h
   ·cases h
    cases (cellsFrom (m+1) r []).lookup n with
    |some c=>exact⟨c,rfl⟩
    |none=>exact⟨m,by simp⟩
   ·refine(z (m+1) y h).elim fun c H=>?_
    exact⟨c,by rw[H];rfl⟩
  ·rename_i hk
   rcases List.mem_cons.mp h with h|h
   ·cases h;exact(hk rfl).elim
   ·exact z m y h
theorem oz{M:Model}{A:Around}{E:Value->Shared->Prop}{s:Shared}{q:Scope}{r:Addr}{cl:List (Str×Addr)}{z:Str}{F:Option Addr}{H:Value}{d:Addr}{y:Env}{Q:Env->Shared->Prop}
  (h:Q (newEnv q s.heap.objs.size r (cellsFrom (s.heap.objs.size+1) q.names cl) z F H (some y) d) {s with heap:=pushCells (s.heap.push {cls:=.type "dict",data:=.dict #[]}) q.names}):
  wpAny M A (newFunctionEnv q r cl [] z F H (some y) d) Q E s:=by
 simp only[newFunctionEnv,Option.isSome_some,if_true]
 refine wpAny_bind (wpAny_alloc ?_)
 refine wpAny_bind (wpAny_layCells _ (fun O J L=>by cases J==NameKind.cell<;>simp) _ _ _ _ ?_)
 rw[show({s with heap:=s.heap.push {cls:=.type "dict",data:=.dict #[]}}:Shared).heap.objs.size=s.heap.objs.size+1 from Heap.size_push ..]
 refine wpAny_bind ?_
 rw[List.forIn_nil]
 exact wpAny_pure (wpAny_pure h)
theorem CG{d:Scope}{env:Env}(q:env.scope.kind=.function):(relabel d env).names=rel d.names env.scope.names:=by
 unfold relabel rel
 simp only[q,beq_self_eq_true,Bool.and_true]
 rfl
theorem xF{d:Nms}:∀(cs:Nms)(y:Str),(rel cs d).lookup y=(cs.lookup y).map fun k=>if(k==.free&&d.lookup y==some .cell)then .cell else k:=by
 intro F
 induction F with
 |nil=>
  rintro _
  exact rfl
 |cons z r H=>
  obtain⟨n,k⟩:=z
  rintro y
  have e:rel ((n,k)::r) d=(n,if(k==.free&&d.lookup n==some .cell)then .cell else k)::rel r d:=by
   unfold rel
   rw[List.map_cons]
   congr 1
   show(if(k==NameKind.free&&List.lookup n d==some .cell)=true then(n,NameKind.cell)else(n,k))=_
   by_cases c:(k==NameKind.free&&List.lookup n d==some .cell)=true
   ·rw[if_pos c,if_pos c]
   ·rw[if_neg c,if_neg c]
  rw[e,List.lookup_cons,List.lookup_cons]
  cases q:y==n with
  |true=>obtain rfl:=eq_of_beq q;rfl
  |false=>exact H y
theorem dx{α:Type}:∀{l:List (Str×α)}{y:Str}{k:α},l.lookup y=some k->(y,k)∈l:=fun h=>PySem.mem_of_lookup h
theorem dX{sc:Scope}:∀(F:Nm)(y:Str)(j:Nat),(gF sc F).lookup y=some j->F.lookup y=some j/\sc.names.lookup y=some .free:=by
 intro J
 induction J with
 |nil=>
  rintro _ _ h
  exact(nos h).elim
 |cons d r z=>
  obtain⟨n,k⟩:=d
  rintro y j h
  unfold gF at h
  rw[List.filter_cons]at h
  split at h
  ·rename_i hf
   rw[List.lookup_cons]at h⊢
   cases q:y==n with
   |true=>rw[q]at h;obtain rfl:=eq_of_beq q;exact⟨h,eq_of_beq hf⟩
   |false=>rw[q]at h;exact z y j h
  ·rename_i hf
   haveI L:=(z y j h).1;haveI H:=(z y j h).2
   refine⟨?_,H⟩
   rw[List.lookup_cons]
   cases q:y==n with
   |true=>obtain rfl:=eq_of_beq q;rw[H]at hf;exact(hf rfl).elim
   |false=>exact L
noncomputable def bW(scope:Scope)(L:Addr)(env:Env):Env:=
 {newEnv scope L env.globals (cellsFrom (L+1) scope.names (mE env scope.names [])) env.qual none .none (some env) builtinsNs with scope:=relabel scope env}
structure CompOk(nms:Nms)(sc:Scope):Prop where
 kind:sc.kind=.function
 once:∀x∈sc.names,sc.names.lookup x.1=some x.2
 free:∀x∈sc.names,x.2=.free->nms.lookup x.1=some .cell
theorem CompOk.of{d:Nms}{sc:Scope}(h:uy d sc=true):CompOk d sc:=by
 refine aK h fun h0 r=>aK h0 fun z y=>?_
 refine⟨eq_of_beq z,fun x hx=>eq_of_beq (List.all_eq_true.mp y x hx),fun x hx q=>?_⟩
 obtain⟨a,k⟩:=x
 obtain rfl:k=.free:=q
 exact eq_of_beq (List.all_eq_true.mp r (a,.free) hx)
section
variable{w:World}{h0:Heap}{env:Env}{nm:Nm}{ρ:aE}{fp:Nat->List Addr}{W:Wd}{H:List T}{s:Shared}{scope:Scope}
theorem wg{h:Heap}{a:Addr}(l:h.objs.size<=a):h.get? a=none:=by
 cases e:h.get? a with
 |none=>rfl
 |some o=>exact absurd (Heap.lt_size e) (Nat.not_lt.mpr l)
theorem k9(ok:CompOk env.scope.names scope)(L:Addr){y:Str}{c:Addr}(J:s.heap.objs.size=L)(F:∀x,env.kindOf x=some .cell->∃c,env.cells.lookup x=some c)(e:(bW scope L env).cells.lookup y=some c):
  ((y,NameKind.cell)∈scope.names/\s.heap.get? c=none/\c≠L/\(pushCells (s.heap.push {cls:=.type "dict",data:=.dict #[]}) scope.names).IsCell c none/\(y,c)∈cellsFrom (L+1) scope.names [])\/
   (env.cells.lookup y=some c/\(y,NameKind.free)∈scope.names):=by
 subst J
 haveI z:(cellsFrom (s.heap.objs.size+1) scope.names (mE env scope.names [])).lookup y=some c:=e
 rw[dP,fJ]at z
 haveI d:=cellsFrom_ok scope.names (s.heap.push {cls:=.type "dict",data:=.dict #[]}) (s.heap.objs.size+1) [] ⟨fun _ _ r=>((List.not_mem_nil r).elim),List.Pairwise.nil⟩ (by rw[Heap.size_push];exact Nat.le_refl _)
 rw[Heap.size_push]at d
 cases q:(cellsFrom (s.heap.objs.size+1) scope.names []).lookup y with
 |some Y=>
  rw[q]at z
  cases z
  haveI r:=dx q
  haveI a:=(d.empty y c r).1;haveI b:=(d.empty y c r).2
  exact .inl ⟨kC _ _ _ _ r,wg (Nat.le_of_succ_le b),Nat.ne_of_gt b,a,r⟩
 |none=>
  rw[q]at z
  refine .inr ⟨wF scope.names [] (fun x hx O=>F x.1 (ok.free x hx O)) (fun _ _ h=>(nos h).elim) y c z,(D5 scope.names [] y c z).elim id fun h=>(nos h).elim⟩
theorem nY(d:env.scope.kind=.function)(L:Addr)(y:Str):(bW scope L env).kindOf y=(scope.names.lookup y).map fun k=>if(k==.free&&env.scope.names.lookup y==some .cell)then .cell else k:=by
 show(relabel scope env).names.lookup y=_
 rw[CG d,xF]
theorem Vst.comp(S:Vst w env nm ρ fp W s.heap)(F:Fit w h0 W H s.heap)(hk:env.scope.kind=.function)(ok:CompOk env.scope.names scope):
  Vst w (bW scope s.heap.objs.size env) (gF scope nm) ρ fp W (pushCells (s.heap.push {cls:=.type "dict",data:=.dict #[]}) scope.names):=by
 have kp:∀a o,s.heap.get? a=some o->(pushCells (s.heap.push {cls:=.type "dict",data:=.dict #[]}) scope.names).get? a=some o:=fun a o e=>pushCells_keeps _ _ a o (Heap.get?_push_of_some _ e)
 have cc:=fun y c=> @k9 env s scope ok s.heap.objs.size y c rfl S.dom
 haveI ac:=cellsFrom_ok scope.names (s.heap.push {cls:=.type "dict",data:=.dict #[]}) (s.heap.objs.size+1) [] ⟨fun _ _ Y=>(nomatch Y),List.Pairwise.nil⟩ (by rw[Heap.size_push];exact Nat.le_refl _)
 rw[Heap.size_push]at ac
 have fr:∀y j,(gF scope nm).lookup y=some j->nm.lookup y=some j/\(y,NameKind.free)∈scope.names/\¬(y,NameKind.cell)∈scope.names/\env.scope.names.lookup y=some .cell/\(bW scope s.heap.objs.size env).kindOf y=some .cell:=fun y j e=>by
  refine(dX nm y j e).elim fun d L=>?_
  haveI Y:=dx L
  haveI Z:=ok.free _ Y rfl
  refine⟨d,Y,fun aa=>?_,Z,?_⟩
  ·have:=ok.once _ aa
   dsimp only at this
   rw[L]at this;exact nomatch this
  ·rw[nY hk,L,Z];rfl
 refine⟨⟨_,(Heap.Ns.new s.heap (.type "dict")).keeps (pushCells_keeps _ _)⟩,F.not_has aX,fun y c e=>?_,fun x y c e1 e2=>?_,fun y hy=>?_,fun y j e=>?_,fun y j a e ha=>?_,fun x y i j a e1 e2 d L=>?_,fun x y i e1 e2=>?_⟩
 ·rcases cc y c e with⟨_,d,_,h3,_⟩|⟨d,_⟩
  ·exact⟨⟨_,h3⟩,F.not_has d⟩
  ·haveI r:=S.cell y c d;refine xEE r.1 fun v o ad=>?_;haveI J:=ad.1;haveI hd:=ad.2;haveI n:=r.2
   exact⟨⟨v,o,kp _ _ J,hd⟩,n⟩
 ·rcases cc x c e1 with⟨_,d,_,_,m1⟩|⟨d,_⟩<;>rcases cc y c e2 with⟨_,L,_,_,m2⟩|⟨L,_⟩
  ·exact name_of_addr ac.apart m1 m2
  ·refine xA (S.cell y c L) fun O n=>?_;refine m8 O fun v o J hd=>?_
   rw[d]at J;cases J
  ·refine xA (S.cell x c d) fun O n=>?_;refine m8 O fun v o J hd=>?_
   rw[L]at J;exact nomatch J
  ·exact S.cinj x y c d L
 ·rw[nY hk]at hy
  refine xEA (Option.map_eq_some_iff.mp hy) fun k d L=>?_
  show∃c,(cellsFrom (s.heap.objs.size+1) scope.names (mE env scope.names [])).lookup y=some c
  rw[dP,fJ]
  haveI Y:=dx d
  cases q:(cellsFrom (s.heap.objs.size+1) scope.names []).lookup y with
  |some c=>exact⟨c,rfl⟩
  |none=>
   by_cases c:(k==.free&&env.scope.names.lookup y==some .cell)=true
   ·haveI c1:=(Bool.and_eq_true_iff.mp c).1;haveI c2:=(Bool.and_eq_true_iff.mp c).2
    obtain rfl:=eq_of_beq c1
    obtain⟨c,Z⟩:=Option.isSome_iff_exists.mp (wG (env:=env) scope.names [] y (.inl Y))
    exact⟨c,Z⟩
   ·rw[if_neg c]at L
    subst L
    obtain⟨c,Z⟩:=hY scope.names (s.heap.objs.size+1) y Y
    rw[q]at Z;exact nomatch Z
 ·refine BM (fr y j e) fun d Y hn Z ab=>?_
  refine⟨.inr ab,?_⟩
  rcases(S.slot y j d).2 with b|⟨v,c,o⟩
  ·exact .inl b
  ·refine .inr ⟨v,.inr ⟨ab,?_⟩,o.frame (.refl W) fun a _ o e=>kp a o e⟩
   rcases c with⟨c,_⟩|⟨_,c,hl,hv⟩
   ·have c':env.scope.names.lookup y=some .local:=c
    rw[Z]at c';exact absurd c' nofun
   ·refine⟨c,?_,hv.keeps kp⟩
    refine(Option.isSome_iff_exists.mp (wG (env:=env) scope.names [] y (.inl Y))).elim fun c' aa=>?_
    show(cellsFrom (s.heap.objs.size+1) scope.names (mE env scope.names [])).lookup y=some c
    rw[dP,fJ]
    cases q:(cellsFrom (s.heap.objs.size+1) scope.names []).lookup y with
    |some ae=>exact(hn (kC _ _ _ _ (dx q))).elim
    |none=>
     have:=wF scope.names [] (fun x hx hf=>S.dom x.1 (ok.free x hx hf)) (fun _ _ h=>(nos h).elim) y c' aa
     rw[hl]at this;rw[Option.some.inj this]
     exact aa
 ·refine BM (fr y j e) fun d Y hn Z ab=>?_
  haveI r:=S.fpW y j a d ha;haveI n:=r.1;refine xE r.2.1 fun o J=>?_;haveI b1:=r.2.2.1;haveI b2:=r.2.2.2
  refine⟨n,⟨o,kp _ _ J⟩,fun q=>?_,fun z c hz=>?_⟩
  ·haveI:a=s.heap.objs.size:=q
   rw[this,aX]at J;exact nomatch J
  ·rcases cc z c hz with⟨_,d,_⟩|⟨d,_⟩
   ·rintro rfl
    rw[d]at J;exact nomatch J
   ·exact b2 z c d
 ·exact S.fpD x y i j a (fr x i e1).1 (fr y j e2).1 d L
 ·exact S.inj x y i (fr x i e1).1 (fr y i e2).1
theorem Vst.addSlot{h:Heap}{x:Str}{i:Nat}(S:Vst w env nm ρ fp W h)(hx:env.kindOf x=some .local\/env.kindOf x=some .cell)(nx:nm.lookup x=none)(ni:∀y j,nm.lookup y=some j->j≠i):
  Vst w env ((x,i)::nm) (upd ρ i .unset) (cK fp i []) W h:=by
 have cU:∀y j,((x,i)::nm:Nm).lookup y=some j->(y=x/\j=i)\/(y≠x/\nm.lookup y=some j/\j≠i):=fun y j e=>by
  rw[List.lookup_cons]at e
  cases q:y==x with
  |true=>rw[q]at e;rw[Option.some.inj e];exact .inl ⟨eq_of_beq q,rfl⟩
  |false=>rw[q]at e;exact .inr ⟨by simpa using q,e,ni y j e⟩
 have f1:∀j,j≠i->cK fp i [] j=fp j:=fun j h=>if_neg h
 refine⟨S.ns,S.nsW,S.cell,S.cinj,S.dom,fun y j e=>?_,fun y j a e Z=>?_,fun y z Y O a r d J F=>?_,fun y z j r d=>?_⟩
 ·rcases cU y j e with⟨rfl,rfl⟩|⟨_,e,L⟩
  ·exact⟨hx,.inl ⟨i7 _ _ _,if_pos rfl⟩⟩
  ·rw[f1 j L,show upd ρ i .unset j=ρ j from lw _ _ _ _ L];exact S.slot y j e
 ·rcases cU y j e with⟨rfl,rfl⟩|⟨_,e,L⟩
  ·rw[show cK fp j [] j=[]from if_pos rfl]at Z;exact(List.not_mem_nil Z).elim
  ·rw[f1 j L]at Z;exact S.fpW y j a e Z
 ·rcases cU y Y r with⟨rfl,rfl⟩|⟨_,r,n1⟩
  ·rw[show cK fp Y [] Y=[]from if_pos rfl]at J;exact(List.not_mem_nil J).elim
  ·rcases cU z O d with⟨rfl,rfl⟩|⟨_,d,n2⟩
   ·rw[show cK fp O [] O=[]from if_pos rfl]at F;exact(List.not_mem_nil F).elim
   ·rw[f1 _ n1]at J;rw[f1 _ n2]at F;exact S.fpD y z Y O a r d J F
 ·rcases cU y j r with⟨rfl,J⟩|⟨_,r,n1⟩<;>rcases cU z j d with⟨rfl,F⟩|⟨_,d,n2⟩
  ·rfl
  ·exact(n2 J).elim
  ·exact(n1 F).elim
  ·exact S.inj y z j r d
theorem nB{x:Str}(h:scope.names.lookup x≠some .free):(gF scope nm).lookup x=none:=by
 cases q:(gF scope nm).lookup x with
 |none=>rfl
 |some j=>exact(h (dX nm x j q).2).elim
theorem f8{i:Nat}(h:eU nm i=true){y:Str}{j:Nat}(e:nm.lookup y=some j):j≠i:=by
 haveI:=List.all_eq_true.mp h _ (dx e)
 simpa using this
theorem ng{x:Str}(h:lz scope x=true):(scope.names.lookup x=some .local\/scope.names.lookup x=some .cell)/\(x==("__debug__" :Str))=false:=by
 unfold lz at h
 simp only[Bool.and_eq_true,Bool.or_eq_true,beq_iff_eq,Bool.not_eq_true']at h
 exact h
theorem pR{x:Str}(d:env.scope.kind=.function)(L:Addr)(h:scope.names.lookup x=some .local\/scope.names.lookup x=some .cell):(bW scope L env).kindOf x=some .local\/(bW scope L env).kindOf x=some .cell:=by
 rw[nY d]
 rcases h with h|h
 ·left;rw[h];rfl
 ·right;rw[h];rfl
end
@[reducible]noncomputable def GX(env:Env):Expr->Bool->Sem (ForInStep Bool):=fun c r=>if r=true then do let ok<-isTrue c env (eval c env);pure (ForInStep.yield ok)else pure (ForInStep.yield r)
theorem u0{M:Model}{A:Around}{E:Value->Shared->Prop}{Q:Bool->Shared->Prop}{s:Shared}{env:Env}(h:Q false s):∀d:List Expr,wpAny M A (forIn d false (GX env)) Q E s:=by
 intro q
 induction q with
 |nil=>
  rw[List.forIn_nil];exact wpAny_pure h
 |cons c r y=>
  rw[List.forIn_cons]
  refine wpAny_bind ?_
  show wpAny M A (if false=true then _ else _) _ _ s
  rw[if_neg Bool.false_ne_true]
  exact wpAny_pure (y)
noncomputable def cpF(C:Nat->List T->M LV)(ρ:aE)(i:Nat)(cs:List X)(e:X):T->M (Option T):=fun t=>bnd (evC C (upd ρ i (.fr t)) cs) fun ok=>match ok with|true=>bnd (evX C (upd ρ i (.fr t)) e) fun v=>pur (some v)|false=>pur .none
section
variable{w:World}{h0:Heap}{C:Nat->List T->M LV}{n:Nat}
theorem B6{E:Value->Shared->Prop}:∀{cs:List X}{y:List Expr}{A:Around}{env:Env}{O:Nm}{ρ:aE}{fp:Nat->List Addr}{W:Wd}{H H':List T}{s:Shared}{b:Bool}(J:∀c∈cs,bH c=true->SB w h0 C n c),
  mXs env.scope.names O cs y=true->cs.all bH=true->Cx n A env->Vst w env O ρ fp W s.heap->Fit w h0 W H s.heap->evC C ρ cs H=some (b,H')->wpAny (model pw w) A (forIn y true (GX env)) (Tst w h0 W s H' b) E s:=by
 intro m_
 induction m_ with
 |nil=>
  rintro y A env O ρ fp W H H' s b J hm ht cx S F he
  refine dy hm ?_
  refine aM he ?_
  rw[List.forIn_nil]
  exact wpAny_pure ⟨W,.refl W s,F,rfl⟩
 |cons c cs ih=>
  rintro y A env O ρ fp W H H' s b J hm ht cx S F he
  cases y with
  |nil=>exact(aH hm).elim
  |cons e es=>
  refine aK hm fun m1 m2=>?_
  refine aK ht fun t1 t2=>?_
  refine aB he fun t H1 e1 he=>?_
  refine aN he fun q eq aa=>?_
  obtain rfl:=li eq
  rw[List.forIn_cons]
  refine wpAny_bind ?_
  show wpAny (model pw w) A (if true=true then _ else _) _ _ s
  rw[if_pos rfl]
  refine wpAny_bind (wpAny_mono (J c (.head _) t1 e A env O ρ fp W H s q H1 m1 cx S F e1) (fun r ad Z=>?_) fun _ _ z=>z.elim)
  obtain⟨ab,d,L,rfl⟩:=Z
  refine wpAny_pure ?_
  cases r
  ·refine aM aa ?_
   exact u0 ⟨ab,d,L,rfl⟩ es
  ·exact wpAny_mono (ih (fun c hc=>J c (.tail _ hc)) m2 t2 cx (S.stp d) L aa) (fun r ac Y=>Y.after d) fun _ _ z=>z
theorem dJ{W d:Wd}{H:List T}{s s':Shared}{a:Addr}{h':Heap}{tk:Nat}(y:∀a o,h0.get? a=some o->s.heap.get? a=some o)(x:Stp W s d s')(F:Fit w h0 d H s'.heap)(n:s.heap.get? a=none)(r:¬d.has a)
  (k:∀b o,b≠a->s'.heap.get? b=some o->h'.get? b=some o):Stp W s d {s' with heap:=h',toks:=tk}/\Fit w h0 d H h':=
 ⟨x.write (P:=fun b=>b=a) k fun b e=>e▸n,F.write (P:=fun b=>b=a) k (fun b e=>e▸r) fun b e=>by
  subst e
  cases q:h0.get? b with
  |none=>rfl
  |some o=>exact absurd ((y b o q).symm.trans n) nofun⟩
theorem tf{ρ:aE}{i:Nat}{u v:LV}:upd (upd ρ i u) i v=upd ρ i v:=by
 funext j
 simp only[pQ]
 split<;>rfl
theorem Ah{d:Nat->List Addr}{i:Nat}{f g:List Addr}:cK (cK d i f) i g=cK d i g:=by
 funext j
 unfold cK
 split<;>rfl
inductive KS (w:World) (h0:Heap) (W:Wd) (s:Shared) (env:Env) (nm:Nm) (ρ:aE) (i:Nat) (fp:Nat->List Addr) (W2:Wd) (St:Nat->Heap->Prop) (D I:Addr) (f:T->M (Option T)) (ts rs H':List T) (k:Nat) (s':Shared):Prop
 |mk (j:Nat) (W':Wd) (H1:List T) (ys:Array Value) (rs0:List T) (lv0:LV) (hk:k=ts.length-j) (hj:j<=ts.length) (x:Stp W s W' s') (F:Fit w h0 W' H1 s'.heap) (V:Vst w env nm (upd ρ i lv0) fp W' s'.heap) (le:W2.Le W') (st:St j s'.heap)
   (pl:s'.heap.PlainList D ys) (rr:Reps w W' rs0 ys.toList) (hys:ys.size<=j) (nD:¬W'.has D) (nI:¬W'.has I) (aI:∃o,s'.heap.get? I=some o) (rs1:List T) (hev:gI f (ts.drop j) H1=some (rs1,H')) (hrs:rs=rs0++rs1):
   KS w h0 W s env nm ρ i fp W2 St D I f ts rs H' k s'
theorem DS{α:Type}{ts:List α}{j:Nat}(h:j<ts.length):∃t,ts[j]? =some t/\ts.drop j=t::ts.drop (j+1):=⟨ts[j],List.getElem?_eq_getElem h,List.drop_eq_getElem_cons h⟩
theorem dF{h:Heap}{a b:Addr}{o:Obj}(n:h.get? a=none)(e:h.get? b=some o):a≠b:=fun q=>nomatch (q▸n).symm.trans e
theorem pC{a j:Nat}(h:j<a):a-(j+1)<a-j:=Nat.sub_lt_sub_left h (Nat.lt_succ_self j)
theorem E7{a j n:Nat}(h:a<=j)(q:j<n)(d:n<=3000):a<=sizeLine:=by rw[sizeLine_eq];exact tnn (tln (ltn h q) d) rfl
theorem nZ{it:It}{cs:List X}{e:X}(hit:SI w h0 C n it)(dm:∀c∈cs,bH c=true->SB w h0 C n c)(dl:SX w h0 C n e)
  {g bd:Expr} {x:Str} {px pos co:Pos} {bj:List Expr} {sc:Scope} {i:Nat} {use:Option (Value->Sem Unit)} {Q:Value->Shared->Prop} {A:Around} {env:Env} {nm:Nm} {ρ:aE} {fp:Nat->List Addr} {W:Wd} {H H' rs:List T} {s:Shared}
  (pg:aV g=true) (mg:mI env.scope.names nm it g=true) (ok:CompOk env.scope.names sc) (ht:lz sc x=true) (hf:eU nm i=true) (df:cs.all bH=true)
  (mc:mXs (rel sc.names env.scope.names) ((x,i)::gF sc nm) cs bj=true) (me:mX (rel sc.names env.scope.names) ((x,i)::gF sc nm) e bd=true) (cx:Cx n A env) (S:Vst w env nm ρ fp W s.heap) (F:Fit w h0 W H s.heap)
  (he:bnd (evI C ρ it) (fun ts=>gI (cpF C ρ i cs e) ts) H=some (rs,H'))
  (hQ:∀D L W' s' ys m,Stp W s W' s'->Fit w h0 W' H' s'.heap->s'.heap.PlainList D ys->Reps w W' rs ys.toList->¬W'.has D->s.heap.get? D=none->s.heap.get? L=none->¬W'.has L->L≠D->s'.heap.Ns L m->
   compPost (model pw w) A Nev use Q (.ref D) L (.ok .next) s'):
  wpAny (model pw w) A (comprehension (.ListComp bd [⟨.Name x px,g,bj,0⟩] sc pos) sc env co (newList []) false (eval g env) use) Q Nev s:=by
 refine aB he fun ts bq e1 he=>?_
 refine wpAny_comprehension_free rfl (f5 pg) (rd fun y hy b8=>S.dom y.1 (ok.free y hy b8)) ok.kind (fun y hy hl=>hl▸ok.once y hy)
  (wpAny_mono (hit g A env nm ρ fp W H s ts bq mg cx S F e1) (fun xv dr h₁=>wpAny_mono h₁ (fun ds aa h2=>?_) fun _ _ z=>z) fun _ _ z=>z)
 obtain⟨c3,W2,a7,br,⟨I,fI,nI,P,St,rfl,ad,rfl,av,c4,hI,da,dg⟩,dn⟩:=h2
 haveI sI:s.heap.get? I=none:=dn I rfl
 refine xEA (da _ _ av) fun oI aI _=>?_
 refine wpAny_newObj_type (oz ?_)
 haveI cw:∀(J:Shared) (D:Addr),Stp W2 aa W2 J->(∀a o,aa.heap.get? a=some o->J.heap.get? a=some o)->J.heap.PlainList D #[]->aa.heap.get? D=none->
   codeAny (model pw w) A (.compStart (.ListComp bd [⟨.Name x px,g,bj,0⟩] sc pos) 0 (.ref I) (.ref D) (bW sc J.heap.objs.size env)) (compPost (model pw w) A Nev use Q (.ref D) J.heap.objs.size)
    {J with heap:=pushCells (J.heap.push {cls:=.type "dict",data:=.dict #[]}) sc.names}:=by
  intro J D bl ag ba ay
  have a5:=br.keep ag
  haveI dd:=(S.stp a7).stp bl
  have nD:¬W2.has D:=br.not_has ay
  have sD:s.heap.get? D=none:=cB a7 ay nD
  have aD:∃o,J.heap.get? D=some o:=ba.elim fun k e=>⟨_,e⟩
  haveI ai:J.heap.get? J.heap.objs.size=none:=aX
  have ac:=a7.trans bl
  have sL:s.heap.get? J.heap.objs.size=none:=cB ac ai (a5.not_has ai)
  generalize hL:J.heap.objs.size=L at *
  have ab:∀a o,J.heap.get? a=some o->(pushCells (J.heap.push {cls:=.type "dict",data:=.dict #[]}) sc.names).get? a=some o:=fun a o e=>pushCells_keeps _ _ a o (Heap.get?_push_of_some _ e)
  have cc:=fun y c=> @k9 env J sc ok L y c hL S.dom
  haveI c2:=(ng ht).1;haveI dv:=(ng ht).2
  have c0:sc.names.lookup x≠some .free:=fun q=>by rcases c2 with h|h<;>rw[q]at h<;>exact nomatch h
  have dc:Vst w (bW sc L env) ((x,i)::gF sc nm) (upd ρ i .unset) (cK fp i []) W2 (pushCells (J.heap.push {cls:=.type "dict",data:=.dict #[]}) sc.names):=
   Vst.addSlot (hL▸dd.comp a5 cx.kind ok) (pR cx.kind L c2) (nB c0) fun y j hy=>f8 hf (dX nm y j hy).1
  have Z:∀a,iA (bW sc L env) ((x,i)::gF sc nm) (cK fp i []) a->a≠I/\a≠D:=by
   have cr:∀a,J.heap.get? a=none->a≠I/\a≠D:=fun a q=>⟨dF q (ag _ _ aI),aD.elim fun _ h=>dF q h⟩
   have ct:∀a o,s.heap.get? a=some o->a≠I/\a≠D:=fun a o q=>⟨(dF sI q).symm,(dF sD q).symm⟩
   rintro a (rfl|⟨y,hy⟩|⟨y,j,hy,ha⟩)
   ·exact cr _ ai
   ·rcases cc y a hy with⟨_,q,_⟩|⟨q,_⟩
    ·exact cr _ q
    ·haveI al:=S.cell y a q;refine m8 al.1 fun v o ho _=>?_
     exact ct _ _ ho
   ·rw[List.lookup_cons]at hy
    cases q:y==x with
    |true=>rw[q]at hy;obtain rfl:=Option.some.inj hy;rw[show cK fp i [] i=[]from if_pos rfl]at ha;exact(List.not_mem_nil ha).elim
    |false=>
     rw[q]at hy
     haveI cz:=(dX nm y j hy).1
     rw[show cK fp i [] j=fp j from if_neg (f8 hf cz)]at ha
     haveI al:=S.fpW y j a cz ha;refine xE al.2.1 fun o ho=>?_
     exact ct _ _ ho
  haveI bs:∀c,(bW sc L env).cells.lookup x=some c->s.heap.get? c=none:=fun c hc=>by
   rcases cc x c hc with⟨_,q,_⟩|⟨_,q⟩
   ·exact cB ac q (a5.not_has q)
   ·exact(c0 (ok.once _ q)).elim
  have bi:D≠I:=dF ay aI
  have di:L≠D:=aD.elim fun _ h=>dF ai h
  have c9:Cx n A (bW sc L env):=⟨cx.ao,ok.kind,cx.glob,cx.blt⟩
  have cq:(bW sc L env).scope.names=rel sc.names env.scope.names:=CG cx.kind
  have dk:((x,i)::gF sc nm:Nm).lookup x=some i:=by simp
  have cg:∀{j:Nat} {h h':Heap} {W':Wd} {a:Addr},St j h->W2.Le W'->¬W'.has a->a≠I->(∀b o,b≠a->h.get? b=some o->h'.get? b=some o)->St j h':=fun st le na nI k=>
   ad.frame _ _ _ st fun b hb o e=>k b o (fun q=>by
    rcases c4 b hb with h|h
    ·exact nI (q▸h)
    ·refine xE (Option.isSome_iff_exists.mp h) fun o' b6=>?_
     exact na (.inl (by rw[<-q,le.fz _ _ b6];rfl))) e
  have cf:∀{j:Nat} {s' bw:Shared} {W' db:Wd},St j s'.heap->W2.Le W'->¬W'.has I->Stp W' s' db bw->St j bw.heap:=fun{j s' bw W' db} st le nI x=>
   ad.frame _ _ _ st fun b hb o e=>x.keep b o e fun m=>by
    rcases c4 b hb with h|h
    ·exact nI (h▸ .inr m)
    ·refine xE (Option.isSome_iff_exists.mp h) fun o' b6=>?_
     exact W'.disj b (by rw[le.fz _ _ b6];rfl) m
  haveI bm:codeAny (model pw w) A (.compLoop (.ListComp bd [⟨.Name x px,g,bj,0⟩] sc pos) 0 (.ref I) (.ref D) (bW sc L env)) (compPost (model pw w) A Nev use Q (.ref D) L)
    {J with heap:=pushCells (J.heap.push {cls:=.type "dict",data:=.dict #[]}) sc.names}:=by
   refine codeAny_compLoop_tests (KS w h0 W s (bW sc L env) ((x,i)::gF sc nm) ρ i (cK fp i []) W2 St D I (cpF C ρ i cs e) ts rs H') ?_ ts.length ?_
   ·rintro k s' ⟨j,W',H1,ys,cm,du,rfl,hj,x',F',V',az,ch,cp,rr,b4,b1,aw,dw,dt,ap,bk⟩
    haveI dh:¬W'.has L:=V'.nsW
    by_cases an:j<ts.length
    ·refine ad.item j _ _ _ an ch fun v h₁ ae hP a2 bc=>?_
     have Y:∀b o,b≠I->s'.heap.get? b=some o->h₁.get? b=some o:=fun b o nb e=>bc b o (by simpa using nb) e
     haveI a8:=(dJ (tk:=ae) F.base x' F' sI aw Y).1;haveI bh:=(dJ (tk:=ae) F.base x' F' sI aw Y).2
     haveI bp:=V'.frame (.refl W') (fun a o f e=>Y a o (Z a f).1 e) fun a f=>(V'.foot_ok f).1
     haveI bz:h₁.PlainList D ys:=cp.at fun o e=>Y D o bi e
     haveI ca:∃o,h₁.get? I=some o:=(da _ _ a2).elim fun o h_=>h_.elim fun e _=>⟨o,e⟩
     refine xE (DS an) fun t c7=>?_;haveI dj:=c7.1;haveI hd:=c7.2
     haveI rt:=Rep.mono az _ (dg j v t hP dj)
     refine wpAny_assign_Name (bp.store ok.kind dk (lv:=.fr t) ⟨rt,rfl⟩ NewFp.nil fun h2 bt a ha a1 aq=>?_)
     have fa:iA (bW sc L env) ((x,i)::gF sc nm) (cK fp i []) a:=ha.imp id fun h=>.inl ⟨x,h⟩
     haveI na:s.heap.get? a=none:=by
      rcases ha with rfl|ha
      ·exact sL
      ·exact bs a ha
     have cu:=(bp.foot_ok fa).1
     refine xA (dJ (tk:=bt) F.base a8 bh na cu a1) fun ar cb=>?_
     rw[tf,Ah]at aq
     haveI bv:St (j+1) h2:=cg a2 az cu (Z a fa).1 a1
     have bb:h2.PlainList D ys:=bz.at fun o e=>a1 D o (fun q=>(Z a fa).2 q.symm) e
     have be:∃o,h2.get? I=some o:=ca.elim fun o e=>⟨o,a1 I o (fun q=>(Z a fa).1 q.symm) e⟩
     rw[hd]at ap
     refine aB ap fun r H2 a6 ap=>?_
     refine aB ap fun cj H4 c8 ap=>?_
     haveI al:=Prod.mk.inj (Option.some.inj ap);obtain rfl:=al.1;obtain rfl:=al.2
     refine aB a6 fun q H3 dq a6=>?_
     refine wpAny_mono (B6 dm (cq▸mc) df c9 aq cb dq) (fun b au b3=>?_) fun _ _ z=>z
     obtain⟨a4,d,bg,rfl⟩:=b3
     have aj:¬a4.has I:=be.elim fun o e=>d.fresh_not_has e aw
     have ax:¬a4.has D:=bb.elim fun _ e=>d.fresh_not_has e b1
     have ah:au.heap.PlainList D ys:=bb.at fun o e=>d.keep D o e fun m=>b1 (.inr m)
     have a0:∃o,au.heap.get? I=some o:=be.elim fun o e=>⟨o,d.keep I o e fun m=>aw (.inr m)⟩
     have a9:=cf bv az aw d
     cases b
     ·refine xA (Prod.mk.inj (Option.some.inj a6)) fun c6 c5=>?_;obtain rfl:=c6;obtain rfl:=c5
      rw[if_neg Bool.false_ne_true]
      exact⟨ts.length-(j+1),pC an,j+1,a4,_,ys,cm,_,rfl,an,ar.trans d,bg,aq.stp d,az.trans d.le,a9,ah,Reps.mono d.le _ rr,Nat.le_succ_of_le b4,ax,aj,a0,cj,c8,bk⟩
     ·rw[if_pos rfl]
      refine aB a6 fun u H5 dp a6=>?_
      haveI al:=Prod.mk.inj (Option.some.inj a6);obtain rfl:=al.1;obtain rfl:=al.2
      refine wpAny_mono (dl bd A _ _ _ _ a4 _ au u _ (cq▸me) c9 (aq.stp d) bg dp) (fun y af b2=>?_) fun _ _ z=>z.elim
      obtain⟨a3,O,bf,ci⟩:=b2
      haveI b0:¬a3.has I:=a0.elim fun o e=>O.fresh_not_has e aj
      have ak:¬a3.has D:=ah.elim fun _ e=>O.fresh_not_has e ax
      haveI bx:af.heap.PlainList D ys:=ah.at fun o e=>O.keep D o e fun m=>ax (.inr m)
      haveI b9:∃o,af.heap.get? I=some o:=a0.elim fun o e=>⟨o,O.keep I o e fun m=>aj (.inr m)⟩
      haveI bu:=cf a9 (az.trans d.le) aj O
      have bo:=(aq.stp d).stp O
      refine wpAny_list_append_plain (hsz:=E7 b4 an c3) bx fun cy b7 b5=>?_
      haveI am:∀b o,b≠D->af.heap.get? b=some o->cy.get? b=some o:=fun b o nb e=>b5.extBut b o nb e
      haveI ce:=(dJ (tk:=af.toks) F.base ((ar.trans d).trans O) bf sD ak am).1;haveI de:=(dJ (tk:=af.toks) F.base ((ar.trans d).trans O) bf sD ak am).2
      refine⟨ts.length-(j+1),pC an,j+1,a3,_,ys.push y,cm++[u],_,rfl,an,ce,de,bo.frame (.refl a3) (fun a o f e=>am a o (Z a f).2 e) (fun a f=>(bo.foot_ok f).1),(az.trans d.le).trans O.le,
       cg bu ((az.trans d.le).trans O.le) ak bi am,b7,?_,by rw[Array.size_push];exact Nat.succ_le_succ b4,ak,b0,b9.elim fun o e=>⟨o,am I o (fun q=>bi q.symm) e⟩,cj,c8,by rw[bk,List.append_assoc];rfl⟩
      rw[Array.toList_push]
      exact Reps.append (Reps.mono (d.le.trans O.le) _ rr) (Reps.one ci)
    ·obtain rfl:j=ts.length:=Nat.le_antisymm hj (Nat.not_lt.mp an)
     rw[List.drop_length]at ap
     obtain⟨rfl,rfl⟩:=Prod.mk.inj (Option.some.inj ap)
     rw[List.append_nil]at bk
     subst bk
     refine ad.done _ _ _ ch fun h₁ ae bc=>?_
     have Y:∀b o,b≠I->s'.heap.get? b=some o->h₁.get? b=some o:=fun b o nb e=>bc b o (by simpa using nb) e
     haveI a8:=(dJ (tk:=ae) F.base x' F' sI aw Y).1;haveI bh:=(dJ (tk:=ae) F.base x' F' sI aw Y).2
     refine V'.ns.elim fun m hm=>?_
     exact hQ D L W' _ ys m a8 bh (cp.at fun o e=>Y D o bi e) rr b1 sD sL dh di (hm.at' fun o e=>Y L o (Z L (.inl rfl)).1 e)
   ·exact⟨0,W2,bq,#[],[],.unset,rfl,Nat.zero_le _,ac.trans (Stp.of_keep ab),a5.keep ab,dc,.refl W2,ad.frame _ _ _ av fun b _ o e=>ab _ _ (ag _ _ e),ba.at fun o e=>ab _ _ e,rfl,Nat.le_refl _,nD,hI,
     ⟨_,ab _ _ (ag _ _ aI)⟩,rs,he,rfl⟩
  exact codeAny_compStart_list bm (ad.self 0 _ _ _ (ad.frame _ _ _ av fun b _ o e=>ab _ _ (ag _ _ e)) bm)
 haveI nn:aa.heap.get? aa.heap.objs.size=none:=aX
 haveI kp:∀a o,aa.heap.get? a=some o->(aa.heap.push {cls:=.type "list",data:=.seq ([]:List Value).toArray}).get? a=some o:=fun a o e=>Heap.get?_push_of_some _ e
 exact cw {aa with heap:=aa.heap.push {cls:=.type "list",data:=.seq ([]:List Value).toArray}} aa.heap.objs.size (Stp.of_keep kp) kp ⟨0,Heap.get?_push_size _ rfl⟩ nn
theorem q7{ρ:aE}{i:Nat}{it:It}{cs:List X}{e:X}{H d:List T}{ts:List T}{r:Option (List T×List T)}(y:evI C ρ it H=some (ts,d))(q:gI (cpF C ρ i cs e) ts d=r):bnd (evI C ρ it) (fun ts=>gI (cpF C ρ i cs e) ts) H=r:=by
 unfold bnd
 exact y▸q
theorem oG{W y:Wd}{H' Y:List T}{s s':Shared}{D L:Addr}{H:Array Value}{h':Heap}(b0:∀a o,h0.get? a=some o->s.heap.get? a=some o)(x:Stp W s y s')(F:Fit w h0 y H' s'.heap)(pl:s'.heap.PlainList D H)(rr:Reps w y Y H.toList)
  (J:¬y.has D) (sD:s.heap.get? D=none) (sL:s.heap.get? L=none) (nL:¬y.has L) (ne:L≠D) (k:Heap.SameBut L s'.heap h'):Pst w h0 W s H' (fun O v=>Rep w O (.list Y) v) (.ref D) {s' with heap:=h'}:=by
 haveI r:=dJ (tk:=s'.toks) b0 x F sL nL fun b o nb e=>k.extBut b o nb e;haveI d:=r.1;haveI z:=r.2
 refine xE pl fun Z e=>?_
 haveI e':h'.get? D=some (seqObj "list" H Z):=k.extBut D _ (fun q=>ne q.symm) e
 exact⟨_,d.add J sD,z.add J e',D,H,Z,rfl,Wd.add_at J,Reps.mono (Wd.le_add J) _ rr⟩
theorem H6{i:Nat}{it:It}{cs:List X}{e:X}(hit:SI w h0 C n it)(z:∀c∈cs,bH c=true->SB w h0 C n c)(y:SX w h0 C n e):SX w h0 C n (.comp i it cs e):=by
 intro ex A ac nm ρ fp W H s t H' q cx S F r
 refine yh q fun ad x px g ab sc aa q=>?_
 refine cT q fun q k l m=>?_
 refine e9 q fun a b c d f=>?_
 refine aB r fun ts H1 e1 r=>?_
 refine aB r fun rs H2 e2 r=>?_
 refine aM r ?_
 rw[eval_ListComp]
 exact nZ (use:=none) hit z y a b (.of c) d f k l m cx S F (q7 e1 e2) fun D L W' s' ys m J F' pl Z nD Y O nL ne q=>⟨m,q,fun h' hs=>oG F.base J F' pl Z nD Y O nL ne hs⟩
theorem Cu(B:cR w h0){x:X}(hx:SX w h0 C n x):SX w h0 C n (.listOf x):=by
 intro e A ac nm ρ fp W H s t H' hm Z S F L
 refine iz hm fun f np e ab m0 Y m1=>?_
 refine aB L fun u H1 e1 L=>?_
 refine aN L fun us eu J=>?_
 refine dZ J fun hl z=>?_
 obtain rfl:=eM eu
 refine aM z ?_
 refine iN (id:="list") B Z F m0 (by decide) (aR Y) (zh hx m1 Y Z S F e1 fun v aa r q d y=>?_)
 obtain⟨a,xs,k,rfl,f,O⟩:=y
 refine call_list_seq a (T:="list") (.inl rfl) (d.fz _ _ f) rfl rfl (fun h' c' kp hg=>Pst.after q ?_) (Nat.le_trans (Nat.le_of_eq (Array.length_toList.symm.trans O.length)) (Nat.le_trans (of_decide_eq_true hl) (by decide +kernel)))
 exact Pst.made (tk:=r.toks) d kp aX hg fun W' l hf=>⟨_,xs,c',rfl,hf,Reps.mono l _ O⟩
theorem AB{W:Wd}{a c:Int}{ts:List T}{vs:List Value}(F:vs.length=ts.length)(it:∀(i:Nat)(t:T),ts[i]? =some t->t=T.int (a+i*c))(z:∀(i:Nat)(v:Value),vs[i]? =some v->∃t,v=.int (a+i*c) t):Reps w W ts vs:=by
 haveI d:∀(ts:List T) (vs:List Value),vs.length=ts.length->(∀(i:Nat) (t:T) (v:Value),ts[i]? =some t->vs[i]? =some v->Rep w W t v)->Reps w W ts vs:=by
  intro ts
  induction ts with
  |nil=>intro vs h _;cases vs with
   |nil=>rfl
   |cons=>simp at h
  |cons t ts y=>intro vs h k;cases vs with
   |nil=>simp at h
   |cons v vs=>exact⟨v,vs,rfl,k 0 t v rfl rfl,y vs (by simpa using h) fun i t v r q=>k (i+1) t v (r) (q)⟩
 refine d ts vs F fun i t v r q=>?_
 rw[it i t r]
 exact z i v q
theorem Fc(B:cR w h0){xs:List X}(hx:SXs w h0 C n xs):SX w h0 C n (.listR xs):=by
 intro e A ab nm ρ fp W H s t H' hm cx S F he
 refine iz hm fun f np e ad m0 _ hm=>?_
 refine qQ hm fun g ae es O mg mp m1=>?_
 refine aB he fun ws H1 e1 aa=>?_
 refine bV aa fun q=>?_
 refine eC q fun us q=>?_
 refine iN (id:="list") B cx F m0 (by decide) rfl ?_
 rw[aF rfl]
 haveI nx:=oF e1 (jh q)
 rcases xs with _|⟨x,xs⟩
 ·exact(nx rfl).elim
 rcases es with _|⟨e,es⟩
 ·exact(aH m1).elim
 refine Calls.spliced_cons (iN (id:="range") B cx F mg (by decide) mp (wpAny_mono (hx _ A ab nm ρ fp W H s ws H1 O m1 mp cx S F e1) (fun vs r Y=>?_) fun _ _ z=>z))
 refine el4 Y fun Z L y rs=>?_
 refine qc B y rs q fun a b c t u v tk hr ir=>?_
 haveI d:=nu hr;haveI c0:=d.1;haveI sm:=d.2.1;haveI sz:=d.2.2.1;haveI bd:=d.2.2.2.1;haveI c1:=d.2.2.2.2.1;haveI it:=d.2.2.2.2.2
 refine Calls.spliced_nil ?_
 haveI J:Stp W s Z {r with heap:=r.heap.push {cls:=.type "range",data:=.fields #[Value.int a t,Value.int b u,Value.int c v]},toks:=tk}:=L.trans (Stp.of_keep fun a o e=>Heap.get?_push_of_some _ e)
 refine call_list_range cx.ao.hd ir sm sz (tkn d.2.2.2.1 rfl) fun h' ac acc c' kp hg ha=>Pst.after J ?_
 refine Pst.made (y.keep fun a o e=>Heap.get?_push_of_some _ e) kp aX hg fun W' l hf=>⟨_,acc,c',rfl,hf,AB (ha.1) it fun i v hv=>ha.2 i v (by simpa using hv)⟩
end
end Internal
end
section
open PySem PySem.W PyProof.Rows
namespace Internal
noncomputable def qH(fs:List (Nat×Nat×Bool))(i j:Nat)(b:Bool):Bool:=fs.any fun f=>f.1==i&&f.2.1==j&&f.2.2==b
noncomputable def le1(fs:List (Nat×Nat×Bool))(a b:Nat):Bool:=qH fs a b true||qH fs b a false
noncomputable def leN(fs:List (Nat×Nat×Bool))(n:Nat):Nat->Nat->Nat->Bool
 |0,a,b=>le1 fs a b
 |f+1,a,b=>le1 fs a b||(List.range n).any fun c=>le1 fs a c&&leN fs n f c b
noncomputable def yV(n:Nat):List (Nat×Nat×Bool)->KasT (Array Nat)->Bool
 |fs,.ret p=>p.size==n&&(List.range n).isPerm p.toList&&(List.range (n-1)).all fun k=>leN fs n (n-2) (p.getD k 0) (p.getD (k+1) 0)
 |fs,.ask i j k=>decide (i<n)&&decide (j<n)&&(qH fs i j false||yV n ((i,j,true)::fs) (k true))&&(qH fs i j true||yV n ((i,j,false)::fs) (k false))
theorem Gw:(List.range 7).all (fun n=>decide (n<2)||yV n [] (kas_sort n))=true:=by decide +kernel
end Internal
end
section
set_option tactic.hygienic false
open PySem PySem.W PyProof.Rows
namespace Internal
section
variable{n:Nat}{lt:Nat->Nat->Bool}
def GU(n:Nat)(lt:Nat->Nat->Bool)(fs:List (Nat×Nat×Bool)):Prop:=∀f∈fs,lt f.1 f.2.1=f.2.2/\f.1<n/\f.2.1<n
theorem lZ{fs:List (Nat×Nat×Bool)}(ok:GU n lt fs){i j:Nat}{b:Bool}(h:qH fs i j b=true):lt i j=b/\i<n/\j<n:=by
 refine xEA (List.any_eq_true.mp h) fun f d h=>?_
 simp only[Bool.and_eq_true,beq_iff_eq]at h
 obtain⟨⟨rfl,rfl⟩,rfl⟩:=h
 exact ok f d
theorem yg{fs:List (Nat×Nat×Bool)}(z:∀a b,lt a b=true->lt b a=false)(ok:GU n lt fs){a b:Nat}(h:le1 fs a b=true):lt b a=false/\a<n/\b<n:=by
 rcases Bool.or_eq_true_iff.mp h with h|h
 ·haveI d:=lZ ok h;haveI y:=d.1;haveI r:=d.2.1;haveI q:=d.2.2
  exact⟨z _ _ y,r,q⟩
 ·haveI d:=lZ ok h;haveI y:=d.1;haveI r:=d.2.1;haveI q:=d.2.2
  exact⟨y,q,r⟩
theorem Ir{fs:List (Nat×Nat×Bool)}(r:∀a b,lt a b=true->lt b a=false)(tr:∀a b c,a<n->b<n->c<n->lt b a=false->lt c b=false->lt c a=false)(ok:GU n lt fs):∀(f a b:Nat),leN fs n f a b=true->lt b a=false/\a<n/\b<n:=by
 intro F
 induction F with
 |zero=>
  rintro a b h
  exact yg r ok h
 |succ f H=>
  rintro a b h
  rcases Bool.or_eq_true_iff.mp h with h|h
  ·exact yg r ok h
  ·refine xE (List.any_eq_true.mp h) fun c q=>?_;haveI Z:=q.1;haveI h:=q.2
   refine aK h fun L J=>?_
   haveI d:=yg r ok L;haveI Y:=d.1;haveI z:=d.2.1;haveI W:=d.2.2
   haveI d:=H c b J;haveI O:=d.1;haveI b2:=d.2.1;haveI y:=d.2.2
   exact⟨tr a c b z W y Y O,z,y⟩
theorem Bf{cmp:Nat->Nat->(Bool->Shared->Prop)->Shared->Prop}{Q:Array Nat->Shared->Prop}{s:Shared}(Z:∀a b,lt a b=true->lt b a=false)
  (tr:∀a b c,a<n->b<n->c<n->lt b a=false->lt c b=false->lt c a=false) (O:∀i j,i<n->j<n->∀C:Bool->Shared->Prop,C (lt i j) s->cmp i j C s)
  (W:∀p:Array Nat,p.size=n->(List.range n).Perm p.toList->(∀k,k+1<n->lt (p.getD (k+1) 0) (p.getD k 0)=false)->Q p s):
  ∀(t:KasT (Array Nat)) (fs:List (Nat×Nat×Bool)),yV n fs t=true->GU n lt fs->t.kasWp cmp Q s:=by
 intro t
 induction t with
 |ret p=>
  intro fs h ok
  haveI F:(p.size==n&&(List.range n).isPerm p.toList&&(List.range (n-1)).all fun k=>leN fs n (n-2) (p.getD k 0) (p.getD (k+1) 0))=true:=h
  simp only[Bool.and_eq_true]at F
  refine xA F fun d Y=>?_;refine xA d fun z y=>?_
  exact W p (eq_of_beq z) (List.isPerm_iff.mp y) fun k hk=>(Ir Z tr ok _ _ _ (List.all_eq_true.mp Y k (List.mem_range.mpr (by omega)))).1
 |ask i j k L=>
  intro fs h ok
  haveI F:(decide (i<n)&&decide (j<n)&&(qH fs i j false||yV n ((i,j,true)::fs) (k true))&&(qH fs i j true||yV n ((i,j,false)::fs) (k false)))=true:=h
  simp only[Bool.and_eq_true,decide_eq_true_eq]at F
  refine xA F fun d y=>?_;refine xA d fun d z=>?_;obtain⟨J,H⟩:=d
  refine O i j J H _ ?_
  cases q:lt i j with
  |true=>
   rcases Bool.or_eq_true_iff.mp z with z|z
   ·haveI:=(lZ ok z).1
    rw[q]at this;exact Bool.noConfusion this
   ·exact L true _ z fun f r=>by
     rcases List.mem_cons.mp r with rfl|r
     ·exact⟨q,J,H⟩
     ·exact ok f r
  |false=>
   rcases Bool.or_eq_true_iff.mp y with y|y
   ·have:=(lZ ok y).1
    rw[q]at this;exact Bool.noConfusion this
   ·exact L false _ y fun f r=>by
     rcases List.mem_cons.mp r with rfl|r
     ·exact⟨q,J,H⟩
     ·exact ok f r
theorem Ar{m:Nat}(q:2<=m)(d:m<=6):yV m [] (kas_sort m)=true:=by
 haveI:=List.all_eq_true.mp Gw m (List.mem_range.mpr (tmn d rfl))
 rcases Bool.or_eq_true_iff.mp this with h|h
 ·exact absurd (of_decide_eq_true h) (Nat.not_lt.mpr (q))
 ·exact h
end
theorem Ad{vs:List Value}(h:vs.length<2):(vs.toArray.zip vs.toArray).map (·.2)=((List.range vs.length).map fun i=>vs.getD i Value.none).toArray:=by
 cases vs with
 |nil=>simp
 |cons v vs=>
  cases vs with
  |nil=>simp
  |cons u vs=>exact absurd h (by simp)
section
variable{prog:Program}{w:World}{A:Around}{E:Value->Shared->Prop}{s:Shared}
theorem r0{a:Addr}{vs:List Value}{n:Nat}{P:PySem.Fin->Shared->Prop}{κ:SortKind}{lt:Nat->Nat->Bool}(L:s.heap.get? a=some (seqObj "list" vs.toArray n))(H:vs.length<=6)
  (as:∀a b,lt a b=true->lt b a=false) (tr:∀a b c,a<vs.length->b<vs.length->c<vs.length->lt b a=false->lt c b=false->lt c a=false)
  (y:2<=vs.length->∀s':Shared,(∀b o,b≠a->s.heap.get? b=some o->s'.heap.get? b=some o)->∀Q:SortKind->Shared->Prop,Q κ s'->wpAny (model prog w) A (keyKind' vs.toArray) Q E s')
  (Y:∀s':Shared,(∀b o,b≠a->s.heap.get? b=some o->s'.heap.get? b=some o)->∀i j,i<vs.length->j<vs.length->∀C:Bool->Shared->Prop,C (lt i j) s'->wpAny (model prog w) A (keyLt' κ (vs.getD i .none) (vs.getD j .none)) C (fun _ _=>False) s')
  (h:∀p:List Nat,(List.range vs.length).Perm p->(∀k,k+1<vs.length->lt (p.getD (k+1) 0) (p.getD k 0)=false)->P (.done (.ret .none)) {s with heap:=sortedHeap s.heap a vs (p.map fun i=>vs.getD i .none).toArray}):
  wpAny (model prog w) A (Builtin.«list.sort» ⟨[.ref a],[]⟩) P E s:=by
 rw[list_sort_plain]
 haveI ha:a<s.heap.objs.size:=Heap.lt_size L
 refine wpAny_bind (listItems_at L rfl ?_)
 refine wpAny_bind (listUpdate_at L rfl ?_ (by rw[List.size_toArray,sizeLine_eq];exact tkn H rfl) (Nat.zero_le _))
 obtain⟨O,ho1⟩:∃O,(s.heap.update a (Obj.mapSeq fun _=>(#[]:Array Value))).get? a=some (seqObj "list" #[] O):=⟨_,get?_update_seq L fun _=> #[]⟩
 refine wpAny_bind (seqEpoch_at ho1 rfl ?_)
 refine wpAny_bind (wpAny_newTuple ?_ (by show vs.length<=_;rw[sizeLine_eq];exact tkn H rfl))
 refine wpAny_bind (wpAny_newList ?_ (Nat.zero_le _))
 refine wpAny_holding ?_
 show wpAny (model prog w) A _ P E {s with heap:=((s.heap.update a (Obj.mapSeq fun _=>(#[]:Array Value))).push (seqObj "tuple" vs.toArray 0)).push (seqObj "list" #[] 0)}
 haveI F:(((s.heap.update a (Obj.mapSeq fun _=>(#[]:Array Value))).push (seqObj "tuple" vs.toArray 0)).push (seqObj "list" #[] 0)).get? a=some (seqObj "list" #[] O):=Heap.get?_push_of_some _ (Heap.get?_push_of_some _ ho1)
 have kp:∀b o,b≠a->s.heap.get? b=some o->(((s.heap.update a (Obj.mapSeq fun _=>(#[]:Array Value))).push (seqObj "tuple" vs.toArray 0)).push (seqObj "list" #[] 0)).get? b=some o:=fun b o nb e=>
  Heap.get?_push_of_some _ (Heap.get?_push_of_some _ ((Heap.SameBut.update s.heap a (Obj.mapSeq fun _=>(#[]:Array Value))).extBut b o nb e))
 have J:∀p:List Nat,(List.range vs.length).Perm p->(∀k,k+1<vs.length->lt (p.getD (k+1) 0) (p.getD k 0)=false)->
   wpAny (model prog w) A (do
    let d:=(<-seqEpoch a) !=O
    Builtin.List.listUpdate (.ref a) fun _=>(p.map fun i=>vs.getD i .none).toArray
    if d then rule "list.sort.modified";raiseError "ValueError" "list modified during sort"
    ret .none) P E {s with heap:=((s.heap.update a (Obj.mapSeq fun _=>(#[]:Array Value))).push (seqObj "tuple" vs.toArray 0)).push (seqObj "list" #[] 0)}:=by
  intro p z y
  refine wpAny_bind (seqEpoch_at F rfl ?_)
  refine wpAny_bind (listUpdate_at F rfl ?_ (Nat.zero_le _) (by rw[List.size_toArray,List.length_map,<-z.length_eq,List.length_range,sizeLine_eq];exact tkn H rfl))
  simp only[bne_self_eq_false,Bool.false_eq_true,if_false]
  exact wpAny_pure (h p z y)
 dsimp only
 by_cases q:vs.toArray.size<2
 ·rw[if_pos q,if_pos q]
  refine wpAny_bind (wpAny_pure ?_)
  refine wpAny_bind (wpAny_pure ?_)
  have e:=Ad (vs:=vs) (List.size_toArray▸q)
  haveI:=J (List.range vs.length) (.refl _) fun k y=>by rw[List.size_toArray]at q;omega
  rw[<-e]at this
  exact this
 ·rw[if_neg q,if_neg q]
  rw[List.size_toArray]at q
  refine wpAny_bind (y (Nat.not_lt.mp q) _ kp _ ?_)
  haveI W:=kat_run (prog:=prog) (w:=w) (A:=A) (E:=E) (κ:=κ) (ks:=vs) (vs:=vs) (s:={s with heap:=((s.heap.update a (Obj.mapSeq fun _=>(#[]:Array Value))).push (seqObj "tuple" vs.toArray 0)).push (seqObj "list" #[] 0)}) rfl (Nat.not_lt.mp q) (tmn H rfl)
   (Q:=fun r s'=>∃p:Array Nat,p.size=vs.length/\arrOf r=p.map (kas_item (vs.toArray.zip vs.toArray))/\failedOf r=none/\s'={s with heap:=((s.heap.update a (Obj.mapSeq fun _=>(#[]:Array Value))).push (seqObj "tuple" vs.toArray 0)).push (seqObj "list" #[] 0)}/\(List.range vs.length).Perm p.toList/\∀k,k+1<vs.length->lt (p.getD (k+1) 0) (p.getD k 0)=false)
   (G:=fun p s'=>s'={s with heap:=((s.heap.update a (Obj.mapSeq fun _=>(#[]:Array Value))).push (seqObj "tuple" vs.toArray 0)).push (seqObj "list" #[] 0)}/\(List.range vs.length).Perm p.toList/\∀k,k+1<vs.length->lt (p.getD (k+1) 0) (p.getD k 0)=false)
   (fun p r s' a1 a2 a3 a4=>⟨p,a1,a2,a3,a4⟩)
   (Bf as tr (fun i j hi hj C hC=>Y _ kp i j hi hj C hC) (fun p hz z y=>⟨rfl,z,y⟩) _ _ (Ar (Nat.not_lt.mp q) H) fun f hf=>(List.not_mem_nil hf).elim)
  refine wpAny_bind (wpAny_mono W ?_ fun _ _ e=>e)
  rintro⟨⟨⟩,r⟩ s' ⟨p,hz,aa,hf,rfl,z,y⟩
  dsimp only
  rw[kat_snds rfl aa,hf]
  exact J p.toList z fun k Z=>by
   haveI:=y k Z
   simpa [Array.getD_eq_getD_getElem?,List.getD_eq_getElem?_getD]using this
theorem rM{h:Heap}{a:Addr}{vs:List Value}{n:Nat}{out:Array Value}(q:h.get? a=some (seqObj "list" vs.toArray n)):
  (∃e,(sortedHeap h a vs out).get? a=some (seqObj "list" out e))/\∀b o,b≠a->h.get? b=some o->(sortedHeap h a vs out).get? b=some o:=by
 unfold sortedHeap
 haveI y:=get?_update_seq q fun _=>(#[]:Array Value)
 haveI r:(((h.update a (Obj.mapSeq fun _=>(#[]:Array Value))).push (seqObj "tuple" vs.toArray 0)).push (seqObj "list" #[] 0)).get? a=_:=Heap.get?_push_of_some _ (Heap.get?_push_of_some _ y)
 exact⟨⟨_,get?_update_seq r fun _=>out⟩,fun b o d e=>(Heap.SameBut.update _ a (Obj.mapSeq fun _=>out)).extBut b o d (Heap.get?_push_of_some _ (Heap.get?_push_of_some _ ((Heap.SameBut.update h a (Obj.mapSeq fun _=>(#[]:Array Value))).extBut b o d e)))⟩
theorem xB{x:Value}{Q:Value->Shared->Prop}
  (h:wpAny (model prog w) A.in1 (collect x) (fun vs s₁=>vs.length<=6/\∃(κ:SortKind) (d:Nat->Nat->Bool),(∀a b,d a b=true->d b a=false)/\(∀a b c,a<vs.length->b<vs.length->c<vs.length->d b a=false->d c b=false->d c a=false)/\
   (2<=vs.length->∀s':Shared,(∀b o,s₁.heap.get? b=some o->s'.heap.get? b=some o)->∀(E':Value->Shared->Prop) (Q:SortKind->Shared->Prop),Q κ s'->wpAny (model prog w) A.in1.in1 (keyKind' vs.toArray) Q E' s')/\
   (∀s':Shared,(∀b o,s₁.heap.get? b=some o->s'.heap.get? b=some o)->∀i j,i<vs.length->j<vs.length->∀C:Bool->Shared->Prop,C (d i j) s'->wpAny (model prog w) A.in1.in1 (keyLt' κ (vs.getD i .none) (vs.getD j .none)) C (fun _ _=>False) s')/\
   ∀(p:List Nat) h' e,(List.range vs.length).Perm p->(∀k,k+1<vs.length->d (p.getD (k+1) 0) (p.getD k 0)=false)->(∀b o,s₁.heap.get? b=some o->h'.get? b=some o)->h'.get? s₁.heap.objs.size=some (seqObj "list" (p.map fun i=>vs.getD i .none).toArray e)->
    Q (.ref s₁.heap.objs.size) {s₁ with heap:=h'}) E s):
  wpAny (model prog w) A (call (.builtin "sorted") [x]) Q E s:=by
 refine Calls.call_function_entry kind_sorted plain_sorted entry_sorted (args_sorted1 _) ?_
 unfold Builtin.«sorted»
 refine wpAny_bind (m:=checkCount "sorted" 1 1 _) (wpAny_pure ?_)
 refine wpAny_bind (wpAny_mono h (fun vs s₁ r=>?_) fun _ _ z=>z)
 refine BJ r fun h6 κ d as tr W J hQ=>?_
 refine wpAny_bind (wpAny_newList ?_ (by rw[sizeLine_eq];exact tkn r.1 rfl))
 haveI y:(s₁.heap.push (seqObj "list" vs.toArray 0)).get? s₁.heap.objs.size=some (seqObj "list" vs.toArray 0):=Heap.get?_push_size _ rfl
 have F:∀b o,s₁.heap.get? b=some o->b≠s₁.heap.objs.size/\(s₁.heap.push (seqObj "list" vs.toArray 0)).get? b=some o:=fun b o e=>⟨Nat.ne_of_lt (Heap.lt_size e),Heap.get?_push_of_some _ e⟩
 show wpAny _ _ _ _ _ {s₁ with heap:=s₁.heap.push (seqObj "list" vs.toArray 0)}
 refine wpAny_bind (wpAny_holding (wpAny_call_entry slot_list_sort ⟨_,y,rfl⟩ entry_list_sort (r0 (s:={s₁ with heap:=s₁.heap.push (seqObj "list" vs.toArray 0)}) y h6 as tr
  (fun h2 s' k Q' L=>W h2 s' (fun b o e=>k b o (F b o e).1 (F b o e).2) _ Q' L) (fun s' k i j Z Y C hC=>J s' (fun b o e=>k b o (F b o e).1 (F b o e).2) i j Z Y C hC) fun p O hs=>⟨_,rfl,?_⟩) (args_list_sort _)))
 refine xA (rM (out:=(p.map fun i=>vs.getD i Value.none).toArray) y) fun H hold=>?_;refine xE H fun e he=>?_
 exact wpAny_pure ⟨_,rfl,hQ p _ e O hs (fun b o q=>hold b o (F b o q).1 (F b o q).2) he⟩
end
noncomputable def kyS:T->List Int
 |.int i=>[i]
 |.str s=>s.cps.toList.map Int.ofNat
 |_=>[]
noncomputable def ky:T->List (List Int)
 |.tup ts=>ts.map kyS
 |t=>[kyS t]
theorem map_lt{a b:List Nat}:a.map Int.ofNat<b.map Int.ofNat↔a<b:=by
 induction a generalizing b with
 |nil=>cases b<;>simp
 |cons x a d=>cases b with
  |nil=>simp
  |cons y b=>
   rw[List.map_cons,List.map_cons,List.cons_lt_cons_iff,List.cons_lt_cons_iff,d]
   haveI r:(Int.ofNat x<Int.ofNat y)↔x<y:=Int.ofNat_lt
   haveI q:(Int.ofNat x=Int.ofNat y)↔x=y:=Int.ofNat_inj
   rw[r,q]
theorem C2:∀{a b:List Nat},a.map Int.ofNat=b.map Int.ofNat->a=b:=by
 intro z
 induction z with
 |nil=>
  intro d
  cases d with
  |nil=>
   rintro _
   exact rfl
  |cons r q=>
   rintro h
   exact(List.cons_ne_nil _ _ h.symm).elim
 |cons x a F=>
  intro d
  cases d with
  |nil=>
   rintro h
   exact(List.cons_ne_nil _ _ h).elim
  |cons y b=>
   rintro h
   rw[List.map_cons,List.map_cons,List.cons.injEq]at h
   haveI J:=h.1;haveI H:=h.2
   rw[Int.ofNat_inj.mp J,F H]
theorem uc{x y:Str}(h:kyS (.str x)=kyS (.str y)):x=y:=by
 obtain⟨x⟩:=x
 obtain⟨y⟩:=y
 rw[show x=y from Array.toList_inj.mp (C2 h)]
theorem ud{x y:Int}(h:kyS (.int x)=kyS (.int y)):x=y  :=(List.cons.inj (show [x]=[y]from h)).1
theorem ua{x y:Str}:ltS (.str x) (.str y)=decide (kyS (.str x)<kyS (.str y)):=by
 show decide (x.cps.toList<y.cps.toList)=decide (x.cps.toList.map Int.ofNat<y.cps.toList.map Int.ofNat)
 exact decide_eq_decide.mpr map_lt.symm
theorem ub{x y:Int}:ltS (.int x) (.int y)=decide (kyS (.int x)<kyS (.int y)):=by
 show decide (x<y)=decide ([x]<[y])
 exact decide_eq_decide.mpr (by simp[List.cons_lt_cons_iff])
theorem Aa{x y:Str}:jE (.str x) (.str y)=decide (kyS (.str x)=kyS (.str y)):=by
 show(x==y)=_
 by_cases h:x=y
 ·subst h;simp
 ·rw[decide_eq_false fun q=>h (uc q)];simpa using h
theorem Ab{x y:Int}:jE (.int x) (.int y)=decide (kyS (.int x)=kyS (.int y)):=by
 show(x==y)=_
 by_cases h:x=y
 ·subst h;simp
 ·rw[decide_eq_false fun q=>h (ud q)];simpa using h
structure Cls(K:T->Prop):Prop where
 lt:∀a b,K a->K b->ltT a b=decide (ky a<ky b)
 eq:∀a b,K a->K b->ky a=ky b->a=b
theorem Gv:Cls fun t=>∃i,t=.int i where
 lt:=by
  rintro _ _ ⟨x,rfl⟩ ⟨y,rfl⟩
  show ltS (.int x) (.int y)=decide ([kyS (.int x)]<[kyS (.int y)])
  rw[ub]
  exact decide_eq_decide.mpr (by simp[List.cons_lt_cons_iff])
 eq:=by
  rintro _ _ ⟨x,rfl⟩ ⟨y,rfl⟩ h
  rw[ud (List.cons.inj h).1]
theorem Gu:Cls fun t=>∃x,t=.str x where
 lt:=by
  rintro _ _ ⟨x,rfl⟩ ⟨y,rfl⟩
  show ltS (.str x) (.str y)=decide ([kyS (.str x)]<[kyS (.str y)])
  rw[ua]
  exact decide_eq_decide.mpr (by simp[List.cons_lt_cons_iff])
 eq:=by
  rintro _ _ ⟨x,rfl⟩ ⟨y,rfl⟩ h
  rw[uc (List.cons.inj h).1]
theorem lU {a b:T} {r d:List T} (z:jE a b=decide (kyS a=kyS b)) (y:ltS a b=decide (kyS a<kyS b)) (h:ltL r d=decide (r.map kyS<d.map kyS)):ltL (a::r) (b::d)=decide ((a::r).map kyS<(b::d).map kyS):=by
 show(if jE a b=true then ltL r d else ltS a b)=_
 rw[z,y,h,List.map_cons,List.map_cons]
 by_cases q:kyS a=kyS b
 ·rw[if_pos (by simpa using q),q]
  exact decide_eq_decide.mpr (by simp[List.cons_lt_cons_iff])
 ·rw[if_neg (by simpa using q)]
  exact decide_eq_decide.mpr (by rw[List.cons_lt_cons_iff];simp[q])
theorem z7:Cls fun t=>∃a b i j,t=.tup [.str a,.str b,.int i,.int j]where
 lt:=by
  rintro _ _ ⟨a,b,i,j,rfl⟩ ⟨z,y,r,q,rfl⟩
  exact lU Aa ua (lU Aa ua (lU Ab ub (lU Ab ub (by first|rfl|decide|simp[ltL]))))
 eq:=by
  rintro _ _ ⟨a,b,i,j,rfl⟩ ⟨z,y,r,q,rfl⟩ h
  haveI d:[kyS (.str a),kyS (.str b),kyS (.int i),kyS (.int j)]=[kyS (.str z),kyS (.str y),kyS (.int r),kyS (.int q)]:=h
  simp only[List.cons.injEq,and_true]at d
  haveI L:=d.1;haveI J:=d.2.1;haveI H:=d.2.2.1;haveI F:=d.2.2.2
  rw[uc L,uc J,ud H,ud F]
section
variable{K:T->Prop}
theorem Cls.asm(c:Cls K){a b:T}(q:K a)(d:K b)(h:ltT a b=true):ltT b a=false:=by
 rw[c.lt a b q d]at h
 rw[c.lt b a d q]
 exact decide_eq_false (List.lt_asymm (of_decide_eq_true h))
theorem Cls.tr(c:Cls K){a b d:T}(y:K a)(r:K b)(q:K d)(F:ltT b a=false)(z:ltT d b=false):ltT d a=false:=by
 rw[c.lt _ _ r y]at F
 rw[c.lt _ _ q r]at z
 rw[c.lt _ _ q y]
 have J:=List.not_lt.mp (of_decide_eq_false F)
 have H:=List.not_lt.mp (of_decide_eq_false z)
 exact decide_eq_false (List.not_lt.mpr (List.le_trans J H))
theorem Cls.anti(c:Cls K){a b:T}(q:K a)(d:K b)(y:ltT b a=false)(r:ltT a b=false):a=b:=by
 rw[c.lt _ _ d q]at y
 rw[c.lt _ _ q d]at r
 exact c.eq a b q d (List.le_antisymm (List.not_lt.mp (of_decide_eq_false y)) (List.not_lt.mp (of_decide_eq_false r)))
theorem sY (x:T): ∀l:List T,(yr x l).Perm (x::l):=by
 intro r
 induction r with
 |nil=>
  exact .refl _
 |cons y d z=>
  show(if ltT x y then x::y::d else y::yr x d).Perm _
  by_cases q:ltT x y=true
  ·rw[if_pos q]
  ·rw[if_neg q]
   exact(List.Perm.cons y (z)).trans (.swap x y d)
theorem gr:∀l:List T,(ip l).Perm l:=by
 intro d
 induction d with
 |nil=>
  exact .refl _
 |cons x r q=>
  exact(sY x _).trans ((q).cons x)
theorem v8(c:Cls K){x:T}(hx:K x):∀l:List T,(∀y∈l,K y)->l.Pairwise (fun a b=>ltT b a=false)->(yr x l).Pairwise (fun a b=>ltT b a=false):=by
 intro O
 induction O with
 |nil=>
  rintro _ _
  simp[yr]
 |cons y L W=>
  rintro r h
  refine(List.pairwise_cons.mp h).elim fun J Y=>?_
  haveI H:=r y (.head _)
  unfold yr
  split
  ·rename_i q
   refine List.pairwise_cons.mpr ⟨fun z d=>?_,h⟩
   haveI F:=c.asm hx H q
   rcases List.mem_cons.mp d with rfl|d
   ·exact F
   ·exact c.tr hx H (r z (.tail _ d)) F (J z d)
  ·rename_i q
   refine List.pairwise_cons.mpr ⟨fun z d=>?_,W (fun z d=>r z (.tail _ d)) Y⟩
   rcases List.mem_cons.mp ((sY x L).mem_iff.mp d)with rfl|d
   ·simpa using q
   ·exact J z d
theorem lC(c:Cls K):∀l:List T,(∀y∈l,K y)->(ip l).Pairwise (fun a b=>ltT b a=false):=by
 intro z
 induction z with
 |nil=>
  rintro _
  exact .nil
 |cons x r F=>
  rintro q
  exact v8 c (q x (.head _)) _ (fun y d=>q y (.tail _ ((gr r).mem_iff.mp d))) (F fun y d=>q y (.tail _ d))
theorem oS(c:Cls K):∀l:List T,(∀y∈l,K y)->(∀k a b,l[k]? =some a->l[k+1]? =some b->ltT b a=false)->l.Pairwise (fun a b=>ltT b a=false):=by
 intro l
 induction l with
 |nil=>intro _ _;exact .nil
 |cons x l q=>
  intro r h
  have q:=q (fun z d=>r z (.tail _ d)) fun k a b J H=>h (k+1) a b J H
  refine List.pairwise_cons.mpr ⟨?_,q⟩
  cases l with
  |nil=>exact fun _ d=>(List.not_mem_nil d).elim
  |cons y l=>
   haveI F:=h 0 x y rfl rfl
   intro z d
   rcases List.mem_cons.mp d with rfl|d
   ·exact F
   ·exact c.tr (r x (.head _)) (r y (.tail _ (.head _))) (r z (.tail _ (.tail _ d))) F ((List.pairwise_cons.mp q).1 z d)
theorem sG(c:Cls K){l l':List T}(q:∀y∈l,K y)(p:l'.Perm l)(h:∀k a b,l'[k]? =some a->l'[k+1]? =some b->ltT b a=false):l'=ip l:=by
 have d:∀y∈l',K y:=fun y r=>q y (p.mem_iff.mp r)
 refine List.Perm.eq_of_pairwise (le:=fun a b=>ltT b a=false) (fun a b F z J H=>?_) (oS c l' d h) (lC c l q) (p.trans (gr l).symm)
 exact c.anti (d a F) (q b ((gr l).mem_iff.mp z)) J H
end
end Internal
end
section
open PySem PySem.W PyProof.Rows
namespace Internal
section
variable{w:World}{h0:Heap}{W:Wd}{A:Around}{E:Value->Shared->Prop}
def kdK:Nat->T->Prop
 |0,t=>∃i,t=.int i
 |1,t=>∃x,t=.str x
 |_,t=>∃a b i j,t=.tup [.str a,.str b,.int i,.int j]
theorem uf:∀k,Cls (kdK k)
 |0=>Gv
 |1=>Gu
 |_+2=>z7
theorem zP{t:T}(h:Iz t=true):∃x,t=.str x:=by cases t<;>first|exact⟨_,rfl⟩|exact(aH h).elim
theorem zQ{t:T}(h:isIn t=true):∃x,t=.int x:=by cases t<;>first|exact⟨_,rfl⟩|exact(aH h).elim
theorem AV{t:T}(h:yq t=true):∃F z y r,t=.tup [.str F,.str z,.int y,.int r]:=by
 cases t<;>first|exact(aH h).elim|skip
 rename_i l
 rcases l with _|⟨a,_|⟨b,_|⟨c,_|⟨d,_|⟨e,l⟩⟩⟩⟩⟩<;>first|exact(aH h).elim|skip
 refine cT h fun O L J H=>?_
 refine xE (zP O) fun _ q=>?_;obtain rfl:=q
 refine xE (zP L) fun _ q=>?_;obtain rfl:=q
 refine xE (zQ J) fun _ q=>?_;obtain rfl:=q
 refine xE (zQ H) fun _ q=>?_;obtain rfl:=q
 exact⟨_,_,_,_,rfl⟩
theorem nj{ts:List T}(h:tv ts=true):ts.length<=6/\∃k,∀t∈ts,kdK k t:=by
 unfold tv at h
 simp only[Bool.and_eq_true,Bool.or_eq_true,decide_eq_true_eq]at h
 refine⟨h.1,?_⟩
 rcases h.2 with(h|h)|h
 ·refine⟨0,fun t d=>?_⟩
  have:=List.all_eq_true.mp h t d
  cases t<;>first|exact⟨_,rfl⟩|exact(aH this).elim
 ·refine⟨1,fun t d=>?_⟩
  have:=List.all_eq_true.mp h t d
  cases t<;>first|exact⟨_,rfl⟩|exact(aH this).elim
 ·refine⟨2,fun t d=>?_⟩
  haveI:=List.all_eq_true.mp h t d
  exact AV this
noncomputable def Cj:Nat->SortKind
 |0=>oneType'
 |1=>oneType'
 |_=>tuples' true
@[elab_as_elim]
theorem zu{L J:Str}{H F:Int}{a:Value}{P:Value->Prop}(r:Rep w W (.tup [.str L,.str J,.int H,.int F]) a)
  (K:∀a xs n z y d t4,W.fz a=some (seqObj "tuple" xs n)->xs.toList=[.str L z,.str J y,.int H d,.int F t4]->P (.ref a)):P a:=
 RepS.casesOn (motive:=fun _=>P a) r fun a xs n e f q=>bT q fun v1 r1 e1 p1 q=>bT q fun v2 r2 Z p2 q=>bT q fun v3 r3 Y p3 q=>bT q fun v4 r4 O p4 q=>xEA p1 fun z p1 _=>xEA p2 fun y p2 _=>p3.elim fun d p3=>p4.elim fun t4 p4=>by
  rw[e]
  exact K a xs n z y d t4 f (by rw[e1,Z,Y,O,p1,p2,p3,p4];exact congrArg _ (congrArg _ (congrArg _ (congrArg _ q))))
theorem Ja{k:Nat}{t u:T}{a b:Value}{H:List T}{s:Shared}{Q:Bool->Shared->Prop}(F:Fit w h0 W H s.heap)(kt:kdK k t)(ku:kdK k u)(ra:Rep w W t a)(rb:Rep w W u b)(h:Q (ltT t u) s):
  wpAny (model pw w) A (keyLt' (Cj k) a b) Q (fun _ _=>False) s:=by
 cases k with
 |zero=>
  refine kt.elim fun i e=>?_;subst e
  refine ku.elim fun j e=>?_;subst e
  refine ra.elim fun t1 e=>?_;rw[e]
  refine rb.elim fun t2 e=>?_;rw[e]
  exact kat_lt_int h
 |succ k=>
 cases k with
 |zero=>
  refine kt.elim fun i e=>?_;subst e
  refine ku.elim fun j e=>?_;subst e
  refine xEA ra fun t1 e _=>?_;rw[e]
  refine xEA rb fun t2 e _=>?_;rw[e]
  exact kas_lt_str h
 |succ k=>
  refine uT kt fun x1 x2 O L r=>?_;subst r
  refine uT ku fun Z Y J z r=>?_;subst r
  refine zu ra fun a xs n1 p1 p2 p3 p4 f1 e1=>?_
  refine zu rb fun b ys n2 q1 q2 q3 q4 f2 e2=>?_
  haveI ex:xs.size=4:=by rw[<-Array.length_toList,e1];rfl
  haveI ey:ys.size=4:=by rw[<-Array.length_toList,e2];rfl
  refine kat_lt (b:=true) (F.fz _ _ f1) rfl (F.fz _ _ f2) rfl ?_
  rw[e1,e2,ex,ey]
  haveI d:Q (if jE (.str x1) (.str Z)=true then(if jE (.str x2) (.str Y)=true then(if jE (.int O) (.int J)=true then(if jE (.int L) (.int z)=true then false else ltS (.int L) (.int z))else ltS (.int O) (.int J))else ltS (.str x2) (.str Y))else ltS (.str x1) (.str Z)) s:=h
  haveI bs:∀x y:Str,jE (.str x) (.str y)=decide (x=y):=fun x y=>by show(x==y)=_;by_cases q:x=y<;>simp[q]
  haveI bi:∀x y:Int,jE (.int x) (.int y)=decide (x=y):=fun x y=>by show(x==y)=_;by_cases q:x=y<;>simp[q]
  simp only[bs,bi]at d
  refine kat_cons (wpAny_eqBool_str ?_)
  by_cases c1:x1=Z
  ·subst c1
   simp only[decide_true,if_true]at d⊢
   refine kat_yes (kat_cons (wpAny_eqBool_str ?_))
   by_cases c2:x2=Y
   ·subst c2
    simp only[decide_true,if_true]at d⊢
    refine kat_yes (kat_cons (wpAny_eqBool_int ?_))
    by_cases c3:O=J
    ·subst c3
     simp only[decide_true,if_true,beq_self_eq_true]at d⊢
     refine kat_yes (kat_cons (wpAny_eqBool_int ?_))
     by_cases c4:L=z
     ·subst c4
      simp only[decide_true,if_true,beq_self_eq_true]at d⊢
      exact kat_yes (kat_nil d)
     ·rw[if_neg (by simpa using c4)]at d
      rw[show(L==z)=false by simpa using c4]
      exact kat_no (kat_one _ _ (lt_int d))
    ·rw[if_neg (by simpa using c3)]at d
     rw[show(O==J)=false by simpa using c3]
     exact kat_no (kat_one _ _ (lt_int d))
   ·rw[if_neg (by simpa using c2)]at d
    rw[decide_eq_false c2]
    exact kat_no (kat_one _ _ (lt_str d))
  ·rw[if_neg (by simpa using c1)]at d
   rw[decide_eq_false c1]
   exact kat_no (oneLt_str d)
end
end Internal
end
section
set_option tactic.hygienic false
open PySem PySem.W PyProof.Rows
namespace Internal
section
variable{w:World}{h0:Heap}{W:Wd}{A:Around}{E:Value->Shared->Prop}
theorem Reps.mem:∀{ts:List T}{vs:List Value},Reps w W ts vs->∀v∈vs,∃t∈ts,Rep w W t v:=by
 intro F
 induction F with
 |nil=>
  rintro _ h v d
  subst h;cases d
 |cons t ts H=>
  rintro _ h v d
  refine bT h fun u r q a b=>?_;obtain rfl:=q
  rcases List.mem_cons.mp d with rfl|d
  ·exact⟨t,.head _,a⟩
  ·refine xEA (H b v d) fun y J z=>?_
   exact⟨y,.tail _ J,z⟩
theorem Reps.getD:∀{ts:List T}{vs:List Value}{i:Nat},Reps w W ts vs->i<ts.length->Rep w W (ts.getD i .none) (vs.getD i .none):=by
 intro F
 induction F with
 |nil=>
  rintro _ i h q
  simp at q
 |cons t ts H=>
  intro y z
  cases z with
  |zero=>
   rintro h q
   refine bT h fun u r d a b=>?_;obtain rfl:=d;exact a
  |succ i=>
   rintro h q
   refine bT h fun u r d a b=>?_;obtain rfl:=d
   simpa using H b (by simpa using q)
theorem Reps.pick{ts:List T}{vs:List Value}(h:Reps w W ts vs):∀(p:List Nat),(∀i∈p,i<ts.length)->Reps w W (p.map fun i=>ts.getD i .none) (p.map fun i=>vs.getD i .none):=by
 intro q
 induction q with
 |nil=>
  rintro _
  exact rfl
 |cons i p r=>
  rintro d
  exact⟨_,_,rfl,h.getD (d i (.head _)),r fun j y=>d j (.tail _ y)⟩
theorem EM{H:List T}{s:Shared}(F:Fit w h0 W H s.heap):∀{ts:List T}{vs:List Value},Reps w W ts vs->(∀t∈ts,kdK 2 t)->∃fs,KatTups s.heap vs fs/\fs.length=ts.length/\∀v∈fs,∃x t,v=.str x t:=by
 intro J
 induction J with
 |nil=>
  rintro _ h _
  subst h;exact⟨[],trivial,rfl,fun _ h=>(List.not_mem_nil h).elim⟩
 |cons t ts L=>
  rintro _ h k
  refine bT h fun u r q a b=>?_;obtain rfl:=q
  refine nc (L b fun t O=>k t (.tail _ O)) fun fs h1 Z Y=>?_
  refine uT (k t (.head _)) fun z x2 x3 x4 d=>?_;obtain rfl:=d
  obtain⟨ad,xs,n1,rfl,f1,v1,r1,e1,⟨p1,rfl,_⟩,_⟩:=a
  refine⟨.str z p1::fs,KatTups.cons (F.fz _ _ f1) rfl rfl ?_ h1,by simp[Z],fun v y=>?_⟩
  ·rw[<-Array.getElem?_toList,e1];rfl
  ·rcases List.mem_cons.mp y with rfl|y
   ·exact⟨_,_,rfl⟩
   ·exact Y v y
theorem FD{k:Nat}{ts:List T}{vs:List Value}{H:List T}{s:Shared}{Q:SortKind->Shared->Prop}(F:Fit w h0 W H s.heap)(z:Reps w W ts vs)(L:∀t∈ts,kdK k t)(O:2<=vs.length)(h:Q (Cj k) s):
  wpAny (model pw w) A (keyKind' vs.toArray) Q E s:=by
 match k with
 |0=>
  refine kas_kind (T:=.type "int") O (fun v q=>?_) (by decide) (by decide) h
  refine xEA (z.mem v q) fun t J r=>?_
  refine xE (L t J) fun i d=>?_;obtain rfl:=d
  obtain⟨Y,rfl⟩:=r
  exact Looks.of_pure rfl
 |1=>
  refine kas_kind (T:=.type "str") O (fun v q=>?_) (by decide) (by decide) h
  refine xEA (z.mem v q) fun t J r=>?_
  refine xE (L t J) fun i d=>?_;obtain rfl:=d
  refine xEA r fun Y d _=>?_;obtain rfl:=d
  exact Looks.of_pure rfl
 |k+2=>
  refine nc (EM F z L) fun fs t Z hs=>?_
  refine kat_kind (T:=.type "str") t (by rw[Z,<-z.length];exact tln (lsn rfl) O) (fun v q=>?_) (by decide) h
  refine xEE (hs v q) fun x Y y=>?_;obtain rfl:=y
  exact Looks.of_pure rfl
theorem xG{α:Type}{d:α}:∀l:List α,((List.range l.length).map fun i=>l.getD i d)=l:=fun l=>by
 refine List.ext_getElem (by simp) fun i q r=>?_
 simp at q
 simp[q]
theorem ot{x:Value}{ts us:List T}{H:List T}{s:Shared}{Q:Value->Shared->Prop}(e:dD ts=some us)(F:Fit w h0 W H s.heap)
  (ac:∀Q:List Value->Shared->Prop,(∀ts' vs d Z tk,ts'.Perm ts->Reps w W ts' vs->(∀b o,s.heap.get? b=some o->d.get? b=some o)->Q vs {s with heap:=d,drawn:=Z,toks:=tk})->wpAny (model pw w) A.in1 (collect x) Q Nev s)
  (hQ:∀D z Z tk r e,(∀b o,s.heap.get? b=some o->z.get? b=some o)->s.heap.get? D=none->z.get? D=some (seqObj "list" r e)->Reps w W us r.toList->Q (.ref D) {s with heap:=z,drawn:=Z,toks:=tk}):
  wpAny (model pw w) A (call (.builtin "sorted") [x]) Q Nev s:=by
 refine jd (P:=fun us=>(∀D z Z tk r e,(∀b o,s.heap.get? b=some o->z.get? b=some o)->s.heap.get? D=none->z.get? D=some (seqObj "list" r e)->Reps w W us r.toList->Q (.ref D) {s with heap:=z,drawn:=Z,toks:=tk})->wpAny (model pw w) A (call (.builtin "sorted") [x]) Q Nev s) e (fun so hQ=>?_) hQ
 haveI ad:=nj so;haveI h6:=ad.1;refine xE ad.2 fun k hk=>?_
 refine xB (ac _ fun ts' vs d Z tk pm rs kp=>?_)
 have aa:∀t∈ts',kdK k t:=fun t ht=>hk t (pm.mem_iff.mp ht)
 have J:vs.length=ts'.length:=rs.length
 haveI ag:ts'.length<=6:=pm.length_eq▸h6
 haveI L:Fit w h0 W H d:=F.keep kp
 have Y:∀i,i<vs.length->kdK k (ts'.getD i .none):=fun i O=>by
  haveI ab:i<ts'.length:=tln O (eln J)
  refine aa _ ?_
  rw[show ts'.getD i .none=ts'[i]by simp[ab]]
  exact List.getElem_mem ab
 refine⟨trn (eln J) ag,Cj k,fun i j=>decide (i<vs.length)&&decide (j<vs.length)&&ltT (ts'.getD i .none) (ts'.getD j .none),fun i j h=>?_,fun a b c ha hb hc h1 h2=>?_,fun h2 s' k' E' Q' hq=>FD (L.keep k') rs aa h2 hq,fun s' k' i j O hj C hC=>?_,fun p z e' hp hs ae af=>?_⟩
 ·simp only[Bool.and_eq_true,decide_eq_true_eq]at h
  haveI:=(uf k).asm (Y i h.1.1) (Y j h.1.2) h.2
  dsimp only
  rw[this,Bool.and_false]
 ·simp only[ha,hb,hc,decide_true,Bool.true_and]at h1 h2⊢
  exact(uf k).tr (Y a ha) (Y b hb) (Y c hc) h1 h2
 ·refine Ja (L.keep k') (Y i O) (Y j hj) (rs.getD (tln O (eln J))) (rs.getD (tln hj (eln J))) ?_
  simpa [O,hj]using hC
 ·have hb:∀i∈p,i<ts'.length:=fun i O=>by
   haveI:=hp.mem_iff.mpr O
   rw[List.mem_range]at this
   exact tln this (eln J)
  haveI hz:p.length=vs.length:=by rw[<-hp.length_eq,List.length_range]
  have e1:(p.map fun i=>ts'.getD i .none)=ip ts:=by
   refine sG (uf k) hk ?_ fun j a b ea eb=>?_
   ·refine List.Perm.trans ?_ pm
    haveI:=(hp.map fun i=>ts'.getD i T.none).symm
    rw[J,xG]at this
    exact this
   ·rw[List.getElem?_map]at ea eb
    refine xEA (Option.map_eq_some_iff.mp ea) fun i1 q1 y=>?_;obtain rfl:=y
    refine xEA (Option.map_eq_some_iff.mp eb) fun i2 q2 y=>?_;obtain rfl:=y
    haveI hj:j+1<p.length:=(List.getElem?_eq_some_iff.mp q2).1
    haveI:=hs j (tln hj (eln hz))
    rw[List.getD_eq_getElem?_getD,q2,List.getD_eq_getElem?_getD,q1]at this
    haveI l1:=hb i1 (List.mem_of_getElem? q1)
    haveI l2:=hb i2 (List.mem_of_getElem? q2)
    simp only[Option.getD_some,show i1<vs.length from tln l1 (ern J),show i2<vs.length from tln l2 (ern J),decide_true,Bool.true_and]at this
    exact this
  haveI nn:s.heap.get? d.objs.size=none:=by
   cases q:s.heap.get? d.objs.size with
   |none=>rfl
   |some o=>exact absurd (Heap.lt_size (kp _ _ q)) (Nat.lt_irrefl _)
  refine hQ _ z Z _ _ e' (fun b o q=>ae b o (kp b o q)) nn af ?_
  haveI:=rs.pick p hb
  rw[e1]at this
  simpa using this
end
section
variable{w:World}{h0:Heap}{C:Nat->List T->M LV}{n:Nat}
theorem wD{W:Wd}{A:Around}{a:Addr}{xs:Array Value}{ts:List T}{s:Shared}(y:s.heap.PlainList a xs)(r:Reps w W ts xs.toList)(F:ts.length<=1000)(Q:List Value->Shared->Prop)
  (h:∀ts' vs d H tk,ts'.Perm ts->Reps w W ts' vs->(∀b o,s.heap.get? b=some o->d.get? b=some o)->Q vs {s with heap:=d,drawn:=H,toks:=tk}):wpAny (model pw w) A (collect (.ref a)) Q Nev s:=by
 haveI z:s.heap.IsList a xs.toList.toArray:=y.isList
 refine collect_list z ?_ (by rw[r.length,sizeLine_eq];exact tkn F rfl)
 refine h ts xs.toList _ s.drawn s.toks (.refl _) r fun b o e=>?_
 haveI q:=Heap.lt_size e
 exact(Heap.SameBut.update _ s.heap.objs.size (Obj.mapSeq (· ++xs.toList.toArray))).extBut b o (Nat.ne_of_lt q) (Heap.get?_push_of_some _ e)
theorem ow(B:cR w h0){x:X}(hx:SX w h0 C n x){f:Str}{np pos:Pos}{e:Expr}{A:Around}{env:Env}{nm:Nm}{ρ:aE}{fp:Nat->List Addr}{W:Wd}{H H':List T}{s:Shared}{ts Y:List T}{Q:Value->Shared->Prop}
  (m0:dY env.scope.names f "sorted" =true) (mp:aV e=true) (m1:mX env.scope.names nm x e=true) (cx:Cx n A env) (S:Vst w env nm ρ fp W s.heap) (F:Fit w h0 W H s.heap) (e1:opd ρ x (evX C ρ x) H=some (.list ts,H')) (e2:dD ts=some Y)
  (h:∀D O s' out k,Stp W s O s'->Fit w h0 O H' s'.heap->s.heap.get? D=none->¬O.has D->s'.heap.get? D=some (seqObj "list" out k)->Reps w O Y out.toList->Q (.ref D) s'):
  wpAny (model pw w) A (eval (.Call (.Name f np) [e] [] pos) env) Q Nev s:=by
 refine gc (id:="sorted") B cx F m0 (by decide) (aR mp) ?_
 rw[aF mp]
 refine Calls.spliced_cons (wpAny_mono (hN hx m1 cx S F e1) (fun v Z J=>?_) fun _ _ z=>z)
 refine el4 J fun L q d y=>?_
 refine Calls.spliced_nil ?_
 obtain⟨a,xs,rfl,pl,rs⟩:=y.now d
 haveI h6:ts.length<=1000:=jd (P:=fun _=>ts.length<=1000) e2 fun so=>Nat.le_trans (nj so).1 (by decide)
 refine ot e2 d (fun Q hQ=>wD pl rs h6 Q hQ) fun D h' dr tk out k kp nD hD rr=>?_
 haveI r:=d.not_has nD
 exact h D L _ out k (q.trans (Stp.of_keepD kp)) (d.keep kp) (cB q nD r) r hD rr
theorem Ct(B:cR w h0){x:X}(hx:SX w h0 C n x):SX w h0 C n (.sorted x):=by
 intro e A aa nm ρ fp W H s t H' hm cx S F y
 refine iz hm fun f np e L Z Y m1=>?_
 refine aB y fun u H1 e1 y=>?_
 refine aN y fun ts eu r=>?_
 obtain rfl:=eM eu
 refine bV r fun e2=>?_
 refine eC e2 fun us e3=>?_
 refine ow B hx Z Y m1 cx S F e1 e3 fun D W' s' q k z F' O d hD J=>?_
 exact⟨_,z.add d O,F'.add d hD,D,q,k,rfl,Wd.add_at d,Reps.mono (Wd.le_add d) _ J⟩
end
end Internal
end
section
open PySem PySem.W PyProof.Rows
namespace Internal
noncomputable def oR(es:Array (Int×Value))(ep:Nat)(t:SetTable):Obj:={cls:=.type "set",dict:=none,data:=.set es ep t}
noncomputable def dQ(t:SetTable)(es:Array (Int×Value))(h:Int)(x:Value):SetTable:=
 if(layNew t es h x).2.1.plain=true/\plainKind x=false then{(layNew t es h x).2.1 with plain:=false}else(layNew t es h x).2.1
noncomputable def fc(t:SetTable)(es:Array (Int×Value))(h:Int)(x:Value):Array (Int×Value)×SetTable:=
 if(!(layNew t es h x).2.2.1&&(dQ t es h x).tooFull)=true then((relayAll (dQ t es h x) (layNew t es h x).1 (SetTable.grown (layNew t es h x).1.size)).1,(relayAll (dQ t es h x) (layNew t es h x).1 (SetTable.grown (layNew t es h x).1.size)).2.1)
 else((layNew t es h x).1,dQ t es h x)
theorem yi(t:SetTable)(es:Array (Int×Value))(h:Int)(x:Value):(layNew t es h x).2.1.led=t.led:=by
 unfold layNew
 split
 ·show(SetTable.orStandIn _ _).led=_
  unfold SetTable.orStandIn
  split<;>rfl
 ·rfl
theorem tC(t:SetTable)(es:Array (Int×Value))(n:Nat):(relayAll t es n).2.1.led=t.led:=by
 unfold relayAll
 split
 ·rename_i t' order e
  dsimp only
  split
  ·unfold SetTable.relaid SetTable.laid at e
   cases q:SetTable.layClean (SetTable.sizeAbove n-1) (es.map (·.1))with
   |none=>rw[q]at e;cases e
   |some o=>rw[q]at e;haveI d:=Prod.mk.inj (Option.some.inj e);obtain rfl:=d.1;obtain rfl:=d.2;rfl
  ·rfl
 ·rfl
theorem rJ(t:SetTable)(es:Array (Int×Value))(h:Int)(x:Value):(dQ t es h x).led=t.led:=by
 unfold dQ
 split<;>exact yi ..
theorem zl(t:SetTable)(es:Array (Int×Value))(h:Int)(x:Value):(fc t es h x).2.led=t.led:=by
 unfold fc
 split
 ·exact(tC ..).trans (rJ ..)
 ·exact rJ ..
theorem w8(t:SetTable)(es:Array (Int×Value))(h:Int)(x:Value):(dQ t es h x).fits (layNew t es h x).1.size=true:=by
 unfold dQ
 split
 ·exact SetTable.fits_plain_off (layNew_fits ..)
 ·exact layNew_fits ..
theorem w7(t:SetTable)(es:Array (Int×Value))(h:Int)(x:Value):(fc t es h x).2.fits (fc t es h x).1.size=true:=by
 unfold fc
 split
 ·exact relayAll_fits ..
 ·exact w8 ..
theorem w6(t:SetTable)(es:Array (Int×Value))(h:Int)(x:Value):(fc t es h x).1.toList.Perm (es.toList++[(h,x)]):=by
 haveI e:=layNew_perm t es h x
 rw[Array.toList_push]at e
 unfold fc
 split
 ·exact(relayAll_perm ..).trans e
 ·exact e
section
variable{w:World}{A:Around}{E:Value->Shared->Prop}{s:Shared}
def w9(h:Heap)(a:Addr)(es:Array (Int×Value))(t:SetTable):Prop:=∃ep,h.get? a=some (oR es ep t)
theorem u9{a:Addr}{es d:Array (Int×Value)}{t q:SetTable}{Q:Unit->Shared->Prop}(r:w9 s.heap a es t)(hz:d.size<scanBound)
  (h:∀h',Heap.SameBut a s.heap h'->w9 h' a d q->Q () {s with heap:=h'}):wpAny (model pw w) A (storeSet a d q) Q E s:=by
 refine xE r fun y r=>?_
 refine wpAny_storeSet_of r rfl (h _ (Heap.SameBut.update ..) ⟨y+1,?_⟩) (fits_of_scanBound hz)
 haveI:=Heap.get?_update_self (Obj.putSet d q) r (by rw[putSet_of d q rfl];rfl)
 rw[putSet_of d q rfl]at this
 exact this
theorem add_at{a:Addr}{es:Array (Int×Value)}{t:SetTable}{k:Key}{x:Value}{Q:Bool->Shared->Prop}(Z:Key.is k x=true)(L:x.scannable=true)(ho:w9 s.heap a es t)(hf:t.fits es.size=true)(ab:ElemsOf (aJ pw w) es.toList)(hb:es.size+1<scanBound)
  (h1:(∃e∈es.toList,Key.is k e.2=true)->Q false s)
  (h2:(∀e∈es.toList,Key.is k e.2=false)->∀h',Heap.SameBut a s.heap h'->w9 h' a (fc t es ((aJ pw w).hash k) x).1 (fc t es ((aJ pw w).hash k) x).2->Q true {s with heap:=h'}):
  wpAny (model pw w) A (setAddHashed a x ((aJ pw w).hash k)) Q E s:=by
 refine(id ho).elim fun ep Y=>?_
 unfold setAddHashed setAddHashedIn
 refine wpAny_holding (wpAny_bind (wpAny_setState_of Y rfl hf ?_))
 dsimp only
 rw[byScan_of (knd:=aJ pw w) L (ltn (Nat.le_add_right ..) hb) ab]
 simp only[↓reduceIte]
 unfold setAddByScan
 refine wpAny_bind ?_
 refine wpAny_bind (wpAny_rule ?_)
 refine wpAny_bind (wpAny_setScan_of (knd:=aJ pw w) Z Y rfl hf ab ?_)
 cases hr:List.findIdx? (fun e=>(aJ pw w).is k e.2) es.toList with
 |some j=>
  dsimp only
  haveI ae:=List.findIdx?_eq_some_iff_getElem.mp hr;haveI hj:=ae.1;haveI af:=ae.2.1
  exact wpAny_pure (wpAny_pure (h1 ⟨_,List.getElem_mem hj,af⟩))
 |none=>
  dsimp only
  have ag:∀e∈es.toList,Key.is k e.2=false:=fun e he=>List.findIdx?_eq_none_iff.mp hr e he
  have aa:∀(b:Bool) {d:Shared} {Q':Unit->Shared->Prop},Q' () d->wpAny (model pw w) A (match b with|true=>rule "set.scan.the-table-gave-way" |false=>pure ()) Q' E d:=
   fun b d Q' hq=>by cases b<;>first|exact wpAny_pure hq|exact wpAny_rule hq
  haveI y:=layNew_perm t es ((aJ pw w).hash k) x
  rw[Array.toList_push]at y
  have J:(layNew t es ((aJ pw w).hash k) x).1.size=es.size+1:=by rw[<-Array.length_toList,y.length_eq,List.length_append,Array.length_toList];rfl
  refine wpAny_bind (aa _ ?_)
  haveI H:wpAny (model pw w) A (do
    storeSet a (layNew t es ((aJ pw w).hash k) x).1 (dQ t es ((aJ pw w).hash k) x)
    if(!(layNew t es ((aJ pw w).hash k) x).2.2.1&&(dQ t es ((aJ pw w).hash k) x).tooFull)=true then do
      (match (relayAll (dQ t es ((aJ pw w).hash k) x) (layNew t es ((aJ pw w).hash k) x).1 (SetTable.grown (layNew t es ((aJ pw w).hash k) x).1.size)).2.2 with|true=>rule "set.scan.the-table-gave-way" |false=>pure ())
      storeSet a (relayAll (dQ t es ((aJ pw w).hash k) x) (layNew t es ((aJ pw w).hash k) x).1 (SetTable.grown (layNew t es ((aJ pw w).hash k) x).1.size)).1 (relayAll (dQ t es ((aJ pw w).hash k) x) (layNew t es ((aJ pw w).hash k) x).1 (SetTable.grown (layNew t es ((aJ pw w).hash k) x).1.size)).2.1
      pure (some true)
     else pure (some true)) (fun r s'=>r=some true/\Q true s') E s:=by
   haveI F:=h2 ag
   unfold fc at F
   refine wpAny_bind (u9 ho (ltn (eln J) hb) fun h' W ad=>?_)
   by_cases c:(!(layNew t es ((aJ pw w).hash k) x).2.2.1&&(dQ t es ((aJ pw w).hash k) x).tooFull)=true
   ·rw[if_pos c]at F⊢
    refine wpAny_bind (aa _ ?_)
    refine wpAny_bind (u9 ad (by rw[<-Array.length_toList,(relayAll_perm ..).length_eq,Array.length_toList];exact ltn (eln J) hb) fun ah O ac=>?_)
    exact wpAny_pure ⟨rfl,F ah (W.trans O) ac⟩
   ·rw[if_neg c]at F⊢
    exact wpAny_pure ⟨rfl,F h' W ad⟩
  split
  ·rename_i hp
   refine wpAny_bind ?_
   rw[hashByValue_scannable 8 L]
   refine wpAny_pure ?_
   haveI e:(if plainKind x=true then(layNew t es ((aJ pw w).hash k) x).2.1 else{(layNew t es ((aJ pw w).hash k) x).2.1 with plain:=false})=dQ t es ((aJ pw w).hash k) x:=by
    unfold dQ
    rw[hp]
    cases plainKind x<;>simp
   rw[e]
   exact wpAny_mono H (fun r s' h'=>by obtain rfl:=h'.1;haveI q:=h'.2;exact wpAny_pure q) fun _ _ z=>z
  ·rename_i hp
   refine wpAny_bind (wpAny_pure ?_)
   simp only[↓reduceIte]
   haveI e:(layNew t es ((aJ pw w).hash k) x).2.1=dQ t es ((aJ pw w).hash k) x:=by
    unfold dQ
    rw[if_neg fun q=>hp q.1]
   rw[e]
   exact wpAny_mono H (fun r s' h'=>by obtain rfl:=h'.1;haveI q:=h'.2;exact wpAny_pure q) fun _ _ z=>z
end
end Internal
end
section
set_option tactic.hygienic false
open PySem PySem.W PyProof.Rows
namespace Internal
theorem o6:entryFor table "set.__iter__" =some Builtin.«frozenset.__iter__»:=entryFor_alias (id':="frozenset.__iter__") (by kernel_rfl) rfl (by decide +kernel) (by kernel_rfl)
theorem slot_setit_next:Slot "set_iterator" "__next__" "set_iterator.__next__" :=
 .of (owner:="set_iterator") (n:="__next__") (by rw[typeLookup_type,builtinLookup_eq_fast];kernel_rfl) (by decide +kernel) (by decide +kernel) (by decide +kernel)
  (by first|exact .inl (by decide +kernel)|exact .inr (by decide +kernel)) (by rw[isSubtype_type];kernel_rfl)
theorem iY:Slot "set_iterator" "__iter__" "set_iterator.__iter__" :=
 .of (owner:="set_iterator") (n:="__iter__") (by rw[typeLookup_type,builtinLookup_eq_fast];kernel_rfl) (by decide +kernel) (by decide +kernel) (by decide +kernel)
  (by first|exact .inl (by decide +kernel)|exact .inr (by decide +kernel)) (by rw[isSubtype_type];kernel_rfl)
theorem eB:entryFor table "set_iterator.__next__" =some Builtin.«set_iterator.__next__»:=entryFor_of_tree (by kernel_rfl)
theorem nX:entryFor table "set_iterator.__iter__" =some Builtin.«dict_keyiterator.__iter__»:=
 entryFor_alias (id':="dict_keyiterator.__iter__") (by kernel_rfl) rfl (by decide +kernel) (by kernel_rfl)
theorem eK(a:Value):PySem.argsOk "set_iterator.__next__" ⟨[a],[]⟩:=by unfold PySem.argsOk;kernel_rfl
theorem pq(a:Value):PySem.argsOk "set_iterator.__iter__" ⟨[a],[]⟩:=by unfold PySem.argsOk;kernel_rfl
theorem hV{α:Type}:∀(xs:List α)(i:Nat)(h:i<xs.length),(xs[i]::xs.eraseIdx i).Perm xs
 |x::xs,0,_=>.refl _
 |x::xs,i+1,h=>by
  haveI:=hV xs i (by simpa using h)
  exact(List.Perm.swap _ _ _).trans (this.cons x)
section
variable{M:Model}{w:World}{A:Around}{E:Value->Shared->Prop}{s:Shared}
theorem rL{d:Source}{n:Nat}{Q:Nat->Shared->Prop}(q:n≠0)(h:∀i r,i<n->Q i {s with drawn:=r}):wpAny M A (choose d n) Q E s:=fun y p _=>by
 unfold choose
 rw[Sem.wp_choose]
 exact⟨q,h _ _ (Nat.mod_lt _ (Nat.pos_of_ne_zero q))⟩
theorem Gs{α:Type}:∀(n:Nat)(xs:List α)(s:Shared){Q:List α->Shared->Prop},n=xs.length->(∀ys z,ys.Perm xs->Q ys {s with drawn:=z})->wpAny M A (drawOrder n xs) Q E s:=by
 intro J
 induction J with
 |zero=>
  rintro xs s Q d h
  obtain rfl:xs=[]:=List.length_eq_zero_iff.mp d.symm
  exact wpAny_pure (h [] s.drawn (.refl _))
 |succ n L=>
  intro H
  cases H with
  |cons x xs=>
   rintro s Q d h
   show wpAny M A (choose .order (x::xs).length>>=fun i=>match (x::xs)[i]? with|some y=>(do return y::(<-drawOrder n ((x::xs).eraseIdx i)))|none=>unsupported "internal:drawOrder") _ _ s
   refine wpAny_bind (rL (by simp) fun i z q=>?_)
   rw[List.getElem?_eq_getElem q]
   dsimp only
   refine wpAny_bind (L _ _ (by rw[List.length_eraseIdx_of_lt q];simp at d⊢;omega) fun ys r F=>wpAny_pure (h _ r ?_))
   exact(F.cons _).trans (hV _ _ q)
  |nil=>
   rintro s Q d h
   simp at d
end
theorem tF{α:Type}(next:Nat->Nat):∀(n k:Nat)(left:List α)(out:Array α),n=left.length->(pickOrder.go next n k left out).toList.Perm (out.toList++left):=by
 intro r
 induction r with
 |zero=>
  rintro k left out d
  obtain rfl:left=[]:=List.length_eq_zero_iff.mp d.symm
  show out.toList.Perm (out.toList++[])
  rw[List.append_nil]
 |succ n y=>
  rintro k left out d
  show(match left[next k%left.length]? with|some x=>pickOrder.go next n (k+1) (left.eraseIdx (next k%left.length)) (out.push x)|none=>out).toList.Perm _
  haveI q:next k%left.length<left.length:=Nat.mod_lt _ (tln (tln (lsn rfl) (Nat.le_add_left ..)) (eln d))
  rw[List.getElem?_eq_getElem q]
  dsimp only
  refine(y (k+1) _ _ (by rw[List.length_eraseIdx_of_lt q];omega)).trans ?_
  rw[Array.toList_push,List.append_assoc]
  exact(hV left _ q).append_left out.toList
theorem qe{α:Type}(next:Nat->Nat)(xs:Array α):(pickOrder next xs).toList.Perm xs.toList:=by
 have:=tF next xs.size 0 xs.toList #[] (by simp)
 exact this
structure Asc(p:Array Nat):Prop where
 zero:SetTable.below p 0=0
 next:∀i j,p[i]? =some j->SetTable.below p (j+1)=i+1
theorem GO{p:Nat}:Asc #[p]:=by
 refine⟨by simp[SetTable.below,SetTable.below.go],fun i j h=>?_⟩
 haveI:i=0/\j=p:=by
  rcases i with _|i
  ·simp at h;exact⟨rfl,h.symm⟩
  ·simp at h
 obtain⟨rfl,rfl⟩:=this
 simp[SetTable.below,SetTable.below.go]
theorem GP:Asc #[]:=⟨rfl,fun i j h=>by simp at h⟩
structure mZ(P:Params)(es:Array (Int×Value))(t:SetTable):Prop where
 fits:t.fits es.size=true
 led:t.led= !P.followText "set-order"
 mode:(t.plain=false/\es.size>1)\/((t.plain=true\/es.size<=1)/\Asc t.place)
noncomputable def itO(first:Value)(i:Nat)(a:Value)(n ep:Nat):Obj:={cls:=.type "set_iterator",data:=.fields #[first,.int i 0,a,.int n 0,.int ep 0]}
section
variable{w:World}{A:Around}{E:Value->Shared->Prop}{s:Shared}
theorem sK{I a:Addr}{slot i n q nxt:Nat}{es:Array (Int×Value)}{t:SetTable}{x:Value}{Q:Option Value->Shared->Prop}
  (hit:s.heap.get? I=some (itO (.int slot 0) i (.ref a) n q)) (z:s.heap.get? a=some (oR es q t)) (H:t.fits es.size=true) (F:es.size=n)
  (d:∀(A:Around) (E:Value->Shared->Prop) (Q:Option (Value×Nat)->Shared->Prop),Q (some (x,nxt)) s->wpAny (model pw w) A (setNext a slot i q) Q E s)
  (J:∀h',h'.get? I=some (itO (.int nxt 0) (i+1) (.ref a) n q)->Heap.SameBut I s.heap h'->Q (some x) {s with heap:=h'}):
  wpAny (model pw w) A (pyNext (.ref I)) Q E s:=by
 haveI r:s.TypeIs (.ref I) "set_iterator" :=⟨_,hit,rfl⟩
 unfold pyNext
 refine wpAny_bind (wpAny_attempt (wpAny_callSpecial?_slot (name:=Str.ofString "__next__") r slot_setit_next
  (wpAny_call_entry slot_setit_next r eB ?_ (eK _))))
 show wpAny _ _ (fieldsOf (.ref I)>>=_) _ _ s
 refine wpAny_bind (wpAny_fieldsOf hit rfl ?_)
 show wpAny _ _ (setEntries a>>=_) _ _ s
 refine wpAny_bind (wpAny_setEntries_of z rfl H ?_)
 refine wpAny_ite_split (fun h=>absurd h (by simp[F])) fun _=>?_
 show wpAny _ _ (setNext a (slot:Int).toNat (i:Int).toNat (q:Int).toNat>>=_) _ _ s
 simp only[Int.toNat_natCast]
 refine wpAny_bind (d _ _ _ ?_)
 dsimp only
 refine wpAny_bind (wpAny_setField hit rfl (by simp) ?_)
 haveI y:=Heap.get?_update_self (Obj.mapFields (·.setIfInBounds 0 (rawInt (nxt:Int)))) hit rfl
 refine wpAny_bind (wpAny_setField y rfl (by simp) (wpAny_pure ⟨x,rfl,wpAny_pure (J _ ?_ ((Heap.SameBut.update ..).trans (Heap.SameBut.update ..)))⟩))
 exact Heap.get?_update_self (Obj.mapFields (·.setIfInBounds 1 (rawInt ((i:Int)+1)))) y rfl
theorem vf{I a b:Addr}{i n d p:Nat}{q:Array Value}{es:Array (Int×Value)}{t:SetTable}{x:Int×Value}{Q:Option Value->Shared->Prop}
  (hit:s.heap.get? I=some (itO (.ref b) i (.ref a) n d)) (r:s.heap.get? a=some (oR es d t)) (J:s.heap.get? b=some (seqObj "tuple" q 0)) (y:t.fits es.size=true) (H:es.size=n)
  (F:q[i]? =some (.int p 0)) (hx:es[p]? =some x)
  (L:∀h',h'.get? I=some (itO (.ref b) (i+1) (.ref a) n d)->Heap.SameBut I s.heap h'->Q (some x.2) {s with heap:=h'}):
  wpAny (model pw w) A (pyNext (.ref I)) Q E s:=by
 haveI z:s.TypeIs (.ref I) "set_iterator" :=⟨_,hit,rfl⟩
 unfold pyNext
 refine wpAny_bind (wpAny_attempt (wpAny_callSpecial?_slot (name:=Str.ofString "__next__") z slot_setit_next
  (wpAny_call_entry slot_setit_next z eB ?_ (eK _))))
 show wpAny _ _ (fieldsOf (.ref I)>>=_) _ _ s
 refine wpAny_bind (wpAny_fieldsOf hit rfl ?_)
 show wpAny _ _ (setEntries a>>=_) _ _ s
 refine wpAny_bind (wpAny_setEntries_of r rfl y ?_)
 refine wpAny_ite_split (fun h=>absurd h (by simp[H])) fun _=>?_
 show wpAny _ _ (seqItems? (.ref b)>>=_) _ _ s
 refine wpAny_bind (wpAny_seqItems J rfl ?_)
 simp only[Int.toNat_natCast,F]
 refine wpAny_bind ?_
 unfold setNextDrawn
 refine wpAny_bind (wpAny_setState_of r rfl y ?_)
 refine wpAny_ite_split (fun h=>absurd h (by simp)) fun _=>?_
 simp only[hx]
 refine wpAny_pure ?_
 refine wpAny_bind (wpAny_setField hit rfl (by simp) (wpAny_pure ⟨x.2,rfl,wpAny_pure (L _ ?_ (Heap.SameBut.update ..))⟩))
 exact Heap.get?_update_self (Obj.mapFields (·.setIfInBounds 1 (rawInt ((i:Int)+1)))) hit rfl
theorem sF{q:Around}{Q:Option Value->Shared->Prop}{d:Value->Shared->Prop}{R:Fin->Shared->Prop}{I:Addr}{h0:Heap}(r:q.handled=none)
  (z:∀e h',d (.ref e) {s with heap:=h'}=wpAny (model pw w) A (do if<-isInstance (.ref e) (.type "StopIteration")then pure none else throw (.ref e)) Q E {s with heap:=h'})
  (k:Heap.ExtBut I h0 s.heap) (y:∀h',Heap.ExtBut I h0 h'->Q none {s with heap:=h'}):
  wpAny (model pw w) q (do raiseNew (<-newExc (.type "StopIteration") []):Sem Fin) R d s:=by
 refine wpAny_bind ?_
 simp only[newExc,newTuple]
 refine wpAny_bind (wpAny_newObj_type ?_ (by size_fits))
 refine wpAny_bind (m:=firstArgMember _ _) (wpAny_of_eq (a:=Value.none) (by first|rfl|(simp only[firstArgMember];rfl)) ?_)
 refine wpAny_newObj_type ?_ (by size_fits)
 refine wpAny_bind (wpAny_handled ?_)
 rw[r]
 refine wpAny_bind (wpAny_pure (wpAny_throw ?_))
 rw[z]
 refine wpAny_bind (wpAny_isInstance (T:="StopIteration") (b:=true) ⟨_,Heap.get?_push_size _ rfl,rfl⟩ isSubtype_stop ?_)
 exact wpAny_pure (y _ ((k.push _).push _))
theorem j9{I a:Addr}{slot i n q:Nat}{es:Array (Int×Value)}{t:SetTable}{Q:Option Value->Shared->Prop}(F:A.handled=none)
  (hit:s.heap.get? I=some (itO (.int slot 0) i (.ref a) n q)) (y:s.heap.get? a=some (oR es q t)) (H:t.fits es.size=true) (z:es.size=n)
  (d:∀(A:Around) (E:Value->Shared->Prop) (Q:Option (Value×Nat)->Shared->Prop),Q none s->wpAny (model pw w) A (setNext a slot i q) Q E s)
  (J:∀h',Heap.ExtBut I s.heap h'->Q none {s with heap:=h'}):
  wpAny (model pw w) A (pyNext (.ref I)) Q E s:=by
 haveI r:s.TypeIs (.ref I) "set_iterator" :=⟨_,hit,rfl⟩
 unfold pyNext
 refine wpAny_bind (wpAny_attempt (wpAny_callSpecial?_slot (name:=Str.ofString "__next__") r slot_setit_next
  (wpAny_call_entry slot_setit_next r eB ?_ (eK _))))
 show wpAny _ _ (fieldsOf (.ref I)>>=_) _ _ s
 refine wpAny_bind (wpAny_fieldsOf hit rfl ?_)
 show wpAny _ _ (setEntries a>>=_) _ _ s
 refine wpAny_bind (wpAny_setEntries_of y rfl H ?_)
 refine wpAny_ite_split (fun h=>absurd h (by simp[z])) fun _=>?_
 show wpAny _ _ (setNext a (slot:Int).toNat (i:Int).toNat (q:Int).toNat>>=_) _ _ s
 simp only[Int.toNat_natCast]
 refine wpAny_bind (d _ _ _ ?_)
 dsimp only
 refine wpAny_bind (wpAny_setField hit rfl (by simp) ?_)
 exact sF (Q:=Q) (E:=E) (A:=A) (h0:=s.heap) (I:=I) F (fun _ _=>rfl) (Heap.SameBut.update ..).extBut fun h' k=>J h' k
theorem oQ{I a b:Addr}{i n r:Nat}{d:Array Value}{es:Array (Int×Value)}{t:SetTable}{Q:Option Value->Shared->Prop}(H:A.handled=none)
  (hit:s.heap.get? I=some (itO (.ref b) i (.ref a) n r)) (z:s.heap.get? a=some (oR es r t)) (L:s.heap.get? b=some (seqObj "tuple" d 0)) (J:t.fits es.size=true) (F:es.size=n)
  (y:d[i]? =none) (O:∀h',Heap.ExtBut I s.heap h'->Q none {s with heap:=h'}):
  wpAny (model pw w) A (pyNext (.ref I)) Q E s:=by
 haveI q:s.TypeIs (.ref I) "set_iterator" :=⟨_,hit,rfl⟩
 unfold pyNext
 refine wpAny_bind (wpAny_attempt (wpAny_callSpecial?_slot (name:=Str.ofString "__next__") q slot_setit_next
  (wpAny_call_entry slot_setit_next q eB ?_ (eK _))))
 show wpAny _ _ (fieldsOf (.ref I)>>=_) _ _ s
 refine wpAny_bind (wpAny_fieldsOf hit rfl ?_)
 show wpAny _ _ (setEntries a>>=_) _ _ s
 refine wpAny_bind (wpAny_setEntries_of z rfl J ?_)
 refine wpAny_ite_split (fun h=>absurd h (by simp[F])) fun _=>?_
 show wpAny _ _ (seqItems? (.ref b)>>=_) _ _ s
 refine wpAny_bind (wpAny_seqItems L rfl ?_)
 simp only[Int.toNat_natCast,y]
 refine wpAny_bind (wpAny_setField hit rfl (by simp) ?_)
 haveI W:=Heap.get?_update_self (Obj.mapFields (·.setIfInBounds 0 (rawInt 0))) hit rfl
 refine wpAny_bind (wpAny_setField W rfl (by simp) ?_)
 exact sF (Q:=Q) (E:=E) (A:=A) (h0:=s.heap) (I:=I) H (fun _ _=>rfl) ((Heap.SameBut.update ..).trans (Heap.SameBut.update ..)).extBut fun h' k=>O h' k
theorem xD{I:Addr}{o:Obj}{Q:Value->Shared->Prop}(hit:s.heap.get? I=some o)(q:o.cls=.type "set_iterator")(h:Q (.ref I) s):wpAny (model pw w) A (pyIter (.ref I)) Q E s:=by
 haveI d:s.TypeIs (.ref I) "set_iterator" :=⟨_,hit,q⟩
 refine wpAny_pyIter_slot d iY (wpAny_call_entry iY d nX ?_ (pq _))
 exact wpAny_pure ⟨_,rfl,"set_iterator",_,d,slot_setit_next.lookup,h⟩
theorem sR{a:Addr}{d i:Nat}{es:Array (Int×Value)}{t:SetTable}(q:w.params.followText "set-order" =true)(r:s.heap.get? a=some (oR es d t))(y:t.fits es.size=true)
  (A:Around) (E:Value->Shared->Prop) (Q:Option (Value×Nat)->Shared->Prop) (h:Q (((pickOrder (w.params.setOrder a d) es)[i]?).map fun e=>(e.2,0)) s):wpAny (model pw w) A (setNext a 0 i d) Q E s:=by
 unfold setNext
 refine wpAny_bind (wpAny_setState_of r rfl y ?_)
 refine wpAny_bind ?_
 unfold setsByText
 refine wpAny_bind (wpAny_askSetting (wpAny_pure ?_))
 refine wpAny_ite_split (fun _=>?_) fun h=>absurd q h
 refine wpAny_ite_split (fun h=>absurd h (by simp)) fun _=>?_
 refine wpAny_bind ?_
 unfold setWalk
 refine wpAny_bind (wpAny_setState_of r rfl y ?_)
 refine wpAny_bind ?_
 unfold setsByText
 refine wpAny_bind (wpAny_askSetting (wpAny_pure ?_))
 refine wpAny_ite_split (fun _=>?_) fun h=>absurd q h
 refine wpAny_bind (wpAny_askSetting (wpAny_pure (wpAny_pure ?_)))
 exact h
set_option backward.match.sparseCases true in
theorem qp{a:Addr}{r i slot:Nat}{es:Array (Int×Value)}{t:SetTable}(y:w.params.followText "set-order" =false)(z:s.heap.get? a=some (oR es r t))(H:t.fits es.size=true)
  (F:t.led=true) (q:t.plain=true\/es.size<=1)
  (A:Around) (E:Value->Shared->Prop) (Q:Option (Value×Nat)->Shared->Prop) (h:Q (match es[SetTable.below t.place slot]?,t.place[SetTable.below t.place slot]? with|some (_,x),some j=>some (x,j+1)|_,_=>none) s):wpAny (model pw w) A (setNext a slot i r) Q E s:=by
 unfold setNext
 refine wpAny_bind (wpAny_setState_of z rfl H ?_)
 refine wpAny_bind ?_
 unfold setsByText
 refine wpAny_bind (wpAny_askSetting (wpAny_pure ?_))
 refine wpAny_ite_split (fun h=>absurd (y.symm.trans h) (by decide)) fun _=>?_
 refine wpAny_ite_split (fun h=>?_) fun _=>?_
 ·exfalso
  haveI d:(!t.plain&&decide (es.size>1))=true:=h
  simp only[Bool.and_eq_true,decide_eq_true_eq,Bool.not_eq_true']at d
  rcases q with q|q
  ·rw[q]at d;cases d.1
  ·omega
 refine wpAny_bind ?_
 refine wpAny_ite_split (fun h=>?_) fun _=>?_
 ·exfalso
  haveI d:(!t.led&& !es.isEmpty)=true:=h
  rw[F]at d;exact(aH d).elim
 refine wpAny_pure ?_
 exact wpAny_pure h
end
inductive Way where
 |text|plain|drawn (b:Addr) (ps:List Nat)
noncomputable def Way.head(t:SetTable):Way->Nat->Value
 |.text,_=>.int 0 0
 |.plain,i=>.int (match i with|0=>(0:Nat)|i+1=>t.place.getD i 0+1:Nat) 0
 |.drawn b _,_=>.ref b
structure Ey(P:Params)(a:Addr)(ep:Nat)(es:Array (Int×Value))(t:SetTable)(wy:Way)(ord:List (Int×Value)):Prop where
 perm:ord.Perm es.toList
 at':match wy with
  |.text=>P.followText "set-order" =true/\ord=(pickOrder (P.setOrder a ep) es).toList
  |.plain=>P.followText "set-order" =false/\t.led=true/\(t.plain=true\/es.size<=1)/\Asc t.place/\ord=es.toList
  |.drawn _ ps=>ord=ps.map (fun i=>es.getD i (0,.none))/\(∀i∈ps,i<es.size)/\ps.length=es.size
def zq(h:Heap):Way->Prop
 |.drawn b ps=>h.get? b=some (seqObj "tuple" (ps.map fun(i:Nat)=>Value.int i 0).toArray 0)
 |_=>True
noncomputable def gm:Way->List Addr
 |.drawn b _=>[b]
 |_=>[]
section
variable{w:World}{A:Around}{E:Value->Shared->Prop}{s:Shared}
theorem Af{I a:Addr}{ep:Nat}{es:Array (Int×Value)}{t:SetTable}{L:Way}{ord:List (Int×Value)}(hh:A.handled=none)(ok:Ey w.params a ep es t L ord)(r:t.fits es.size=true)(ne:a≠I)(nb:I∉gm L):
  Walks pw w A I (I::a::gm L) [I] es.size (fun i v=>(ord[i]?).map (·.2)=some v) (fun i h=>i<=es.size/\h.get? I=some (itO (L.head t i) i (.ref a) es.size ep)/\h.get? a=some (oR es ep t)/\zq h L) where
 sub:=fun b hb=>by simp at hb;simp[hb]
 frame:=fun i h d st k=>⟨st.1,k I (by simp) _ st.2.1,k a (by simp) _ st.2.2.1,by
  have:=st.2.2.2
  cases L<;>first|trivial|exact k _ (by simp[gm]) _ this⟩
 self:=fun i s Q E st h=>xD st.2.1 rfl h
 item:=fun i s Q E hi st hQ=>by
  obtain⟨_,hI,F,hb⟩:=st
  obtain⟨pm,at'⟩:=ok
  have J:ord.length=es.size:=by rw[pm.length_eq];simp
  have y:∀(x:Value) (d:Heap),ord[i]?.map (·.2)=some x->d.get? I=some (itO (L.head t (i+1)) (i+1) (.ref a) es.size ep)->Heap.SameBut I s.heap d->Q (some x) {s with heap:=d}:=fun x d hx e W=>by
   refine hQ x d s.toks hx ⟨hi,e,?_,?_⟩ fun b o nb e=>W.extBut b o (by simpa using nb) e
   ·rw[W.2 a ne];exact F
   ·cases L<;>first|trivial|(show d.get? _=_;rw[W.2 _ (by simp[gm]at nb;exact fun q=>nb q.symm)];exact hb)
  cases L with
  |text=>
   obtain⟨Z,O⟩:=at'
   subst O
   have ac:i<(pickOrder (w.params.setOrder a ep) es).size:=by rw[<-Array.length_toList,J];exact hi
   refine sK (slot:=0) (x:=((pickOrder (w.params.setOrder a ep) es)[i]).2) (nxt:=0) hI F r rfl (fun A E Q Y=>sR Z F r A E Q ?_) fun d e W=>y _ d ?_ e W
   ·rw[Array.getElem?_eq_getElem ac];exact Y
   ·rw[Array.getElem?_toList,Array.getElem?_eq_getElem ac];rfl
  |plain=>
   haveI Z:=at'.1;haveI hl:=at'.2.1;haveI hd:=at'.2.2.1;obtain⟨as,O⟩:=at'.2.2.2
   subst O
   have H:t.place.size=es.size:=by
    unfold SetTable.fits at r
    simp only[Bool.and_eq_true,beq_iff_eq]at r
    exact r.1
   have aa:SetTable.below t.place (match i with|0=>(0:Nat)|i+1=>t.place.getD i 0+1:Nat)=i:=by
    cases i with
    |zero=>exact as.zero
    |succ i=>
     refine as.next i _ ?_
     haveI:i<t.place.size:=tln (ltn (Nat.le_add_right ..) hi) (ern H)
     simp[this]
   have z:i<t.place.size:=tln hi (ern H)
   refine sK (slot:=(match i with|0=>(0:Nat)|i+1=>t.place.getD i 0+1:Nat)) (x:=(es[i]).2) (nxt:=t.place.getD i 0+1) hI F r rfl (fun A E Q Y=>qp Z F r hl hd A E Q ?_) fun d e W=>y _ d ?_ ?_ W
   ·rw[aa,Array.getElem?_eq_getElem hi,Array.getElem?_eq_getElem z]
    haveI:t.place.getD i 0=t.place[i]:=by simp[z]
    rw[this]at Y
    exact Y
   ·rw[Array.getElem?_toList,Array.getElem?_eq_getElem hi];rfl
   ·exact e
  |drawn b ps=>
   obtain⟨O,ab,hl⟩:=at'
   have z:i<ps.length:=tln hi (ern hl)
   have hm:=ab ps[i] (List.getElem_mem z)
   refine vf (p:=ps[i]) (x:=es[ps[i]]) hI F hb r rfl ?_ (Array.getElem?_eq_getElem hm) fun d e W=>y _ d ?_ e W
   ·simp[z]
   ·rw[O,List.getElem?_map,List.getElem?_eq_getElem z]
    simp[hm]
 done:=fun s Q E st hQ=>by
  obtain⟨_,hI,F,hb⟩:=st
  obtain⟨pm,at'⟩:=ok
  have J:ord.length=es.size:=by rw[pm.length_eq];simp
  have y:∀d:Heap,Heap.ExtBut I s.heap d->Q none {s with heap:=d}:=fun d k=>hQ d s.toks fun b o nb e=>k b o (by simpa using nb) e
  cases L with
  |text=>
   obtain⟨Z,O⟩:=at'
   subst O
   refine j9 (slot:=0) hh hI F r rfl (fun A E Q Y=>sR Z F r A E Q ?_) y
   rw[<-Array.getElem?_toList,List.getElem?_eq_none (eln J)];exact Y
  |plain=>
   obtain⟨Z,hl,hd,as,O⟩:=at'
   subst O
   have H:t.place.size=es.size:=by
    unfold SetTable.fits at r
    simp only[Bool.and_eq_true,beq_iff_eq]at r
    exact r.1
   haveI aa:SetTable.below t.place (match es.size with|0=>(0:Nat)|i+1=>t.place.getD i 0+1:Nat)=es.size:=by
    generalize hz:es.size=k at H⊢
    cases k with
    |zero=>exact as.zero
    |succ i=>
     refine as.next i _ ?_
     haveI:i<t.place.size:=ern H
     simp[this]
   refine j9 (slot:=(match es.size with|0=>(0:Nat)|i+1=>t.place.getD i 0+1:Nat)) hh hI F r rfl (fun A E Q Y=>qp Z F r hl hd A E Q ?_) y
   rw[aa,Array.getElem?_eq_none (Nat.le_refl _)];exact Y
  |drawn b ps=>
   haveI O:=at'.1;haveI ab:=at'.2.1;haveI hl:=at'.2.2
   refine oQ hh hI F hb r rfl ?_ y
   simp[hl]
end
end Internal
end
section
set_option tactic.hygienic false
set_option backward.match.sparseCases true
open PySem PySem.W PyProof.Rows
namespace Internal
theorem rI(a:Value):PySem.argsOk "set.__iter__" ⟨[a],[]⟩:=by unfold PySem.argsOk;kernel_rfl
section
variable{w:World}{A:Around}{E:Value->Shared->Prop}{s:Shared}
theorem yN{es:Array (Int×Value)}{ps:List Nat}(pm:ps.Perm (List.range es.size)):(ps.map fun i=>es.getD i (0,.none)).Perm es.toList:=by
 haveI e:((List.range es.size).map fun i=>es.getD i (0,.none))=es.toList:=by
  refine List.ext_getElem (by simp) fun i d q=>?_
  simp at d
  simp[d]
 exact(pm.map _).trans (by rw[e])
theorem Db{a:Addr}{ep:Nat}{es:Array (Int×Value)}{t:SetTable}{Q:Value->Shared->Prop}(G:mZ w.params es t)(ho:s.heap.get? a=some (oR es ep t))(hsz:es.size<=1000)
  (h:∀wy ord I h' dr,Ey w.params a ep es t wy ord->I∉gm wy->s.heap.get? I=none->(∀b∈gm wy,s.heap.get? b=none)->(∀b o,s.heap.get? b=some o->h'.get? b=some o)->h'.get? I=some (itO (wy.head t 0) 0 (.ref a) es.size ep)->zq h' wy->
   Q (.ref I) {s with heap:=h',drawn:=dr}):wpAny (model pw w) A (pyIter (.ref a)) Q E s:=by
 obtain⟨hf,hl,hm⟩:=G
 haveI hT:s.TypeIs (.ref a) "set" :=⟨_,ho,rfl⟩
 refine wpAny_pyIter_slot hT F.slot_set_iter (wpAny_call_entry F.slot_set_iter hT o6 ?_ (rI _))
 show wpAny _ _ (setEntries a>>=_>>=_) _ _ s
 refine wpAny_bind (wpAny_bind (wpAny_setEntries_of ho rfl hf (wpAny_pure ?_)))
 have new:∀(A:Around) (wy:Way) (ord:List (Int×Value)) (first:Value) (s₁:Shared),first=wy.head t 0->Ey w.params a ep es t wy ord->s₁.heap.objs.size∉gm wy->s.heap.get? s₁.heap.objs.size=none->(∀b∈gm wy,s.heap.get? b=none)->(∀b o,s.heap.get? b=some o->s₁.heap.get? b=some o)->
   zq s₁.heap wy->(∃dr h₁,s₁={s with heap:=h₁,drawn:=dr})->wpAny (model pw w) A (do ret (<-newFields "set_iterator" [first,rawInt 0,.ref a,rawInt (es.size:Int),rawInt ((<-setEpoch a:Nat):Int)]):Sem Fin)
    (fun fin s'=>∃r,fin=.done (.ret r)/\∃T' r',s'.TypeIs r T'/\typeLookup (.type T') "__next__" =pure (some r')/\Q r s') E s₁:=by
  rintro A wy ord first s₁ rfl wo nI sI sB kp wa ⟨dr,h₁,rfl⟩
  have ho1:=kp a _ ho
  refine wpAny_bind (wpAny_setEpoch_of ho1 rfl hf ?_)
  refine wpAny_bind (wpAny_newObj_type ?_ (by size_fits))
  refine wpAny_pure ⟨_,rfl,"set_iterator",_,⟨_,Heap.get?_push_size _ rfl,rfl⟩,slot_setit_next.lookup,h wy ord _ _ dr wo nI sI sB (fun b o e=>Heap.get?_push_of_some _ (kp b o e)) (Heap.get?_push_size _ rfl) ?_⟩
  cases wy<;>first|trivial|exact Heap.get?_push_of_some _ wa
 refine wpAny_bind ?_
 unfold setDrawn
 refine wpAny_bind (wpAny_setState_of ho rfl hf ?_)
 refine wpAny_bind ?_
 unfold setsByText
 refine wpAny_bind (wpAny_askSetting (wpAny_pure (wpAny_pure ?_)))
 dsimp only
 cases hp:w.params.followText "set-order" with
 |true=>
  rw[hp]at hl
  refine wpAny_ite_split (fun h=>absurd h (by simp[model,hp])) fun _=>?_
  exact wpAny_bind (wpAny_pure (new _ .text _ _ s rfl ⟨qe _ _,hp,rfl⟩ (by simp[gm]) aX (by simp[gm]) (fun _ _ e=>e) trivial ⟨s.drawn,s.heap,rfl⟩))
 |false=>
  rw[hp]at hl
  refine wpAny_ite_split (fun hd=>?_) fun hd=>?_
  ·haveI hd':(!t.plain&&decide (es.size>1))=true:=by
    haveI:(!(model pw w).w.params.followText "set-order" &&(!t.plain&&decide (es.size>1)))=true:=hd
    rw[Bool.and_eq_true]at this
    exact this.2
   refine wpAny_bind (Gs _ _ _ List.length_range.symm fun ps dr pm=>?_)
   refine wpAny_bind (wpAny_newTuple ?_ ?_)
   rotate_left
   ·rw[List.length_map,pm.length_eq,List.length_range,sizeLine_eq];exact tkn hsz rfl
   haveI hps:∀i∈ps,i<es.size:=fun i hi=>List.mem_range.mp (pm.mem_iff.mp hi)
   haveI hlen:ps.length=es.size:=by rw[pm.length_eq,List.length_range]
   refine new _ (.drawn s.heap.objs.size ps) _ _ _ rfl ⟨yN pm,rfl,hps,hlen⟩ ?_ ?_ ?_ (fun b o e=>Heap.get?_push_of_some _ e) (Heap.get?_push_size _ rfl) ⟨dr,_,rfl⟩
   ·simp only[gm,List.mem_singleton,Heap.size_push]
    exact Nat.succ_ne_self _
   ·exact wg (by simp[Heap.size_push])
   ·intro b hb
    rw[List.mem_singleton.mp hb];exact aX
  ·haveI hd':¬(!t.plain&&decide (es.size>1))=true:=fun q=>hd (by
    show(!(model pw w).w.params.followText "set-order" &&(!t.plain&&decide (es.size>1)))=true
    rw[q];simp[model,hp])
   haveI hm':(t.plain=true\/es.size<=1)/\Asc t.place:=by
    rcases hm with⟨h1,h2⟩|h
    ·exact absurd (by rw[h1];simpa using h2) hd'
    ·exact h
   exact wpAny_bind (wpAny_pure (new _ .plain _ _ s rfl ⟨.refl _,hp,hl,hm'.1,hm'.2,rfl⟩ (by simp[gm]) aX (by simp[gm]) (fun _ _ e=>e) trivial ⟨s.drawn,s.heap,rfl⟩))
theorem Dm{a:Addr}{o:Obj}{Q:Bool->Shared->Prop}(z:s.heap.get? a=some o)(H:o.cls=.type "set")(h:Q false s):wpAny (model pw w) A (Builtin.List.listLengthHint (.ref a)) Q E s:=by
 have y:s.TypeIs (.ref a) "set" :=⟨_,z,H⟩
 unfold Builtin.List.listLengthHint
 refine wpAny_bind (wpAny_specialOf y F.slot_set_len.lookup ?_)
 generalize q:("set.__len__" :String)=r
 wp_delta
 rw[show splitId r=some ("set","__len__")from by subst q;decide +kernel]
 subst q
 refine wpAny_bind (wpAny_isInstance (T:="set") (b:=true) y (by rw[isSubtype_type];kernel_rfl) ?_)
 refine wpAny_ite_split (fun d=>absurd d (by decide)) (fun _=>?_)
 refine wpAny_ite_split (fun _=>?_) (fun d=>absurd (by decide +kernel) d)
 refine wpAny_bind (wpAny_typeOf y ?_)
 exact wpAny_pure h
theorem yG{R:Result->Shared->Prop}{a S:Addr}{ep:Nat}{es:Array (Int×Value)}{t:SetTable}{Z:Value}(hh:A.handled=none)(G:mZ w.params es t)(y:s.heap.get? a=some (oR es ep t))(hsz:es.size<=1000)
  (hS:s.heap.get? S=some (seqObj "list" #[] 0))
  (h:∀d h' dr tk c',d.toList.Perm (es.toList.map (·.2))->(∀b o,b≠S->s.heap.get? b=some o->h'.get? b=some o)->h'.get? S=some (seqObj "list" d c')->R (.ok (.ret Z)) {s with heap:=h',drawn:=dr,toks:=tk}):
  wpAny (model pw w) A.in1 (Builtin.List.listExtendWith (.ref S) (.ref a) Z)
   (fun am s'=>match am with|.done f=>R (.ok f) s'|.again c'=>c'.quiet=true/\codeAny (model pw w) A c' R s') (fun e s'=>R (.error e) s') s:=by
 have sa:a≠S:=fun q=>by
  rw[q,hS]at y
  haveI:=congrArg Obj.cls (Option.some.inj y)
  exact absurd this (fun q:(Value.type "list" =Value.type "set")=>absurd (Value.type.inj q) (by decide))
 unfold Builtin.List.listExtendWith
 refine wpAny_bind (wpAny_typeOf (T:="set") ⟨_,y,rfl⟩ ?_)
 haveI h1:Builtin.List.listSameRef (.ref S) (.ref a)=false:=by simp[Builtin.List.listSameRef,sa.symm]
 haveI h2:(Value.type "set" ==Value.type "list")=false:=by decide
 haveI h3:(Value.type "set" ==Value.type "tuple")=false:=by decide
 simp only[h1,h2,h3,Bool.or_false,Bool.false_eq_true,if_false]
 refine wpAny_bind (Db G y hsz fun wy ord I ab dr ok nI sI sB kp hI wa=>?_)
 haveI z:=kp _ _ hS
 haveI ae:=kp _ _ y
 have IS:I≠S:=fun q=>by rw[q,hS]at sI;exact nomatch sI
 haveI Ia:a≠I:=fun q=>by rw[<-q,y]at sI;exact nomatch sI
 have nS:S∉I::a::gm wy:=fun Y=>by
  rcases List.mem_cons.mp Y with q|Y
  ·exact IS q.symm
  rcases List.mem_cons.mp Y with q|Y
  ·exact sa q.symm
  ·haveI:=sB _ Y
   rw[hS]at this;exact nomatch this
 have W:=(Af (A:=A.in1) (I:=I) hh ok G.fits Ia nI).toS
 have ah:ord.length=es.size:=by rw[ok.perm.length_eq];simp
 have L:∀(h:Heap) (O:Nat),h.get? I=some (itO (wy.head t 0) 0 (.ref a) es.size ep)->(∀b o,b≠S->s.heap.get? b=some o->h.get? b=some o)->zq h wy->h.get? S=some (seqObj "list" #[] O)->
   codeAny (model pw w) A (.builtin "list.extend.loop" ⟨[.ref S,.ref I,Z],[]⟩) R {s with heap:=h,drawn:=dr}:=by
  intro an O ag aa ac r
  refine codeAny_extend_loopS W (by rw[sizeLine_eq];exact tkn hsz rfl) S nS Z es.size 0 _ #[] O rfl (Nat.zero_le _) ⟨Nat.zero_le _,ag,aa a _ sa y,ac⟩ r (ItemsOf.nil _) fun s' d c' Y al J=>?_
  obtain⟨h',g',d',aj,ak⟩:=s'
  haveI e1:g'=s.gens:=Y.gens
  haveI e2:d'=dr:=Y.drawn
  haveI e3:ak=s.os:=Y.os
  subst e1 e2 e3
  refine h d h' _ aj c' ?_ (fun b o nb e=>?_) al
  ·haveI:d.toList=ord.map (·.2):=by
    refine List.ext_getElem? fun i=>?_
    rw[List.getElem?_map]
    rcases Nat.lt_or_ge i es.size with hi|hi
    ·have ai:i<d.size:=by rw[J.1];exact hi
     have:=J.2 i _ (Array.getElem?_eq_getElem ai)
     rw[Array.getElem?_toList,Array.getElem?_eq_getElem ai,this]
    ·rw[List.getElem?_eq_none (by simp;rw[J.1];exact hi),List.getElem?_eq_none (trn (eln ah) hi)];rfl
   exact this.symm▸ok.perm.map _
  ·refine Y.heap b o ?_ (aa b o nb e)
   intro H
   rcases List.mem_cons.mp H with q|H
   ·exact nb q
   ·rw[List.mem_singleton]at H
    rw[<-H,e]at sI;exact nomatch sI
 refine wpAny_bind (wpAny_holding (Dm ae rfl ?_))
 refine wpAny_ite_split (fun _=>?_) (fun _=>wpAny_pure ⟨plainId_quiet F.plain_extend_loop _,L _ 0 hI (fun b o _ e=>kp b o e) wa z⟩)
 refine wpAny_bind (wpAny_rule ?_)
 refine wpAny_bind ?_
 show wpAny _ _ (updateSeq S (·.push .none)>>=fun _=>updateSeq S (·.pop)) _ _ _
 refine wpAny_bind (wpAny_updateSeq z rfl ?_)
 haveI r:=Heap.get?_update_self (Obj.mapSeq (·.push Value.none)) z rfl
 refine wpAny_updateSeq (hz:=by seq_fits) r rfl ?_
 haveI af:=Heap.get?_update_self (Obj.mapSeq (·.pop)) r rfl
 have ad:∀b o,b≠S->ab.get? b=some o->((ab.update S (Obj.mapSeq (·.push Value.none))).update S (Obj.mapSeq (·.pop))).get? b=some o:=fun b o hb e=>
  (Heap.get?_update_other _ _ (Ne.symm hb)).trans ((Heap.get?_update_other _ _ (Ne.symm hb)).trans e)
 refine wpAny_pure ⟨plainId_quiet F.plain_extend_loop _,L _ _ (ad I _ IS hI) (fun b o hb e=>ad b o hb (kp b o e)) ?_ af⟩
 cases wy<;>first|trivial|(refine ad _ _ (fun q=>nS ?_) wa;rw[<-q];simp[gm])
theorem wE{a:Addr}{Y:Nat}{es:Array (Int×Value)}{t:SetTable}{Q:List Value->Shared->Prop}(O:A.handled=none)(G:mZ w.params es t)(L:s.heap.get? a=some (oR es Y t))(hsz:es.size<=1000)
  (h:∀vs h' q tk,vs.Perm (es.toList.map (·.2))->(∀b o,s.heap.get? b=some o->h'.get? b=some o)->Q vs {s with heap:=h',drawn:=q,toks:=tk}):wpAny (model pw w) A (collect (.ref a)) Q E s:=by
 unfold collect
 refine wpAny_bind (wpAny_runValue (codeAny_builtin entry_proto_collect' ?_))
 show wpAny _ _ (do again (.builtin "list.__iadd__" ⟨[<-newList [],.ref a],[]⟩)) _ _ s
 refine wpAny_bind (wpAny_newList (wpAny_pure ⟨Code.quiet_builtin _ (by decide +kernel),codeAny_builtin entry_list_iadd' ?_⟩))
 show wpAny _ _ (Builtin.List.listExtendWith (.ref s.heap.objs.size) (.ref a) (.ref s.heap.objs.size)) _ _ {s with heap:=s.heap.push (seqObj "list" #[] 0)}
 rw[Around.under_plainId F.plain_list_iadd _]
 refine yG (R:=fun r d=>match r with
  |.ok (.ret v)=>wpAny (model pw w) A (match v with
   |.ref a=>do
    match (<-load a).data with
    |.seq z _=>pure z.toList
    |_=>unsupported "internal:collect"
   |_=>unsupported "internal:collect") Q E d
  |.ok _=>False
  |.error e=>E e d) (A:=A) (s:={s with heap:=s.heap.push (seqObj "list" #[] 0)}) O G (Heap.get?_push_of_some _ L) hsz (Heap.get?_push_size _ rfl) fun y h' q tk Z H J W=>?_
 refine wpAny_bind (wpAny_load W ?_)
 exact wpAny_pure (h _ _ _ _ H fun b o e=>J b o (Nat.ne_of_lt (Heap.lt_size e)) (Heap.get?_push_of_some _ e))
end
end Internal
end
section
open PySem PySem.W PyProof.Rows
namespace Internal
noncomputable def dC(led:Bool)(l:List (Int×Value)):Array (Int×Value)×SetTable:=l.foldl (fun p e=>fc p.2 p.1 e.1 e.2) (#[],.fresh 0 0 led)
theorem fP(led:Bool)(l:List (Int×Value))(e:Int×Value):dC led (l++[e])=fc (dC led l).2 (dC led l).1 e.1 e.2:=by
 unfold dC
 rw[List.foldl_append];rfl
theorem tw{α:Type}{P:List α->Prop}(h0:P [])(q:∀l e,P l->P (l++[e]))(l:List α):P l:=by
 have:∀r:List α,P r.reverse:=by
  intro r
  induction r with
  |nil=>exact h0
  |cons e r d=>rw[List.reverse_cons];exact q _ _ d
 have:=this l.reverse
 rwa [List.reverse_reverse]at this
theorem jM(led:Bool):∀l:List (Int×Value),(dC led l).1.toList.Perm l:=by
 refine tw ?_ fun l e d=>?_
 ·exact .refl _
 ·rw[fP]
  exact(w6 ..).trans (d.append_right _)
theorem zm(led:Bool):∀l:List (Int×Value),(dC led l).2.led=led:=by
 refine tw ?_ fun l e d=>?_
 ·rfl
 ·rw[fP]
  exact(zl ..).trans d
theorem hA(led:Bool):∀l:List (Int×Value),(dC led l).2.fits (dC led l).1.size=true:=by
 refine tw ?_ fun l e d=>?_
 ·rfl
 ·rw[fP]
  exact w7 ..
theorem hw(led:Bool)(l:List (Int×Value)):(dC led l).1.size=l.length:=by
 rw[<-Array.length_toList,(jM led l).length_eq]
theorem qa(t:SetTable)(es:Array (Int×Value))(n:Nat)(r:t.plain=false):(relayAll t es n).2.1.plain=false:=by
 unfold relayAll
 split
 ·rename_i t' order e
  dsimp only
  split
  ·unfold SetTable.relaid SetTable.laid at e
   cases q:SetTable.layClean (SetTable.sizeAbove n-1) (es.map (·.1))with
   |none=>rw[q]at e;cases e
   |some o=>rw[q]at e;haveI d:=Prod.mk.inj (Option.some.inj e);obtain rfl:=d.1;obtain rfl:=d.2;exact r
  ·rfl
 ·rfl
theorem zj(t:SetTable)(es:Array (Int×Value))(h:Int)(x:Value)(hx:plainKind x=false):(fc t es h x).2.plain=false:=by
 haveI m:(dQ t es h x).plain=false:=by
  unfold dQ
  split
  ·rfl
  ·rename_i q
   cases c:(layNew t es h x).2.1.plain with
   |false=>rfl
   |true=>exact(q ⟨c,hx⟩).elim
 unfold fc
 split
 ·exact qa _ _ _ m
 ·exact m
noncomputable def Jc(p:Array Nat):Bool:=SetTable.below p 0==0&&(List.range p.size).all fun i=>SetTable.below p (p.getD i 0+1)==i+1
theorem Jb{p:Array Nat}(h:Jc p=true):Asc p:=by
 unfold Jc at h
 rw[Bool.and_eq_true,List.all_eq_true]at h
 refine⟨eq_of_beq h.1,fun i j e=>?_⟩
 have d:i<p.size:=(Array.getElem?_eq_some_iff.mp e).1
 haveI:=h.2 i (List.mem_range.mpr d)
 haveI q:p.getD i 0=j:=by
  rw[Array.getElem?_eq_getElem d]at e
  rw[<-Option.some.inj e]
  simp[d]
 rw[q]at this
 exact eq_of_beq this
noncomputable def km:Key->Bool
 |.i n=>n==3||n== -1||n==8
 |.s _=>false
section
variable{w:World}
noncomputable def hx(w:World)(p:Key×Value):Int×Value:=((aJ pw w).hash p.1,p.2)
@[elab_as_elim]
theorem cO{k:Key}{v:Value}{P:Key->Value->Prop}(h:km k=true/\Key.is k v=true)(r:∀t,P (.i 3) (.int 3 t))(y:∀t,P (.i (-1)) (.int (-1) t))(q:∀t,P (.i 8) (.int 8 t)):P k v:=by
 obtain⟨h,i⟩:=h
 cases k with
 |s _=>exact(aH h).elim
 |i n=>
  refine xE (Key.is_i i) fun t d=>?_;obtain rfl:=d
  simp only[km,Bool.or_eq_true,beq_iff_eq]at h
  rcases h with(rfl|rfl)|rfl
  ·exact r t
  ·exact y t
  ·exact q t
def Gd(w:World)(led:Bool)(l:List (Key×Value)):Prop:=(dC led (l.map (hx w))).2.plain=true/\Jc (dC led (l.map (hx w))).2.place=true
theorem O3(a b c d:Key)(H:km a=true)(F:km b=true)(z:km c=true)(y:km d=true)(r:[a,b,c,d].Nodup):False:=by
 haveI q:∀a∈[Key.i 3,.i (-1),.i 8],∀b∈[Key.i 3,.i (-1),.i 8],∀c∈[Key.i 3,.i (-1),.i 8],∀d∈[Key.i 3,.i (-1),.i 8],¬[a,b,c,d].Nodup:=by decide
 haveI m:∀k:Key,km k=true->k∈[Key.i 3,.i (-1),.i 8]:=fun k h=>by
  cases k with
  |s _=>exact(aH h).elim
  |i n=>
   simp only[km,Bool.or_eq_true,beq_iff_eq]at h
   rcases h with(rfl|rfl)|rfl<;>decide
 exact q a (m a H) b (m b F) c (m c z) d (m d y) r
theorem sX(led:Bool):∀(l:List (Key×Value)),(∀p∈l,km p.1=true/\Key.is p.1 p.2=true)->(l.map (·.1)).Nodup->Gd w led l
 | [],_,_=>⟨rfl,rfl⟩
 | [(H,J)],h,_=>cO (P:=fun H J=>Gd w led [(H,J)]) (h _ (.head _)) (fun t=>⟨by kernel_rfl,by kernel_rfl⟩) (fun t=>⟨by kernel_rfl,by kernel_rfl⟩) (fun t=>⟨by kernel_rfl,by kernel_rfl⟩)
 | [(H,J),(y,F)],h,d=>cO (P:=fun H J=>[H,y].Nodup->Gd w led [(H,J),(y,F)]) (h _ (.head _))
   (fun t=>cO (P:=fun y F=>[Key.i 3,y].Nodup->Gd w led [(.i 3,.int 3 t),(y,F)]) (h _ (.tail _ (.head _))) (fun u d=>absurd d (by decide)) (fun u _=>⟨by kernel_rfl,by kernel_rfl⟩) (fun u _=>⟨by kernel_rfl,by kernel_rfl⟩))
   (fun t=>cO (P:=fun y F=>[Key.i (-1),y].Nodup->Gd w led [(.i (-1),.int (-1) t),(y,F)]) (h _ (.tail _ (.head _))) (fun u _=>⟨by kernel_rfl,by kernel_rfl⟩) (fun u d=>absurd d (by decide)) (fun u _=>⟨by kernel_rfl,by kernel_rfl⟩))
   (fun t=>cO (P:=fun y F=>[Key.i 8,y].Nodup->Gd w led [(.i 8,.int 8 t),(y,F)]) (h _ (.tail _ (.head _))) (fun u _=>⟨by kernel_rfl,by kernel_rfl⟩) (fun u _=>⟨by kernel_rfl,by kernel_rfl⟩) (fun u d=>absurd d (by decide))) d
 | [(H,J),(y,F),(q,z)],h,d=>by
  haveI L:=h _ (.tail _ (.tail _ (.head _)))
  refine cO (P:=fun H J=>[H,y,q].Nodup->Gd w led [(H,J),(y,F),(q,z)]) (h _ (.head _)) (fun t=>?_) (fun t=>?_) (fun t=>?_) d
  ·refine cO (P:=fun y F=>[Key.i 3,y,q].Nodup->Gd w led [(.i 3,.int 3 t),(y,F),(q,z)]) (h _ (.tail _ (.head _))) (fun u d=>?_) (fun u=>?_) (fun u=>?_)
   ·exact(List.nodup_cons.mp d).1.elim (.head _)
   ·exact cO (P:=fun q z=>[Key.i 3,.i (-1),q].Nodup->Gd w led [(.i 3,.int 3 t),(.i (-1),.int (-1) u),(q,z)]) L (fun u d=>absurd d (by decide)) (fun u d=>absurd d (by decide)) fun u _=>⟨by kernel_rfl,by kernel_rfl⟩
   ·exact cO (P:=fun q z=>[Key.i 3,.i 8,q].Nodup->Gd w led [(.i 3,.int 3 t),(.i 8,.int 8 u),(q,z)]) L (fun u d=>absurd d (by decide)) (fun u _=>⟨by kernel_rfl,by kernel_rfl⟩) fun u d=>absurd d (by decide)
  ·refine cO (P:=fun y F=>[Key.i (-1),y,q].Nodup->Gd w led [(.i (-1),.int (-1) t),(y,F),(q,z)]) (h _ (.tail _ (.head _))) (fun u=>?_) (fun u d=>?_) (fun u=>?_)
   ·exact cO (P:=fun q z=>[Key.i (-1),.i 3,q].Nodup->Gd w led [(.i (-1),.int (-1) t),(.i 3,.int 3 u),(q,z)]) L (fun u d=>absurd d (by decide)) (fun u d=>absurd d (by decide)) fun u _=>⟨by kernel_rfl,by kernel_rfl⟩
   ·exact(List.nodup_cons.mp d).1.elim (.head _)
   ·exact cO (P:=fun q z=>[Key.i (-1),.i 8,q].Nodup->Gd w led [(.i (-1),.int (-1) t),(.i 8,.int 8 u),(q,z)]) L (fun u _=>⟨by kernel_rfl,by kernel_rfl⟩) (fun u d=>absurd d (by decide)) fun u d=>absurd d (by decide)
  ·refine cO (P:=fun y F=>[Key.i 8,y,q].Nodup->Gd w led [(.i 8,.int 8 t),(y,F),(q,z)]) (h _ (.tail _ (.head _))) (fun u=>?_) (fun u=>?_) (fun u d=>?_)
   ·exact cO (P:=fun q z=>[Key.i 8,.i 3,q].Nodup->Gd w led [(.i 8,.int 8 t),(.i 3,.int 3 u),(q,z)]) L (fun u d=>absurd d (by decide)) (fun u _=>⟨by kernel_rfl,by kernel_rfl⟩) fun u d=>absurd d (by decide)
   ·exact cO (P:=fun q z=>[Key.i 8,.i (-1),q].Nodup->Gd w led [(.i 8,.int 8 t),(.i (-1),.int (-1) u),(q,z)]) L (fun u _=>⟨by kernel_rfl,by kernel_rfl⟩) (fun u d=>absurd d (by decide)) fun u d=>absurd d (by decide)
   ·exact(List.nodup_cons.mp d).1.elim (.head _)
 |p1::p2::p3::p4::r,h,d=>(O3 p1.1 p2.1 p3.1 p4.1 (h _ (.head _)).1 (h _ (.tail _ (.head _))).1 (h _ (.tail _ (.tail _ (.head _)))).1 (h _ (.tail _ (.tail _ (.tail _ (.head _))))).1 ((List.nodup_append (l₁:=[p1.1,p2.1,p3.1,p4.1])).mp d).1).elim
theorem Co{l:List (Key×Value)}(F:∀p∈l,Key.is p.1 p.2=true)(L:(l.map (·.1)).Nodup)(c:(∀p∈l,km p.1=true)\/∀p∈l,∃x,p.1=.s x):
  mZ w.params (dC (!w.params.followText "set-order") (l.map (hx w))).1 (dC (!w.params.followText "set-order") (l.map (hx w))).2:=by
 refine⟨hA ..,zm ..,?_⟩
 rcases c with c|c
 ·haveI h1:=(sX (w:=w) (!w.params.followText "set-order") l (fun p y=>⟨c p y,F p y⟩) L).1;haveI h2:=(sX (w:=w) (!w.params.followText "set-order") l (fun p y=>⟨c p y,F p y⟩) L).2
  exact .inr ⟨.inl h1,Jb h2⟩
 ·haveI d:=hw (!w.params.followText "set-order") (l.map (hx w))
  haveI H:=hA (!w.params.followText "set-order") (l.map (hx w))
  rcases l with _|⟨p,_|⟨q,r⟩⟩
  ·exact .inr ⟨.inr (by rw[d];simp),GP⟩
  ·right
   refine⟨.inr (by rw[d];simp),?_⟩
   unfold SetTable.fits at H
   simp only[Bool.and_eq_true,beq_iff_eq]at H
   haveI:(dC (!w.params.followText "set-order") (List.map (hx w) [p])).2.place.size=1:=by rw[H.1,d];rfl
   refine(Array.size_eq_one_iff.mp this).elim fun a Z=>?_
   exact Z▸GO
  ·left
   refine⟨?_,by rw[d];simp⟩
   obtain⟨J,e,hr⟩:∃J e,p::q::r=J++[e]:=⟨(p::q::r).dropLast,_,(List.dropLast_concat_getLast (by simp)).symm⟩
   haveI Y:=c e (by rw[hr];simp)
   haveI O:=F e (by rw[hr];simp)
   rw[hr,List.map_append,List.map_singleton,fP]
   refine zj _ _ _ _ ?_
   refine Y.elim fun x z=>?_
   rw[z]at O
   refine(Key.is_s O).elim fun t W=>?_
   show plainKind e.2=false
   rw[W];rfl
end
end Internal
end
section
set_option tactic.hygienic false
open PySem PySem.W PyProof.Rows
namespace Internal
theorem vY(k:Key):bG k.toT=some k:=by cases k<;>rfl
theorem uv (acc:List T) (t:T) (ts:List T):cZ acc (t::ts)=if acc.any (fun a=>decide (bG a=bG t))then cZ acc ts else cZ (acc++[t]) ts:=rfl
theorem yP(t:T):∀(l acc:List T),cZ acc (l++[t])=if(cZ acc l).any (fun a=>decide (bG a=bG t))then cZ acc l else cZ acc l++[t]:=by
 intro q
 induction q with
 |nil=>
  rintro acc
  exact rfl
 |cons x l d=>
  rintro acc
  rw[List.cons_append,uv,uv]
  split
  ·exact d acc
  ·exact d _
section
variable{w:World}{W:Wd}{A:Around}{E:Value->Shared->Prop}{s:Shared}
inductive Built (w:World) (W:Wd) (led:Bool) (h:Heap) (S:Addr) (us:List T):Prop
 |mk (kvs:List (Key×Value)) (a:w9 h S (dC led (kvs.map (hx w))).1 (dC led (kvs.map (hx w))).2) (i:∀p∈kvs,Key.is p.1 p.2=true) (n:(kvs.map (·.1)).Nodup) (r:Reps w W us (kvs.map (·.2))) (e:kvs.map (fun p=>p.1.toT)=us):Built w W led h S us
theorem s3:∀(l acc:List T),(cZ acc l).length<=acc.length+l.length:=by
 intro q
 induction q with
 |nil=>
  rintro _
  exact Nat.le_refl _
 |cons x l d=>
  rintro acc
  rw[uv]
  split
  ·exact Nat.le_trans (d acc) (Nat.add_le_add_left (Nat.le_succ _) _)
  ·exact Nat.le_trans (d _) (Nat.le_of_eq (by rw[List.length_append,Nat.add_assoc];exact congrArg (acc.length+ ·) (Nat.add_comm 1 l.length)))
theorem Built.at'{led:Bool}{h h':Heap}{S:Addr}{q:List T}(b:Built w W led h S q)(k:∀o,h.get? S=some o->h'.get? S=some o):Built w W led h' S q:=
 let⟨d,⟨y,a⟩,i,n,r,e⟩:=b;⟨d,⟨y,k _ a⟩,i,n,r,e⟩
theorem vX{k:Key}{v:Value}(h:Key.is k v=true):v.scannable=true:=by
 cases k with
 |i n=>refine xE (Key.is_i h) fun t d=>?_;obtain rfl:=d;rfl
 |s x=>refine xE (Key.is_s h) fun t d=>?_;obtain rfl:=d;rfl
theorem Dl{kvs:List (Key×Value)}(h:∀p∈kvs,Key.is p.1 p.2=true):ElemsOf (aJ pw w) (kvs.map (hx w)):=fun e r=>by
 refine xEA (List.mem_map.mp r) fun p q d=>?_;obtain rfl:=d
 exact⟨⟨p.1,h p q,rfl⟩,vX (h p q)⟩
theorem Bp{led:Bool}{S:Addr}{H:List T}{t:T}{k:Key}{v:Value}{Q:Bool->Shared->Prop}(b:Built w W led s.heap S H)(Z:bG t=some k)(r:Rep w W t v)(hl:H.length<=1000)
  (h:∀h' c,Heap.SameBut S s.heap h'->Built w W led h' S (if H.any (fun a=>decide (bG a=bG t))then H else H++[t])->Q c {s with heap:=h'}):
  wpAny (model pw w) A (setAddHashed S v ((aJ pw w).hash k)) Q E s:=by
 obtain⟨z,J,O,nd,rs,Y⟩:=b
 have hv:Key.is k v=true:=(fR Z r).1
 have ag:z.length=H.length:=by rw[<-Y];simp
 have aa:=hw led (z.map (hx w))
 have pm:=jM led (z.map (hx w))
 have y:(H.any fun a=>decide (bG a=bG t))=true↔k∈z.map (·.1):=by
  rw[List.any_eq_true,<-Y,List.mem_map]
  constructor
  ·intro L;refine xEA L fun a J hd=>?_
   refine xEA (List.mem_map.mp J) fun p F d=>?_;obtain rfl:=d
   rw[decide_eq_true_eq,vY,Z]at hd
   exact⟨p,F,Option.some.inj hd⟩
  ·intro L;refine xEA L fun p F d=>?_;obtain rfl:=d
   exact⟨_,List.mem_map.mpr ⟨p,F,rfl⟩,by rw[decide_eq_true_eq,vY,Z]⟩
 refine add_at hv (vX hv) J (hA ..) ((Dl O).perm pm) (by rw[aa,List.length_map];unfold scanBound;lia) (fun h_=>h_.elim fun e h_=>h_.elim fun he ac=>?_) fun ab h' sb af=>?_
 ·have ae:=pm.mem_iff.mp he
  refine xEA (List.mem_map.mp ae) fun p F d=>?_;obtain rfl:=d
  have:k=p.1:=(aJ pw w).inj p.2 k p.1 ac (O p F)
  have c:(H.any fun a=>decide (bG a=bG t))=true:=y.mpr (List.mem_map.mpr ⟨p,F,this.symm⟩)
  rw[if_pos c]at h
  exact h s.heap false (.refl _ _) ⟨z,J,O,nd,rs,Y⟩
 ·have nk:k∉z.map (·.1):=fun hm=>by
   refine xEA (List.mem_map.mp hm) fun p F d=>?_;obtain rfl:=d
   have:=ab (hx w p) (pm.mem_iff.mpr (List.mem_map.mpr ⟨p,F,rfl⟩))
   have ad:=O p F
   rw[show(hx w p).2=p.2 from rfl]at this
   rw[ad]at this;cases this
  have c:¬(H.any fun a=>decide (bG a=bG t))=true:=fun q=>nk (y.mp q)
  rw[if_neg c]at h
  refine h h' true sb ⟨z++[(k,v)],?_,?_,?_,?_,?_⟩
  ·rw[List.map_append,List.map_singleton,fP]
   exact af
  ·intro p F
   rcases List.mem_append.mp F with F|F
   ·exact O p F
   ·rw[List.mem_singleton.mp F];exact hv
  ·rw[List.map_append,List.nodup_append]
   refine⟨nd,List.nodup_cons.mpr ⟨List.not_mem_nil,.nil⟩,?_⟩
   intro a J b hb q
   rw[List.map_singleton,List.mem_singleton]at hb
   rw[q,hb]at J
   exact nk J
  ·rw[List.map_append]
   exact Reps.append rs (Reps.one r)
  ·rw[List.map_append,Y]
   have:k.toT=t:=by cases t<;>cases Z<;>rfl
   simp[this]
theorem Cn{R:Result->Shared->Prop}{I S l:Addr}{xs:Array Value}{ts:List T}{led:Bool}(hh:A.handled=none)(rs:Reps w W ts xs.toList)(hk:∀t∈ts,∃k,bG t=some k)(hl:ts.length<=900)(ne:l≠I)(nS:S≠I)(nl:S≠l):
  ∀(m i:Nat) (s:Shared),ts.length-i=m->i<=ts.length->s.heap.IsListIter I l i->s.heap.IsList l xs->Built w W led s.heap S (cZ [] (ts.take i))->
   (∀h' tk,(∀b o,b≠S->b≠I->s.heap.get? b=some o->h'.get? b=some o)->Built w W led h' S (cZ [] ts)->R (.ok (.ret .none)) {s with heap:=h',toks:=tk})->
   codeAny (model pw w) A (.builtin "set.update.loop" ⟨[.ref S,.ref I],[]⟩) R s:=by
 have W':=Walks.list (prog:=pw) (w:=w) (A:=A.in1) hh I l ne xs
 have Y:xs.size=ts.length:=by rw[<-rs.length];simp
 have dl:∀i,(cZ [] (ts.take i)).length<=900:=fun i=>Nat.le_trans (s3 _ _) (by rw[List.length_nil,Nat.zero_add];exact Nat.le_trans (List.length_take_le' _ _) hl)
 intro m
 induction m with
 |zero=>
  intro i s hm hi it hL Z hR
  have ac:i=ts.length:=by lia
  subst ac
  refine codeAny_builtin F.entry_set_update_loop ?_
  rw[Around.under_plainId F.plain_set_update_loop _]
  show wpAny _ A.in1 (pyNext (.ref I)>>=_) _ _ s
  refine wpAny_bind (W'.done s _ _ (by rw[Y];exact⟨it,hL⟩) fun h' tk k=>?_)
  show wpAny _ A.in1 (ret Value.none) _ _ _
  rw[List.take_length]at Z
  exact wpAny_pure (hR h' tk (fun b o _ nb e=>k b o (by simpa using nb) e) (Z.at' fun o e=>k S o (by simpa using nS) e))
 |succ m ih=>
  intro i s hm hi it hL Z hR
  have d:i<ts.length:=by lia
  refine codeAny_builtin F.entry_set_update_loop ?_
  rw[Around.under_plainId F.plain_set_update_loop _]
  show wpAny _ A.in1 (pyNext (.ref I)>>=_) _ _ s
  refine wpAny_bind (W'.item i s _ _ (tln d (ern Y)) ⟨it,hL⟩ fun v y tk hP L k=>?_)
  refine xEA (rs.get (List.getElem?_eq_getElem d)) fun u hu r=>?_
  rw[Array.getElem?_toList,hP]at hu
  cases hu
  obtain⟨ab,z⟩:=hk ts[i] (List.getElem_mem d)
  have J:Built w W led y S (cZ [] (ts.take i)):=Z.at' fun o e=>k S o (by simpa using nS) e
  show wpAny _ A.in1 (holding [v] (setAdd S v)>>=_) _ _ _
  refine wpAny_bind (wpAny_holding ?_)
  unfold setAdd
  refine wpAny_holding ?_
  refine wpAny_bind ((aJ pw w).pyHash (k:=ab) (fR z r).1 ?_)
  refine Bp (s:={s with heap:=y,toks:=tk+1}) J z r (Nat.le_trans (dl i) (by decide)) fun O c sb H=>?_
  refine wpAny_pure ⟨plainId_quiet F.plain_set_update_loop _,ih (i+1) _ (by lia) d ?_ ?_ ?_ fun h' aa k' ad=>?_⟩
  ·exact L.1.at fun o e=>(sb.2 I (fun q=>nS q.symm)).trans e
  ·exact L.2.at fun o e=>(sb.2 l (fun q=>nl q.symm)).trans e
  ·rw[List.take_add_one,List.getElem?_eq_getElem d]
   show Built w W led O S (cZ [] (ts.take i++[ts[i]]))
   rw[yP]
   exact H
  ·exact hR h' aa (fun b o n1 n2 e=>k' b o n1 n2 ((sb.2 b n1).trans (k b o (by simpa using n2) e))) ad
set_option maxHeartbeats 3200000 in
theorem D6{l:Addr}{xs:Array Value}{ts:List T}{Q:Value->Shared->Prop}(hh:A.handled=none)(hl:s.heap.IsList l xs)(rs:Reps w W ts xs.toList)(hk:∀t∈ts,∃k,bG t=some k)(hz:ts.length<=900)
  (h:∀h' tk,Built w W (!w.params.followText "set-order") h' s.heap.objs.size (cZ [] ts)->(∀b o,s.heap.get? b=some o->h'.get? b=some o)->Q (.ref s.heap.objs.size) {s with heap:=h',toks:=tk}):
  wpAny (model pw w) A (call (.type "set") [.ref l]) Q E s:=by
 refine xEE F.called_set.mro fun c tl aw=>?_
 haveI am:=F.called_set.made
 haveI aa:=F.called_set.sub
 refine wpAny_call (codeAny_of_tree ?_)
 show wpAny _ _ (callAny (.type "set") _) _ _ _
 refine wpAny_pure ⟨Code.quiet_builtin _ (by decide +kernel),codeAny_builtin F.entry_type_call ?_⟩
 rw[Around.under_plain (weight_type_call_type "set" [.ref l] []) rfl]
 haveI h1:=F.called_set.notType
 haveI h2:=F.called_set.canCreate
 haveI a0:=F.typeCall_set_1 (.ref l)
 repeat (any_goals (first|assumption|wp_step))
 haveI ad:codeAny (model pw w) A.in1 (.call (.builtin "set.__new__") ⟨[.type "set",.ref l],[]⟩) (wants (fun Z J=>Z=.ref s.heap.objs.size/\
   J={s with heap:=s.heap.push {cls:=.type "set",dict:=none,data:=.set #[] 0 (.fresh 0 0 (!w.params.followText "set-order"))}}) E) s:=by
  refine codeAny_of_tree ?_
  show wpAny _ A.in1.in1 (do checkBuiltinCall "set.__new__" ⟨[.type "set",.ref l],[]⟩;again (.builtin "set.__new__" ⟨[.type "set",.ref l],[]⟩)) _ _ s
  refine wpAny_bind (wpAny_of_eq (F.newCall_set_1 (.ref l)) (wpAny_pure ⟨plainId_quiet F.plain_set_new _,codeAny_builtin F.entry_set_new ?_⟩))
  rw[Around.under_plainId F.plain_set_new _]
  unfold Builtin.«set.__new__» Builtin.Frozenset.newClass
  haveI aa:=sub_set_self
  obtain⟨hp,g,d,tk,os⟩:=s
  dsimp only
  wp_walk
  refine wpAny_askSetting (wpAny_pure ?_)
  dsimp only
  simp only[newObj]
  refine wpAny_bind (wpAny_alloc (wpAny_pure ?_))
  exact wpAny_pure ⟨rfl,rfl⟩
 refine codeAny_mono ad fun r J hr=>?_
 cases r with
 |error e=>exact hr
 |ok fl=>
  cases fl with
  |ret Z=>
   obtain⟨rfl,rfl⟩:=hr
   generalize ax:(!w.params.followText "set-order")=q at h⊢
   haveI hS:(s.heap.push {cls:=.type "set",dict:=none,data:=.set #[] 0 (.fresh 0 0 q)}).get? s.heap.objs.size=some {cls:=.type "set",dict:=none,data:=.set #[] 0 (.fresh 0 0 q)}:=Heap.get?_push_size _ rfl
   haveI hT:Shared.TypeIs {s with heap:=s.heap.push {cls:=.type "set",dict:=none,data:=.set #[] 0 (.fresh 0 0 q)}} (.ref s.heap.objs.size) "set" :=⟨_,hS,rfl⟩
   haveI az:=F.called_set.init.lookup
   haveI a1:=F.called_set.init.bind (.ref s.heap.objs.size)
   repeat (any_goals (first|assumption|wp_step))
   refine codeAny_mono (codeAny_call_builtin (R:=wants (fun r H=>r=.none/\∃h' tk,H={s with heap:=h',toks:=tk}/\Built w W q h' s.heap.objs.size (cZ [] ts)/\
     (∀b o,s.heap.get? b=some o->h'.get? b=some o)) E) F.called_set.init.plain F.entry_set_init (check_set_init_1 hT ?_)) fun Y H y=>?_
   ·refine Jz hl fun ol ac ai nl ah=>?_
    obtain⟨ar,L,al,z⟩:=ol
    simp only at ai ah
    subst ai;subst ah
    haveI ab:(s.heap.push {cls:=.type "set",dict:=none,data:=.set #[] 0 (.fresh 0 0 q)}).get? l=some {cls:=.type "list",dict:=L,data:=.seq xs nl,slots:=z}:=Heap.get?_push_of_some _ ac
    haveI au:=F.sub_list_set
    haveI av:=F.sub_list_frozenset
    haveI ay:(Value.type "list" ==Value.type "dict")=false:=by decide
    haveI ag:(s.heap.push {cls:=.type "set",dict:=none,data:=.set #[] 0 (.fresh 0 0 q)}).IsList l xs:=⟨_,ab,rfl,nl,rfl⟩
    unfold Builtin.«set.__init__» noKeywords Builtin.Frozenset.updateFrom
    generalize aq:pyIter=PI
    wp_walk
    subst aq
    refine wpAny_pyIter_list ag ?_
    refine wpAny_bind (wpAny_runValue ?_)
    haveI af:l<s.heap.objs.size:=Heap.lt_size ac
    haveI ao:A.in1.in1.handled=none:=by simp[hh]
    haveI ae:l≠(s.heap.push {cls:=.type "set",dict:=none,data:=.set #[] 0 (.fresh 0 0 q)}).objs.size:=by
     rw[Heap.size_push];exact Nat.ne_of_lt (Nat.lt_succ_of_lt af)
    haveI ap:s.heap.objs.size≠(s.heap.push {cls:=.type "set",dict:=none,data:=.set #[] 0 (.fresh 0 0 q)}).objs.size:=by
     rw[Heap.size_push];exact Nat.ne_of_lt (Nat.lt_succ_self _)
    refine Cn (led:=q) ao rs hk hz ae ap (Nat.ne_of_gt af) ts.length 0 _ (Nat.sub_zero _) (Nat.zero_le _) ?hI ?hL ?hB fun h' tk k hB=>?hR
    case hI=>exact⟨_,Heap.get?_push_size _ rfl,rfl,rfl⟩
    case hL=>exact ag.push _
    case hB=>
     exact⟨[],⟨0,Heap.get?_push_of_some _ hS⟩,fun p hp=>((List.not_mem_nil hp).elim),.nil,rfl,rfl⟩
    case hR=>
     show wpAny _ _ _ _ _ _
     refine wpAny_pure ?_
     show wpAny _ _ (ret Value.none) _ _ _
     refine wpAny_pure ⟨rfl,h',tk,rfl,hB,fun b o e=>k b o (Nat.ne_of_lt (Heap.lt_size e)) ?_ (Heap.get?_push_of_some _ (Heap.get?_push_of_some _ e))⟩
     rw[Heap.size_push];exact Nat.ne_of_lt (Nat.lt_succ_of_lt (Heap.lt_size e))
   ·cases Y with
    |error e=>exact y
    |ok O=>
     cases O with
     |ret r=>
      refine HF y fun ak h' tk aj hB an=>?_;obtain rfl:=ak;obtain rfl:=aj
      repeat (any_goals (first|assumption|wp_step))
      exact h _ _ hB an
     |_=>exact y.elim
  |_=>exact hr.elim
end
theorem FE{ts:List T}(c:iW ts=true\/fY ts=true):∀t∈ts,∃k,bG t=some k:=fun t d=>by
 rcases c with h|h
 ·have:=List.all_eq_true.mp h t d
  cases t<;>first|exact(aH this).elim|exact⟨_,rfl⟩
 ·have:=List.all_eq_true.mp h t d
  cases t<;>first|exact(aH this).elim|exact⟨_,rfl⟩
theorem tz{ts d:List T}(e:pU ts=some d):ts.length<=6/\d=cZ [] ts/\(∀t∈ts,∃k,bG t=some k):=
 jd (P:=fun d=>ts.length<=6/\d=cZ [] ts/\∀t∈ts,∃k,bG t=some k) e fun c=>aK c fun a b=>⟨of_decide_eq_true a,rfl,FE (Bool.or_eq_true_iff.mp b)⟩
theorem Bb{t:T}:∀{l acc:List T},t∈cZ acc l->t∈acc\/t∈l:=by
 intro q
 induction q with
 |nil=>
  rintro _ h
  exact .inl h
 |cons x l d=>
  rintro acc h
  unfold cZ at h
  split at h
  ·exact(d h).imp id (.tail _)
  ·rcases d h with h|h
   ·rcases List.mem_append.mp h with h|h
    ·exact .inl h
    ·rw[List.mem_singleton]at h;exact .inr (h▸ .head _)
   ·exact .inr (.tail _ h)
theorem vd{ts d:List T}(e:dD ts=some d):ts.length<=6:=jd (P:=fun _=>ts.length<=6) e fun q=>(nj q).1
theorem AA{w:World}{W:Wd}:∀{z vs:List Value}{ts:List T},Reps w W ts z->vs.Perm z->∃ts',ts'.Perm ts/\Reps w W ts' vs:=by
 intro z vs ts d Z
 induction Z generalizing ts with
 |nil=>exact⟨ts,.refl _,d⟩
 |cons x p ih=>
  cases ts with
  |nil=>cases d
  |cons t ts=>
   refine bT d fun v r e a b=>?_
   cases e
   refine xEA (ih b) fun ts' L J=>?_
   exact⟨t::ts',L.cons t,_,_,rfl,a,J⟩
 |swap x y l=>
  cases ts with
  |nil=>cases d
  |cons t ts=>
   refine bT d fun v r e a b=>?_
   cases e
   cases ts with
   |nil=>cases b
   |cons Y ts=>
    refine bT b fun v' r' e' a' b'=>?_
    cases e'
    exact⟨Y::t::ts,.swap _ _ _,_,_,rfl,a',_,_,rfl,a,b'⟩
 |trans p q H F=>
  refine xEA (F d) fun t1 L J=>?_
  refine xEA (H J) fun O h3 h4=>?_
  exact⟨O,h3.trans L,h4⟩
section
variable{w:World}{h0:Heap}{C:Nat->List T->M LV}{n:Nat}
theorem Cl(B:cR w h0){x:X}(L:SX w h0 C n x){g:Str}{np pos z:Pos}{e:Expr}{A:Around}{env:Env}{Z:Nm}{ρ:aE}{fp:Nat->List Addr}{W:Wd}{H H':List T}{s:Shared}{ts Y:List T}{Q:List Value->Shared->Prop}
  (mg:dY env.scope.names g "set" =true) (mp:aV e=true) (m1:mX env.scope.names Z x e=true) (O:Cx n A env) (S:Vst w env Z ρ fp W s.heap) (F:Fit w h0 W H s.heap) (e1:evX C ρ x H=some (.list ts,H')) (e2:pU ts=some Y)
  (h:∀D d s₁,Stp W s d s₁->Fit w h0 d H' s₁.heap->Built w d (!w.params.followText "set-order") s₁.heap D Y->Q [.ref D] s₁):
  wpAny (model pw w) A (spliced (backTo z (starEach [.Call (.Name g np) [e] [] pos] env))) Q Nev s:=by
 refine xAA (tz e2) fun h6 J hk=>?_;obtain rfl:=J
 rw[aF rfl]
 refine Calls.spliced_cons (iN (id:="set") B O F mg (by decide) (aR mp) (zh L m1 mp O S F e1 fun v d s₁ r q y=>?_))
 obtain⟨a,xs,k,rfl,f,rs⟩:=y
 have pl:=uk q f
 refine D6 O.ao.hd pl.isList rs hk (tkn h6 rfl) fun h' tk hB kp=>Calls.spliced_nil ?_
 exact h _ d _ (r.trans (Stp.of_keep kp)) (q.keep kp) hB
theorem yZ{W:Wd}{h:Heap}{D:Addr}{ts q:List T}(L:Built w W (!w.params.followText "set-order") h D q)(hs:Cp ts=true)(H:q=cZ [] ts):
  ∃(kvs:List (Key×Value)) (r:Nat),h.get? D=some (oR (dC (!w.params.followText "set-order") (kvs.map (hx w))).1 r (dC (!w.params.followText "set-order") (kvs.map (hx w))).2)/\
   mZ w.params (dC (!w.params.followText "set-order") (kvs.map (hx w))).1 (dC (!w.params.followText "set-order") (kvs.map (hx w))).2/\Reps w W q (kvs.map (·.2))/\kvs.length=q.length:=by
 obtain⟨kvs,⟨r,J⟩,F,z,y,rfl⟩:=L
 refine⟨kvs,r,J,Co F z ?_,y,(List.length_map (f:=fun p:Key×Value=>p.1.toT)).symm⟩
 haveI mem:∀p∈kvs,p.1.toT∈ts:=fun p d=>(Bb (H▸List.mem_map.mpr ⟨p,d,rfl⟩:p.1.toT∈cZ [] ts)).elim (fun h=>absurd h List.not_mem_nil) id
 rcases Bool.or_eq_true_iff.mp hs with c|c
 ·right
  intro p d
  haveI:=List.all_eq_true.mp c _ (mem p d)
  obtain⟨k,v⟩:=p
  cases k<;>first|exact(aH this).elim|exact⟨_,rfl⟩
 ·left
  intro p d
  haveI:=List.all_eq_true.mp c _ (mem p d)
  obtain⟨k,v⟩:=p
  cases k<;>first|exact(aH this).elim|exact this
theorem Cv(B:cR w h0){x:X}(z:SX w h0 C n x):SX w h0 C n (.lenSet x):=by
 intro e A ae nm ρ fp W H s t H' J cx S F O
 refine iz J fun f np e ac mf _ J=>?_
 refine iz J fun g ad e aa mg mp m1=>?_
 refine aB O fun u H1 e1 O=>?_
 refine aN O fun ts eu L=>?_
 obtain rfl:=eM eu
 refine bV L fun e2=>?_
 refine eC e2 fun Y e3=>?_
 refine gc (id:="len") B cx F mf (by decide) rfl (Cl B z mg mp m1 cx S F e1 e3 fun D ab Z d r hB=>?_)
 obtain⟨y,⟨ep,ha⟩,hi,nd,rs,hu⟩:=hB
 refine xAA (tz e3) fun h6 hd _=>?_
 have q:(dC (!w.params.followText "set-order") (y.map (hx w))).1.size=Y.length:=by rw[hw,List.length_map,<-hu,List.length_map]
 haveI hl:Y.length<=6:=by
  haveI:=s3 ts []
  rw[<-hd,List.length_nil,Nat.zero_add]at this
  exact Nat.le_trans this h6
 refine call_len_set ha ⟨rfl,rfl,rfl⟩ rfl (hA ..) (by rw[q];exact yn (Int.ofNat_le.mpr hl) rfl) ?_
 rw[q]
 exact Pst.after d (Pst.tok r ⟨_,rfl⟩)
theorem vi(B:cR w h0){x:X}(aa:SX w h0 C n x):SX w h0 C n (.sortedSet x):=by
 intro e A ai nm ρ fp W H s t H' hm cx S F he
 refine iz hm fun f np e ag mf _ hm=>?_
 refine iz hm fun g ah e ae mg mp m1=>?_
 refine aB he fun u H1 e1 he=>?_
 refine aN he fun ts eu ac=>?_
 obtain rfl:=eM eu
 refine dZ ac fun hs ab=>?_
 refine bV ab fun e2=>?_
 refine bD e2 fun us e3 e4=>?_
 refine eC e4 fun ws e5=>?_
 refine gc (id:="sorted") B cx F mf (by decide) rfl (Cl B aa mg mp m1 cx S F e1 e3 fun D af ad r d hB=>?_)
 refine m7 (yZ hB hs (tz e3).2.1) fun y ep ha G rs z=>?_
 refine ot e5 d (fun Q hQ=>wE cx.ao.hd G ha (by rw[hw,List.length_map,z];exact Nat.le_trans (vd e5) (by decide)) fun vs h' dr tk pm L=>?_) fun D' h' dr tk Z k L nD hD rr=>?_
 ·haveI Y:vs.Perm (y.map (·.2)):=by
   refine pm.trans ?_
   haveI:=(jM (!w.params.followText "set-order") (y.map (hx w))).map (·.2)
   rwa [List.map_map]at this
  refine xE (AA rs Y) fun O J=>?_;haveI h1:=J.1;haveI h2:=J.2
  exact hQ O vs h' dr tk h1 h2 L
 ·haveI q:=d.not_has nD
  exact Pst.after r ⟨_,(Stp.of_keepD L).add q nD,(d.keep L).add q hD,D',Z,k,rfl,Wd.add_at q,Reps.mono (Wd.le_add q) _ rr⟩
end
noncomputable abbrev oO(x y:Str)(p1 p2 p3 p4:Pos)(g:Expr)(sc:Scope)(pos:Pos):Expr:=.ListComp (.Name y p1) [⟨.Name x p2,g,[],0⟩,⟨.Name y p3,.Name x p4,[],0⟩] sc pos
section
variable{x y:Str}{p1 p2 p3 p4 pos:Pos}{g:Expr}{sc:Scope}{env:Env}
theorem xk(it acc:Value):compTurn (oO x y p1 p2 p3 p4 g sc pos) 0 it acc env=(do
  standAt g.pos
  match<-pyNext it with
  |none=>pure (.done .next)
  |some v=>
   letOwnedTupleGo (.Name x p2) it v
   assign (.Name x p2) env v
   let u<-eval (.Name x p4) env
   standAt p4
   let u<-foldedSetIterable (.Name x p4) env u
   let _<-runOwn (.compStart (oO x y p1 p2 p3 p4 g sc pos) 1 (<-holding [u] (pyIter u)) acc env) env
   again (.compLoop (oO x y p1 p2 p3 p4 g sc pos) 0 it acc env)):=by rfl
theorem xl(it acc:Value):compTurn (oO x y p1 p2 p3 p4 g sc pos) 1 it acc env=(do
  standAt p4
  match<-pyNext it with
  |none=>pure (.done .next)
  |some v=>
   letOwnedTupleGo (.Name y p3) it v
   assign (.Name y p3) env v
   (do let _<-call (.builtin "list.append") [acc,<-eval (.Name y p1) env])
   again (.compLoop (oO x y p1 p2 p3 p4 g sc pos) 1 it acc env)):=by rfl
end
noncomputable def i3(ts:List T):List T:=ts.flatMap fun|.list l=>l|_=>[]
theorem wl:∀{ts d:List T},qR ts=some d->d=i3 ts/\∀t∈ts,∃l,t=.list l/\l.length<=1000:=by
 intro F
 induction F with
 |nil=>
  rintro d h
  exact⟨(Option.some.inj h).symm,fun _ h=>(List.not_mem_nil h).elim⟩
 |cons t ts H=>
  rintro d h
  cases t with
  |list l=>
   replace h:(if l.length<=lim then(qR ts).map (l++ ·)else none)=some d:=h
   by_cases z:l.length<=lim
   ·rw[if_pos z]at h
    refine eC (P:=fun d=>d=i3 (.list l::ts)/\∀t∈T.list l::ts,∃l,t=.list l/\l.length<=1000) h fun r L=>?_
    refine xA (H L) fun q O=>?_;obtain rfl:=q
    exact⟨rfl,fun t J=>(List.mem_cons.mp J).elim (fun e=>⟨l,e,z⟩) (O t)⟩
   ·rw[if_neg z]at h;exact(nos h).elim
  |_=>exact(nos h).elim
theorem yC(ts:List T)(k:Nat){l:List T}(h:ts[k]? =some (.list l)):i3 (ts.take (k+1))=i3 (ts.take k)++l:=by
 unfold i3
 rw[List.take_add_one,h,List.flatMap_append]
 exact congrArg _ (List.append_nil l)
section
variable{w:World}{h0:Heap}{C:Nat->List T->M LV}{n:Nat}
theorem B2{ρ:aE}{i:Nat}:upd ρ i (ρ i)=ρ:=by
 funext j
 rw[pQ]
 split
 ·rename_i h;rw[h]
 ·rfl
theorem sE{d:Nat->List Addr}{i:Nat}(h:d i=[]):cK d i []=d:=by
 funext j
 unfold cK
 split
 ·rename_i e;rw[e,h]
 ·rfl
inductive CIn (w:World) (W:Wd) (s:Shared) (cenv:Env) (nm2:Nm) (ρ1:aE) (fp1:Nat->List Addr) (j:Nat) (y:Str) (a D I:Addr) (xs ys:Array Value) (rs us:List T) (m:Nat) (s':Shared):Prop
 |mk (k:Nat) (h:Heap) (tk:Nat) (zs:Array Value) (lv:LV) (hm:m=xs.size-k) (hk:k<=xs.size) (hs:s'={s with heap:=h,toks:=tk}) (it:h.IsListIter I a k) (pz:h.PlainList D zs) (rz:Reps w W (rs++us.take k) zs.toList) (zz:zs.size=ys.size+k)
   (V:Vst w cenv nm2 (upd ρ1 j lv) fp1 W h) (kk:∀b o,b≠D->b≠cenv.locals->cenv.cells.lookup y≠some b->s.heap.get? b=some o->h.get? b=some o):CIn w W s cenv nm2 ρ1 fp1 j y a D I xs ys rs us m s'
theorem Fj{a b k n:Nat}(h:a=b+k)(q:k<n)(d:b+n<=100000):a<=sizeLine:=by rw[sizeLine_eq];lia
theorem Dh{x y:Str}{p1 p2 p3 p4 pos:Pos}{g:Expr}{sc:Scope}{d:Env}{A:Around}{Z:Nm}{Y:aE}{fp1:Nat->List Addr}{j:Nat}{W:Wd}{H:List T}{a D:Addr}{xs ys:Array Value}{us rs:List T}{kz:Nat}{s:Shared}{E:Value->Shared->Prop}{Q:Flow->Shared->Prop}
  (hh:A.handled=none) (hk:d.scope.kind=.function) (hj:Z.lookup y=some j) (hd:(y==("__debug__" :Str))=false) (aw:fp1 j=[]) (V:Vst w d Z Y fp1 W s.heap) (F:Fit w h0 W H s.heap) (fz:W.fz a=some (seqObj "list" xs kz)) (ru:Reps w W us xs.toList)
  (pl:s.heap.PlainList D ys) (rr:Reps w W rs ys.toList) (nD:¬W.has D) (fD:¬iA d Z fp1 D) (hz:ys.size+xs.size<=100000)
  (hQ:∀h' tk lv zs,Vst w d Z (upd Y j lv) fp1 W h'->h'.PlainList D zs->Reps w W (rs++us) zs.toList->(∀b o,b≠D->b≠d.locals->d.cells.lookup y≠some b->s.heap.get? b=some o->h'.get? b=some o)->Q .next {s with heap:=h',toks:=tk}):
  wpAny (model pw w) A (holding [.ref a] (pyIter (.ref a))>>=fun it=>runOwn (.compStart (oO x y p1 p2 p3 p4 g sc pos) 1 it (.ref D) d) d) Q E s:=by
 haveI ha:=F.fz _ _ fz
 have hl:s.heap.IsList a xs:=⟨_,ha,rfl,kz,rfl⟩
 refine wpAny_bind (wpAny_holding (wpAny_pyIter_list hl (wpAny_runOwn ?_ (fun q=>by cases q))))
 haveI sI:s.heap.get? s.heap.objs.size=none:=aX
 have ap:(s.heap.push {cls:=.type "list_iterator",data:=.fields #[.ref a,.int 0 0]}).IsListIter s.heap.objs.size a 0:=⟨_,Heap.get?_push_size _ rfl,rfl,rfl⟩
 generalize hI:s.heap.objs.size=I at *
 have kp:∀b o,s.heap.get? b=some o->(s.heap.push {cls:=.type "list_iterator",data:=.fields #[.ref a,.int 0 0]}).get? b=some o:=fun b o e=>Heap.get?_push_of_some _ e
 have aI:a≠I:=(dF sI ha).symm
 have DI:D≠I:=pl.elim fun _ e=>(dF sI e).symm
 haveI ai:xs.size=us.length:=Array.length_toList.symm.trans ru.length
 haveI W':=Walks.list (prog:=pw) (w:=w) (A:=A) hh I a aI xs
 haveI aL:a≠d.locals:=fun q=>V.nsW (by rw[<-q];exact .inl (by rw[fz];rfl))
 haveI aC:d.cells.lookup y≠some a:=fun q=>(V.cell y a q).2 (.inl (by rw[fz];rfl))
 haveI aD:a≠D:=fun q=>nD (by rw[<-q];exact .inl (by rw[fz];rfl))
 have fI:∀b,iA d Z fp1 b->b≠I/\b≠D:=fun b fb=>⟨(V.foot_ok fb).2.elim fun _ e=>(dF sI e).symm,fun q=>fD (q▸fb)⟩
 haveI ae:codeAny (model pw w) A (.compLoop (oO x y p1 p2 p3 p4 g sc pos) 1 (.ref I) (.ref D) d) (fun r s'=>match r with|.ok f=>Q f s'|.error e=>cameBackBy (model pw w) A d E e s')
   {s with heap:=s.heap.push {cls:=.type "list_iterator",data:=.fields #[.ref a,.int 0 0]}}:=by
  refine codeAny_loop rfl (CIn w W s d Z Y fp1 j y a D I xs ys rs us) ?_ xs.size ?_
  ·rintro m s' ⟨k,h,tk,zs,lv,rfl,av,rfl,it,pz,rz,zz,O,kk⟩
   show wpAny _ A ((compTurn (oO x y p1 p2 p3 p4 g sc pos) 1 (.ref I) (.ref D) d).onRaise (fun x=>do noteFrame x d;theTreesLotGoes x)) _ _ _
   refine wpAny_noted ?_
   rw[xl]
   refine wpAny_bind (wpAny_standAt (wpAny_bind ?_))
   haveI ao:h.IsList a xs:=hl.at fun o e=>kk a o aD aL aC e
   haveI ak:∀{b o},s.heap.get? b=some o->b≠I:=fun e=>(dF sI e).symm
   by_cases aa:k<xs.size
   ·refine W'.item k _ _ _ aa ⟨it,ao⟩ fun v J ab hP af ad=>?_
    have z:∀b o,b≠I->h.get? b=some o->J.get? b=some o:=fun b o nb e=>ad b o (by simpa using nb) e
    haveI ar:=O.frame (.refl W) (fun b o f e=>z b o (fI b f).1 e) fun b f=>(O.foot_ok f).1
    have an:k<us.length:=ai▸aa
    refine xE (ru.get (List.getElem?_eq_getElem an)) fun v' aq=>?_;haveI am:=aq.1;haveI r':=aq.2
    rw[Array.getElem?_toList]at am
    rw[Option.some.inj (hP.symm.trans am)]
    refine wpAny_bind (m:=letOwnedTupleGo _ _ _) (wpAny_pure ?_)
    refine wpAny_bind (wpAny_assign_Name (ar.store hk hj (lv:=.fr us[k]) ⟨r',rfl⟩ NewFp.nil fun h2 au b hb ac L=>?_))
    rw[tf,sE aw]at L
    have nb:b≠I/\b≠D:=fI b (hb.imp id fun h=>.inl ⟨y,h⟩)
    haveI ah:h2.PlainList D zs:=pz.at fun o e=>ac D o (fun q=>nb.2 q.symm) (z D o DI e)
    refine wpAny_bind (wpAny_bind (wpAny_Name ?_ hd))
    rcases(L.slot y j hj).2 with⟨e,_⟩|⟨u,cu,ou⟩
    ·exact nomatch (i7 _ _ _:upd Y j (.fr us[k]) j=.fr us[k]).symm.trans e
    refine Vst.load hk cu ?_
    rw[show upd Y j (.fr us[k]) j=.fr us[k]from i7 _ _ _]at ou
    refine wpAny_bind (wpAny_list_append_plain (hsz:=Fj zz aa hz) ah fun al ag sb=>wpAny_pure (wpAny_pure ⟨rfl,xs.size-(k+1),pC aa,k+1,al,_,zs.push u,.fr us[k],rfl,aa,rfl,?_,ag,?_,by rw[Array.size_push,zz];rfl,?_,?_⟩))
    ·exact af.1.at fun o e=>(sb.2 I (fun q=>DI q.symm)).trans (ac I o (fun q=>nb.1 q.symm) e)
    ·rw[Array.toList_push,List.take_add_one,List.getElem?_eq_getElem an,<-List.append_assoc]
     exact Reps.append rz (Reps.one ou.1)
    ·exact L.frame (.refl W) (fun b o f e=>sb.extBut b o (fI b f).2 e) fun b f=>(L.foot_ok f).1
    ·intro b' o n1 n3 n4 e
     refine sb.extBut b' o n1 (ac b' o (fun q=>?_) (z b' o (ak e) (kk b' o n1 n3 n4 e)))
     rcases hb with hb|hb
     ·exact n3 (q.trans hb)
     ·exact n4 (q▸hb)
   ·obtain rfl:k=xs.size:=Nat.le_antisymm av (Nat.not_lt.mp aa)
    refine W'.done _ _ _ ⟨it,ao⟩ fun J ab ad=>?_
    have z:∀b o,b≠I->h.get? b=some o->J.get? b=some o:=fun b o nb e=>ad b o (by simpa using nb) e
    refine wpAny_pure ?_
    rw[ai,List.take_length]at rz
    exact hQ J ab lv zs (O.frame (.refl W) (fun b o f e=>z b o (fI b f).1 e) fun b f=>(O.foot_ok f).1) (pz.at fun o e=>z D o DI e) rz fun b o n1 n3 n4 e=>z b o (ak e) (kk b o n1 n3 n4 e)
  ·refine⟨0,_,s.toks,ys,Y j,rfl,Nat.zero_le _,rfl,ap,pl.at fun o e=>kp _ _ e,?_,rfl,?_,fun b o _ _ _ e=>kp b o e⟩
   ·rw[List.take_zero,List.append_nil];exact rr
   ·exact B2▸V.frame (.refl W) (fun b o _ e=>kp b o e) fun b f=>(V.foot_ok f).1
 refine codeAny_of_tree ?_
 show wpAny _ _ ((compStart (oO x y p1 p2 p3 p4 g sc pos) 1 (.ref I) (.ref D) d).onRaise (fun x=>do noteFrame x d;standAt theWindowsPlace)) _ _ _
 refine wpAny_notedAt ?_
 unfold compStart
 show wpAny _ _ (ask>>=_) _ _ _
 refine wpAny_bind (wpAny_askSetting (wpAny_ite_split (fun _=>wpAny_bind (wpAny_pure (wpAny_pure (And.intro rfl ae)))) fun _=>?_))
 refine wpAny_bind (wpAny_rule ?_)
 show wpAny _ _ (standAt p4>>=_) _ _ _
 refine wpAny_bind (wpAny_standAt (wpAny_bind (W'.self 0 _ _ _ ⟨ap,hl.at fun o e=>kp _ _ e⟩ (wpAny_pure (And.intro rfl ae)))))
theorem CW{α:Type} [BEq α][LawfulBEq α]{a b:α}(h:(!(a==b))=true):a≠b:=fun q=>by
 subst q
 rw[beq_self_eq_true]at h;cases h
inductive KR (w:World) (W2:Wd) (s₄:Shared) (cenv:Env) (nm2:Nm) (ρ:aE) (fp2:Nat->List Addr) (i j:Nat) (St:Nat->Heap->Prop) (D:Addr) (Pw:Addr->Prop) (ts:List T) (m:Nat) (s':Shared):Prop
 |mk (k:Nat) (h:Heap) (tk:Nat) (zs:Array Value) (lv lv':LV) (hm:m=ts.length-k) (hk:k<=ts.length) (hs:s'={s₄ with heap:=h,toks:=tk}) (st:St k h) (pz:h.PlainList D zs) (rz:Reps w W2 (i3 (ts.take k)) zs.toList)
   (V:Vst w cenv nm2 (upd (upd ρ i lv) j lv') fp2 W2 h) (kk:∀b o,¬Pw b->s₄.heap.get? b=some o->h.get? b=some o):KR w W2 s₄ cenv nm2 ρ fp2 i j St D Pw ts m s'
theorem B1{ρ:aE}{i j:Nat}{a b c:LV}(q:i≠j):upd (upd (upd ρ i a) j b) i c=upd (upd ρ i c) j b:=by
 funext z
 simp only[pQ]
 by_cases d:z=i
 ·subst d;rw[if_pos rfl,if_neg q,if_pos rfl]
 ·rw[if_neg d,if_neg d,if_neg d]
theorem B3{ρ:aE}{i j:Nat}{a b:LV}(d:i≠j):upd (upd ρ i a) j b i=a:=(lw _ _ _ _ d).trans (i7 _ _ _)
theorem DB(ts:List T)(k:Nat):(i3 (ts.take k)).length<=(i3 ts).length:=by
 conv=>rhs;rw[<-List.take_append_drop k ts]
 unfold i3
 rw[List.flatMap_append,List.length_append]
 exact Nat.le_add_right _ _
theorem CE{a b c:Nat}(r:a<=b)(q:b<=1000)(d:c<=1000):a+c<=100000:=by lia
theorem q8{i j:Nat}{it:It}(hit:SI w h0 C n it){x y:Str}{p1 p2 p3 p4 pos bz:Pos}{g:Expr}{sc:Scope}{use:Option (Value->Sem Unit)}{Q:Value->Shared->Prop}{A:Around}{env:Env}{nm:Nm}{ρ:aE}{fp:Nat->List Addr}{W:Wd}{H H' ts:List T}{s:Shared}
  (pg:aV g=true) (mg:mI env.scope.names nm it g=true) (ok:CompOk env.scope.names sc) (b4:lz sc x=true) (b3:lz sc y=true) (xy:x≠y) (ij:i≠j) (fi:eU nm i=true) (fj:eU nm j=true)
  (cx:Cx n A env) (S:Vst w env nm ρ fp W s.heap) (F:Fit w h0 W H s.heap) (e1:evI C ρ it H=some (ts,H')) (ci:∀t∈ts,∃l,t=.list l/\l.length<=1000) (hz:(i3 ts).length<=1000)
  (hQ:∀D L W' s' ys m,Stp W s W' s'->Fit w h0 W' H' s'.heap->s'.heap.PlainList D ys->Reps w W' (i3 ts) ys.toList->¬W'.has D->s.heap.get? D=none->s.heap.get? L=none->¬W'.has L->L≠D->s'.heap.Ns L m->
   compPost (model pw w) A Nev use Q (.ref D) L (.ok .next) s'):
  wpAny (model pw w) A (comprehension (oO x y p1 p2 p3 p4 g sc pos) sc env bz (newList []) false (eval g env) use) Q Nev s:=by
 refine wpAny_comprehension_free rfl (f5 pg) (rd fun y hy br=>S.dom y.1 (ok.free y hy br)) ok.kind (fun y hy hl=>hl▸ok.once y hy)
  (wpAny_mono (hit g A env nm ρ fp W H s ts _ mg cx S F e1) (fun xv cw ac=>wpAny_mono ac (fun cy O h2=>?_) fun _ _ z=>z) fun _ _ z=>z)
 obtain⟨cz,r,aw,bd,⟨I,fI,nI,P,St,rfl,af,rfl,aj,cq,hI,ct,b9⟩,cr⟩:=h2
 haveI sI:s.heap.get? I=none:=cr I rfl
 refine xEA (ct _ _ aj) fun oI aI _=>?_
 have nn:O.heap.get? O.heap.objs.size=none:=aX
 refine wpAny_newObj_type (oz ?_)
 haveI ab:∀a o,O.heap.get? a=some o->(O.heap.push {cls:=.type "list",data:=.seq ([]:List Value).toArray}).get? a=some o:=fun a o e=>Heap.get?_push_of_some _ e
 haveI ag:(O.heap.push {cls:=.type "list",data:=.seq ([]:List Value).toArray}).PlainList O.heap.objs.size #[]:=⟨0,Heap.get?_push_size _ rfl⟩
 generalize hD:O.heap.objs.size=D at *
 have av:Stp r O r {O with heap:=O.heap.push {cls:=.type "list",data:=.seq ([]:List Value).toArray}}:=Stp.of_keep ab
 generalize am:({O with heap:=O.heap.push {cls:=.type "list",data:=.seq ([]:List Value).toArray}}:Shared)=d at av⊢
 replace ab:∀a o,O.heap.get? a=some o->d.heap.get? a=some o:=by exact am▸ab
 replace ag:d.heap.PlainList D #[]:=am▸ag
 clear am
 have ar:=bd.keep ab
 haveI b8:=(S.stp aw).stp av
 have nD:¬r.has D:=bd.not_has nn
 have sD:s.heap.get? D=none:=cB aw nn nD
 have aD:∃o,d.heap.get? D=some o:=ag.elim fun k e=>⟨_,e⟩
 haveI ah:d.heap.get? d.heap.objs.size=none:=aX
 have ad:=aw.trans av
 have sL:s.heap.get? d.heap.objs.size=none:=cB ad ah (ar.not_has ah)
 generalize hL:d.heap.objs.size=L at *
 haveI a0:∀a o,d.heap.get? a=some o->(pushCells (d.heap.push {cls:=.type "dict",data:=.dict #[]}) sc.names).get? a=some o:=fun a o e=>pushCells_keeps _ _ a o (Heap.get?_push_of_some _ e)
 have cc:=fun y c=> @k9 env d sc ok L y c hL S.dom
 haveI a3:=ng b4;haveI bq:=a3.1
 haveI bp:=(ng b3).1;haveI cg:=(ng b3).2
 have ak:∀{z},(sc.names.lookup z=some .local\/sc.names.lookup z=some .cell)->sc.names.lookup z≠some .free:=fun h q=>by rcases h with h|h<;>rw[q]at h<;>exact nomatch h
 have ae:Vst w (bW sc L env) ((y,j)::(x,i)::gF sc nm) (upd (upd ρ i .unset) j .unset) (cK (cK fp i []) j []) r (pushCells (d.heap.push {cls:=.type "dict",data:=.dict #[]}) sc.names):=by
  refine Vst.addSlot (Vst.addSlot (hL▸b8.comp ar cx.kind ok) (pR cx.kind L bq) (nB (ak bq)) fun y j hy=>f8 fi (dX nm y j hy).1) (pR cx.kind L bp) ?_ ?_
  ·rw[List.lookup_cons,show(y==x)=false from beq_eq_false_iff_ne.mpr fun q=>xy q.symm]
   exact nB (ak bp)
  ·intro z k hz
   rw[List.lookup_cons]at hz
   cases q:z==x with
   |true=>rw[q]at hz;obtain rfl:=Option.some.inj hz;exact ij
   |false=>rw[q]at hz;exact f8 fj (dX nm z k hz).1
 have bs:cK (cK fp i []) j [] j=[]:=if_pos rfl
 have bt:cK (cK fp i []) j [] i=[]:=by
  unfold cK
  rw[if_neg ij,if_pos rfl]
 generalize cp:cK (cK fp i []) j []=a7 at ae bs bt
 have b5:((y,j)::(x,i)::gF sc nm:Nm).lookup x=some i:=by
  rw[List.lookup_cons,show(x==y)=false from beq_eq_false_iff_ne.mpr xy]
  simp
 have ch:((y,j)::(x,i)::gF sc nm:Nm).lookup y=some j:=by simp
 have b0:∀a,d.heap.get? a=none->a≠I/\a≠D:=fun a q=>⟨dF q (ab _ _ aI),aD.elim fun _ h=>dF q h⟩
 have b1:∀a o,s.heap.get? a=some o->a≠I/\a≠D:=fun a o q=>⟨(dF sI q).symm,(dF sD q).symm⟩
 have Z:∀a,iA (bW sc L env) ((y,j)::(x,i)::gF sc nm) a7 a->a≠I/\a≠D:=by
  rintro a (rfl|⟨z,hy⟩|⟨z,k,hy,ha⟩)
  ·exact b0 _ ah
  ·rcases cc z a hy with⟨_,q,_⟩|⟨q,_⟩
   ·exact b0 _ q
   ·haveI a3:=S.cell z a q;refine m8 a3.1 fun v o ho _=>?_
    exact b1 _ _ ho
  ·by_cases kj:k=j
   ·rw[kj,bs]at ha;exact nomatch ha
   by_cases ki:k=i
   ·rw[ki,bt]at ha;exact nomatch ha
   rw[List.lookup_cons]at hy
   cases q:z==y with
   |true=>rw[q]at hy;obtain rfl:=Option.some.inj hy;exact(kj rfl).elim
   |false=>
    rw[q]at hy
    dsimp only at hy
    rw[List.lookup_cons]at hy
    cases q':z==x with
    |true=>rw[q']at hy;obtain rfl:=Option.some.inj hy;exact(ki rfl).elim
    |false=>
     rw[q']at hy
     haveI ce:=(dX nm z k hy).1
     rw[<-cp]at ha
     unfold cK at ha
     rw[if_neg kj,if_neg ki]at ha
     haveI a3:=S.fpW z k a ce ha;refine xE a3.2.1 fun o ho=>?_
     exact b1 _ _ ho
 have au:∀z c,(sc.names.lookup z=some .local\/sc.names.lookup z=some .cell)->(bW sc L env).cells.lookup z=some c->s.heap.get? c=none:=fun z c hz hc=>by
  rcases cc z c hc with⟨_,q,_⟩|⟨_,q⟩
  ·exact cB ad q (ar.not_has q)
  ·exact(ak hz (ok.once _ q)).elim
 haveI bm:D≠I:=dF nn aI
 have ca:L≠D:=aD.elim fun _ h=>dF ah h
 let Pw:Addr->Prop:=fun b=>b=D\/b=I\/iA (bW sc L env) [] a7 b/\(b=L\/(bW sc L env).cells.lookup x=some b\/(bW sc L env).cells.lookup y=some b)
 have ai:∀b,Pw b->s.heap.get? b=none:=by
  rintro b (rfl|rfl|⟨_,rfl|h|h⟩)
  ·exact sD
  ·exact sI
  ·exact sL
  ·exact au x b bq h
  ·exact au y b bp h
 have bu:∀b,Pw b->¬r.has b:=by
  rintro b (rfl|rfl|⟨_,rfl|h|h⟩)
  ·exact nD
  ·exact hI
  ·exact ae.nsW
  ·exact(ae.cell x b h).2
  ·exact(ae.cell y b h).2
 have a8:∀{z b},(z=x\/z=y)->(b=(bW sc L env).locals\/(bW sc L env).cells.lookup z=some b)->Pw b:=by
  intro z b hz hb
  refine .inr (.inr ⟨hb.imp id fun h=>.inl ⟨z,h⟩,?_⟩)
  rcases hb with hb|hb
  ·exact .inl hb
  ·rcases hz with rfl|rfl
   ·exact .inr (.inl hb)
   ·exact .inr (.inr hb)
 generalize al:({d with heap:=pushCells (d.heap.push {cls:=.type "dict",data:=.dict #[]}) sc.names}:Shared)=Y
 haveI b7:Vst w (bW sc L env) ((y,j)::(x,i)::gF sc nm) (upd (upd ρ i .unset) j .unset) a7 r Y.heap:=by exact al▸ae
 have a6:∀a o,d.heap.get? a=some o->Y.heap.get? a=some o:=by exact al▸a0
 haveI bw:Stp W s r Y:=by exact al▸ad.trans (Stp.of_keep (tk:=d.toks) a0)
 haveI bc:Fit w h0 r H' Y.heap:=ar.keep a6
 haveI bx:∀{k:Nat} {h h':Heap},St k h->(∀b o,b=I\/(r.fz b).isSome->h.get? b=some o->h'.get? b=some o)->St k h':=fun st k=>af.frame _ _ _ st fun b hb o e=>k b o (cq b hb) e
 haveI a9:codeAny (model pw w) A (.compLoop (oO x y p1 p2 p3 p4 g sc pos) 0 (.ref I) (.ref D) (bW sc L env)) (compPost (model pw w) A Nev use Q (.ref D) L) Y:=by
  refine codeAny_loop rfl (KR w r Y (bW sc L env) ((y,j)::(x,i)::gF sc nm) ρ a7 i j St D Pw ts) ?_ ts.length ?_
  ·rintro m s' ⟨k,h,tk,zs,lv,c0,rfl,cm,rfl,st,pz,rz,aq,kk⟩
   show wpAny _ A ((compTurn (oO x y p1 p2 p3 p4 g sc pos) 0 (.ref I) (.ref D) (bW sc L env)).onRaise (fun x=>do noteFrame x (bW sc L env);theTreesLotGoes x)) _ _ _
   refine wpAny_noted ?_
   rw[xk]
   refine wpAny_bind (wpAny_standAt (wpAny_bind ?_))
   by_cases an:k<ts.length
   ·refine af.item k _ _ _ an st fun v ac ax hP bi az=>?_
    haveI aa:∀b o,b≠I->h.get? b=some o->ac.get? b=some o:=fun b o nb e=>az b o (by simpa using nb) e
    haveI ap:=aq.frame (.refl r) (fun b o f e=>aa b o (Z b f).1 e) fun b f=>(aq.foot_ok f).1
    haveI r':=b9 k v ts[k] hP (List.getElem?_eq_getElem an)
    refine xE (ci ts[k] (List.getElem_mem an)) fun l b6=>?_;haveI hl:=b6.1;haveI cj:=b6.2
    refine wpAny_bind (m:=letOwnedTupleGo _ _ _) (wpAny_pure ?_)
    refine wpAny_bind (wpAny_assign_Name (ap.store ok.kind b5 (lv:=.fr ts[k]) ⟨r',rfl⟩ NewFp.nil fun h2 bh b hb ay a4=>?_))
    rw[sE bt,B1 ij]at a4
    have nb:=Z b (hb.imp id fun h=>.inl ⟨x,h⟩)
    haveI bl:h2.PlainList D zs:=pz.at fun o e=>ay D o (fun q=>nb.2 q.symm) (aa D o bm e)
    refine wpAny_bind (wpAny_Name ?_ (ng b4).2)
    rcases(a4.slot x i b5).2 with⟨e,_⟩|⟨u,cu,ou⟩
    ·exact nomatch (B3 ij).symm.trans e
    refine Vst.load ok.kind cu ?_
    rw[B3 ij,hl]at ou
    obtain⟨a,xs,kz,rfl,fz,rx⟩:=ou.1
    refine wpAny_bind (wpAny_standAt (wpAny_bind (wpAny_of_eq (f5 rfl _) ?_)))
    have a1:∀b o,¬Pw b->Y.heap.get? b=some o->h2.get? b=some o:=fun b' o np e=>ay b' o (fun q=>np (q▸a8 (.inl rfl) hb)) (aa b' o (fun q=>np (.inr (.inl q))) (kk b' o np e))
    haveI a5:Fit w h0 r H' h2:=bc.write (P:=Pw) a1 bu fun b pb=>F.no0 (ai b pb)
    haveI cb:zs.size<=(i3 ts).length:=Nat.le_trans (Nat.le_of_eq (Array.length_toList.symm.trans rz.length)) (DB ts k)
    haveI cf:xs.size<=1000:=Nat.le_trans (Nat.le_of_eq (Array.length_toList.symm.trans rx.length)) cj
    haveI co:ts[k]? =some (.list l):=by rw[List.getElem?_eq_getElem an,hl]
    rw[<-bind_assoc]
    refine wpAny_bind (Dh (s:={Y with heap:=h2,toks:=bh}) cx.ao.hd ok.kind ch cg bs a4 a5 fz rx bl rz nD (fun f=>(Z D f).2 rfl) (CE cb hz cf) fun b2 bg bo bf bb bk bj ba=>?_)
    refine wpAny_pure ⟨rfl,ts.length-(k+1),pC an,k+1,b2,bg,bf,.fr ts[k],bo,rfl,an,rfl,?_,bk,?_,?_,?_⟩
    ·refine bx (bx bi fun b' o J e=>ay b' o (fun q=>?_) e) fun b' o J e=>ba b' o (fun q=>?_) (fun q=>?_) (fun q=>?_) e
     ·rcases J with J|J
      ·exact nb.1 (q.symm.trans J)
      ·exact bu b (a8 (.inl rfl) hb) (.inl (q▸J))
     ·rcases J with J|J
      ·exact bm (q.symm.trans J)
      ·exact nD (.inl (q▸J))
     ·rcases J with J|J
      ·exact(Z _ (.inl rfl)).1 (q.symm.trans J)
      ·exact ae.nsW (.inl (q▸J))
     ·rcases J with J|J
      ·exact(Z _ (.inr (.inl ⟨y,q⟩))).1 J
      ·exact(ae.cell y b' q).2 (.inl J)
    ·rw[yC ts k co];exact bj
    ·rw[tf]at bb;exact bb
    ·intro b' o np e
     exact ba b' o (fun q=>np (.inl q)) (fun q=>np (a8 (.inl rfl) (.inl q))) (fun q=>np (a8 (.inr rfl) (.inr q))) (a1 b' o np e)
   ·obtain rfl:k=ts.length:=Nat.le_antisymm cm (Nat.not_lt.mp an)
    refine af.done _ _ _ st fun ac ax az=>?_
    have aa:∀b o,b≠I->h.get? b=some o->ac.get? b=some o:=fun b o nb e=>az b o (by simpa using nb) e
    refine wpAny_pure ?_
    rw[List.take_length]at rz
    haveI a2:∀b o,¬Pw b->Y.heap.get? b=some o->ac.get? b=some o:=fun b' o np e=>aa b' o (fun q=>np (.inr (.inl q))) (kk b' o np e)
    haveI bv:Stp W s r {Y with heap:=ac,toks:=ax}:=bw.write (P:=Pw) a2 ai
    haveI a5:Fit w h0 r H' ac:=bc.write (P:=Pw) a2 bu fun b pb=>F.no0 (ai b pb)
    have ap:=aq.frame (.refl r) (fun b o f e=>aa b o (Z b f).1 e) fun b f=>(aq.foot_ok f).1
    refine ap.ns.elim fun m hm=>?_
    exact hQ D L r _ zs m bv a5 (pz.at fun o e=>aa D o bm e) rz nD sD sL ap.nsW ca hm
  ·refine⟨0,Y.heap,Y.toks,#[],.unset,.unset,rfl,Nat.zero_le _,rfl,af.frame _ _ _ aj fun b _ o e=>a6 _ _ (ab _ _ e),ag.at fun o e=>a6 _ _ e,rfl,b7,fun b o _ e=>e⟩
 refine codeAny_compStart_list a9 (af.self 0 _ _ _ (af.frame _ _ _ aj fun b _ o e=>a6 _ _ (ab _ _ e)) a9)
theorem Fg{i j:Nat}{it:It}(hit:SI w h0 C n it):SX w h0 C n (.comp2 i it j):=by
 intro ex A af nm ρ fp W H s t H' d cx S F O
 refine yK d fun el gs sc ab d=>?_
 refine lJ d fun g1 g2 d=>?_
 refine mr d fun x p2 ad ae d=>?_
 refine mr d fun y p3 ac Z d=>?_
 refine cT d fun d ij fi fj=>?_
 refine e9 d fun d ok z r xy=>?_
 refine e9 d fun d m3 m4 pg mg=>?_
 refine aK d fun m1 m2=>?_
 refine dy m1 ?_
 refine dy m2 ?_
 refine dM m3 fun y' p1 m5=>?_
 refine dM m4 fun Y p4 m6=>?_
 refine bO m5 ?_
 refine bO m6 ?_
 refine aB O fun ts aa e1 O=>?_
 refine bV O fun e2=>?_
 refine bD e2 fun us e3 e4=>?_
 haveI q:=wl e3;obtain rfl:=q.1;haveI J:=q.2
 refine jd e4 fun hz=>?_
 rw[eval_ListComp]
 exact q8 (use:=none) hit pg mg (.of ok) z r (CW xy) (CW ij) fi fj cx S F e1 J hz fun D L W' s' ys m Y F' pl rr nD sD sL nL ne d=>⟨m,d,fun h' hs=>oG F.base Y F' pl rr nD sD sL nL ne hs⟩
theorem SAll.vt{x:X}(hx:SX w h0 C n x)(d:(uz x||qE x)=true):SAll w h0 C n x:=⟨hx,fun _=>Bv hx d⟩
theorem SAll.vn{x:X}(hx:SX w h0 C n x)(d:bH x=false):SAll w h0 C n x:=⟨hx,fun t=>nomatch d.symm.trans t⟩
theorem E9:SX w h0 C n .stuck:=fun e A q y r J W H s t O z L S F d=>(gj (h:=H) d).elim
theorem fe(B:cR w h0)(K:il w h0 C n)(L:iX C):∀x:X,SAll w h0 C n x:=by
 refine X.rec (motive_1:=fun x=>SAll w h0 C n x) (motive_2:=fun it=>SI w h0 C n it) (motive_3:=fun F=>SXs w h0 C n F/\∀c∈F,SAll w h0 C n c)
  (.vn HX rfl)
  (fun b=>.vn (H8 b) rfl)
  (fun b=>.vn (JR b) rfl)
  (fun b=>.vn (JM b) rfl)
  (fun a b=>.vn (HW a b) rfl)
  (fun i=>.vt (JK i) rfl)
  (fun f=>.vn (JT B f) rfl)
  (fun x q=>.vn (JP B q.val) rfl)
  (fun x q=>.vn (JX B q.val) rfl)
  (fun x q=>.vn (JN q.val) rfl)
  (fun a b ia z=>.vn (JO B ia.val z.val) rfl)
  (fun x q=>.vn (HV B q.val) rfl)
  (fun x q=>.vn (JL B q.val) rfl)
  (fun x q=>.vn (Ct B q.val) rfl)
  (fun x q=>.vn (vi B q.val) rfl)
  (fun x q=>.vn (Cv B q.val) rfl)
  (fun x q=>.vn (Cu B q.val) rfl)
  (fun F r=>.vn (Fc B r.1) rfl)
  (fun x q=>.vt (Cw q.val) rfl)
  (fun x q=>.vt (Au q.val) rfl)
  (fun x q=>.vt (Fd B q.val) rfl)
  (fun x q=>.vt (Cy B q.val) rfl)
  (fun c a b ia z=>.vt (JV ia.val z.val) rfl)
  (fun a b ia z=>.vt (NF ia.val z.val) rfl)
  (fun a b ia z=>.vt (NE ia.val z.val) rfl)
  (fun a b ia z=>.vt (HZ ia.val z.val) rfl)
  (fun a b ia z=>.vt (Fa ia.val z.val) rfl)
  (fun F r=>Ex (o:=true) (fun x h=>(r.2 x h).val) (fun x h=>(r.2 x h).tst) (fun J=>yH J F) (fun _ _ _=>rfl) rfl)
  (fun F r=>Ex (o:=false) (fun x h=>(r.2 x h).val) (fun x h=>(r.2 x h).tst) (fun J=>A9 J F) (fun _ _ _=>rfl) rfl)
  (fun x q=>KJ q)
  (fun c a b Z ia z=>.vn (JQ Z ia.val z.val) rfl)
  (fun o a b ia z=>.vn (JW ia.val z.val) rfl)
  (fun x f q=>.vn (H9 B q.val) rfl)
  (fun x k q ik=>.vn (JS q.val ik.val) rfl)
  (fun x k q ik=>.vn (JU q.val ik.val) rfl)
  (fun x k d q ik id=>.vn (H0 q.val ik.val id.val) rfl)
  (fun x k q ik=>.vn (At q.val ik.val) rfl)
  (fun x k q ik=>.vn (vk q.val ik.val) rfl)
  (fun F r=>.vn (HC r.1) rfl)
  (fun F r=>.vn (Jy r.1) rfl)
  (fun F r=>.vn (Fb B r.1) rfl)
  (fun f F r=>.vt (H7 B K L f r.1) rfl)
  (fun i F r=>.vn (Fh B K L i r.1) rfl)
  (fun i it cs e H W Y=>.vn (H6 H (fun c h=>(W.2 c h).tst) Y.val) rfl)
  (fun i it j H=>.vn (Fg H) rfl)
  (fun s x q=>.vn (HY q.val) rfl)
  (fun a s b ia z=>.vn (Fe ia.val z.val) rfl)
  (fun x y q O=>.vn (Ax q.val O.val) rfl)
  (fun x y q O=>.vn (Av q.val O.val) rfl)
  (fun i k=>.vn (Aw i k) rfl)
  (.vn E9 rfl)
  (fun x q=>Dc q.val)
  (fun F r=>v6 B r.1)
  (fun x q=>Dd B q.val)
  ⟨zC,fun _ h=>absurd h List.not_mem_nil⟩ (fun x F a b=>⟨vl a.val b.1,fun c hc=>(List.mem_cons.mp hc).elim (fun e=>e▸a) (b.2 c)⟩)
theorem oK(B:cR w h0)(K:il w h0 C n)(L:iX C)(xs:List X):SXs w h0 C n xs/\∀c∈xs,SAll w h0 C n c:=by
 refine⟨?_,fun c _=>fe B K L c⟩
 induction xs with
 |nil=>exact zC
 |cons x xs d=>exact vl (fe B K L x).val d
theorem Ew(B:cR w h0)(K:il w h0 C n)(L:iX C)(it:It):SI w h0 C n it:=by
 cases it with
 |val x=>exact Dc (fe B K L x).val
 |range d=>exact v6 B (oK B K L d).1
 |rev x=>exact Dd B (fe B K L x).val
end
structure SInv(w:World)(h0:Heap)(s₀:Shared)(W₀:Wd)(env:Env)(nm:Nm)(ρ:aE)(fp:Nat->List Addr)(W:Wd)(H:List T)(Pr:List (Addr×Obj))(s:Shared):Prop where
 st:Stp W₀ s₀ W s
 fit:Fit w h0 W H s.heap
 vs:Vst w env nm ρ fp W s.heap
 new:∀a,iA env nm fp a->s₀.heap.get? a=none
 base:∀a o,h0.get? a=some o->s₀.heap.get? a=some o
 pr:∀p∈Pr,s.heap.get? p.1=some p.2/\¬W.has p.1/\¬iA env nm fp p.1
def hE(w:World)(h0:Heap)(s₀:Shared)(W₀:Wd)(env:Env)(nm:Nm)(Pr:List (Addr×Obj))(H:List T):Fl->Flow->Shared->Prop
 |.nxt ρ,f,s=>f=.next/\∃W fp,SInv w h0 s₀ W₀ env nm ρ fp W H Pr s
 |.cnt ρ,f,s=>f=.cont/\∃W fp,SInv w h0 s₀ W₀ env nm ρ fp W H Pr s
 |.ret lv,f,s=>∃v,f=.ret v/\∃W fp,Stp W₀ s₀ W s/\Fit w h0 W H s.heap/\Own w W s.heap v lv fp/\∀a∈fp,¬W.has a/\s₀.heap.get? a=none
theorem qk{w:World}{h0:Heap}{s₀ s:Shared}{W₀:Wd}{env:Env}{nm:Nm}{Pr:List (Addr×Obj)}{H':List T}{ρ':aE}{M:Model}{A:Around}{m:Sem Flow}{E:Value->Shared->Prop}
  (h:∀Q:Flow->Shared->Prop,(∀s' W fp,SInv w h0 s₀ W₀ env nm ρ' fp W H' Pr s'->Q .next s')->wpAny M A m Q E s):wpAny M A m (hE w h0 s₀ W₀ env nm Pr H' (.nxt ρ')) E s:=h _ fun s' W fp I=>⟨rfl,W,fp,I⟩
section
variable(w:World)(h0:Heap)(C:Nat->List T->M LV)(n:Nat)
def SS(x:S):Prop:=∀(st:Stmt)(A:Around)(env:Env)(nm:Nm)(ρ:aE)(fp:Nat->List Addr)(W:Wd)(H:List T)(s s₀:Shared)(W₀:Wd)(Pr:List (Addr×Obj))(fl:Fl)(H':List T),
 mS env.scope.names nm x st=true->Cx n A env->SInv w h0 s₀ W₀ env nm ρ fp W H Pr s->evS C ρ x H=some (fl,H')->wpAny (model pw w) A (exec st env) (hE w h0 s₀ W₀ env nm Pr H' fl) Nev s
def SBk(b:List S):Prop:=∀(sts:List Stmt)(A:Around)(env:Env)(nm:Nm)(ρ:aE)(fp:Nat->List Addr)(W:Wd)(H:List T)(s s₀:Shared)(W₀:Wd)(Pr:List (Addr×Obj))(fl:Fl)(H':List T),
 mB env.scope.names nm b sts=true->Cx n A env->SInv w h0 s₀ W₀ env nm ρ fp W H Pr s->evB C ρ b H=some (fl,H')->wpAny (model pw w) A (execs sts env) (hE w h0 s₀ W₀ env nm Pr H' fl) Nev s
end
section
variable{w:World}{h0:Heap}{s₀:Shared}{W₀:Wd}{env:Env}{nm:Nm}{ρ:aE}{fp:Nat->List Addr}{W W':Wd}{H H':List T}{Pr:List (Addr×Obj)}{s s':Shared}{A:Around}
theorem SInv.stp(I:SInv w h0 s₀ W₀ env nm ρ fp W H Pr s)(x:Stp W s W' s')(F:Fit w h0 W' H' s'.heap):SInv w h0 s₀ W₀ env nm ρ fp W' H' Pr s':=
 ⟨I.st.trans x,F,I.vs.stp x,I.new,I.base,fun p d=>(I.pr p d).elim fun a q=>q.elim fun b c=>⟨x.keep _ _ a fun m=>b (.inr m),x.fresh_not_has a b,c⟩⟩
theorem fO{i:Nat}{f:List Addr}{a:Addr}(h:iA env nm (cK fp i f) a):iA env nm fp a\/a∈f:=by
 rcases h with h|h|⟨z,k,q,d⟩
 ·exact .inl (.inl h)
 ·exact .inl (.inr (.inl h))
 ·unfold cK at d
  split at d
  ·exact .inr d
  ·exact .inl (.inr (.inr ⟨z,k,q,d⟩))
theorem NewFp.of_new{i:Nat}{f:List Addr}(I:SInv w h0 s₀ W₀ env nm ρ fp W H Pr s)(x:Stp W s W' s')(h:∀a∈f,¬W'.has a/\s.heap.get? a=none/\∃o,s'.heap.get? a=some o):NewFp env nm fp W' s'.heap i f where
 ok:=fun a r=>by
  haveI d:=h a r;haveI L:=d.1;haveI z:=d.2.1;haveI J:=d.2.2
  have F:∀b,iA env nm fp b->a≠b:=fun b fb q=>by
   obtain⟨_,o,e⟩:=I.vs.foot_ok fb
   rw[<-q,z]at e;exact(nos e).elim
  exact⟨L,J,F _ (.inl rfl),fun y c Y=>F c (.inr (.inl ⟨y,Y⟩))⟩
 apart:=fun a r y j O hj Z=>by
  haveI d:=h a r;haveI L:=d.1;haveI z:=d.2.1;haveI J:=d.2.2
  haveI d:=I.vs.foot_ok (.inr (.inr ⟨y,j,O,Z⟩));refine xE d.2 fun o e=>?_
  rw[z]at e;exact(nos e).elim
theorem SInv.put(I:SInv w h0 s₀ W₀ env nm ρ fp W H Pr s)(hk:env.scope.kind=.function){x:Str}{i:Nat}{v:Value}{lv:LV}{f:List Addr}(hx:nm.lookup x=some i)(z:Own w W s.heap v lv f)(O:NewFp env nm fp W s.heap i f)(hf:∀a∈f,s₀.heap.get? a=none)(Z:∀p∈Pr,p.1∉f)
  {Q:Unit->Shared->Prop} {E:Value->Shared->Prop} (h:∀s',SInv w h0 s₀ W₀ env nm (upd ρ i lv) (cK fp i f) W H Pr s'->Q () s'):wpAny (model pw w) A (storeName env x v) Q E s:=by
 refine I.vs.store hk hx z O fun h' tk a ha F V=>?_
 have fa:iA env nm fp a:=ha.imp id fun h=>.inl ⟨x,h⟩
 have J:=I.new a fa
 have Y:=(I.vs.foot_ok fa).1
 refine h _ ⟨I.st.write (P:=fun b=>b=a) F fun b e=>e▸J,I.fit.write (P:=fun b=>b=a) F (fun b e=>e▸Y) fun b e=>?_,V,fun b r=>?_,I.base,fun p y=>?_⟩
 ·cases q:h0.get? b with
  |none=>rfl
  |some o=>have:=I.base b o q;rw[e,J]at this;exact nomatch this
 ·rcases fO r with r|r
  ·exact I.new b r
  ·exact hf b r
 ·haveI d:=I.pr p y;haveI h1:=d.1;haveI h2:=d.2.1;haveI L:=d.2.2
  exact⟨F _ _ (fun q=>L (q▸fa)) h1,h2,fun r=>(fO r).elim L (Z p y)⟩
def HB(s₀:Shared)(env:Env)(nm:Nm)(fp:Nat->List Addr)(W:Wd)(Pr:List (Addr×Obj))(a:Addr):Prop:=¬W.has a/\s₀.heap.get? a=none/\¬iA env nm fp a/\∀p∈Pr,p.1≠a
theorem SInv.fresh(I:SInv w h0 s₀ W₀ env nm ρ fp W H Pr s)(x:Stp W s W' s'){a:Addr}(h:s.heap.get? a=none)(n:¬W'.has a):HB s₀ env nm fp W' Pr a:=by
 refine⟨n,?_,fun y=>?_,fun p r q=>?_⟩
 ·cases q:s₀.heap.get? a with
  |none=>rfl
  |some o=>
   by_cases m:W₀.wr a
   ·exact absurd h (by refine(I.fit.alive (I.st.le.has (.inr m))).elim fun F z=>?_;rw[z];simp)
   ·haveI:=I.st.keep a o q m;rw[h]at this;exact(nos this).elim
 ·haveI d:=I.vs.foot_ok y;refine xE d.2 fun o e=>?_
  rw[h]at e;exact(nos e).elim
 ·haveI:=(I.pr p r).1
  rw[q,h]at this;exact(nos this).elim
theorem SInv.mutG(I:SInv w h0 s₀ W₀ env nm ρ fp W H Pr s){x:Str}{i:Nat}{v:Value}{lv:LV}{f:List Addr}{h':Heap}{tk:Nat}(hx:nm.lookup x=some i)(ab:Cur env s.heap x v)(k:∀b o,b∉fp i->s.heap.get? b=some o->h'.get? b=some o)
  (aa:Own w W h' v lv f) (Y:∀a∈f,(∃o,h'.get? a=some o)/\(a∈fp i\/HB s₀ env nm fp W Pr a)):SInv w h0 s₀ W₀ env nm (upd ρ i lv) (cK fp i f) W H Pr {s with heap:=h',toks:=tk}:=by
 have d:=fun a (r:a∈fp i)=>I.vs.fpW x i a hx r
 have kl:∀o,s.heap.get? env.locals=some o->h'.get? env.locals=some o:=fun o e=>k _ o (fun F=>(d _ F).2.2.1 rfl) e
 have kc:∀y c,env.cells.lookup y=some c->∀o,s.heap.get? c=some o->h'.get? c=some o:=fun y c z o e=>k _ o (fun F=>(d _ F).2.2.2 y c z rfl) e
 have J:∀a,a∈f->¬W.has a/\s₀.heap.get? a=none:=fun a r=>by
  rcases(Y a r).2 with h|h
  ·exact⟨(d a h).1,I.new a (.inr (.inr ⟨x,i,hx,h⟩))⟩
  ·exact⟨h.1,h.2.1⟩
 have wn:∀b,b∈fp i->s₀.heap.get? b=none:=fun b L=>I.new b (.inr (.inr ⟨x,i,hx,L⟩))
 refine⟨I.st.write (P:=fun b=>b∈fp i) k wn,I.fit.write (P:=fun b=>b∈fp i) k (fun b L=>(d b L).1) fun b L=>?_,?_,fun b O=>?_,I.base,fun p hp=>?_⟩
 ·cases q:h0.get? b with
  |none=>rfl
  |some o=>haveI:=I.base b o q;rw[wn b L]at this;exact nomatch this
 ·refine I.vs.put hx (.refl W) (I.vs.ns.elim fun m hn=>⟨m,hn.at' kl⟩) (fun y c z=>let⟨⟨u,o,ho,hd⟩,_⟩:=I.vs.cell y c z;⟨u,o,kc y c z o ho,hd⟩) (fun a fa _ _=>(I.vs.foot_ok fa).1) (ab.at' kl fun c o z e=>kc x c z o e)
   (fun y u _ cu=>cu.at' kl fun c o z e=>kc y c z o e) aa ⟨fun a r=>?_,fun a r y j hy hj L=>?_⟩ fun y j a o hy hj r e=>k a o (fun F=>hj (I.vs.fpD y x j i a hy hx r F)) e
  ·refine⟨(J a r).1,(Y a r).1,?_⟩
   rcases(Y a r).2 with h|h
   ·exact(d a h).2.2
   ·exact⟨fun q=>h.2.2.1 (.inl q),fun y c z q=>h.2.2.1 (.inr (.inl ⟨y,q▸z⟩))⟩
  ·rcases(Y a r).2 with h|h
   ·exact hj (I.vs.fpD y x j i a hy hx L h)
   ·exact h.2.2.1 (.inr (.inr ⟨y,j,hy,L⟩))
 ·rcases fO O with O|O
  ·exact I.new b O
  ·exact(J b O).2
 ·haveI Z:=I.pr p hp;haveI h1:=Z.1;refine xA Z.2 fun h2 h3=>?_
  refine⟨k _ _ (fun F=>h3 (.inr (.inr ⟨x,i,hx,F⟩))) h1,h2,fun O=>(fO O).elim h3 fun F=>?_⟩
  rcases(Y _ F).2 with q|q
  ·exact h3 (.inr (.inr ⟨x,i,hx,q⟩))
  ·exact q.2.2.2 p hp rfl
theorem SInv.mut(I:SInv w h0 s₀ W₀ env nm ρ fp W H Pr s){x:Str}{i:Nat}{v:Value}{lv:LV}{f:List Addr}{h':Heap}{tk:Nat}(hx:nm.lookup x=some i)(q:Cur env s.heap x v)(k:∀b o,b∉fp i->s.heap.get? b=some o->h'.get? b=some o)
  (d:Own w W h' v lv f) (r:∀a∈f,(∃o,h'.get? a=some o)/\(a∈fp i\/s.heap.get? a=none)):SInv w h0 s₀ W₀ env nm (upd ρ i lv) (cK fp i f) W H Pr {s with heap:=h',toks:=tk}:=
 I.mutG hx q k d fun a y=>⟨(r a y).1,(r a y).2.imp id fun h=>I.fresh (.refl W s) h (I.fit.not_has h)⟩
theorem SInv.freeze(I:SInv w h0 s₀ W₀ env nm ρ fp W H Pr s){i:Nat}{t:T}(e:frz (ρ i)=some t):∃W',SInv w h0 s₀ W₀ env nm (upd ρ i (.fr t)) (cK fp i []) W' H Pr s:=by
 by_cases hx:∃x,nm.lookup x=some i
 ·refine hx.elim fun x hx=>?_
  rcases(I.vs.slot x i hx).2 with⟨b,_⟩|⟨v,aa,Z⟩
  ·rw[b]at e;cases e
  haveI n0:∀a∈fp i,h0.get? a=none:=fun a F=>by
   cases q:h0.get? a with
   |none=>rfl
   |some o=>have:=I.base a o q;rw[I.new a (.inr (.inr ⟨x,i,hx,F⟩))]at this;exact nomatch this
  refine xEA (Internal.freeze I.fit Z e (fun a F=>(I.vs.fpW x i a hx F).1) n0) fun W' z r=>?_
  refine⟨W',z.stp I.st fun a F=>I.new a (.inr (.inr ⟨x,i,hx,F⟩)),z.fit,?_,fun b d=>?_,I.base,fun p hp=>?_⟩
  ·refine I.vs.put hx z.le I.vs.ns (fun y c hc=>(I.vs.cell y c hc).1) (fun a fa _ ni m=>?_) aa (fun _ _ _ cu=>cu) ⟨r,rfl⟩ .nil fun _ _ _ _ _ _ _ e=>e
   rcases z.has a m with m|m
   ·exact(I.vs.foot_ok fa).1 m
   ·exact ni m
  ·rcases fO d with d|d
   ·exact I.new b d
   ·cases d
  ·haveI O:=I.pr p hp;haveI L:=O.1;refine xA O.2 fun J Y=>?_
   refine⟨L,fun m=>?_,fun d=>(fO d).elim Y fun hm=>nomatch hm⟩
   rcases z.has _ m with m|m
   ·exact J m
   ·exact Y (.inr (.inr ⟨x,i,hx,m⟩))
 ·--no variable of that number
  refine⟨W,I.st,I.fit,?_,fun b d=>?_,I.base,fun p hp=>let⟨L,J,Y⟩:=I.pr p hp;⟨L,J,fun d=>(fO d).elim Y fun hm=>nomatch hm⟩⟩
  ·have ne:∀y j,nm.lookup y=some j->j≠i:=fun y j h q=>hx ⟨y,q▸h⟩
   have u:∀{y j},nm.lookup y=some j->upd ρ i (.fr t) j=ρ j/\cK fp i [] j=fp j:=fun h=>⟨lw _ _ _ _ (ne _ _ h),if_neg (ne _ _ h)⟩
   refine⟨I.vs.ns,I.vs.nsW,I.vs.cell,I.vs.cinj,I.vs.dom,fun y j h=>?_,fun y j a h F=>?_,fun y z j1 j2 a e1 e2 L J=>?_,I.vs.inj⟩
   ·rw[(u h).1,(u h).2];exact I.vs.slot y j h
   ·rw[(u h).2]at F;exact I.vs.fpW y j a h F
   ·rw[(u e1).2]at L;rw[(u e2).2]at J;exact I.vs.fpD y z j1 j2 a e1 e2 L J
  ·rcases fO d with d|d
   ·exact I.new b d
   ·cases d
end
@[elab_as_elim]
theorem aT{q:Nm}{i:Nat}{e:Expr}{P:Expr->Prop}(h:bL q i e=true)(H:∀x p,q.lookup x=some i->(x==("__debug__" :Str))=false->P (.Name x p)):P e:=
 dM (P:=P) h fun x p h=>H x p (mh h).1 (mh h).2
@[elab_as_elim]
theorem s5{e:Expr}{k:Expr->Expr->Bool}{P:Expr->Prop}(h:zf e k=true)(H:∀a b c p,k a b=true->P (.Tuple [a,b] c p)):P e:=
 DO (P:=P) h fun d c p h=>lJ (P:=fun d=>P (.Tuple d c p)) h fun a b h=>H a b c p h
@[elab_as_elim]
theorem Er{e:Expr}{k:Expr->Expr->Bool}{P:Expr->Prop}(h:Hy e k=true)(H:∀a p b q,aV a=true->k a b=true->P (.BinOp (.List [a] p) .Mult b q)):P e:=
 yM (P:=P) h fun l o r q h=>aK h fun u h=>bO (P:=fun o=>P (.BinOp l o r q)) u (qY (P:=fun l=>P (.BinOp l .Mult r q)) h fun d p h=>kM (P:=fun d=>P (.BinOp (.List d p) .Mult r q)) h fun a h=>aK h fun u v=>H a p r q u v)
theorem aU{v:Expr}(h:jn v=true)(t:Option Expr)(l:Nat)(env:Env):swapsWith v t l env=pure false:=by
 cases v<;>first|exact(aH h).elim|rfl
theorem cW{env:Env}(h:env.scope.kind=.function):interactive env=false:=by
 unfold interactive
 rw[h];rfl
theorem qi{α:Type}{M:Model}{A:Around}{m:Sem α}{Q:α->Shared->Prop}{E:Value->Shared->Prop}{s:Shared}(h:wpAny M A m Q Nev s):wpAny M A m Q E s:=wpAny_mono h (fun _ _ z=>z) fun _ _ z=>z.elim
section
variable{w:World}{h0:Heap}{C:Nat->List T->M LV}{n:Nat}
theorem E1:SS w h0 C n .cont:=by
 intro st A J O L F W H s d q Pr Y H' y Z I z
 refine Bt y fun r=>?_
 refine aM z ?_
 exact wpAny_Continue ⟨rfl,W,F,I⟩
theorem Cd:SS w h0 C n .stuck:=fun st A y F z L W H s d q Z O H' J Y I r=>(gj (h:=H) r).elim
theorem HQ{x:X}(hx:SX w h0 C n x):SS w h0 C n (.ret x):=by
 intro st A L nm ρ fp W H s Y Z Pr fl H' hm cx I J
 refine wY hm fun e aa m1=>?_
 refine aB J fun t H1 e1 J=>?_
 refine aM J ?_
 refine wpAny_Return_some (wpAny_mono (hx e A L nm ρ fp W H s t _ m1 cx I.vs I.fit e1) (fun v O r=>?_) fun _ _ z=>z)
 refine Pst.el r fun y d F q=>?_
 exact⟨v,rfl,y,[],I.st.trans d,F,⟨q,rfl⟩,fun _ h=>(List.not_mem_nil h).elim⟩
@[elab_as_elim]
theorem Cq{lv d:LV}{P:LV->Prop}(e:vg lv=some d)(H:lv≠.unset->P lv):P d:=by
 cases lv<;>first|(cases e;done)|(rw[<-Option.some.inj e];exact H nofun)
theorem EU{i:Nat}{c:X}(hc:SAll w h0 C n c):SS w h0 C n (.retO i c):=by
 intro st A L nm ρ fp W H s ad ae Pr fl H' hm cx I F
 refine wY hm fun e af m1=>?_
 refine DQ m1 fun ec et ed p m2=>?_
 refine cT m2 fun md mt mc mn=>?_
 refine dS md fun cc ci cp aa=>?_
 refine mR aa ?_
 refine aT mn fun x px hx hd=>?_
 refine aB F fun t H1 e1 F=>?_
 refine wpAny_Return_some (wpAny_IfExp ?_)
 haveI go:∀b:Bool,t=.bool b->wpAny (model pw w) A (isTrue ec L (eval ec L)) (Tst w h0 W s H1 b) Nev s:=fun b q=>hc.tst mt ec A L nm ρ fp W H s b H1 mc cx I.vs I.fit (q▸e1)
 refine aN F fun b eb F=>?_
 refine wpAny_mono (go b (li eb)) (fun r ac Y=>?_) fun _ _ z=>z
 obtain⟨J,O,y,rfl⟩:=Y
 have d:=I.stp O y
 cases r
 ·refine aM F ?_
  exact wpAny_Constant_none ⟨.none,rfl,J,[],d.st,y,⟨rfl,rfl⟩,fun _ h=>(List.not_mem_nil h).elim⟩
 ·refine wpAny_Name ?_ hd
  refine aN F fun lv el F=>?_
  refine aM F ?_
  rcases(d.vs.slot x i hx).2 with⟨b,_⟩|⟨v,ab,Z⟩
  ·rw[b]at el;exact nomatch el
  ·refine Cq el fun _=>?_
   exact Vst.load cx.kind ab ⟨v,rfl,J,fp i,d.st,y,Z,fun a ha=>⟨(d.vs.fpW x i a hx ha).1,d.new a (.inr (.inr ⟨x,i,hx,ha⟩))⟩⟩
theorem E0{x:X}(hx:SX w h0 C n x):SS w h0 C n (.expr x):=by
 intro st A J nm ρ Y W H s O aa Pr fl H' hm cx I r
 refine iD hm fun e ab m1=>?_
 refine aK m1 fun mn m2=>?_
 refine aB r fun t H1 Z r=>?_
 refine aN r fun u eu r=>?_
 refine aM r ?_
 rw[Il eu]at Z
 refine wpAny_Expr (wpAny_mono (hx e A J nm ρ Y W H s _ _ m2 cx I.vs I.fit Z) (fun v L q=>?_) fun _ _ z=>z) (cW cx.kind) (aU mn _ _ _)
 obtain⟨y,d,F,rfl⟩:=q
 exact⟨rfl,y,Y,I.stp d F⟩
theorem tq{x:X}{i:Nat}(hx:SX w h0 C n x){t v:Expr}{pos:Pos}{A:Around}{env:Env}{J:Nm}{ρ:aE}{fp:Nat->List Addr}{W:Wd}{H H':List T}{s d:Shared}{q:Wd}{Pr:List (Addr×Obj)}{u:T}
  (hn:jn v=true) (mt:bL J i t=true) (mx:mX env.scope.names J x v=true) (cx:Cx n A env) (I:SInv w h0 d q env J ρ fp W H Pr s) (e1:evX C ρ x H=some (u,H')):
  wpAny (model pw w) A (exec (.Assign [t] v pos) env) (hE w h0 d q env J Pr H' (.nxt (upd ρ i (.fr u)))) Nev s:=by
 refine aT mt fun y py hy hd=>?_
 refine wpAny_Assign_Name (wpAny_mono (hx v A env J ρ fp W H s u H' mx cx I.vs I.fit e1) (fun v Z L=>?_) fun _ _ z=>z) (aU hn _ _ _)
 refine Pst.el L fun O r Y F=>?_
 exact(I.stp r Y).put cx.kind hy (lv:=.fr u) ⟨F,rfl⟩ .nil (fun _ h=>(List.not_mem_nil h).elim) (fun _ _ h=>(List.not_mem_nil h).elim) fun s' I'=>⟨rfl,O,_,I'⟩
theorem HR{c:X}{a b:List S}(hc:SAll w h0 C n c)(ha:SBk w h0 C n a)(hb:SBk w h0 C n b):SS w h0 C n (.ite c a b):=by
 intro st A O nm ρ fp W H s y J Pr fl H' hm cx I Y
 refine GQ hm fun e a' b' ac m1=>?_
 refine cT m1 fun mt mc ma mb=>?_
 refine aB Y fun t H1 e1 Y=>?_
 refine aN Y fun q eq Y=>?_
 rw[li eq]at e1
 refine wpAny_If (wpAny_mono (hc.tst mt e A O nm ρ fp W H s q H1 mc cx I.vs I.fit e1) (fun r d aa=>?_) fun _ _ z=>z)
 obtain⟨F,Z,ab,rfl⟩:=aa
 haveI L:=I.stp Z ab
 cases r
 ·rw[if_neg Bool.false_ne_true]
  exact hb b' A O nm ρ fp F H1 d y J Pr fl H' mb cx L Y
 ·rw[if_pos rfl]
  exact ha a' A O nm ρ fp F H1 d y J Pr fl H' ma cx L Y
theorem HP{k:Nat}{c:X}{b:List S}(hc:SAll w h0 C n c)(hb:SBk w h0 C n b):SS w h0 C n (.whl k c b):=by
 intro st A Y nm y fp W H s J L Pr fl H' hm cx I O
 refine Eo hm fun e b' al m1=>?_
 refine aY m1 fun mt mc mb=>?_
 haveI aj:pP (fun y=>bnd (evX C y c) fun t=>lft (bOf t)) (fun y=>evB C y b) k y H=some (fl,H'):=O
 refine wpAny_While (codeAny_whileLoop (fun m s=>∃y fp W H,SInv w h0 J L Y nm y fp W H Pr s/\pP (fun y=>bnd (evX C y c) fun t=>lft (bOf t)) (fun y=>evB C y b) m y H=some (fl,H')) ?_ k ⟨y,fp,W,H,I,aj⟩)
 intro m s ak;refine HD ak fun y fp W H I O=>?_
 cases m with
 |zero=>exact(gj (h:=H) O).elim
 |succ m=>
  refine aB O fun q H1 e1 O=>?_
  refine aB e1 fun t H2 e2 e3=>?_
  haveI e4:t=.bool q/\H2=H1:=bV (P:=fun H1=>t=.bool q/\H2=H1) e3 fun e=>⟨li e,rfl⟩
  obtain rfl:=e4.1;obtain rfl:=e4.2
  refine qi (wpAny_mono (hc.tst mt e A Y nm y fp W H s q _ mc cx I.vs I.fit e2) (fun r ab ah=>?_) fun _ _ z=>z)
  obtain⟨ac,af,ai,rfl⟩:=ah
  haveI ad:=I.stp af ai
  cases r
  ·rw[if_neg Bool.false_ne_true]
   haveI hf:hE w h0 J L Y nm Pr H' fl .next ab:=aM O ⟨rfl,ac,fp,ad⟩
   exact wpAny_execs_nil hf
  ·rw[if_pos rfl]
   refine aB O fun f H3 e5 O=>?_
   refine qi (wpAny_mono (hb b' A Y nm y fp ac _ ab J L Pr f H3 mb cx ad e5) (fun am ag d=>?_) fun _ _ z=>z)
   cases f with
   |nxt ae=>obtain⟨rfl,Z,F,aa⟩:=d;exact⟨m,Nat.lt_succ_self _,ae,F,Z,H3,aa,O⟩
   |cnt ae=>obtain⟨rfl,Z,F,aa⟩:=d;exact⟨m,Nat.lt_succ_self _,ae,F,Z,H3,aa,O⟩
   |ret lv=>
    obtain⟨v,rfl,d⟩:=d
    exact aM (P:=fun fl H'=>hE w h0 J L Y nm Pr H' fl (.ret v) ag) O ⟨v,rfl,d⟩
end
section
variable{w:World}{h0:Heap}{s₀:Shared}{W₀:Wd}{env:Env}{nm:Nm}{ρ:aE}{fp:Nat->List Addr}{W W':Wd}{H H':List T}{Pr:List (Addr×Obj)}{s s':Shared}{A:Around}
theorem SInv.put_new(I:SInv w h0 s₀ W₀ env nm ρ fp W H Pr s)(O:env.scope.kind=.function){x:Str}{i:Nat}{v:Value}{lv:LV}{f:List Addr}(hx:nm.lookup x=some i)(st:Stp W s W' s')(F:Fit w h0 W' H' s'.heap)
  (r:Own w W' s'.heap v lv f) (y:∀a∈f,¬W'.has a/\s.heap.get? a=none/\∃o,s'.heap.get? a=some o) {Q:Unit->Shared->Prop} {E:Value->Shared->Prop} (h:∀d,SInv w h0 s₀ W₀ env nm (upd ρ i lv) (cK fp i f) W' H' Pr d->Q () d):
  wpAny (model pw w) A (storeName env x v) Q E s':=by
 refine(I.stp st F).put O hx r (NewFp.of_new I st y) (fun a Y=>?_) (fun p J L=>?_) h
 ·haveI q:=y a Y;haveI Z:=q.1;haveI z:=q.2.1
  exact cB I.st z (I.fit.not_has z)
 ·have:=(I.pr p J).1
  rw[(y _ L).2.1]at this;exact(nos this).elim
theorem SInv.letGo {p:Addr×Obj} {h':Heap} (I:SInv w h0 s₀ W₀ env nm ρ fp W H (p::Pr) s) (n:s₀.heap.get? p.1=none) (O: ∀q∈Pr,q.1≠p.1) (hs:Heap.SameBut p.1 s.heap h'):SInv w h0 s₀ W₀ env nm ρ fp W H Pr {s with heap:=h'}:=by
 haveI d:=I.pr p (.head _);haveI p1:=d.1;haveI p2:=d.2.1;haveI p3:=d.2.2
 have k: ∀b o,b≠p.1->s.heap.get? b=some o->h'.get? b=some o:=fun b o L e=>hs.extBut b o L e
 refine⟨I.st.write (tk:=s.toks) (P:=fun b=>b=p.1) k fun b e=>e▸n,I.fit.write (P:=fun b=>b=p.1) k (fun b e=>e▸p2) (fun b e=> ?_),I.vs.frame (.refl W) (fun a o f e=>k a o (fun q=>p3 (q▸f)) e) fun a f=>(I.vs.foot_ok f).1,I.new,I.base,fun q r=> ?_⟩
 ·cases z:h0.get? b with
  |none=>rfl
  |some o=>haveI:=I.base b o z;rw[e,n]at this;exact(nos this).elim
 ·haveI d:=I.pr q (.tail _ r);haveI J:=d.1;haveI F:=d.2.1;haveI y:=d.2.2
  exact⟨k _ _ (O q r) J,F,y⟩
theorem SInv.hold {p:Addr×Obj} (I:SInv w h0 s₀ W₀ env nm ρ fp W H Pr s) (e:s.heap.get? p.1=some p.2) (n: ¬W.has p.1) (r: ¬iA env nm fp p.1):SInv w h0 s₀ W₀ env nm ρ fp W H (p::Pr) s:=
 ⟨I.st,I.fit,I.vs,I.new,I.base,fun q d=>by
  rcases List.mem_cons.mp d with rfl|d
  ·exact⟨e,n,r⟩
  ·exact I.pr q d⟩
theorem SInv.foot_ne(I:SInv w h0 s₀ W₀ env nm ρ fp W H Pr s){a:Addr}(e:s.heap.get? a=none):¬iA env nm fp a:=fun f=>by
 refine xAE (I.vs.foot_ok f) fun _ o d=>?_
 rw[e]at d;cases d
end
section
variable{w:World}{h0:Heap}{C:Nat->List T->M LV}{n:Nat}
theorem EW{i:Nat}{xs:List X}(hx:SXs w h0 C n xs):SS w h0 C n (.newL i xs):=by
 intro st A env nm ρ fp W H s s₀ W₀ Pr fl H' hm cx I Z
 refine bY hm fun t v ab m1=>?_
 refine aK m1 fun mn m2=>?_
 refine qY m2 fun es p2 m3=>?_
 refine aK m3 fun mp mx=>?_
 refine aT mn fun y py hy hd=>?_
 refine aB Z fun ts H1 e1 Z=>?_
 refine aM Z ?_
 refine wpAny_Assign_Name (List_ (wpAny_mono (hx es A env nm ρ fp W H s ts _ p2 mx mp cx I.vs I.fit e1) (fun Y d L=>?_) fun _ _ z=>z)) (aU rfl _ _ _)
 refine el4 L fun F q J r=>?_
 haveI O:Y.length<=sizeLine:=by rw[r.length,my e1,pG mx,sizeLine_eq];haveI:=ji mp;exact tkn this rfl
 refine wpAny_newList ?_ O
 haveI kp:∀a o,d.heap.get? a=some o->(d.heap.push (seqObj "list" Y.toArray 0)).get? a=some o:=fun a o e=>Heap.get?_push_of_some _ e
 haveI nn:¬F.has d.heap.objs.size:=J.not_has aX
 refine I.put_new cx.kind hy (q.trans (Stp.of_keep kp)) (J.keep kp) (lv:=.ol ts) ⟨_,Y.toArray,rfl,rfl,⟨0,Heap.get?_push_size _ rfl⟩,r⟩ (fun a ha=>?_) fun aa I'=>⟨rfl,F,_,I'⟩
 rw[List.mem_singleton.mp ha]
 exact⟨nn,cB q aX nn,_,Heap.get?_push_size _ rfl⟩
theorem xK(B:cR w h0){h:Heap}(k:∀a o,h0.get? a=some o->h.get? a=some o):(h.objs.size==sysModules)=false:=by
 refine zn B.cr fun c o d t e g _=>?_
 cases e
 haveI:=Heap.lt_size (k _ _ g)
 rw[beq_eq_false_iff_ne]
 intro q
 rw[q]at this
 exact absurd this (by decide)
theorem EX(B:cR w h0){i:Nat}:SS w h0 C n (.newD i):=by
 intro st A env nm ρ fp W H s s₀ W₀ Pr fl H' Z cx I he
 refine bY Z fun t v r m1=>?_
 refine aK m1 fun F m2=>?_
 refine yL m2 fun ks es p2 O=>?_
 refine aK O fun L J=>?_
 refine dy L ?_
 refine dy J ?_
 refine aT F fun y py Y hd=>?_
 refine aM he ?_
 refine wpAny_Assign_Name (wpAny_Dict_empty ?_) (aU rfl _ _ _)
 haveI d:∀a o,s.heap.get? a=some o->(s.heap.push {cls:=.type "dict",data:=.dict #[]}).get? a=some o:=fun a o e=>Heap.get?_push_of_some _ e
 haveI z:¬W.has s.heap.objs.size:=I.fit.not_has aX
 refine I.put_new cx.kind Y (Stp.of_keep (tk:=s.toks) d) (I.fit.keep d) (lv:=.od [] []) ⟨_,[],rfl,rfl,xK B I.fit.base,Heap.DictOf.new _,rfl,rfl,rfl⟩ (fun a ha=>?_) fun q I'=>⟨rfl,W,_,I'⟩
 rw[List.mem_singleton.mp ha]
 exact⟨z,aX,_,Heap.get?_push_size _ rfl⟩
theorem Ch(B:cR w h0){i:Nat}:SS w h0 C n (.newDL i):=by
 intro st A env nm ρ fp W H s s₀ W₀ Pr fl H' Z cx I he
 refine bY Z fun t v r m1=>?_
 refine aK m1 fun F m2=>?_
 refine yL m2 fun ks es p2 O=>?_
 refine aK O fun L J=>?_
 refine dy L ?_
 refine dy J ?_
 refine aT F fun y py Y hd=>?_
 refine aM he ?_
 refine wpAny_Assign_Name (wpAny_Dict_empty ?_) (aU rfl _ _ _)
 haveI d:∀a o,s.heap.get? a=some o->(s.heap.push {cls:=.type "dict",data:=.dict #[]}).get? a=some o:=fun a o e=>Heap.get?_push_of_some _ e
 haveI z:¬W.has s.heap.objs.size:=I.fit.not_has aX
 refine I.put_new cx.kind Y (Stp.of_keep (tk:=s.toks) d) (I.fit.keep d) (lv:=.odl [] []) ⟨_,[],[],rfl,rfl,xK B I.fit.base,Heap.DictOf.new _,rfl,rfl,trivial,by simp,rfl⟩ (fun a ha=>?_) fun q I'=>⟨rfl,W,_,I'⟩
 rw[List.mem_singleton.mp ha]
 exact⟨z,aX,_,Heap.get?_push_size _ rfl⟩
theorem An{i:Nat}{a k:X}(ha:SX w h0 C n a)(hk:SX w h0 C n k):SS w h0 C n (.newMul i a k):=by
 intro st A env nm ρ fp W H s s₀ W₀ Pr fl H' hm cx I J
 refine bY hm fun t v aj m1=>?_
 refine aK m1 fun mn m2=>?_
 refine Er m2 fun e1 p1 e2 p2 mp m3=>?_
 refine aK m3 fun ma mk=>?_
 refine aT mn fun y py hy hd=>?_
 refine aB J fun ta H1 q1 J=>?_
 refine aB J fun tk H2 q2 J=>?_
 refine aN J fun b eb J=>?_
 refine dZ J fun hb J=>?_
 have hb:=of_decide_eq_true hb
 refine aM J ?_
 rw[dA eb]at q2
 refine wpAny_Assign_Name (wpAny_BinOp (List_ ?_)) (aU rfl _ _ _)
 rw[aF mp]
 refine Calls.spliced_cons (wpAny_mono (ha e1 A env nm ρ fp W H s ta H1 ma cx I.vs I.fit q1) (fun v d ag=>?_) fun _ _ z=>z)
 refine Pst.el ag fun r ab aa ac=>?_
 refine Calls.spliced_nil (wpAny_newList ?_ (by rw[sizeLine_eq];simp))
 haveI kp:∀a o,d.heap.get? a=some o->(d.heap.push (seqObj "list" [v].toArray 0)).get? a=some o:=fun a o e=>Heap.get?_push_of_some _ e
 haveI O:Stp W s r {d with heap:=d.heap.push (seqObj "list" [v].toArray 0)}:=ab.trans (Stp.of_keep kp)
 haveI ah:Fit w h0 r H1 (d.heap.push (seqObj "list" [v].toArray 0)):=aa.keep kp
 haveI nn:¬r.has d.heap.objs.size:=aa.not_has aX
 refine wpAny_mono (hk e2 A env nm ρ fp r H1 _ (.int b) _ mk cx (I.vs.stp O) ah q2) (fun kv q af=>?_) fun _ _ z=>z
 obtain⟨Y,F,Z,t3,rfl⟩:=af
 have pl:q.heap.PlainList d.heap.objs.size #[v]:=⟨0,F.keep _ _ (Heap.get?_push_size _ rfl) fun m=>nn (.inr m)⟩
 refine sS pl hb.1 (ug hb.2 rfl) (by simp) ?_
 haveI e3:(if(#[v]:Array Value).isEmpty=true then 0 else b.toNat)=b.toNat:=rfl
 rw[e3,wi]
 haveI ae:∀a o,q.heap.get? a=some o->(q.heap.push (seqObj "list" (List.replicate b.toNat v).toArray 0)).get? a=some o:=fun a o e=>Heap.get?_push_of_some _ e
 haveI ad:¬Y.has q.heap.objs.size:=Z.not_has aX
 have L:=O.trans F
 refine I.put_new cx.kind hy (L.trans (Stp.of_keep (tk:=q.toks) ae)) (Z.keep ae) (lv:=.ol (List.replicate b.toNat ta)) ⟨_,(List.replicate b.toNat v).toArray,rfl,rfl,⟨0,Heap.get?_push_size _ rfl⟩,?_⟩ (fun a ha=>?_) fun ai I'=>⟨rfl,Y,_,I'⟩
 ·exact Reps.replicate (Rep.mono F.le _ ac) _
 ·rw[List.mem_singleton.mp ha]
  exact⟨ad,cB L aX ad,_,Heap.get?_push_size _ rfl⟩
theorem tm(B:cR w h0){i:Nat}{x:X}(hx:SX w h0 C n x):SS w h0 C n (.newSorted i x):=by
 intro st A env nm ρ fp W H s s₀ W₀ Pr fl H' hm J I d
 refine bY hm fun t v aa m1=>?_
 refine aK m1 fun mn m2=>?_
 refine iz m2 fun f np e p2 m0 mp mx=>?_
 refine aT mn fun y py hy hd=>?_
 refine aB d fun u H1 z d=>?_
 refine aN d fun ts eu d=>?_
 refine aN d fun O q3 d=>?_
 refine aM d ?_
 rw[eM eu]at z
 refine wpAny_Assign_Name (ow B hx m0 mp mx J I.vs I.fit z q3 fun D W' s' q k L F' nD r F Z=>?_) (aU rfl _ _ _)
 refine I.put_new J.kind hy L F' (lv:=.ol O) ⟨_,q,rfl,rfl,⟨k,F⟩,Z⟩ (fun a ha=>?_) fun Y I'=>⟨rfl,W',_,I'⟩
 rw[List.mem_singleton.mp ha]
 exact⟨r,nD,_,F⟩
theorem jL{F:Expr}{gs:List Comprehension}{sc:Scope}{d:Pos}{g:Expr}{y:Str}{py pos:Pos}{i:Nat}{A:Around}{env:Env}{nm:Nm}{ρ:aE}{fp:Nat->List Addr}{W:Wd}{H H' rs:List T}{s s₀:Shared}{W₀:Wd}{Pr:List (Addr×Obj)}{lv:LV}
  (al:lv=.ol rs\/lv=.fr (.list rs)) (cx:Cx n A env) (I:SInv w h0 s₀ W₀ env nm ρ fp W H Pr s) (hy:nm.lookup y=some i) (r:firstAsync gs=false) (hg:firstIter gs env=eval g env)
  (aa:∀(use:Option (Value->Sem Unit)) (Q:Value->Shared->Prop) (ae:Pos),(∀D L W' s' J m,Stp W s W' s'->Fit w h0 W' H' s'.heap->s'.heap.PlainList D J->Reps w W' rs J.toList->¬W'.has D->s.heap.get? D=none->s.heap.get? L=none->
   ¬W'.has L->L≠D->s'.heap.Ns L m->compPost (model pw w) A Nev use Q (.ref D) L (.ok .next) s')->wpAny (model pw w) A (comprehension (.ListComp F gs sc d) sc env ae (newList []) false (eval g env) use) Q Nev s):
  wpAny (model pw w) A (exec (.Assign [.Name y py] (.ListComp F gs sc d) pos) env) (hE w h0 s₀ W₀ env nm Pr H' (.nxt (upd ρ i lv))) Nev s:=by
 have mk:∀{D L:Addr} {W':Wd} {s':Shared} {J:Array Value},Stp W s W' s'->Fit w h0 W' H' s'.heap->s'.heap.PlainList D J->Reps w W' rs J.toList->¬W'.has D->s.heap.get? D=none->¬W'.has L->L≠D->
   ∃Wf f,Stp W s Wf s'/\Fit w h0 Wf H' s'.heap/\Own w Wf s'.heap (.ref D) lv f/\(∀a∈f,a=D/\¬Wf.has a)/\¬Wf.has L:=by
  intro D L W' s' J x' F' pl rr Z O nL ne
  rcases al with rfl|rfl
  ·exact⟨W',[D],x',F',⟨D,J,rfl,rfl,pl,rr⟩,fun a r=>by rw[List.mem_singleton.mp r];exact⟨rfl,Z⟩,nL⟩
  ·refine pl.elim fun k e=>?_
   exact⟨_,[],x'.add Z O,F'.add Z e,⟨⟨D,J,k,rfl,Wd.add_at Z,Reps.mono (Wd.le_add Z) _ rr⟩,rfl⟩,(fun a (h:a∈[])=>nomatch h),fun m=>(Wd.has_add m).elim nL ne⟩
 haveI hb:swapsWith (.ListComp F gs sc d) (some (.Name y py)) pos.line env=pure true\/swapsWith (.ListComp F gs sc d) (some (.Name y py)) pos.line env=pure false:=by
  show pure _=_\/pure _=_
  generalize (env.blockKind==_&&_&&_&&_:Bool)=b
  cases b
  ·exact .inr rfl
  ·exact .inl rfl
 rcases hb with hs|hs
 ·rw[exec_Assign_Name_used _ _ _ _ hs]
  refine wpAny_bind (wpAny_standAt (wpAny_bind ?_))
  show wpAny _ A (do let _<-comprehension (.ListComp F gs sc d) sc env _ (newList []) (firstAsync gs) (firstIter gs env) (some (assign (.Name y py) env))) _ _ s
  rw[r,hg]
  refine wpAny_bind (wpAny_mono (aa (some (assign (.Name y py) env)) (fun _ s'=>hE w h0 s₀ W₀ env nm Pr H' (.nxt (upd ρ i lv)) .next s') _ fun D L W' s' J m x' F' pl rr Z O sL nL ne hm=>?_) (fun _ s' hq=>wpAny_pure (wpAny_pure hq)) fun _ _ e=>e)
  refine s8 (mk x' F' pl rr Z O nL ne) fun Wf f xf Ff ab hf Y=>?_
  refine uU (id hm) fun oL an ao hL dL=>?_
  haveI If:=(I.stp xf Ff).hold (p:=(L,oL)) hL Y (I.foot_ne sL)
  haveI am:∃o,s'.heap.get? D=some o:=pl.elim fun k e=>⟨_,e⟩
  show wpAny _ A (assign (.Name y py) env (.ref D)) _ _ _
  refine wpAny_assign_Name (If.put cx.kind hy ab (NewFp.of_new I xf fun a r=>?_) (fun a r=>?_) (fun p hp ak=>?_) fun aj ah=>?_)
  ·refine xA (hf a r) fun z h2=>?_;obtain rfl:=z
   exact⟨h2,O,am⟩
  ·refine xA (hf a r) fun z h2=>?_;obtain rfl:=z
   exact cB I.st O (I.fit.not_has O)
  ·have af:=(hf _ ak).1
   rcases List.mem_cons.mp hp with rfl|hp
   ·exact ne af
   ·haveI:=(I.pr p hp).1
    rw[af,O]at this;exact nomatch this
  ·refine⟨m,⟨oL,an,ao,(ah.pr _ (.head _)).1,dL⟩,fun h' ac=>⟨rfl,Wf,_,ah.letGo (cB I.st sL (I.fit.not_has sL)) (fun q hq e=>?_) ac⟩⟩
   have:=(I.pr q hq).1
   rw[e,sL]at this;exact nomatch this
 ·refine wpAny_Assign_Name ?_ hs
  rw[eval_ListComp,r,hg]
  refine aa none _ _ fun D L W' s' J m x' F' pl rr Z O sL nL ne hm=>⟨m,hm,fun h' ac=>?_⟩
  refine s8 (mk x' F' pl rr Z O nL ne) fun Wf f xf Ff ab hf Y=>?_
  have kL:∀b o,b≠L->s'.heap.get? b=some o->h'.get? b=some o:=fun b o nb e=>ac.extBut b o nb e
  haveI ad:=(dJ (tk:=s'.toks) I.fit.base xf Ff sL Y kL).1;haveI ai:=(dJ (tk:=s'.toks) I.fit.base xf Ff sL Y kL).2
  refine I.put_new cx.kind hy ad ai (ab.frame (.refl _) fun a r o e=>kL a o (fun q=>ne (q.symm.trans (hf a r).1)) e) (fun a r=>?_) fun aj I'=>⟨rfl,Wf,_,I'⟩
  haveI ag:=hf a r;obtain rfl:=ag.1;haveI h2:=ag.2
  obtain⟨k,e⟩:=pl
  exact⟨h2,O,_,kL _ _ (fun q=>ne q.symm) e⟩
theorem xt{i j:Nat}{it:It}{cs:List X}{e:X}(hit:SI w h0 C n it)(J:∀c∈cs,bH c=true->SB w h0 C n c)(F:SX w h0 C n e):SS w h0 C n (.newComp i j it cs e):=by
 intro st A env nm ρ fp W H s s₀ W₀ Pr fl H' hm O I q
 refine bY hm fun t v aa m1=>?_
 refine aK m1 fun mn m2=>?_
 refine yh m2 fun ac x px g ab sc p2 z=>?_
 refine aT mn fun y py hy hd=>?_
 refine cT z fun z k l r=>?_
 refine e9 z fun a b c d f=>?_
 refine aB q fun ts H1 Z q=>?_
 refine aB q fun rs H2 Y q=>?_
 refine aM q ?_
 exact jL (.inl rfl) O I hy rfl rfl fun use Q L hQ=>nZ hit J F a b (.of c) d f k l r O I.vs I.fit (q7 Z Y) hQ
theorem DY{x:X}(h:zR x=true):(∃j it cs e,x=.comp j it cs e)\/∃j it k,x=.comp2 j it k:=by
 cases x<;>first|exact(aH h).elim|exact .inl ⟨_,_,_,_,rfl⟩|exact .inr ⟨_,_,_,rfl⟩
theorem HU{i:Nat}{x:X}(hx:SX w h0 C n x)(hc:∀j it cs e,x=.comp j it cs e->SI w h0 C n it/\(∀c∈cs,bH c=true->SB w h0 C n c)/\SX w h0 C n e)(ag:∀j it k,x=.comp2 j it k->SI w h0 C n it):SS w h0 C n (.asg i x):=by
 intro st A env nm ρ fp W H s s₀ W₀ Pr fl H' q Z I Y
 refine bY q fun t v ak m1=>?_
 refine aY m1 fun mn L mx=>?_
 refine aB Y fun u H1 F Y=>?_
 refine aM Y ?_
 rcases Bool.or_eq_true_iff.mp L with L|L
 ·exact tq hx L mn mx Z I F
 refine aT mn fun y py hy hd=>?_
 rcases DY L with⟨j,it,cs,e,rfl⟩|⟨j,it,k,rfl⟩
 ·haveI z:=hc _ _ _ _ rfl;haveI hit:=z.1;haveI af:=z.2.1;haveI ae:=z.2.2
  refine yh mx fun an x px g aa sc p2 O=>?_
  refine cT O fun O k l r=>?_
  refine e9 O fun a b c d f=>?_
  refine aB F fun ts H2 e1 F=>?_
  refine aB F fun rs H3 e2 F=>?_
  refine aM F ?_
  exact jL (.inr rfl) Z I hy rfl rfl fun use Q J hQ=>nZ hit af ae a b (.of c) d f k l r Z I.vs I.fit (q7 e1 e2) hQ
 ·refine yK mx fun el gs sc p2 q=>?_
  refine lJ q fun g1 g2 q=>?_
  refine mr q fun x p2 am aa q=>?_
  refine mr q fun y' p3 al ah q=>?_
  refine cT q fun q ij fi fj=>?_
  refine e9 q fun q ok ac ab xy=>?_
  refine e9 q fun q O m4 pg mg=>?_
  refine aK q fun m1 m2=>?_
  refine dy m1 ?_
  refine dy m2 ?_
  refine dM O fun aj p1 m5=>?_
  refine dM m4 fun x' p4 m6=>?_
  refine bO m5 ?_
  refine bO m6 ?_
  refine aB F fun ts ai e1 Y=>?_
  refine bV Y fun e2=>?_
  refine bD e2 fun us e3 e4=>?_
  haveI z:=wl e3;obtain rfl:=z.1;haveI ad:=z.2
  refine jd e4 fun hz=>?_
  exact jL (.inr rfl) Z I hy rfl rfl fun use Q J hQ=>q8 (ag _ _ _ rfl) pg mg (.of ok) ac ab (CW xy) (CW ij) fi fj Z I.vs I.fit e1 ad hz hQ
end
theorem iJ{h:Heap}{a:Addr}{its:Array Value}(x:h.PlainList a its)(f:Array Value->Array Value):(h.update a (Obj.mapSeq f)).PlainList a (f its):=by
 refine xE x fun n e=>?_
 exact⟨_,IsL.update e f⟩
theorem Gq (k:Key) (v:T) (a:Key) (ks:List Key) (w:T) (vs:List T):wv k v (a::ks) (w::vs)=if a=k then v::vs else w::wv k v ks vs:=rfl
theorem u8{w:World}{W:Wd}{k:Key}{t:T}{v:Value}(r:Rep w W t v):∀{kvs:List (Key×Value)}{vs:List T},(kvs.map (·.1)).Nodup->Reps w W vs (kvs.map (·.2))->Reps w W (wv k t (kvs.map (·.1)) vs) ((kvs.map fun d=>if d.1=k then(d.1,v)else d).map (·.2)):=by
 intro m_
 induction m_ with
 |nil=>
  intro F
  cases F with
  |nil=>
   rintro _ _
   exact rfl
  |cons Y O=>
   rintro _ h
   refine m8 h fun _ _ e _=>?_;cases e
 |cons z kvs ih=>
  obtain⟨a,x⟩:=z
  intro F
  cases F with
  |nil=>
   rintro _ h
   cases h
  |cons u vs=>
   rintro Z h
   refine bT h fun v' r' e h1 L=>?_
   cases e
   haveI y:=List.nodup_cons.mp Z;haveI n1:=y.1;haveI n2:=y.2
   rw[List.map_cons,List.map_cons,List.map_cons]
   rw[Gq]
   by_cases q:a=k
   ·rw[<-q]
    simp only[if_pos]
    refine⟨v,_,rfl,r,?_⟩
    haveI:(kvs.map fun d=>if d.1=a then(d.1,v)else d)=kvs:=by
     conv=>rhs;rw[<-List.map_id kvs]
     refine List.map_congr_left fun d J=>?_
     rw[if_neg (fun q=>n1 (List.mem_map.mpr ⟨d,J,q⟩))];rfl
    exact this.symm▸L
   ·simp only[if_neg q]
    exact⟨_,_,rfl,h1,ih n2 L⟩
theorem oq{k:Key}{v:Value}{t:T}{kvs:List (Key×Value)}{vs:List T}:(stored kvs k v).map (·.1)=(dN k t (kvs.map (·.1)) vs).1:=by
 unfold stored dN eO
 rw[List.any_map]
 by_cases h:(kvs.any fun d=>decide (d.1=k))=true
 ·rw[if_pos h,if_pos (by simpa using h),List.map_map]
  refine List.map_congr_left fun d _=>?_
  show(if d.1=k then(d.1,v)else d).1=d.1
  split<;>rfl
 ·rw[if_neg h,if_neg (by simpa using h)];simp
theorem oo{w:World}{W:Wd}{k:Key}{t:T}{v:Value}{kvs:List (Key×Value)}{vs:List T}(r:Rep w W t v)(q:(kvs.map (·.1)).Nodup)(d:Reps w W vs (kvs.map (·.2))):Reps w W (dN k t (kvs.map (·.1)) vs).2 ((stored kvs k v).map (·.2)):=by
 unfold stored dN eO
 rw[List.any_map]
 by_cases h:(kvs.any fun y=>decide (y.1=k))=true
 ·rw[if_pos h,if_pos (by simpa using h)]
  exact u8 r q d
 ·rw[if_neg h,if_neg (by simpa using h)]
  simp only[List.map_append,List.map_cons,List.map_nil]
  exact Reps.append d (Reps.one r)
theorem q0{k:Key}{t:T}{ks:List Key}{vs:List T}(d:gH k=true)(h:ks.all gH=true):(dN k t ks vs).1.all gH=true:=by
 unfold dN
 split
 ·exact h
 ·simp[h,d]
section
variable{w:World}{h0:Heap}{s₀:Shared}{W₀:Wd}{env:Env}{nm:Nm}{ρ:aE}{fp:Nat->List Addr}{W W':Wd}{H H':List T}{Pr:List (Addr×Obj)}{s s':Shared}{A:Around}
theorem SInv.var(I:SInv w h0 s₀ W₀ env nm ρ fp W H Pr s){x:Str}{i:Nat}(hx:nm.lookup x=some i)(d:ρ i≠.unset):∃v,Cur env s.heap x v/\Own w W s.heap v (ρ i) (fp i):=by
 rcases(I.vs.slot x i hx).2 with⟨b,_⟩|h
 ·exact absurd b d
 ·exact h
theorem SInv.var_stp(I:SInv w h0 s₀ W₀ env nm ρ fp W H Pr s){x:Str}{i:Nat}{v:Value}(hx:nm.lookup x=some i)(q:Cur env s.heap x v)(d:Own w W s.heap v (ρ i) (fp i))(st:Stp W s W' s'):
  Cur env s'.heap x v/\Own w W' s'.heap v (ρ i) (fp i):=by
 have k:∀a o,iA env nm fp a->s.heap.get? a=some o->s'.heap.get? a=some o:=fun a o f e=>st.keep a o e fun m=>(I.vs.foot_ok f).1 (.inr m)
 exact⟨q.at' (fun o e=>k _ o (.inl rfl) e) (fun c o l e=>k c o (.inr (.inl ⟨x,l⟩)) e),d.frame st.le fun a r o e=>k a o (.inr (.inr ⟨x,i,hx,r⟩)) e⟩
end
section
variable{w:World}{h0:Heap}{C:Nat->List T->M LV}{n:Nat}
theorem Aq{i:Nat}{x:X}(hx:SX w h0 C n x):SS w h0 C n (.append i x):=by
 intro st A env nm ρ fp W H s s₀ W₀ Pr fl H' hm cx I he
 refine iD hm fun e0 ak m1=>?_
 refine oC m1 fun t ap e am mb hl mp m2=>?_
 refine aK m2 fun mn mx=>?_
 refine aT mn fun y py hy hd=>?_
 refine aB he fun t H1 e1 he=>?_
 refine aN he fun ts er he=>?_
 refine dZ he fun aa he=>?_
 haveI aa:=of_decide_eq_true aa
 haveI hr:=lK er
 haveI al:lim=1000:=rfl
 refine aM he ?_
 refine xEA (I.var hy (hr▸fun h=>nomatch h)) fun v ab Z=>?_
 haveI Y:=Z
 rw[hr]at Y
 obtain⟨a,aj,rfl,hf,p,rs⟩:=Y
 refine wpAny_Expr (wpAny_Call_method rfl (fv (aR mp) (by simp)) hl PySem.F.plainAttrs_list PySem.F.slot_list_append PySem.F.type_list_append (wpAny_Name (Vst.load cx.kind ab ?_) hd)) (cW cx.kind) (aU rfl _ _ _)
 refine⟨p.isList.typeIs,gV p,Calls.callWith_builtin (cY (aR mp)) ?_⟩
 rw[aF mp]
 refine Calls.evalArgs_plain (Calls.spliced_cons (wpAny_mono (hx e A env nm ρ fp W H s t _ mx cx I.vs I.fit e1) (fun u ac af=>?_) fun _ _ z=>z))
 refine Pst.el af fun ah r ai ad=>?_
 refine Calls.spliced_nil ?_
 haveI O:=(I.var_stp hy ab Z r).1;haveI d:=(I.var_stp hy ab Z r).2
 rw[hr]at d
 obtain⟨a',L,e',an,ae,J⟩:=d
 cases e'
 have ag:L.size=ts.length:=by rw[<-J.length];simp
 refine wpAny_list_append_plain (hsz:=by rw[sizeLine_eq];exact tnn (ltn (eln ag) aa) rfl) ae (fun h' p' sb=>?_)
 refine⟨rfl,ah,_,(I.stp r ai).mut (tk:=ac.toks) hy O (fun b o nb e=>sb.extBut b o (fun q=>nb (by rw[hf];simp[q])) e) (lv:=.ol (ts++[t])) (f:=[a]) ⟨a,_,rfl,rfl,p',?_⟩ fun b hb=>⟨?_,.inl (hf▸hb)⟩⟩
 ·rw[Array.toList_push]
  exact Reps.append J (Reps.one ad)
 ·rw[List.mem_singleton.mp hb]
  refine p'.elim fun _ e=>?_
  exact⟨_,e⟩
theorem Ap{i:Nat}{x:X}(hx:SX w h0 C n x):SS w h0 C n (.extend i x):=by
 intro st A env nm ρ fp W H s s₀ W₀ Pr fl H' hm cx I O
 refine iD hm fun e0 an m1=>?_
 refine oC m1 fun t ap e ar mb hl mp m2=>?_
 refine aK m2 fun mn mx=>?_
 refine aT mn fun y py hy hd=>?_
 refine aB O fun t H1 e1 O=>?_
 refine aN O fun us eu O=>?_
 refine aN O fun ts er O=>?_
 refine dZ O fun af O=>?_
 have af:=of_decide_eq_true af
 haveI hr:=lK er
 haveI aq:lim=1000:=rfl
 refine aM O ?_
 rw[eM eu]at e1
 refine xEA (I.var hy (by exact hr▸fun h=>nomatch h)) fun v ai ag=>?_
 haveI ac:=ag
 rw[hr]at ac
 obtain⟨a,ak,rfl,hf,p,rs⟩:=ac
 refine wpAny_Expr (wpAny_Call_method rfl (fv (aR mp) (by simp)) hl PySem.F.plainAttrs_list PySem.F.slot_list_extend PySem.F.type_list_extend (wpAny_Name (Vst.load cx.kind ai ?_) hd)) (cW cx.kind) (aU rfl _ _ _)
 refine⟨p.isList.typeIs,gV p,Calls.callWith_builtin (cY (aR mp)) ?_⟩
 rw[aF mp]
 refine Calls.evalArgs_plain (Calls.spliced_cons (wpAny_mono (hx e A env nm ρ fp W H s _ _ mx cx I.vs I.fit e1) (fun u J ah=>?_) fun _ _ z=>z))
 obtain⟨aj,Z,ae,b,ys,k,rfl,fb,aa⟩:=ah
 refine Calls.spliced_nil ?_
 refine(I.var_stp hy ai ag Z).elim fun Y d=>?_
 rw[hr]at d
 obtain⟨a',r,e',au,ab,L⟩:=d
 cases e'
 haveI al:r.size=ts.length:=by rw[<-L.length];simp
 haveI ao:ys.size=us.length:=by rw[<-aa.length];simp
 haveI am:=sizeLine_eq
 obtain⟨n',ad⟩:=id ab
 refine call_meets PySem.F.slot_list_extend ⟨_,ad,rfl⟩ PySem.F.entry_list_extend (PySem.F.args_list_extend_2 _ _) (PySem.AutoSeq1.list_extend_list_list_0 a r n' b ys k (by simp[Builtin.List.listTooLong];lia) (tkn (trn (trn (eln al) (Nat.le_add_right ..)) af) rfl) (by lia)) ⟨ad,ae.fz _ _ fb,?_⟩
 haveI sb:Heap.SameBut a J.heap (J.heap.update a (Obj.mapSeq fun x=>x++ys)):=Heap.SameBut.update ..
 haveI p':=iJ ab (fun x=>x++ys)
 refine⟨rfl,aj,_,(I.stp Z ae).mut (tk:=J.toks) hy Y (fun b o nb e=>sb.extBut b o (fun q=>nb (by rw[hf];simp[q])) e) (lv:=.ol (ts++us)) (f:=[a]) ⟨a,_,rfl,rfl,p',?_⟩ fun b hb=>⟨?_,.inl (hf▸hb)⟩⟩
 ·exact Array.toList_append.symm▸Reps.append L aa
 ·rw[List.mem_singleton.mp hb]
  refine p'.elim fun _ e=>?_
  exact⟨_,e⟩
theorem xq{i:Nat}:SS w h0 C n (.reverse i):=by
 intro st A env nm ρ fp W H s s₀ W₀ Pr fl H' hm cx I O
 refine iD hm fun e0 aa m1=>?_
 refine t7 m1 fun t ap es ab mb hl m2=>?_
 refine aK m2 fun mn m3=>?_
 refine dy m3 ?_
 refine aT mn fun y py hy hd=>?_
 refine aN O fun ts er O=>?_
 refine dZ O fun J O=>?_
 haveI J:=of_decide_eq_true J
 haveI hr:=lK er
 haveI ac:lim=1000:=rfl
 refine aM O ?_
 refine xEA (I.var hy (hr▸fun h=>nomatch h)) fun v Y Z=>?_
 haveI r:=Z
 rw[hr]at r
 obtain⟨a,d,rfl,hf,p,rs⟩:=r
 refine wpAny_Expr (wpAny_Call_method rfl (fv (es:=[]) rfl (by simp)) hl PySem.F.plainAttrs_list PySem.F.slot_list_reverse PySem.F.type_list_reverse (wpAny_Name (Vst.load cx.kind Y ?_) hd)) (cW cx.kind) (aU rfl _ _ _)
 refine⟨p.isList.typeIs,gV p,Calls.callWith_builtin (cY (es:=[]) rfl) (gZ (es:=[]) rfl (Calls.spliced_nil ?_))⟩
 refine(id p).elim fun n' z=>?_
 haveI L:d.size<=sizeLine:=by haveI:=rs.length;rw[Array.length_toList]at this;rw[sizeLine_eq];exact tkn (trn (eln this) J) rfl
 refine call_meets PySem.F.slot_list_reverse ⟨_,z,rfl⟩ PySem.F.entry_list_reverse (PySem.F.args_list_reverse_1 _) (PySem.AutoSeq1.list_reverse_list_0 a d n' L) ⟨z,?_⟩
 haveI sb:Heap.SameBut a s.heap (s.heap.update a (Obj.mapSeq fun x=>x.reverse)):=Heap.SameBut.update ..
 haveI p':=iJ p (fun x=>x.reverse)
 refine⟨rfl,W,_,I.mut (tk:=s.toks) hy Y (fun b o nb e=>sb.extBut b o (fun q=>nb (by rw[hf];simp[q])) e) (lv:=.ol ts.reverse) (f:=[a]) ⟨a,_,rfl,rfl,p',?_⟩ fun b hb=>⟨?_,.inl (hf▸hb)⟩⟩
 ·exact Array.toList_reverse.symm▸rs.reverse
 ·rw[List.mem_singleton.mp hb]
  refine p'.elim fun _ e=>?_
  exact⟨_,e⟩
theorem Ce{i:Nat}{k x:X}(hk:SX w h0 C n k)(hx:SX w h0 C n x):SS w h0 C n (.store i k x):=by
 intro st A env nm ρ fp W H s s₀ W₀ Pr fl H' hm cx I L
 refine bY hm fun t v ay m1=>?_
 refine aK m1 fun mc m2=>?_
 refine jx m2 fun o ke p2 m3=>?_
 refine cT m3 fun mp mn mk mx=>?_
 refine aT mn fun y py hy hd=>?_
 refine aB L fun t H1 e1 L=>?_
 refine aB L fun tk H2 e2 L=>?_
 refine aN L fun kk e4 L=>?_
 refine aN L fun dd er L=>?_
 refine dZ L fun ac L=>?_
 obtain⟨ks,vs⟩:=dd
 haveI ac:ks.length<lim:=of_decide_eq_true ac
 have hr:ρ i=.od ks vs:=zI er
 haveI ax:lim=1000:=rfl
 haveI L:pur (Fl.nxt (upd ρ i (.od (dN kk t ks vs).1 (dN kk t ks vs).2))) H2=some (fl,H'):=L
 refine aM L ?_
 haveI hu:ρ i≠.unset:=hr▸fun h=>nomatch h
 refine wpAny_Assign_Subscript (wpAny_mono (hx v A env nm ρ fp W H s t H1 mx cx I.vs I.fit e1) (fun u ag al=>?_) fun _ _ z=>z) (aU mc _ _ _)
 refine Pst.el al fun ap ae aa ai=>?_
 have r:=I.stp ae aa
 refine xEA (r.var hy hu) fun v ad ab=>?_
 haveI Z:=ab
 rw[hr]at Z
 obtain⟨a,az,rfl,hf,ms,d,a0,rs,zs⟩:=Z
 refine wpAny_Name (Vst.load cx.kind ad ?_) hd
 refine wpAny_mono (hk ke A env nm ρ fp ap H1 ag tk _ mk cx r.vs aa e2) (fun kv af ak=>?_) fun _ _ z=>z
 refine Pst.el ak fun ao F aq ah=>?_
 haveI Y:=(r.var_stp hy ad ab F).1;haveI J:=(r.var_stp hy ad ab F).2
 rw[hr]at J
 obtain⟨a',aj,e',am,av,d',O,au,ar⟩:=J
 cases e'
 obtain⟨ki,kz⟩:=fR e4 ah
 haveI aw:aj.length=ks.length:=by rw[<-O,List.length_map]
 refine wpAny_setItem_pairs (knd:=aJ pw w) ki d' (fun h' an sb=>?_) (by rw[sizeLine_eq];exact tnn (ltn (eln aw) ac) rfl)
 refine fk (id d') fun _ _ _ _ _ _ _ _ nd=>?_
 refine⟨rfl,ao,_,(r.stp F aq).mut (tk:=af.toks+1) hy Y (fun b o nb e=>sb.extBut b o (fun q=>nb (by rw[am];simp[q])) e) (lv:=.od (dN kk t ks vs).1 (dN kk t ks vs).2) (f:=[a]) ⟨a,_,rfl,rfl,av,an,?_,?_,q0 kz ar⟩ fun b hb=>⟨?_,.inl (am▸hb)⟩⟩
 ·exact O▸oq
 ·exact O▸oo (Rep.mono F.le _ ai) nd au
 ·rw[List.mem_singleton.mp hb]
  refine uU an fun o _ _ e _=>?_
  exact⟨o,e⟩
theorem je{l:Addr}{items:Array Value}{k:Int}{t:Tok}{v:Value}{A:Around}{s:Shared}{E:Value->Shared->Prop}{Q:Unit->Shared->Prop}(p:s.heap.PlainList l items)(y:0<=k)(d:k<2^63)(Z:k<items.size)
  (L:∀h',h'.PlainList l (items.setIfInBounds k.toNat v)->Heap.SameBut l s.heap h'->Q () {s with heap:=h'}):wpAny (model pw w) A (setItem (.ref l) (.int k t) v) Q E s:=by
 haveI F:=p.isList
 unfold setItem
 try with_reducible refine wpAny_holding ?_
 first|refine wpAny_bind (wpAny_pure ?_)|skip
 refine wpAny_bind (wpAny_sequenceKey F.typeIs (by decide) ?_)
 refine wpAny_bind (wpAny_callSpecial?_slot (name:=Str.ofString "__setitem__") F.typeIs slot_list_setitem
  (wpAny_call_entry slot_list_setitem F.typeIs entry_list_setitem ?_ (args_list_setitem _ _ _)))
 show wpAny _ _ (Builtin.List.listSubscript? (.int k t)>>=_) _ _ s
 refine wpAny_bind (wpAny_listSubscript_int (fitsIndex_of y d) ?_)
 clear d
 obtain⟨j,rfl⟩:=Int.eq_ofNat_of_zero_le y
 haveI O:j<items.size:=by lia
 haveI z:items[j]? =some items[j]:=Array.getElem?_eq_getElem O
 obtain⟨Y,J⟩:=id p
 show wpAny _ _ ((seqItemAt l j>>=fun r=>pure (r.map (j,·)))>>=_) _ _ s
 refine wpAny_bind (wpAny_bind (wpAny_seqItemAt J rfl (wpAny_pure ?_)))
 rw[z]
 show wpAny _ _ (setSeqItemAt l j v>>=_) _ _ s
 haveI q:=iJ p (·.setIfInBounds j v)
 refine wpAny_bind (wpAny_setSeqItemAt J rfl ?_)
 first
  |exact wpAny_bind (wpAny_pure (wpAny_pure ⟨.none,rfl,wpAny_pure (L _ q (Heap.SameBut.update ..))⟩))
  |exact wpAny_pure ⟨.none,rfl,wpAny_pure (L _ q (Heap.SameBut.update ..))⟩
theorem Reps.set{W:Wd}{t:T}{v:Value}(r:Rep w W t v):∀{ts:List T}{vs:List Value}(j:Nat),Reps w W ts vs->Reps w W (ts.set j t) (vs.set j v):=by
 intro F
 induction F with
 |nil=>
  rintro _ _ h
  subst h;rfl
 |cons u ts J=>
  intro q z
  cases z with
  |zero=>
   rintro h
   refine bT h fun a b d x y=>?_;obtain rfl:=d;exact⟨v,b,rfl,r,y⟩
  |succ j=>
   rintro h
   refine bT h fun a b d x y=>?_;obtain rfl:=d;exact⟨a,_,rfl,x,J j y⟩
theorem xw{i:Nat}{k x:X}(hk:SX w h0 C n k)(hx:SX w h0 C n x):SS w h0 C n (.augItem i k x):=by
 intro st A env nm ρ fp W H s s₀ W₀ Pr fl H' hm cx I Y
 refine w4 hm fun t p v a1 m1=>?_
 refine aK m1 fun mo m2=>?_
 refine bO mo ?_
 refine jx m2 fun o ke p2 m3=>?_
 refine cT m3 fun mp mn mk mx=>?_
 refine aT mn fun y py hy hd=>?_
 refine aB Y fun tk H1 e1 Y=>?_
 refine aB Y fun tx H2 e2 Y=>?_
 refine aN Y fun xz ex Y=>?_
 refine aN Y fun ts er Y=>?_
 refine aN Y fun j hj Y=>?_
 refine aN Y fun a ea Y=>?_
 refine aM Y ?_
 refine bD ea fun tg hg ea=>?_
 obtain rfl:=dA ea
 rw[dA ex]at e2
 haveI hr:=lK er
 haveI az:=xP hj
 clear hj
 obtain⟨rfl,au⟩:=az
 haveI hu:ρ i≠.unset:=hr.symm▸fun h=>nomatch h
 obtain⟨v',ak,aj⟩:=I.var hy hu
 haveI af:=aj
 rw[hr]at af
 obtain⟨l,ax,rfl,hf,p,rs⟩:=af
 refine wpAny_AugAssign_Subscript_any (wpAny_Name (Vst.load cx.kind ak ?_) hd) (by cases ke<;>first|(exact(aH mp).elim)|(intro _ _ _;rfl))
 refine wpAny_mono (hk ke A env nm ρ fp W H s _ H1 mk cx I.vs I.fit e1) (fun kv am aq=>?_) fun _ _ z=>z
 obtain⟨av,aa,ah,t1,rfl⟩:=aq
 haveI J:=(I.var_stp hy ak aj aa).1;haveI d:=(I.var_stp hy ak aj aa).2
 haveI r:=d
 rw[hr]at r
 obtain⟨l',al,e',a0,ao,ai⟩:=r
 cases e'
 refine xEA (ai.get hg) fun u ar ru=>?_
 obtain⟨tu,rfl⟩:=ru
 rw[Array.getElem?_toList]at ar
 refine wpAny_getItem_list ao.isList (Int.natCast_nonneg _) (f6 (Int.ofNat_lt.mpr au) (of_decide_eq_true rfl)) (ar) ?_
 haveI L:=I.stp aa ah
 refine wpAny_mono (hx v A env nm ρ fp av H1 am _ _ mx cx L.vs ah e2) (fun xv ab ap=>?_) fun _ _ z=>z
 obtain⟨ag,Z,aw,t2,rfl⟩:=ap
 haveI ae:=(L.var_stp hy J d Z).1;haveI F:=(L.var_stp hy J d Z).2
 rw[hr]at F
 obtain⟨l',O,e',ad,an,ac⟩:=F
 cases e'
 refine iadd_int ?_
 haveI ay:j<O.size:=by
  haveI:=(List.getElem?_eq_some_iff.mp hg).1
  haveI e:=ac.length
  rw[Array.length_toList]at e
  exact tln this (ern e)
 refine je (s:={ab with toks:=ab.toks+1}) an (Int.natCast_nonneg _) (f6 (Int.ofNat_lt.mpr au) (of_decide_eq_true rfl)) (Int.ofNat_lt.mpr (ay)) fun h' p' sb=>?_
 refine⟨rfl,ag,_,(L.stp Z aw).mut (tk:=ab.toks+1) hy ae (fun b o nb e=>sb.extBut b o (fun q=>nb (by rw[ad];simp[q])) e) (lv:=.ol (ts.set j (.int (a+xz)))) (f:=[l]) ⟨l,_,rfl,rfl,p',?_⟩ fun b hb=>⟨?_,.inl (ad▸hb)⟩⟩
 ·rw[Array.toList_setIfInBounds]
  exact Reps.set (t:=.int (a+xz)) (show Rep w ag (.int (a+xz)) _ from⟨_,rfl⟩) _ ac
 ·rw[List.mem_singleton.mp hb]
  refine p'.elim fun _ e=>?_
  exact⟨_,e⟩
end
section
variable{w:World}{A:Around}{E:Value->Shared->Prop}{s:Shared}
theorem iu {d : Addr} {kvs : List (Key × Value)} {k : Key} {y dflt : Value} {Q : Value -> Shared -> Prop} (q : (aJ pw w).is k y = true) (hm : s.heap.DictOf (aJ pw w) d kvs) (hd : (d == sysModules) = false) (hsz : kvs.length <= 1000)
  (J : ∀ v, valueAt kvs k = some v -> Q v { s with toks := s.toks + 1 })
  (ac : valueAt kvs k = none -> ∀ h', h'.DictOf (aJ pw w) d (kvs ++ [(k, dflt)]) -> Heap.SameBut d s.heap h' -> Q dflt { s with heap := h', toks := s.toks + 1 }) :
  wpAny (model pw w) A (call (.builtin "dict.setdefault") [.ref d, y, dflt]) Q E s := by
 refine call_meetsIn (S := fun _ R H => H = s /\ (∀ v, valueAt kvs k = some v -> R (.ok (.ret v)) { s with toks := s.toks + 1 }) /\ (valueAt kvs k = none -> ∀ h', h'.DictOf (aJ pw w) d (kvs ++ [(k, dflt)]) -> Heap.SameBut d s.heap h' -> R (.ok (.ret dflt)) { s with heap := h', toks := s.toks + 1 }))
  PySem.F.slot_dict_setdefault hm.typeIs PySem.F.entry_dict_setdefault (PySem.F.args_dict_setdefault_3 _ _ _) (MeetsIn.of_wp fun A R H h_ => h_.elim fun e h_ => h_.elim fun h1 h2 => ?_) ⟨rfl, J, ac⟩
 subst e
 unfold Builtin.«dict.setdefault»
 refine wpAny_bind ?_
 unfold Builtin.Dict.keyAndDefault
 refine wpAny_bind (wpAny_notOrdered_dict hm.typeIs ?_)
 show wpAny _ _ (pure (d, y, some dflt)) _ _ H
 refine wpAny_pure ?_
 show wpAny _ _ (if (d == sysModules) = true then _ else (dictSetDefault d y dflt >>= _)) _ _ H
 rw [if_neg (hd.symm ▸ Bool.false_ne_true)]
 refine wpAny_bind ?_
 cases hv : valueAt kvs k with
 | some v =>
  refine wpAny_dictSetDefault_of (hz := fun o z ep O ab => ?_) q hm.mapOf (fun v' ad => wpAny_pure ⟨v', rfl, h1 v' ad⟩) fun Z => by rw [hv] at Z; exact absurd Z nofun
  refine fk hm fun o ag ep W hc r hk L Z => ?_
  rw [W] at O; obtain rfl := Option.some.inj O
  rw [r] at ab; cases ab
  haveI e1 := L.length
  rw [Array.length_toList] at e1
  rw [sizeLine_eq]; exact tkn (trn (eln e1) hsz) rfl
 | none =>
  refine fk (id hm) fun o z ep W hc r hk L Z => ?_
  have ae : z.size <= sizeLine := by
   haveI e1 := L.length
   haveI e2 : z.toList.length = z.size := by simp
   rw [sizeLine_eq]; exact tkn (trn (trn (ern e2) (eln e1)) hsz) rfl
  unfold dictSetDefault
  try with_reducible refine wpAny_holding ?_
  refine wpAny_bind ((aJ pw w).pyHash q ?_)
  refine wpAny_bind (wpAny_dictFind_of (s := { H with toks := H.toks + 1 }) q W r hk ?_)
  have aa : (z.findIdx? fun e => (aJ pw w).is k e.key) = kvs.findIdx? fun kv => decide (kv.1 = k) := by
   rw [<- L.findIdx k]; obtain ⟨l⟩ := z; simp
  cases hi : z.findIdx? fun e => (aJ pw w).is k e.key with
  | some i =>
   refine xE (L.at (k := k) (i := i) (by rw [<- hi]; obtain ⟨l⟩ := z; simp)) fun e af => ?_; haveI h3 := af.2.2
   rw [hv] at h3; exact (nos h3).elim
  | none =>
   have Y : k ∉ kvs.map (·.1) := not_mem_of_findIdx_none (aa ▸ hi)
   refine wpAny_bind (wpAny_rule (wpAny_bind (wpAny_updateDictKeys (hz := ae) (s := { H with toks := H.toks + 1 }) W r (wpAny_pure (wpAny_pure ⟨dflt, rfl, h2 hv _ ⟨_, _, ep + 1, Heap.get?_update_self _ W (Obj.isFreed_of_dict (Obj.data_mapDictKeys r _)),
    hc.mapDictKeys _, Obj.data_mapDictKeys r _, hk.push q _, ?_, ?_⟩ (Heap.SameBut.update ..)⟩)))))
   ·haveI := L.append q ((aJ pw w).hash k) dflt
    obtain ⟨l⟩ := z
    simpa using this
   ·rw [List.map_append, List.nodup_append]
    refine ⟨Z, by simp, ?_⟩
    intro a ha b hb
    simp only [List.map_cons, List.map_nil, List.mem_singleton] at hb
    rw [hb]
    exact fun e => Y (e ▸ ha)
end
theorem C9 (k:Key) (v:T) (a:Key) (ks:List Key) (w:List T) (vs:List (List T)):vV k v (a::ks) (w::vs)=if a=k then(w++[v])::vs else w::vV k v ks vs:=rfl
theorem AH{w:World}{W:Wd}{h:Heap}{k:Key}{t:T}:∀{kvs:List (Key×Value)}{ls:List Addr}{d:List (List T)},kvs.map (·.2)=ls.map Value.ref->Lists w W h ls d->(kvs.map (·.1)).Nodup->ls.Nodup->eO k (kvs.map (·.1))=true->
  ∃l items ts,valueAt kvs k=some (.ref l)/\l∈ls/\ts∈d/\h.PlainList l items/\Reps w W ts items.toList/\
   ∀h' v,Rep w W t v->h'.PlainList l (items.push v)->(∀b∈ls,b≠l->∀o,h.get? b=some o->h'.get? b=some o)->Lists w W h' ls (vV k t (kvs.map (·.1)) d):=by
 intro kvs
 induction kvs with
 |nil=>intro ls d _ _ _ _ z;exact(aH z).elim
 |cons ax kvs ih=>
  intro ls
  cases ls with
  |nil=>intro d e;cases e
  |cons l ls=>
  intro d e L nk nl z
  refine Lists.el L fun items ts d p r L=>?_
  haveI F:=List.cons.inj e;haveI e4:=F.1;haveI e5:=F.2
  haveI n1:=(List.nodup_cons.mp nk).1;haveI n2:=(List.nodup_cons.mp nk).2
  haveI m1:=(List.nodup_cons.mp nl).1;haveI m2:=(List.nodup_cons.mp nl).2
  by_cases q:ax.1=k
  ·refine⟨l,items,ts,?_,.head _,.head _,p,r,fun h' v O Y fr=>?_⟩
   ·unfold valueAt;rw[List.find?_cons,decide_eq_true q];exact congrArg some e4
   ·rw[List.map_cons,C9,if_pos q]
    refine⟨⟨_,Y,?_⟩,L.frame (.refl W) fun b H=>fr b (.tail _ H) fun q=>m1 (q▸H)⟩
    rw[Array.toList_push]
    exact Reps.append r (Reps.one O)
  ·haveI Z:eO k (kvs.map (·.1))=true:=by
    unfold eO at z⊢
    rw[List.map_cons,List.any_cons,decide_eq_false q,Bool.false_or]at z
    exact z
   refine fk (ih e5 L n2 m2 Z) fun l' y J h1 h2 h3 h4 h5 h6=>?_
   refine⟨l',y,J,?_,.tail _ h2,.tail _ h3,h4,h5,fun h' v O Y fr=>?_⟩
   ·unfold valueAt at h1⊢
    rw[List.find?_cons,decide_eq_false q];exact h1
   ·rw[List.map_cons,C9,if_neg q]
    exact⟨⟨items,p.at fun o e=>fr l (.head _) (fun q=>m1 (q▸h2)) o e,r⟩,h6 h' v O Y fun b H=>fr b (.tail _ H)⟩
theorem Lists.snoc{w:World}{W:Wd}{h:Heap}{l:Addr}{items:Array Value}{ts:List T}(p:h.PlainList l items)(r:Reps w W ts items.toList):∀{q:List Addr}{d:List (List T)},Lists w W h q d->Lists w W h (q++[l]) (d++[ts]):=by
 intro q
 induction q with
 |nil=>intro d x;exact Lists.el0 x ⟨⟨items,p,r⟩,trivial⟩
 |cons l q y=>intro d x;exact Lists.el x fun i t v a b c=>⟨⟨i,a,b⟩,y c⟩
theorem Lists.alive{w:World}{W:Wd}{h:Heap}:∀{q:List Addr}{d:List (List T)},Lists w W h q d->∀a∈q,∃o,h.get? a=some o:=by
 intro q
 induction q with
 |nil=>intro _ _ _ y;exact(List.not_mem_nil y).elim
 |cons l q F=>
  intro d x a y
  refine Lists.el x fun z H d p r x=>?_
  rcases List.mem_cons.mp y with rfl|y
  ·exact p.elim fun k e=>⟨_,e⟩
  ·exact F x a y
@[elab_as_elim]
theorem vw{i:Nat}{v:X}{P:X->Prop}(h:qg i v=true)(H:∀j,P (.var j)):P v:=by
 unfold qg at h
 cases q:lq v with
 |none=>rw[q]at h;exact(aH h).elim
 |some j=>rw[uX q];exact H j
section
variable{w:World}{h0:Heap}{C:Nat->List T->M LV}{n:Nat}
theorem Cg{i:Nat}{k x:X}(hk:SX w h0 C n k):SS w h0 C n (.sdApp i k x):=by
 intro st A ax nm ρ fp W H s bl bq Pr fl H' hm cx I he
 refine iD hm fun e0 bo m1=>?_
 refine oC m1 fun o ap e' br mb hl bt m2=>?_
 refine C3 m2 fun o2 b0 e le bm bu bj mp bs m3=>?_
 refine e9 m3 fun mn bd mk mx ml=>?_
 refine qY ml fun bv lp bi=>?_
 refine dy bi ?_
 refine aT mn fun y py hy hd=>?_
 revert mx he
 refine vw bd fun j=>?_
 intro he mx
 refine aT (show bL nm j e'=true from mx) fun z pz hz a6=>?_
 refine aB he fun tk H1 e1 he=>?_
 refine aN he fun kk e4 he=>?_
 refine aB he fun t H2 e3 he=>?_
 refine aN he fun dd er he=>?_
 refine dZ he fun ah he=>?_
 obtain⟨ks,J⟩:=dd
 haveI hr:ρ i=.odl ks J:=CR er
 haveI he:pur (Fl.nxt (upd ρ i (.odl (gG kk t ks J).1 (gG kk t ks J).2))) H2=some (fl,H'):=he
 refine aM he ?_
 refine qk fun Q hQ=>?_
 haveI hq:H2=H1/\ρ j=.fr t:=bV (P:=fun H2=>H2=H1/\ρ j=.fr t) e3 fun e=>⟨rfl,jU e⟩
 obtain⟨rfl,a8⟩:=hq
 have ah:decide (ks.length<lim)=true/\J.all (fun l=>decide (l.length<lim))=true:=aK ah fun a b=>⟨a,b⟩
 rw[decide_eq_true_eq]at ah
 haveI bp:lim=1000:=rfl
 haveI hu:ρ i≠.unset:=by rw[hr];exact fun h=>nomatch h
 haveI bg:ρ j≠.unset:=by rw[a8];exact fun h=>nomatch h
 refine xEA (I.var hy hu) fun v a9 a1=>?_
 have aq:=a1
 rw[hr]at aq
 obtain⟨a,ls,bf,rfl,hf,ms,d,bx,bw,L,nd,zs⟩:=aq
 refine wpAny_Expr (wpAny_Call_method rfl (fv (aR rfl) (by simp)) hl PySem.F.plainAttrs_list PySem.F.slot_list_append PySem.F.type_list_append
  (wpAny_Call_method rfl (fv (dR mp rfl) (by simp)) bj PySem.F.plainAttrs_dict PySem.F.slot_dict_setdefault PySem.F.type_dict_setdefault (wpAny_Name (Vst.load cx.kind a9 ?_) hd))) (cW cx.kind) (aU rfl _ _ _)
 refine⟨d.typeIs,pL d,Calls.callWith_builtin (cY (dR mp rfl)) ?_⟩
 rw[aF mp,aF (show aV (.List [] lp)=true from rfl)]
 refine Calls.evalArgs_plain (Calls.spliced_cons (wpAny_mono (hk e A ax nm ρ fp W H s tk _ mk cx I.vs I.fit e1) (fun kv r a5=>?_) fun _ _ z=>z))
 refine Pst.el a5 fun ak an bb ao=>?_
 refine Calls.spliced_cons (List_ (Calls.spliced_nil (wpAny_newList ?_ (by rw[sizeLine_eq];simp))))
 refine Calls.spliced_nil ?_
 have ae:=I.stp an bb
 obtain⟨ad,ab⟩:=I.var_stp hy a9 a1 an
 rw[hr]at ab
 obtain⟨a',al,aa,e',aj,au,d',Y,ai,L',a4,az⟩:=ab
 cases e'
 haveI ki:=(fR e4 ao).1;haveI kz:=(fR e4 ao).2
 refine xEA (ae.var hz bg) fun vz ar af=>?_
 rw[a8]at af
 haveI rz:=af.1;haveI bz:=af.2
 have kp:∀b o,r.heap.get? b=some o->(r.heap.push (seqObj "list" [].toArray 0)).get? b=some o:=fun b o e=>Heap.get?_push_of_some _ e
 have d2:=g8 d' fun o e=>kp _ o e
 haveI av:aa.length=ks.length:=by rw[<-Y,List.length_map]
 refine fk (id d') fun _ _ _ _ _ _ _ _ bc=>?_
 refine xA (List.nodup_cons.mp a4) fun na a2=>?_
 haveI L2:(r.heap.push (seqObj "list" [].toArray 0)).PlainList r.heap.objs.size #[]:=⟨0,Heap.get?_push_size _ rfl⟩
 haveI am:r.heap.get? r.heap.objs.size=none:=aX
 have aO:∃o,r.heap.get? a=some o:=uw d'
 have ay:a≠r.heap.objs.size:=fun q=>by refine aO.elim fun o e=>?_;rw[q,am]at e;exact nomatch e
 have a3:a≠ax.locals/\∀y c,ax.cells.lookup y=some c->a≠c:=(ae.vs.fpW y i a hy (aj.symm▸ .head _)).2.2
 refine iu ki d2 au (tnn (ltn (eln av) ah.1) rfl) (fun v hv=>?_) (fun hv h' d3 sb=>?_)
 ·--the key is there
  have ac:eO kk (aa.map (·.1))=true:=by rw[<-f0,hv];rfl
  refine fk (AH (t:=t) ai L' bc a2 ac) fun l ag ts h1 h2 h3 h4 h5 h6=>?_
  rw[hv]at h1;obtain rfl:=Option.some.inj h1
  have a7:ag.size=ts.length:=by rw[<-h5.length];simp
  haveI bh:=of_decide_eq_true (List.all_eq_true.mp ah.2 ts h3)
  haveI O:(r.heap.push (seqObj "list" [].toArray 0)).PlainList l ag:=h4.at fun o e=>kp _ o e
  refine⟨O.isList.typeIs,gV O,Calls.callWith_builtin (cY (aR rfl)) ?_⟩
  rw[aF (show aV (.Name z pz)=true from rfl)]
  refine Calls.evalArgs_plain (Calls.spliced_cons (wpAny_Name (Vst.load cx.kind (ar.at' (fun o e=>kp _ o e) fun c o _ e=>kp _ o e) (Calls.spliced_nil ?_)) a6))
  refine wpAny_list_append_plain (hsz:=by rw[sizeLine_eq];exact tnn (ltn (eln a7) bh) rfl) O (fun h' p' sb=>?_)
  haveI be:l∈fp i:=aj.symm▸ .tail _ h2
  have kb:∀b o,b≠l->r.heap.get? b=some o->h'.get? b=some o:=fun b o nb e=>sb.extBut b o nb (kp b o e)
  refine(hQ _ ak _ (ae.mut (tk:=r.toks+1) hy ad (fun b o nb e=>kb b o (fun q=>nb (q▸be)) e) (lv:=.odl (gG kk t ks J).1 (gG kk t ks J).2) (f:=a::al) ?_ fun b Z=>⟨?_,.inl (aj▸Z)⟩))
  ·haveI aw:eO kk ks=true:=Y▸ac
   haveI e5:gG kk t ks J=(ks,vV kk t ks J):=by unfold gG;rw[if_pos aw]
   rw[e5]
   refine⟨a,al,aa,rfl,rfl,au,g8 d' fun o e=>kb a o (fun q=>na (q▸h2)) e,Y,ai,?_,a4,az⟩
   haveI:=h6 h' vz rz p' fun b Z nb o e=>kb b o nb e
   rw[Y]at this;exact this
  ·rcases List.mem_cons.mp Z with rfl|Z
   ·obtain⟨o,e⟩:=aO
    exact⟨o,kb _ o (fun q=>na (q▸h2)) e⟩
   ·by_cases q:b=l
    ·rw[q];refine xE p' fun _ e=>?_;exact⟨_,e⟩
    ·refine(L'.alive b Z).elim fun o e=>?_
     exact⟨o,kb b o q e⟩
 ·--the key is new
  haveI ac:eO kk (aa.map (·.1))=false:=by
   haveI:=f0 (k:=kk) (kvs:=aa)
   rw[hv]at this;exact this.symm
  have k3:∀b o,b≠a->r.heap.get? b=some o->h'.get? b=some o:=fun b o nb e=>sb.extBut b o nb (kp b o e)
  have O:h'.PlainList r.heap.objs.size #[]:=L2.at fun o e=>sb.extBut _ o ay.symm e
  refine⟨O.isList.typeIs,gV O,Calls.callWith_builtin (cY (aR rfl)) ?_⟩
  rw[aF (show aV (.Name z pz)=true from rfl)]
  refine Calls.evalArgs_plain (Calls.spliced_cons (wpAny_Name (Vst.load cx.kind (ar.at' (fun o e=>k3 _ o a3.1.symm e) fun c o l e=>k3 _ o (a3.2 _ _ l).symm e) (Calls.spliced_nil ?_)) a6))
  refine wpAny_list_append_plain (hsz:=by rw[sizeLine_eq];simp) O (fun bk p' a0=>?_)
  have k4:∀b o,b≠a->r.heap.get? b=some o->bk.get? b=some o:=fun b o nb e=>a0.extBut b o (fun q=>by rw[q,am]at e;exact nomatch e) (k3 b o nb e)
  have ba:a∈fp i:=by exact aj.symm▸ .head _
  have d4:=g8 d3 fun o e=>a0.extBut a o ay e
  refine(hQ _ ak _ (ae.mut (tk:=r.toks+1) hy ad (fun b o nb e=>k4 b o (fun q=>nb (q▸ba)) e) (lv:=.odl (gG kk t ks J).1 (gG kk t ks J).2) (f:=a::(al++[r.heap.objs.size])) ?_ fun b Z=>?_))
  ·haveI aw:eO kk ks=false:=Y▸ac
   haveI e5:gG kk t ks J=(ks++[kk],J++[[t]]):=by unfold gG;rw[if_neg (by exact aw▸Bool.false_ne_true)]
   rw[e5]
   refine⟨a,al++[r.heap.objs.size],_,rfl,rfl,au,d4,by simp[Y],by simp[ai],Lists.snoc (ts:=[t]) p' ⟨vz,[],rfl,rz,rfl⟩ (L'.frame (.refl ak) fun b Z o e=>k4 b o (fun q=>na (q▸Z)) e),?_,by simp[az,kz]⟩
   rw[List.nodup_cons,List.nodup_append]
   refine⟨fun hm=>?_,a2,by simp,fun b Z c hc q=>?_⟩
   ·rcases List.mem_append.mp hm with hm|hm
    ·exact na hm
    ·exact ay (List.mem_singleton.mp hm)
   ·rw[List.mem_singleton.mp hc]at q
    refine(L'.alive b Z).elim fun o e=>?_
    rw[q,am]at e;exact absurd e nofun
  ·rcases List.mem_cons.mp Z with rfl|Z
   ·exact⟨uw d4,.inl ba⟩
   ·rcases List.mem_append.mp Z with Z|Z
    ·refine xE (L'.alive b Z) fun o e=>?_
     exact⟨⟨o,k4 b o (fun q=>na (q▸Z)) e⟩,.inl (aj.symm▸ .tail _ Z)⟩
    ·rw[List.mem_singleton.mp Z]
     exact⟨p'.elim fun _ e=>⟨_,e⟩,.inr am⟩
theorem Ci{i j:Nat}{k x:X}(hk:SX w h0 C n k)(hx:SX w h0 C n x):SS w h0 C n (.appSd i j k x):=by
 intro st A a7 nm ρ fp W H s bu bx Pr fl H' hm cx I he
 refine iD hm fun e0 bv m1=>?_
 refine oC m1 fun t ap ec b0 mb hl b1 m2=>?_
 refine C3 m2 fun t' bt e e' bb b2 bs mp a5 m3=>?_
 refine e9 m3 fun mn bl bm mk mx=>?_
 haveI bf:i≠j:=CW bm
 refine aT mn fun y py hy hd=>?_
 refine aT bl fun z pz hz bp=>?_
 refine aB he fun tk H1 e1 he=>?_
 refine aB he fun t H2 e2 he=>?_
 refine aN he fun kk e4 he=>?_
 refine aN he fun ts er he=>?_
 refine aN he fun dd ej he=>?_
 refine dZ he fun am he=>?_
 obtain⟨ks,vs⟩:=dd
 haveI hr:=lK er
 have a6:ρ j=.od ks vs:=zI ej
 haveI he:(match cJ kk ks vs with
   |some u=>pur (.nxt (upd ρ i (.ol (ts++[u]))))
   |.none=>pur (.nxt (upd (upd ρ j (.od (ks++[kk]) (vs++[t]))) i (.ol (ts++[t])))):M Fl) H2=some (fl,H'):=he
 have am:ks.length<lim/\ts.length<lim:=aK am fun a b=>⟨of_decide_eq_true a,of_decide_eq_true b⟩
 haveI bw:lim=1000:=rfl
 haveI hu:ρ i≠.unset:=by rw[hr];exact fun h=>nomatch h
 haveI bq:ρ j≠.unset:=by rw[a6];exact fun h=>nomatch h
 refine xEA (I.var hy hu) fun v a8 a4=>?_
 refine xEA (I.var hz bq) fun vj ao aj=>?_
 haveI az:=a4
 have ai:=aj
 rw[hr]at az
 rw[a6]at ai
 obtain⟨a,bo,rfl,hf,p,rs⟩:=az
 obtain⟨b,b3,rfl,b5,ms,d,b4,bz,zs⟩:=ai
 refine wpAny_Expr (wpAny_Call_method rfl (fv (aR rfl) (by simp)) hl PySem.F.plainAttrs_list PySem.F.slot_list_append PySem.F.type_list_append (wpAny_Name (Vst.load cx.kind a8 ?_) hd)) (cW cx.kind) (aU rfl _ _ _)
 refine⟨p.isList.typeIs,gV p,Calls.callWith_builtin (cY (aR rfl)) ?_⟩
 rw[aF (show aV (.Call (.Attribute (.Name z pz) ("setdefault" :Str) bt) [e,e'] [] bb)=true from rfl)]
 refine Calls.evalArgs_plain (Calls.spliced_cons (wpAny_Call_method rfl (fv (dR mp a5) (by simp)) bs PySem.F.plainAttrs_dict PySem.F.slot_dict_setdefault PySem.F.type_dict_setdefault (wpAny_Name (Vst.load cx.kind ao ?_) bp)))
 refine⟨d.typeIs,pL d,Calls.callWith_builtin (cY (dR mp a5)) ?_⟩
 rw[aF mp,aF a5]
 refine Calls.evalArgs_plain (Calls.spliced_cons (wpAny_mono (hk e A a7 nm ρ fp W H s tk _ mk cx I.vs I.fit e1) (fun kv a9 be=>?_) fun _ _ z=>z))
 refine Pst.el be fun bh aa a2 ax=>?_
 haveI a1:=I.stp aa a2
 refine Calls.spliced_cons (wpAny_mono (hx e' A a7 nm ρ fp bh H1 a9 t _ mx cx a1.vs a2 e2) (fun xv r bd=>?_) fun _ _ z=>z)
 refine Pst.el bd fun a0 J bj aw=>?_
 refine Calls.spliced_nil ?_
 have ah:=a1.stp J bj
 haveI ki:=(fR e4 (Rep.mono J.le _ ax)).1;haveI kz:=(fR e4 (Rep.mono J.le _ ax)).2
 haveI ag:=(I.var_stp hy a8 a4 (aa.trans J)).1;haveI af:=(I.var_stp hy a8 a4 (aa.trans J)).2
 haveI an:=(I.var_stp hz ao aj (aa.trans J)).1;haveI ac:=(I.var_stp hz ao aj (aa.trans J)).2
 rw[hr]at af
 rw[a6]at ac
 obtain⟨a',L,q,Y,ay,ad⟩:=af
 cases q
 obtain⟨b',aq,q,Z,ak,bg,O,ae,a3⟩:=ac
 cases q
 have ar:L.size=ts.length:=by rw[<-ad.length];simp
 haveI br:aq.length=ks.length:=by rw[<-O,List.length_map]
 haveI ab:a≠b:=fun q=>bf (ah.vs.fpD y z i j a hy hz (by rw[Y];exact .head _) (by rw[Z,q];exact .head _))
 haveI al:=f4 (k:=kk) ae
 rw[O]at al
 refine iu ki bg ak (tnn (ltn (eln br) am.1) rfl) (fun u hv=>?_) (fun hv h' d3 sb=>?_)
 ·rcases al with⟨q,_⟩|⟨u',t',q1,q2,q3⟩
  ·rw[hv]at q;exact nomatch q
  rw[hv]at q1;obtain rfl:=Option.some.inj q1
  rw[q2]at he
  refine aM he ?_
  refine Calls.spliced_nil (wpAny_list_append_plain (s:={r with toks:=r.toks+1}) (hsz:=by rw[sizeLine_eq];exact tnn (ltn (eln ar) am.2) rfl) ay (fun h' p' sb=>?_))
  refine⟨rfl,a0,_,ah.mut (tk:=r.toks+1) hy ag (fun c o nb e=>sb.extBut c o (fun q=>nb (by rw[Y];simp[q])) e) (lv:=.ol (ts++[t'])) (f:=[a]) ⟨a,_,rfl,rfl,p',?_⟩ fun c hc=>⟨?_,.inl (Y▸hc)⟩⟩
  ·rw[Array.toList_push]
   exact Reps.append ad (Reps.one q3)
  ·rw[List.mem_singleton.mp hc]
   refine p'.elim fun _ e=>?_
   exact⟨_,e⟩
 ·haveI q:cJ kk ks vs=none:=by
   rcases al with⟨_,q⟩|⟨u',t',q1,_⟩
   ·exact q
   ·rw[hv]at q1;cases q1
  rw[q]at he
  refine aM he ?_
  have bin:b∈fp j:=by exact Z▸ .head _
  have kb:∀c o,c∉fp j->r.heap.get? c=some o->h'.get? c=some o:=fun c o nb e=>sb.extBut c o (fun q=>nb (q▸bin)) e
  haveI bi:=ah.mut (tk:=r.toks+1) hz an kb (lv:=.od (ks++[kk]) (vs++[t])) (f:=[b]) ⟨b,_,rfl,rfl,ak,d3,by simp[O],by
    rw[List.map_append];exact Reps.append ae (Reps.one aw),by simp[a3,kz]⟩ fun c hc=>⟨by rw[List.mem_singleton.mp hc];refine uU d3 fun o _ _ e _=>?_;exact⟨o,e⟩,.inl (Z▸hc)⟩
  have bc:=fun c (hc:c∈fp j)=>(ah.vs.fpW z j c hz hc).2.2
  have au:Cur a7 h' y (.ref a):=ag.at' (fun o e=>kb _ o (fun hm=>(bc _ hm).1 rfl) e) fun c o hc e=>kb c o (fun hm=>(bc _ hm).2 _ _ hc rfl) e
  have ba:h'.PlainList a L:=ay.at fun o e=>sb.extBut a o ab e
  have fi:cK fp j [b] i=[a]:=by rw[show cK fp j [b] i=fp i from if_neg bf,Y]
  refine Calls.spliced_nil (wpAny_list_append_plain (s:={r with heap:=h',toks:=r.toks+1}) (hsz:=by rw[sizeLine_eq];exact tnn (ltn (eln ar) am.2) rfl) ba (fun b6 p' bk=>?_))
  refine⟨rfl,a0,_,bi.mut (tk:=r.toks+1) hy au (fun c o nb e=>bk.extBut c o (fun q=>nb (by rw[fi];simp[q])) e) (lv:=.ol (ts++[t])) (f:=[a]) ⟨a,_,rfl,rfl,p',?_⟩ fun c hc=>⟨?_,.inl (by exact fi▸hc)⟩⟩
  ·rw[Array.toList_push]
   exact Reps.append ad (Reps.one aw)
  ·rw[List.mem_singleton.mp hc]
   refine p'.elim fun _ e=>?_
   exact⟨_,e⟩
end
theorem AD(w:World){J H F t4 z t:Tok}{y r L q d v:Value}{n:Nat}:Obj.putName "attrs" (PyData.keyHash w.params "attrs") (.str "attrs" t) v (dO [ent w "kind" J y,ent w "items" H r,ent w "attrs" F L,ent w "shared" t4 q,ent w "loose" z d] n)=
  dO [ent w "kind" J y,ent w "items" H r,ent w "attrs" F v,ent w "shared" t4 q,ent w "loose" z d] n:=by kernel_rfl
theorem xH(w:World){J H F t4 z t:Tok}{y r q L d v:Value}{n:Nat}:Obj.putName "shared" (PyData.keyHash w.params "shared") (.str "shared" t) v (dO [ent w "kind" J y,ent w "items" H r,ent w "attrs" F q,ent w "shared" t4 L,ent w "loose" z d] n)=
  dO [ent w "kind" J y,ent w "items" H r,ent w "attrs" F q,ent w "shared" t4 v,ent w "loose" z d] n:=by kernel_rfl
theorem yd(w:World){L J H t4 F:Tok}{z y r q d:Value}{n:Nat}:(lookIn "attrs" (dO [ent w "kind" L z,ent w "items" J y,ent w "attrs" H r,ent w "shared" t4 q,ent w "loose" F d] n)).isSome=true:=by kernel_rfl
theorem vT(w:World){L J H t4 F:Tok}{z y r q d:Value}{n:Nat}:(lookIn "shared" (dO [ent w "kind" L z,ent w "items" J y,ent w "attrs" H r,ent w "shared" t4 q,ent w "loose" F d] n)).isSome=true:=by kernel_rfl
theorem Iy(k:Str)(t:Tok):Value.isStrOf k (.str k t)=true:=by simp[Value.isStrOf]
theorem vW{w:World}(k:Str)(t:Tok):(aJ pw w).is (Key.s k) (.str k t)=true:=Iy k t
theorem AK:∀{ks:List Str},iK ks=true->(ks.map Key.s).Nodup:=by
 intro q
 induction q with
 |nil=>
  rintro _
  exact List.nodup_nil
 |cons a r y=>
  rintro h
  refine xA (Bool.and_eq_true_iff.mp (show(!(r.any (· ==a))&&iK r)=true from h)) fun d H=>?_
  rw[List.map_cons,List.nodup_cons]
  refine⟨fun z=>?_,y H⟩
  refine xEA (List.mem_map.mp z) fun b F e=>?_
  cases e
  rw[Bool.not_eq_true',List.any_eq_false]at d
  exact d _ F (by simp)
section
variable{w:World}{h0:Heap}{C:Nat->List T->M LV}{n:Nat}
theorem vZ:∀{ks:List Str}{d:List (Option Expr)},jS ks d=true->d.all (·.isSome)=true/\d.length=ks.length/\(ks.map Key.s).all gH=true:=by
 intro H
 induction H with
 |nil=>
  intro r
  cases r with
  |nil=>
   rintro _
   exact⟨rfl,rfl,rfl⟩
  |cons F y=>
   rintro h
   exact(aH h).elim
 |cons s ks J=>
  intro r
  cases r with
  |nil=>
   rintro h
   exact(aH h).elim
  |cons o d=>
   rintro h
   refine aK h fun Z Y=>?_
   refine ja Z fun e W=>?_
   refine dS (P:=fun _=>_) W fun c _ _ O=>?_
   refine jZ (P:=fun _=>_) O fun u L=>?_
   refine aK L fun _ z=>?_
   haveI q:=J Y;haveI a:=q.1;haveI b:=q.2.1;haveI c:=q.2.2
   exact⟨a,by simp[b],by simp only[List.map_cons,List.all_cons,c,Bool.and_true];exact z⟩
@[elab_as_elim]
theorem Im {d:Nms} {q:Nm} {x:X} {xs:List X} {es:List Expr} {P:List Expr->Prop} (h:mXs d q (x::xs) es=true) (H: ∀e es,mX d q x e=true->mXs d q xs es=true->P (e::es)):P es:=by
 cases es with
 |nil=>exact(aH h).elim
 |cons e es=>exact aK h fun a b=>H e es a b
@[elab_as_elim]
theorem ym {k:Str} {ks:List Str} {l:List (Option Expr)} {P:List (Option Expr)->Prop} (h:jS (k::ks) l=true) (H: ∀l i p,jS ks l=true->P (some (.Constant (.str k) i p)::l)):P l:=by
 cases l with
 |nil=>exact(aH h).elim
 |cons o l=>
  refine aK h fun d q=> ?_
  refine ja d fun J d=> ?_
  refine dS d fun L F z d=> ?_
  refine jZ d fun u d=> ?_
  refine aK d fun r y=> ?_
  refine y5 r ?_
  exact H l _ _ q
theorem CL{A:Around}{env:Env}{nm:Nm}{ρ:aE}{fp:Nat->List Addr}{pos:Pos}(cx:Cx n A env):∀{ks:List Str}{d:List (Option Expr)}{xs:List X}{es:List Expr}{W:Wd}{H H' ts:List T}{s:Shared},
  jS ks d=true->mXs env.scope.names nm xs es=true->(∀x∈xs,SX w h0 C n x)->Vst w env nm ρ fp W s.heap->Fit w h0 W H s.heap->d9 C ρ xs H=some (ts,H')->ks.length=ts.length->
  wpAny (model pw w) A (evalPairs (pairTrees d es env pos)) (fun vs s'=>∃O kvs,Stp W s O s'/\Fit w h0 O H' s'.heap/\Carries (aJ pw w) vs kvs/\kvs.map (·.1)=ks.map Key.s/\Reps w O ts (kvs.map (·.2))) Nev s:=by
 intro ks d xs
 induction xs generalizing ks d with
 |nil=>
  intro es W H H' ts s hk hm hx S F L J
  refine dy hm ?_
  refine aM (P:=fun ts H'=>ks.length=ts.length->wpAny (model pw w) A (evalPairs (pairTrees d [] env pos)) (fun vs s'=>∃O kvs,Stp W s O s'/\Fit w h0 O H' s'.heap/\Carries (aJ pw w) vs kvs/\kvs.map (·.1)=ks.map Key.s/\Reps w O ts (kvs.map (·.2))) Nev s) L (fun J=>?_) J
  obtain rfl:=List.length_eq_zero_iff.mp J
  refine dy hk ?_
  exact wpAny_pure ⟨W,[],.refl W s,F,trivial,rfl,rfl⟩
 |cons x xs ih=>
  intro es W H H' ts s hk hm hx S F L J
  refine Im hm fun e es m1 m2=>?_
  refine aB L fun t H1 e1 L=>?_
  refine aB L fun us H2 e2 L=>?_
  haveI go:H2=H'/\ts=t::us:=aM (P:=fun ts H'=>H2=H'/\ts=t::us) L ⟨rfl,rfl⟩
  rw[<-go.1];rw[go.2]at J⊢
  cases ks with
  |nil=>cases J
  |cons k ks=>
  refine ym hk fun d ki kp q3=>?_
  show wpAny (model pw w) A (do let kv<-eval _ env;let vv<-holding [kv] (do let x<-eval e env;standAt pos;pure x);return(kv,vv)::(<-holding [kv,vv] (evalPairs (pairTrees d es env pos)))) _ _ s
  refine wpAny_bind (Calls.Constant_str ?_)
  refine wpAny_bind (wpAny_holding (wpAny_bind ?_))
  haveI kp:∀a o,s.heap.get? a=some o->s.heap.get? a=some o:=fun _ _ e=>e
  refine wpAny_mono (hx x (.head _) e A env nm ρ fp W H _ t H1 m1 cx S.tok F.tok e1) (fun v Z ac=>?_) fun _ _ z=>z
  refine Pst.el ac fun ae Y ag aa=>?_
  have q:Stp W s ae Z:=(Stp.of_keep kp).trans Y
  refine wpAny_bind (wpAny_standAt (wpAny_pure (wpAny_bind (wpAny_holding ?_))))
  refine wpAny_mono (ih q3 m2 (fun x ah=>hx x (.tail _ ah)) (S.stp q) ag e2 (Nat.succ.inj J)) (fun vs ai ab=>?_) fun _ _ z=>z
  refine xEE ab fun ad kvs r=>?_;haveI y:=r.1;haveI af:=r.2.1;haveI c:=r.2.2.1;haveI kk:=r.2.2.2.1;haveI rr:=r.2.2.2.2
  exact wpAny_pure ⟨ad,(Key.s k,v)::kvs,q.trans y,af,⟨vW k _,rfl,c⟩,congrArg (Key.s k:: ·) kk,⟨v,_,rfl,Rep.mono y.le _ aa,rr⟩⟩
theorem Fk{A:Around}(d:AOk n A):A.depth+10<recursionLimit:=by haveI:=d.dp;lia
theorem EV(B:cR w h0){i:Nat}{xs:List X}(hx:SXs w h0 C n xs):SS w h0 C n (.newV i xs):=by
 intro st A ag nm ρ fp W H s ai aj Pr fl H' hm cx I F
 refine bY hm fun t v al m1=>?_
 refine aK m1 fun mn m2=>?_
 refine qQ m2 fun c np es p2 mc mp mx=>?_
 refine aT mn fun y py hy hd=>?_
 refine aB F fun ts H1 e1 F=>?_
 refine aN F fun p e2 F=>?_
 refine aN F fun k e3 F=>?_
 refine aN F fun us e4 F=>?_
 refine aM F ?_
 refine qk fun Q hQ=>?_
 haveI e5:ts=[.str k,.list us]:=xj (Q:=fun ts=>ts=[.str k,.list us]) e2 (by rw[pZ e3,eM e4])
 rw[e5]at e1
 haveI ad:=gh mc;obtain rfl:=ad.1;haveI hk:=ad.2
 refine sA B.glob fun mg g1 _ g3 _=>?_
 refine wpAny_Assign_Name (wpAny_Call_NameR (Calls.Name_function_global cx.kind hk (Calls.loadGlobal_global (mg:=mg) (cx.glob.symm▸g1.at' fun o e=>I.fit.base _ o e) g3 ?_) (by decide +kernel))) (aU rfl _ _ _)
 refine callWith_of (P:=fun h=>(eD w.params).In h) (by rw[cY mp];rfl) (fun h X=>keeps_K (by kernel_rfl) h X) (gZ mp ?_)
 refine wpAny_mono (hx es A ag nm ρ fp W H s _ _ p2 mx mp cx I.vs I.fit e1) (fun vs ah O=>?_) fun _ _ z=>z
 refine el4 O fun ae r q rs=>?_
 refine⟨fun a o e=>q.base a o (B.cls a o e),?_⟩
 rw[List.nil_append]
 refine jN rs fun v1 r1 aa ac v2 r2 Z a2 Y=>?_;obtain rfl:=aa;refine xEA ac fun tk ab zk=>?_;obtain rfl:=ab;obtain rfl:=Z;obtain rfl:=Y
 refine vR B q.base (Fk cx.ao) (.inl ⟨rfl,rfl⟩) fun x d h' af o nx nd xd ex ed io keep=>?_
 haveI J:=q.not_has nx
 haveI L:=q.not_has nd
 refine I.put_new cx.kind hy (r.trans (Stp.of_keep (tk:=af) keep)) (q.keep keep) (lv:=.ov k (.list us) none) (f:=[x,d]) ⟨x,d,v2,tk,o,rfl,rfl,xd,ex,ed,io,a2,zk⟩ (fun a ha=>?_) fun ak I'=>(hQ _ ae _ I')
 rcases List.mem_cons.mp ha with rfl|ha
 ·exact⟨J,cB r nx J,_,ex⟩
 ·rw[List.mem_singleton.mp ha]
  exact⟨L,cB r nd L,_,ed⟩
theorem vc(B:cR w h0){i:Nat}{ks:List Str}{xs:List X}(hx:∀x∈xs,SX w h0 C n x):SS w h0 C n (.setAttrs i ks xs):=by
 intro st A al nm ρ fp W H s az a0 Pr fl H' hm cx I Y
 refine bY hm fun t v a1 m1=>?_
 refine k7 m1 fun t a p1 m2=>?_
 refine aY m2 fun ma mn m3=>?_
 refine bO ma ?_
 refine yL m3 fun F es p2 m4=>?_
 refine e9 m4 fun mk mx mp ai ap=>?_
 have ai:=of_decide_eq_true ai
 refine aT mn fun y py hy hd=>?_
 refine aB Y fun ts H1 e1 Y=>?_
 refine aN Y fun dd er Y=>?_
 refine dZ Y fun hc Y=>?_
 obtain⟨k,it,at'⟩:=dd
 refine aY hc fun h1 h2 h3=>?_
 haveI h1:at'=none:=kY (P:=fun o=>o=none) h1 rfl
 subst h1
 haveI hr:ρ i=.ov k it none:=zG er
 have hc:iK ks=true/\ks.length=ts.length:=⟨h2,of_decide_eq_true h3⟩
 haveI Y:pur (Fl.nxt (upd ρ i (.ov k it (some (ks.map .s,ts))))) H1=some (fl,H'):=Y
 refine aM Y ?_
 refine qk fun Q hQ=>?_
 refine xAA (vZ mk) fun q1 q2 q3=>?_
 haveI hu:ρ i≠.unset:=by exact hr.symm▸fun h=>nomatch h
 have ae:F.length=es.length:=by rw[q2,hc.2,my e1,pG mx]
 haveI ak:=pairTrees_length F es al p2 q1 ae
 refine plainObj_wpAny_Assign_Attribute (wpAny_Dict_pairs (knd:=aJ pw w) (pairs:=pairTrees F es al p2) (zip_pairTrees F es al p2 q1 ae) (fun q=>?_) (by rw[ak,q2];exact ai) ?_) (aU rfl _ _ _)
 ·rw[q,List.length_nil,q2]at ak
  rw[List.length_eq_zero_iff.mp ak.symm]at ap
  exact(aH ap).elim
 haveI kp:∀a o,s.heap.get? a=some o->(s.heap.push {cls:=.type "dict",data:=.dict #[]}).get? a=some o:=fun a o e=>Heap.get?_push_of_some _ e
 haveI aa:Stp W s W {s with heap:=s.heap.push {cls:=.type "dict",data:=.dict #[]}}:=Stp.of_keep (tk:=s.toks) kp
 haveI nE:s.heap.get? s.heap.objs.size=none:=aX
 haveI ao:¬W.has s.heap.objs.size:=I.fit.not_has nE
 haveI D0:(s.heap.push {cls:=.type "dict",data:=.dict #[]}).DictOf (aJ pw w) s.heap.objs.size []:=Heap.DictOf.new _
 refine wpAny_mono (CL cx mk mx hx (I.vs.stp aa) (I.fit.keep kp) e1 hc.2) (fun vs r ar=>?_) fun _ _ z=>z
 refine s8 ar fun af L J aw cr kk rr=>?_
 haveI am:=aa.trans J
 haveI D1:r.heap.DictOf (aJ pw w) s.heap.objs.size []:=g8 D0 fun o e=>J.keep _ o e fun m=>ao (.inr m)
 haveI ac:¬af.has s.heap.objs.size:=J.fresh_not_has (Heap.get?_push_size _ rfl) ao
 refine⟨L,cr,D1,fun ad D2 sb=>?_⟩
 haveI O:merged [] L=L:=by
  have:=merged_append_of_fresh [] L (by rw[List.nil_append,kk];exact AK hc.1)
  simpa using this
 rw[O]at D2
 refine xA (dJ (tk:=r.toks+vs.length) I.fit.base am aw nE ac fun b o nb e=>sb.extBut b o nb e) fun Z ah=>?_
 haveI ag:=I.stp Z ah
 refine xEA (ag.var hy hu) fun v av ax=>?_
 refine wpAny_Name (Vst.load cx.kind av ?_) hd
 haveI ab:=ax
 rw[hr]at ab
 obtain⟨x,d,iv,tk,o,rfl,hf,xd,aj,ay,id,ri,zk⟩:=ab
 refine sw id fun t1 t2 t3 t4 t5 b1 b2 m au=>?_;obtain rfl:=au
 refine gu (s:={r with heap:=ad,toks:=r.toks+vs.length}) (fun a o e=>ah.base a o (B.cls a o e)) (pA w.params).2.2.2.2.2.1 aj ay (yd w) (AD w) (by simp) fun aq d4 an=>?_
 have fr:=I.fresh Z nE ac
 have dE:d≠s.heap.objs.size:=fun q=>fr.2.2.1 (.inr (.inr ⟨y,i,hy,by rw[hf];simp[q]⟩))
 have xE:x≠s.heap.objs.size:=fun q=>fr.2.2.1 (.inr (.inr ⟨y,i,hy,by rw[hf];simp[q]⟩))
 have D4:=g8 D2 fun o e=>an.extBut _ o dE.symm e
 have k4:∀b o,b≠d->ad.get? b=some o->aq.get? b=some o:=fun b o nb e=>an.extBut b o nb e
 refine(hQ _ af _ (ag.mutG (tk:=r.toks+vs.length+2) hy av (fun b o nb e=>k4 b o (fun q=>nb (by rw[hf];simp[q])) e) (lv:=.ov k it (some (ks.map .s,ts))) (f:=[x,d,s.heap.objs.size])
  ⟨x,d,iv,tk,_,_,L,rfl,rfl,by simp[xd,xE,dE],k4 x _ xd aj,d4,⟨t1,t2,t3,t4,t5,b1,b2,m,rfl⟩,ri,zk,xK B I.fit.base,D4,kk,rr,q3⟩ fun b hb=>?_))
 simp only[List.mem_cons,List.not_mem_nil,or_false]at hb
 rcases hb with rfl|rfl|rfl
 ·exact⟨⟨_,k4 _ _ xd aj⟩,.inl (by rw[hf];simp)⟩
 ·exact⟨⟨_,d4⟩,.inl (by rw[hf];simp)⟩
 ·exact⟨uw D4,.inr fr⟩
theorem pS(B:cR w h0){i:Nat}{k:Str}{x:X}(hx:SX w h0 C n x):SS w h0 C n (.setAttrItem i k x):=by
 intro st A av nm ρ fp W H s aw ay Pr fl H' hm cx I F
 refine bY hm fun t v az m1=>?_
 refine aK m1 fun mc m2=>?_
 refine jx m2 fun o1 ke p2 m3=>?_
 refine aK m3 fun mk m4=>?_
 refine dS mk fun a1 kc a0 mk=>?_
 refine jZ mk fun k' mk=>?_
 refine aK mk fun ar ao=>?_
 refine y5 ar ?_
 refine k7 m4 fun o2 a p3 m5=>?_
 refine aY m5 fun ma mn mx=>?_
 refine bO ma ?_
 refine aT mn fun y py hy hd=>?_
 refine aB F fun t H1 e1 F=>?_
 refine aN F fun dd er F=>?_
 refine aN F fun kv ek F=>?_
 refine dZ F fun ab F=>?_
 obtain⟨kd,it,at'⟩:=dd
 obtain⟨ks,vs⟩:=kv
 haveI ek:at'=some (ks,vs):=ek
 subst ek
 have hr:ρ i=.ov kd it (some (ks,vs)):=zG er
 haveI ab:ks.length<lim:=of_decide_eq_true ab
 haveI ax:lim=1000:=rfl
 haveI F:pur (Fl.nxt (upd ρ i (.ov kd it (some (dN (.s k) t ks vs))))) H1=some (fl,H'):=F
 refine aM F ?_
 refine qk fun Q hQ=>?_
 haveI hu:ρ i≠.unset:=by exact hr.symm▸fun h=>nomatch h
 refine wpAny_Assign_Subscript (wpAny_mono (hx v A av nm ρ fp W H s t _ mx cx I.vs I.fit e1) (fun u L ag=>?_) fun _ _ z=>z) (aU mc _ _ _)
 refine Pst.el ag fun an ad Z ae=>?_
 have Y:=I.stp ad Z
 refine xE (Y.var hy hu) fun v aj=>?_;haveI al:=aj.1;haveI ap:=aj.2
 haveI O:=ap
 rw[hr]at O
 obtain⟨x,d,iv,tk,o,e,af,rfl,hf,nd,aa,ac,id,ri,zk,ms,dd,r,rs,zs⟩:=O
 obtain⟨t1,t2,t3,t4,t5,b1,b2,m,rfl⟩:=id
 haveI J:=zr w.params;haveI g1:=J.1;haveI g2:=J.2.1;haveI g3:=J.2.2.1;haveI g4:=J.2.2.2.1;haveI g5:=J.2.2.2.2
 haveI am:(eD w.params).In L.heap:=fun a o e=>Z.base a o (B.cls a o e)
 have ai:=List.nodup_cons.mp nd
 have ah:=List.nodup_cons.mp ai.2
 refine Attribute_any_ (wpAny_Name (Vst.load cx.kind al (get_value (v:=.ref e) am ⟨aa,rfl,rfl,ac⟩ g1 (findObj_own g2 g5 rfl rfl) rfl ?_)) hd) (by rw[arm_eval_Attribute];rfl)
 have r:af.map (·.1)=ks:=r
 have au:af.length=ks.length:=by rw[<-r,List.length_map]
 refine Calls.Constant_str ?_
 refine wpAny_setItem_pairs (knd:=aJ pw w) (k:=Key.s k) (vW k _) dd (fun h' ak sb=>?_) (by rw[sizeLine_eq];exact tnn (ltn (eln au) ab) rfl)
 refine fk (id dd) fun _ _ _ _ _ _ _ _ aq=>?_
 have k4:∀b o,b≠e->L.heap.get? b=some o->h'.get? b=some o:=fun b o nb e=>sb.extBut b o nb e
 have xe:x≠e:=fun q=>ai.1 (by simp[q])
 have de:d≠e:=fun q=>ah.1 (by simp[q])
 refine(hQ _ an _ (Y.mut hy al (fun b o nb e=>k4 b o (fun q=>nb (by rw[hf];simp[q])) e) (lv:=.ov kd it (some (dN (.s k) t ks vs))) (f:=[x,d,e])
  ⟨x,d,iv,tk,_,e,_,rfl,rfl,nd,k4 x _ xe aa,k4 d _ de ac,⟨t1,t2,t3,t4,t5,b1,b2,m,rfl⟩,ri,zk,ms,ak,?_,?_,q0 ao zs⟩ fun b hb=>?_))
 ·rw[<-r];exact oq
 ·rw[<-r];exact oo ae aq rs
 simp only[List.mem_cons,List.not_mem_nil,or_false]at hb
 rcases hb with rfl|rfl|rfl
 ·exact⟨⟨_,k4 _ _ xe aa⟩,.inl (by rw[hf];simp)⟩
 ·exact⟨⟨_,k4 _ _ de ac⟩,.inl (by rw[hf];simp)⟩
 ·exact⟨uw ak,.inl (by rw[hf];simp)⟩
theorem zp{W:Wd}{H H':List T}{s:Shared}{h':Heap}{tk:Nat}{a:Addr}(F:Fit w h0 W H s.heap)(m:W.wr a)(k:∀b o,b≠a->s.heap.get? b=some o->h'.get? b=some o)
  (gz:∀g,W.gz a=some g->∃o,h'.get? a=some o/\oM w g o) (hd:W.hd=some a->fZ w W H' h') (L:W.hd≠some a->H'=H) (Z:H'=[]->H=[]):Stp W s W {s with heap:=h',toks:=tk}/\Fit w h0 W H' h':=by
 refine⟨⟨.refl W,fun _ h=>.inl h,rfl,fun b o e O=>k b o (fun q=>O (q▸m)) e,⟨_,_,_,rfl⟩⟩,⟨fun b o e=>?_,fun b g e=>?_,?_,fun b o e=>?_,F.off,fun q=>F.hn (Z q)⟩⟩
 ·exact k b o (fun q=>W.disj b (by rw[e];rfl) (q▸m)) (F.fz b o e)
 ·by_cases q:b=a
  ·rw[q]at e⊢;exact gz g e
  ·refine xEA (F.gz b g e) fun o Y i=>?_
   exact⟨o,k b o q Y,i⟩
 ·by_cases q:W.hd=some a
  ·exact hd q
  ·rw[L q]
   haveI:=F.hd
   unfold fZ at this⊢
   cases J:W.hd with
   |none=>rw[J]at this;exact this
   |some c=>rw[J]at this;refine xE this fun d y=>?_;haveI p:=y.1;haveI r:=y.2;exact⟨d,p.at fun o e=>k c o (fun z=>q (z▸J)) e,r⟩
 ·exact k b o (fun q=>by have:=F.off a m;rw[<-q,e]at this;exact absurd this nofun) (F.base b o e)
theorem Cf(B:cR w h0){i:Nat}:SS w h0 C n (.share i):=by
 intro st A ad nm ρ fp W H s aa ab Pr fl H' hm cx I Y
 refine bY hm fun t v ac m1=>?_
 refine aK m1 fun O m2=>?_
 refine dS O fun cc c p1 O=>?_
 refine D8 O ?_
 refine k7 m2 fun t a p2 m3=>?_
 refine aK m3 fun ma mn=>?_
 refine bO ma ?_
 refine aT mn fun y py hy hd=>?_
 refine aN Y fun u eu Y=>?_
 refine aM Y ?_
 refine qk fun Q hQ=>?_
 refine bD eu fun t er et=>?_
 haveI J:=jU er
 revert J
 refine BY et fun k0 i0 a0 J=>?_
 refine xEA (I.var hy (by exact J▸fun h=>nomatch h)) fun v Z z=>?_
 rw[J]at z
 obtain⟨⟨x,d,tk,iv,av,rfl,hx,L,ri,ra,zk⟩,_⟩:=z
 refine nc (uh I.fit hx L) fun o id ho _=>?_
 obtain⟨t1,t2,t3,t4,t5,b1,b2,m,rfl⟩:=id
 refine plainObj_wpAny_Assign_Attribute ?_ (aU rfl _ _ _)
 rw[eval_Constant]
 refine wpAny_pure (wpAny_Name (Vst.load cx.kind Z ?_) hd)
 refine gu (fun a o e=>I.fit.base a o (B.cls a o e)) (pA w.params).2.2.2.2.2.2.1 (I.fit.fz _ _ hx) ho (vT w) (xH w) (by simp) fun h' d' sb=>?_
 obtain⟨r,F⟩:=zp (tk:=s.toks+2) (H':=H) I.fit (a:=d) (.inl (by rw[L];rfl)) (fun b o nb e=>sb.extBut b o nb e) (fun g e=>by
  rw[L]at e;obtain rfl:=Option.some.inj e
  exact⟨_,d',t1,t2,t3,t4,t5,true,b2,m,rfl⟩) (fun q=>absurd q (W.dis2 d (by rw[L];rfl))) (fun _=>rfl) id
 exact(hQ _ W fp (I.stp r F))
end
noncomputable def Wd.setH(W:Wd)(a:Addr)(n:¬W.has a)(z:W.hd=none):Wd where
 fz:=W.fz
 gz:=W.gz
 hd:=some a
 disj:=fun b h m=>by
  rcases m with m|m
  ·exact W.disj b h (.inl m)
  ·cases m;exact n (.inl h)
 dis2:=fun b h q=>by cases q;exact n (.inr (.inl h))
theorem Own.alive{w:World}{W:Wd}{h:Heap}{v:Value}{lv:LV}{Y:List Addr}(q:Own w W h v lv Y):∀a∈Y,∃o,h.get? a=some o:=by
 intro b r
 cases lv with
 |unset=>exact q.elim
 |fr t=>obtain rfl:=q.2;cases r
 |ol ts=>obtain⟨a,z,_,rfl,⟨_,e⟩,_⟩:=q;rw[List.mem_singleton.mp r];exact⟨_,e⟩
 |od O vs=>obtain⟨a,y,_,rfl,_,⟨o,_,_,e,_⟩,_⟩:=q;rw[List.mem_singleton.mp r];exact⟨_,e⟩
 |odl O Z=>
  obtain⟨a,ls,y,_,rfl,_,⟨o,_,_,e,_⟩,_,_,L,_⟩:=q
  rcases List.mem_cons.mp r with rfl|r
  ·exact⟨_,e⟩
  ·exact L.alive b r
 |ov k it at'=>
  cases at' with
  |none=>
   obtain⟨x,d,i,t,o,_,rfl,_,H,F,_⟩:=q
   rcases List.mem_cons.mp r with rfl|r
   ·exact⟨_,H⟩
   ·rw[List.mem_singleton.mp r];exact⟨_,F⟩
  |some J=>
   haveI O:=J.1;haveI vs:=J.2
   obtain⟨x,d,i,t,o,e,y,_,rfl,_,H,F,_,_,_,_,⟨o',_,_,e3,_⟩,_⟩:=q
   simp only[List.mem_cons,List.not_mem_nil,or_false]at r
   rcases r with rfl|rfl|rfl
   ·exact⟨_,H⟩
   ·exact⟨_,F⟩
   ·exact⟨_,e3⟩
theorem vD{v:Expr}(h:G3 v=true)(ts:List Expr)(c:Nat)(p:Pos)(env:Env):swappedStores [.Tuple ts c p] v env=pure none:=by
 cases v<;>first|exact(aH h).elim|rfl
section
variable{w:World}{h0:Heap}{C:Nat->List T->M LV}{n:Nat}
theorem xr{i:Nat}{xs:List X}(hx:SXs w h0 C n xs):SS w h0 C n (.newHand i xs):=by
 intro st A ae nm ρ fp W H s af ag Pr fl H' hm cx I he
 refine bY hm fun t v ai m1=>?_
 refine aK m1 fun mn m2=>?_
 refine qY m2 fun es p2 m3=>?_
 refine aK m3 fun mp mx=>?_
 refine aT mn fun y py hy hd=>?_
 refine aB he fun ts H1 e1 he=>?_
 refine aB he fun u H2 e2 he=>?_
 refine aM he ?_
 obtain⟨rfl,hne,rfl⟩:H1=[]/\ts≠[]/\H2=ts:=by
  cases H1 with
  |cons=>exact nomatch ts<;>exact nomatch e2
  |nil=>cases ts with
   |nil=>cases e2
   |cons a r=>refine xA (Prod.mk.inj (Option.some.inj e2)) fun ac ab=>?_;obtain rfl:=ac;obtain rfl:=ab;exact⟨rfl,nofun,rfl⟩
 refine wpAny_Assign_Name (List_ (wpAny_mono (hx es A ae nm ρ fp W H s _ _ p2 mx mp cx I.vs I.fit e1) (fun Y d Z=>?_) fun _ _ z=>z)) (aU rfl _ _ _)
 refine el4 Z fun W₁ O F J=>?_
 haveI aa:Y.length<=sizeLine:=by rw[J.length,my e1,pG mx,sizeLine_eq];have:=ji mp;exact tkn this rfl
 refine wpAny_newList ?_ aa
 have kp:∀a o,d.heap.get? a=some o->(d.heap.push (seqObj "list" Y.toArray 0)).get? a=some o:=fun a o e=>Heap.get?_push_of_some _ e
 have nn:¬W₁.has d.heap.objs.size:=F.not_has aX
 have hW:=F.hn rfl
 have le:W₁.Le (W₁.setH d.heap.objs.size nn hW):=⟨fun _ _ h=>h,fun _ _ h=>h,fun a h=>by rw[hW]at h;cases h⟩
 have n0:h0.get? d.heap.objs.size=none:=by
  cases q:h0.get? d.heap.objs.size with
  |none=>rfl
  |some o=>have:=F.base _ o q;rw[aX]at this;cases this
 have L:Stp W₁ d (W₁.setH d.heap.objs.size nn hW) {d with heap:=d.heap.push (seqObj "list" Y.toArray 0)}:=⟨le,fun a m=>by
   rcases m with m|m|m
   ·exact .inl (.inl m)
   ·exact .inl (.inr (.inl m))
   ·cases m;exact .inr aX,rfl,fun a o e _=>kp a o e,⟨_,_,_,rfl⟩⟩
 have ad:Fit w h0 (W₁.setH d.heap.objs.size nn hW) H2 (d.heap.push (seqObj "list" Y.toArray 0)):=⟨fun a o e=>kp a o (F.fz a o e),fun a g e=>(F.gz a g e).elim fun o h_=>h_.elim fun ho i=>⟨o,kp a o ho,i⟩,by
   unfold fZ
   exact⟨Y.toArray,⟨0,Heap.get?_push_size _ rfl⟩,by simpa using Reps.mono le _ J⟩,fun a o e=>kp a o (F.base a o e),fun a m=>by
   rcases m with m|m
   ·exact F.off a (.inl m)
   ·obtain rfl:=Option.some.inj m;exact n0,fun q=>absurd q hne⟩
 exact I.put_new cx.kind hy (O.trans L) ad (lv:=.fr .hand) (f:=[]) ⟨⟨_,rfl,rfl⟩,rfl⟩ (fun _ h=>(List.not_mem_nil h).elim) fun ah I'=>⟨rfl,_,_,I'⟩
theorem xu{i k:Nat}{x:X}(hx:SX w h0 C n x):SS w h0 C n (.handSet i k x):=by
 intro st A al nm ρ fp W H s an ao Pr fl H' hm cx I Z
 refine bY hm fun t v ap m1=>?_
 refine aK m1 fun mc m2=>?_
 refine jx m2 fun o ke p2 m3=>?_
 refine aY m3 fun mn mx mk=>?_
 refine dS mk fun ar kc aq mk=>?_
 refine mT mk fun j mk=>?_
 refine aK mk fun ai hk=>?_
 refine bO ai ?_
 haveI hk:=of_decide_eq_true hk
 refine aT mn fun y py hy hd=>?_
 refine aB Z fun t J e1 Z=>?_
 refine aN Z fun u er Z=>?_
 haveI hr:=sZ er
 haveI go:k<J.length/\fl=.nxt ρ/\H'=J.set k t:=by
  by_cases q:k<J.length
  ·have r:(match decide (k<J.length)with|true=>some (Fl.nxt ρ,J.set k t)|false=>.none)=some (fl,H'):=Z
   rw[decide_eq_true q]at r
   refine xA (Prod.mk.inj (Option.some.inj r)) fun ag af=>?_;obtain rfl:=ag;obtain rfl:=af;exact⟨q,rfl,rfl⟩
  ·haveI r:(match decide (k<J.length)with|true=>some (Fl.nxt ρ,J.set k t)|false=>.none)=some (fl,H'):=Z
   rw[decide_eq_false q]at r
   cases r
 obtain⟨ak,rfl,rfl⟩:=go
 refine wpAny_Assign_Subscript (wpAny_mono (hx v A al nm ρ fp W H s t _ mx cx I.vs I.fit e1) (fun u d ae=>?_) fun _ _ z=>z) (aU mc _ _ _)
 refine Pst.el ae fun L ab F ac=>?_
 haveI O:=I.stp ab F
 refine xEA (O.var hy (hr.symm▸fun h=>nomatch h)) fun v am ad=>?_
 rw[hr]at ad
 obtain⟨⟨a,rfl,hh⟩,_⟩:=ad
 refine wpAny_Name (Vst.load cx.kind am ?_) hd
 refine wpAny_Constant_int ?_
 have hf:=F.hd
 unfold fZ at hf
 rw[hh]at hf
 refine xEA hf fun Y p rs=>?_
 haveI aj:Y.size=J.length:=by rw[<-rs.length];simp
 refine je (s:={d with toks:=d.toks+1}) p (Int.natCast_nonneg _) (f6 (Int.ofNat_lt.mpr hk) (of_decide_eq_true rfl)) (Int.ofNat_lt.mpr (tln ak (ern aj))) fun h' p' sb=>?_
 obtain⟨aa,ah⟩:=zp (tk:=d.toks+1) (h':=h') (H':=J.set k t) F (a:=a) (.inr hh) (fun b o nb e=>sb.extBut b o nb e) (fun g e=>absurd hh (L.dis2 a (by rw[e];rfl))) (fun _=>by
  unfold fZ
  rw[hh]
  refine⟨_,p',?_⟩
  rw[Array.toList_setIfInBounds]
  exact Reps.set ac _ rs) (fun q=>absurd hh q) (fun q=>by haveI:=congrArg List.length q;rw[List.length_set,List.length_nil]at this;exact List.length_eq_zero_iff.mp this)
 exact⟨rfl,L,fp,O.stp aa ah⟩
theorem HT{i:Nat}{o:Bo}{x:X}(hx:SX w h0 C n x):SS w h0 C n (.aug i o x):=by
 intro st A Y nm ρ fp W H s ab ad Pr fl H' hm cx I q
 refine w4 hm fun t p v af m1=>?_
 refine aY m1 fun mn mo mx=>?_
 refine bO mo ?_
 refine aT mn fun y py hy hd=>?_
 cases o<;>first|exact(gj (h:=H) q).elim|skip
 refine aN q fun a Z q=>?_
 refine aB q fun t H1 e1 q=>?_
 refine aN q fun b eb q=>?_
 refine aM q ?_
 rw[dA eb]at e1
 refine bD Z fun u er Z=>?_
 haveI O:=jU er
 rw[dA Z]at O
 refine xEA (I.var hy (by exact O.symm▸fun h=>nomatch h)) fun v' aa F=>?_
 rw[O]at F
 obtain⟨⟨t1,rfl⟩,_⟩:=F
 refine wpAny_AugAssign_Name (Vst.load cx.kind aa ?_)
 refine wpAny_mono (hx v A Y nm ρ fp W H s _ _ mx cx I.vs I.fit e1) (fun u d J=>?_) fun _ _ z=>z
 obtain⟨ac,r,L,t2,rfl⟩:=J
 refine iadd_int ?_
 exact I.put_new (s':={d with toks:=d.toks+1}) cx.kind hy (r.trans (Stp.of_keep (h':=d.heap) fun _ _ e=>e)) L (lv:=.fr (.int (a+b))) (f:=[]) ⟨⟨_,rfl⟩,rfl⟩ (fun _ h=>(List.not_mem_nil h).elim) fun ae I'=>⟨rfl,_,_,I'⟩
theorem E3(B:cR w h0)(K:il w h0 C n)(L:iX C){i f:Nat}{xs:List X}(hx:SXs w h0 C n xs):SS w h0 C n (.asgO i f xs):=by
 intro st A ac nm ρ fp W H s ae ag Pr fl H' hm cx I Z
 refine bY hm fun t v ai m1=>?_
 refine aK m1 fun mn m2=>?_
 refine qQ m2 fun g np es p2 mg mp mx=>?_
 refine aT mn fun y py hy hd=>?_
 refine aB Z fun ts H1 e1 Z=>?_
 refine aB Z fun lv H2 e2 Z=>?_
 refine aM Z ?_
 haveI hf:=L _ _ _ _ e2
 refine wpAny_Assign_Name (wpAny_Call_NameR (zM B hf mg cx I.fit (rA B hf I.fit mp ?_))) (aU rfl _ _ _)
 refine wpAny_mono (hx es A ac nm ρ fp W H s ts H1 p2 mx mp cx I.vs I.fit e1) (fun vs F Y=>?_) fun _ _ z=>z
 refine el4 Y fun aa q r rs=>?_
 refine⟨r.base,wpAny_mono (K f A aa H1 F ts vs lv _ cx.ao r rs e2) (fun v ad O=>?_) fun _ _ z=>z⟩
 refine m7 O.2 fun af aj d ab J nf=>?_
 refine I.put_new cx.kind hy (q.trans d) ab J (fun a ha=>?_) fun ah I'=>⟨rfl,_,_,I'⟩
 haveI q1:=(nf a ha).1;haveI q2:=(nf a ha).2
 exact⟨q1,cB q q2 (fun m=>q1 (d.le.has m)),J.alive a ha⟩
theorem uY{l:Addr}{items:Array Value}{A:Around}{s:Shared}{E:Value->Shared->Prop}{Q:List Value->Shared->Prop}(Z:A.handled=none)(z:s.heap.IsList l items)(h2:items.size=2)
  (hQ:∀h',Heap.ExtBut s.heap.objs.size s.heap h'->Q items.toList {s with heap:=h'}):wpAny (model pw w) A (unpackItems (.ref l) 2 none) Q E s:=by
 obtain⟨a,b,rfl⟩:∃a b,items= #[a,b]:=⟨items[0],items[1],by apply Array.ext (h2);intro i h1 W;simp at W;rcases i with _|_|i<;>first|rfl|omega⟩
 have r:l≠s.heap.objs.size:=by refine xEA z fun o Y _=>?_;exact Nat.ne_of_lt (Heap.lt_size Y)
 unfold unpackItems
 refine wpAny_bind ?_
 unfold notIterableAtAll
 refine wpAny_bind (wpAny_specialOf z.typeIs slot_list_iter.lookup ?_)
 refine wpAny_pure ?_
 simp only[Bool.false_eq_true,if_false]
 refine wpAny_bind (wpAny_holding (wpAny_pyIter_list z ?_))
 have F:∀a o,s.heap.get? a=some o->(s.heap.push {cls:=.type "list_iterator",data:=.fields #[.ref l,.int 0 0]}).get? a=some o:=fun a o e=>Heap.get?_push_of_some _ e
 refine wpAny_bind (wpAny_holding ?_)
 show wpAny _ _ (pyNext (.ref s.heap.objs.size)>>=_) _ _ _
 refine wpAny_bind (wpAny_pyNext_list_item (i:=0) (items:= #[a,b]) ⟨_,Heap.get?_push_size _ rfl,rfl,rfl⟩ (z.at fun o e=>F _ o e) rfl fun h1 J q=>?_)
 refine wpAny_bind (wpAny_holding ?_)
 haveI y:h1.IsList l #[a,b]:=(z.at fun o e=>F _ o e).extBut q.extBut r
 show wpAny _ _ (pyNext (.ref s.heap.objs.size)>>=_) _ _ _
 refine wpAny_bind (wpAny_pyNext_list_item (s:={s with heap:=h1}) J y rfl fun h2 H d=>?_)
 have L:h2.IsList l #[a,b]:=y.extBut d.extBut r
 refine wpAny_bind (wpAny_holding (wpAny_pure (wpAny_pure (wpAny_pure ?_))))
 rw[if_neg (by simp)]
 refine wpAny_bind (wpAny_holding (wpAny_pyNext_list_end (s:={s with heap:=h2}) Z H L rfl fun W e3=>?_))
 simp only[Option.isSome_none,Bool.false_eq_true,if_false]
 exact wpAny_pure (hQ W fun b o O e=>e3 b o O (d.extBut b o O (q.extBut b o O (F b o e))))
theorem rF{i j:Nat}{x y:Str}{px py p:Pos}{c:Nat}{a b:T}{A:Around}{env:Env}{O:Nm}{ρ:aE}{fp:Nat->List Addr}{W:Wd}{H:List T}{s d:Shared}{q:Wd}{Pr:List (Addr×Obj)}{v:Value}{t:T}{Q:Unit->Shared->Prop}
  (cx:Cx n A env) (hx:O.lookup x=some i) (hy:O.lookup y=some j) (I:SInv w h0 d q env O ρ fp W H Pr s) (ht:t=.tup [a,b]\/t=.list [a,b]) (r:Rep w W t v)
  (h:∀ac s',SInv w h0 d q env O (upd (upd ρ i (.fr a)) j (.fr b)) ac W H Pr s'->Q () s'):wpAny (model pw w) A (assign (.Tuple [.Name x px,.Name y py] c p) env v) Q Nev s:=by
 have Y:∀{z:Array Value} {L:Heap},Reps w W [a,b] z.toList->Heap.ExtBut s.heap.objs.size s.heap L->wpAny (model pw w) A (assignInOrder [assign (.Name x px) env,assign (.Name y py) env] z.toList) Q Nev {s with heap:=L}:=by
  intro z L F Z
  refine jN F fun va r1 e1 ra vb r2 e2 rb e3=>?_
  rw[e1,e2,e3]
  haveI kp:∀b o,s.heap.get? b=some o->L.get? b=some o:=fun b o e=>Z b o (Nat.ne_of_lt (Heap.lt_size e)) e
  haveI I':SInv w h0 d q env O ρ fp W H Pr {s with heap:=L}:=I.stp (Stp.of_keep (tk:=s.toks) kp) (I.fit.keep kp)
  refine assignInOrder_cons (wpAny_assign_Name (I'.put cx.kind hx (lv:=.fr a) ⟨ra,rfl⟩ .nil (fun _ h=>(List.not_mem_nil h).elim) (fun _ _ h=>(List.not_mem_nil h).elim) fun ae ab=>?_))
  exact assignInOrder_cons (wpAny_assign_Name (ab.put cx.kind hy (lv:=.fr b) ⟨rb,rfl⟩ .nil (fun _ h=>(List.not_mem_nil h).elim) (fun _ _ h=>(List.not_mem_nil h).elim) fun ad aa=>assignInOrder_nil (h _ _ aa)))
 rcases ht with rfl|rfl
 ·obtain⟨l,z,k,rfl,f,F⟩:=r
  haveI J:z.size=2:=by rw[<-Array.length_toList,F.length];rfl
  exact assign_Tuple_tuple cx.ao.hd ⟨_,I.fit.fz _ _ f,rfl,k,rfl⟩ (by rw[J];rfl) rfl fun L Z=>Y F Z
 ·obtain⟨l,z,k,rfl,f,F⟩:=r
  haveI J:z.size=2:=by rw[<-Array.length_toList,F.length];rfl
  rw[PyProof.Rows.assign_Tuple]
  refine wpAny_bind (wpAny_standAt ?_)
  unfold unpack
  exact wpAny_bind (wpAny_holding (uY cx.ao.hd ⟨_,I.fit.fz _ _ f,rfl,k,rfl⟩ J fun L Z=>Y F Z))
theorem xo{i j:Nat}{x:X}(hx:SX w h0 C n x):SS w h0 C n (.unpack2 i j x):=by
 intro st A aa nm ρ fp W H s ac ad Pr fl H' hm cx I F
 refine bY hm fun t v ae m1=>?_
 refine s5 m1 fun t1 t2 c p m2=>?_
 refine aK m2 fun m2 mx=>?_
 refine e9 m2 fun Y O af mc mt=>?_
 refine aT Y fun y py hy hd=>?_
 refine aT O fun z pz hz ag=>?_
 refine aB F fun t H1 e1 F=>?_
 refine aN F fun p2 e2 F=>?_
 refine aM F ?_
 haveI ht:t=.tup [p2.1,p2.2]\/t=.list [p2.1,p2.2]:=bD e2 fun l e3 e4=>xj (Q:=fun l=>lE t=some l->t=.tup [p2.1,p2.2]\/t=.list [p2.1,p2.2]) e4 (fun e5=>vh (P:=fun t=>t=.tup [p2.1,p2.2]\/t=.list [p2.1,p2.2]) e5 (.inr rfl) (.inl rfl)) e3
 refine Assign_Tuple (wpAny_mono (hx v A aa nm ρ fp W H s t _ mx cx I.vs I.fit e1) (fun u ab r=>?_) fun _ _ z=>z) (by unfold swapsWithSole;exact aU mc _ _ _) (vD mt _ _ _ _)
 refine Pst.el r fun J d L q=>?_
 exact rF cx hy hz (I.stp d L) ht q fun Z s' I'=>⟨rfl,J,Z,I'⟩
end
end Internal
end
section
open PySem PySem.W PyProof.Rows
namespace Internal
set_option backward.match.sparseCases true in
theorem vr{M:Model}{A:Around}{E:Value->Shared->Prop}{s:Shared}{d:Expr}{I:Addr}{o:Obj}{v:Value}{Q:Unit->Shared->Prop}(F:s.heap.get? I=some o)(q:nz o=true)(h:Q () s):wpAny M A (letOwnedTupleGo d (.ref I) v) Q E s:=by
 have y:wpAny M A (do
   let(.ref r,.ref a):=((.ref I:Value),v)|return
   let o<-load r
   match o.cls,o.data with
   |.type n,.fields z=>
    if ["enumerate","zip","dict_itemiterator","dict_reverseitemiterator","odict_iterator","itertools.zip_longest","itertools.pairwise"].contains n&&z[0]? ==some (rawInt a)then
     rule "for.unpacks-the-owned-tuple"
     updateField r 0 .none
   |_,_=>pure ():Sem Unit) Q E s:=by
  cases v<;>first|exact wpAny_pure h|skip
  rename_i a
  refine wpAny_bind (wpAny_load F ?_)
  unfold nz at q
  cases L:o.cls<;>rw[L]at q<;>first|(exact(aH q).elim)|skip
  rename_i c
  haveI J:["enumerate","zip","dict_itemiterator","dict_reverseitemiterator","odict_iterator","itertools.zip_longest","itertools.pairwise"].contains c=false:=by
   simp only[Bool.or_eq_true,beq_iff_eq]at q
   rcases q with((rfl|rfl)|rfl)|rfl<;>decide
  cases O:o.data<;>first|exact wpAny_pure h|skip
  simp only[J,Bool.false_and,Bool.false_eq_true,if_false]
  exact wpAny_pure h
 cases d<;>first|exact y|exact wpAny_pure h
section
variable{w:World}{h0:Heap}{s₀:Shared}{W₀:Wd}{env:Env}{nm:Nm}{ρ:aE}{fp:Nat->List Addr}{W W':Wd}{H H':List T}{Pr:List (Addr×Obj)}{s s':Shared}{A:Around}
theorem SInv.change {p:Addr×Obj} {h':Heap} {tk:Nat} (I:SInv w h0 s₀ W₀ env nm ρ fp W H (p::Pr) s) (n:s₀.heap.get? p.1=none) (L: ∀q∈Pr,q.1≠p.1) (k: ∀b o,b≠p.1->s.heap.get? b=some o->h'.get? b=some o):
  SInv w h0 s₀ W₀ env nm ρ fp W H Pr {s with heap:=h',toks:=tk}:=by
 haveI d:=I.pr p (.head _);haveI p1:=d.1;haveI p2:=d.2.1;haveI p3:=d.2.2
 refine⟨I.st.write (P:=fun b=>b=p.1) k fun b e=>e▸n,I.fit.write (P:=fun b=>b=p.1) k (fun b e=>e▸p2) (fun b e=> ?_),I.vs.frame (.refl W) (fun a o f e=>k a o (fun q=>p3 (q▸f)) e) fun a f=>(I.vs.foot_ok f).1,I.new,I.base,fun q r=> ?_⟩
 ·cases z:h0.get? b with
  |none=>rfl
  |some o=>have:=I.base b o z;rw[e,n]at this;exact(nos this).elim
 ·haveI d:=I.pr q (.tail _ r);haveI J:=d.1;haveI F:=d.2.1;haveI y:=d.2.2
  exact⟨k _ _ (L q r) J,F,y⟩
end
theorem Stp.up{W₀ W₁ W:Wd}{s₀ s:Shared}(x:Stp W₀ s₀ W s)(a:W₀.Le W₁)(b:W₁.Le W):Stp W₁ s₀ W s:=
 ⟨b,fun c h=>(x.fresh c h).imp a.has id,rfl,fun c o e m=>x.keep c o e fun q=>m (a.wr q),x.same⟩
theorem Stp.back{W₀ W₁ W:Wd}{s₀ s₁ s:Shared}(x:Stp W₀ s₀ W₁ s₁)(y:Stp W₁ s₀ W s):Stp W₀ s₀ W s:=
 ⟨x.le.trans y.le,fun c h=>(y.fresh c h).elim (fun h=>x.fresh c h) .inr,rfl,fun c o e m=>y.keep c o e fun q=>m (x.mutOf e q),y.same⟩
section
variable{w:World}{h0:Heap}{s₀:Shared}{W₀ W₁:Wd}{env:Env}{nm:Nm}{ρ:aE}{fp:Nat->List Addr}{W:Wd}{H:List T}{Pr:List (Addr×Obj)}{s s₁:Shared}
theorem SInv.up(I:SInv w h0 s₀ W₀ env nm ρ fp W H Pr s)(a:W₀.Le W₁)(b:W₁.Le W):SInv w h0 s₀ W₁ env nm ρ fp W H Pr s:={I with st:=I.st.up a b}
theorem SInv.back(I:SInv w h0 s₀ W₁ env nm ρ fp W H Pr s)(x:Stp W₀ s₀ W₁ s₁):SInv w h0 s₀ W₀ env nm ρ fp W H Pr s:={I with st:=x.back I.st}
end
section
variable{w:World}{h0:Heap}{C:Nat->List T->M LV}{n:Nat}
theorem wh{it:It}{b:List S}{g av:Expr}{b':List Stmt}{pos:Pos}{f:T->aE->M Fl}{A:Around}{env:Env}{nm:Nm}{ρ:aE}{fp:Nat->List Addr}{W:Wd}{H H':List T}{s s₀:Shared}{W₀:Wd}{Pr:List (Addr×Obj)}{fl:Fl}{ts:List T}{H1:List T}
  (hit:SI w h0 C n it) (hb:SBk w h0 C n b) (pg:aV g=true) (mg:mI env.scope.names nm it g=true) (mb:mB env.scope.names nm b b'=true) (cx:Cx n A env)
  (a7:∀(W₀:Wd) (t:T) (ρ:aE) (fp:Nat->List Addr) (W:Wd) (H H2:List T) (s:Shared) (Pr:List (Addr×Obj)) (fl:Fl) (v:Value),f t ρ H=some (fl,H2)->SInv w h0 s₀ W₀ env nm ρ fp W H Pr s->Rep w W t v->
   wpAny (model pw w) A (assign av env v) (fun _ s'=>∃J aa,SInv w h0 s₀ W₀ env nm J aa W H Pr s'/\evB C J b H=some (fl,H2)) Nev s)
  (I:SInv w h0 s₀ W₀ env nm ρ fp W H Pr s) (e1:evI C ρ it H=some (ts,H1)) (e2:kZ f ts ρ H1=some (fl,H')):
  wpAny (model pw w) A (exec (.For av g b' [] pos) env) (hE w h0 s₀ W₀ env nm Pr H' fl) Nev s:=by
 refine wpAny_For (wpAny_mono (hit g A env nm ρ fp W H s ts H1 mg cx I.vs I.fit e1) (fun xv s₁ F=>wpAny_mono F (fun bo ay a2=>?_) fun _ _ z=>z) fun _ _ z=>z) (f5 pg)
 obtain⟨bp,d,au,bc,⟨a,fI,nI,P,St,rfl,ag,rfl,ai,bi,hI,a8,be⟩,bk⟩:=a2
 have sI:s.heap.get? a=none:=bk a rfl
 have n0:s₀.heap.get? a=none:=cB I.st sI (I.fit.not_has sI)
 have a6:∀q∈Pr,q.1≠a:=fun q hq e=>by
  have:=(I.pr q hq).1
  rw[e,sI]at this;exact(nos this).elim
 refine xEA (a8 _ _ ai) fun oI aI _=>?_
 have IW:=I.stp au bc
 haveI bb:SInv w h0 s₀ d env nm ρ fp d H1 ((a,oI)::Pr) ay:=(IW.hold aI hI (I.foot_ne sI)).up IW.st.le (.refl d)
 refine codeAny_forLoop_any (fun k s'=>∃j ρ fp W' H2 o,k=ts.length-j/\j<=ts.length/\SInv w h0 s₀ d env nm ρ fp W' H2 ((a,o)::Pr) s'/\St j s'.heap/\kZ f (ts.drop j) ρ H2=some (fl,H')) ?_ ts.length
  ⟨0,ρ,fp,d,H1,oI,rfl,Nat.zero_le _,bb,ai,e2⟩
 intro k s' am;refine uR am fun j ρ fp W' H2 o a4 hj I' st ao=>?_;obtain rfl:=a4
 have le:=I'.st.le
 haveI am:=I'.pr _ (.head _);haveI br:=am.1;haveI bg:=am.2.1;haveI bf:=am.2.2
 by_cases af:j<ts.length
 ·refine ag.item j _ _ _ af st fun v F ah hP ae aj=>?_
  haveI Z:∀b o,b≠a->s'.heap.get? b=some o->F.get? b=some o:=fun b o nb e=>aj b o (by simpa using nb) e
  have ap:SInv w h0 s₀ d env nm ρ fp W' H2 Pr {s' with heap:=F,toks:=ah}:=I'.change n0 a6 Z
  refine xE (a8 _ _ ae) fun ad an=>?_;haveI ac:=an.1;haveI a0:=an.2
  haveI ba:=ap.hold (p:=(a,ad)) ac bg bf
  haveI hd:ts.drop j=ts[j]::ts.drop (j+1):=List.drop_eq_getElem_cons af
  rw[hd]at ao
  refine aB ao fun ab H3 bm aq=>?_
  refine vr ac a0 ?_
  refine qi (wpAny_mono (a7 d ts[j] ρ fp W' H2 H3 _ _ ab v bm ba (Rep.mono le _ (be j v _ hP (List.getElem?_eq_getElem af)))) (fun _ ax a1=>?_) fun _ _ z=>z)
  obtain⟨J,aa,a9,bl⟩:=a1
  haveI az:∀{sx:Shared} {Wx:Wd} {bd:aE} {bj:Nat->List Addr} {Hx:List T},SInv w h0 s₀ d env nm bd bj Wx Hx ((a,ad)::Pr) sx->St (j+1) sx.heap   :=fun Ix=>ag.frame _ _ _ ae fun b hb o e=>by
   rcases bi b hb with h|h
   ·rw[h]at e⊢
    rw[ac]at e;obtain rfl:=Option.some.inj e
    exact(Ix.pr _ (.head _)).1
   ·refine(Option.isSome_iff_exists.mp h).elim fun o' a3=>?_
    haveI h1:=ap.fit.fz b o' (le.fz _ _ a3)
    rw[h1]at e;obtain rfl:=Option.some.inj e
    exact Ix.fit.fz b _ (Ix.st.le.fz _ _ a3)
  refine qi (wpAny_mono (hb b' A env nm J aa W' H2 ax s₀ d _ ab H3 mb cx a9 bl) (fun bq aw ak=>?_) fun _ _ z=>z)
  cases ab with
  |nxt Y=>
   refine HG ak fun al L y O=>?_;obtain rfl:=al
   exact⟨ts.length-(j+1),by lia,j+1,Y,y,L,H3,ad,rfl,af,O,az O,aq⟩
  |cnt Y=>
   refine HG ak fun al L y O=>?_;obtain rfl:=al
   exact⟨ts.length-(j+1),by lia,j+1,Y,y,L,H3,ad,rfl,af,O,az O,aq⟩
  |ret lv=>
   refine GV ak fun v a5 L y an=>?_;obtain rfl:=a5;haveI ar:=an.1;haveI r:=an.2
   exact aM (P:=fun fl H'=>hE w h0 s₀ W₀ env nm Pr H' fl (.ret v) aw) aq ⟨v,rfl,L,y,IW.st.back ar,r⟩
 ·have bh:j=ts.length:=Nat.le_antisymm (hj) (Nat.not_lt.mp af)
  subst bh
  rw[List.drop_length]at ao
  refine ag.done _ _ _ st fun F ah aj=>?_
  haveI Z:∀b o,b≠a->s'.heap.get? b=some o->F.get? b=some o:=fun b o nb e=>aj b o (by simpa using nb) e
  exact wpAny_execs_nil (aM (P:=fun fl H'=>hE w h0 s₀ W₀ env nm Pr H' fl .next _) ao ⟨rfl,W',fp,(I'.change n0 a6 Z).back IW.st⟩)
theorem EZ{i:Nat}{it:It}{b:List S}(hit:SI w h0 C n it)(hb:SBk w h0 C n b):SS w h0 C n (.for1 i it b):=by
 intro st A env nm ρ fp W H s s₀ W₀ Pr fl H' Z q I he
 refine wZ Z fun t g b' z m1=>?_
 refine cT m1 fun J F L O=>?_
 refine aT J fun y py Y hd=>?_
 refine aB he fun ts H1 e1 d=>?_
 refine wh (f:=fun t ρ=>evB C (upd ρ i (.fr t)) b) hit hb F L O q (fun W₀ t ρ fp W H H2 s Pr fl v ev I r=>?_) I e1 d
 exact wpAny_assign_Name (I.put q.kind Y (lv:=.fr t) ⟨r,rfl⟩ .nil (fun _ h=>(List.not_mem_nil h).elim) (fun _ _ h=>(List.not_mem_nil h).elim) fun s' I'=>⟨_,_,I',ev⟩)
theorem EY{i j:Nat}{it:It}{b:List S}(hit:SI w h0 C n it)(hb:SBk w h0 C n b):SS w h0 C n (.for2 i j it b):=by
 intro st A env nm ρ fp W H s s₀ W₀ Pr fl H' hm O I he
 refine wZ hm fun t g b' Y m1=>?_
 refine s5 m1 fun t1 t2 c p m2=>?_
 refine aY m2 fun m2 mg mb=>?_
 refine cT m2 fun q d aa Z=>?_
 refine aT q fun y py hy hd=>?_
 refine aT d fun z pz hz ab=>?_
 refine aB he fun ts H1 e1 F=>?_
 refine wh (f:=fun t ρ=>opt ((tOf t).bind two) fun p=>evB C (upd (upd ρ i (.fr p.1)) j (.fr p.2)) b) hit hb Z mg mb O (fun W₀ t ρ fp W H H2 s Pr fl v L I r=>?_) I e1 F
 refine aN L fun p2 e2 L=>?_
 haveI ht:t=.tup [p2.1,p2.2]:=bD e2 fun l e3 e4=>by rw[HM e3];exact xj (Q:=fun l=>T.tup l=.tup [p2.1,p2.2]) e4 rfl
 exact rF O hy hz I (.inl ht) r fun J s' I'=>⟨_,J,I',L⟩
end
end Internal
end
section
set_option tactic.hygienic false
open PySem PySem.W PyProof.Rows
namespace Internal
section
variable{w:World}{h0:Heap}{C:Nat->List T->M LV}{n:Nat}
theorem Ao{i:Nat}:SS w h0 C n (.freeze i):=fun st A y F z L W H s d q Z O H' r Y I J=>(aH r).elim
theorem Cs:SBk w h0 C n []:=by
 intro r A y J ρ Y W H s d q Z z F L cx I O
 cases r with
 |nil=>exact wpAny_execs_nil (aM (P:=fun z F=>hE w h0 d q y J Z F z .next s) O ⟨rfl,W,Y,I⟩)
 |cons=>exact(aH L).elim
theorem Fy {d:Nms} {y:Nm} {x:S} {r:List S} {q:List Stmt} (hs:x≠ .stuck) (F: ¬ ∃i,x= .freeze i) (z:mB d y (x::r) q=true): ∃st l,q=st::l/\mS d y x st=true/\mB d y r l=true:=by
 cases q with
 |nil=>cases x<;>first|exact(aH z).elim|exact absurd rfl hs|exact absurd ⟨_,rfl⟩ F
 |cons st l=>
  haveI h:(mS d y x st&&mB d y r l)=true:=by cases x<;>first|exact absurd rfl hs|exact absurd ⟨_,rfl⟩ F|exact z
  exact⟨st,l,rfl,Bool.and_eq_true_iff.mp h⟩
theorem zB {x:S} {r:List S} (hx:SS w h0 C n x) (hr:SBk w h0 C n r):SBk w h0 C n (x::r):=by
 intro O A J nm ρ fp W H s d y Pr fl H' hm cx I he
 refine aB he fun f H1 e1 e2=> ?_
 by_cases hs:x= .stuck
 ·subst hs;exact(gj (h:=H) e1).elim
 by_cases hf: ∃i,x= .freeze i
 ·refine xE hf fun i ac=> ?_;obtain rfl:=ac
  have ad:mB J.scope.names nm r O=true:=by cases O<;>exact hm
  refine aN e1 fun t e5 e4=> ?_
  haveI e6:f= .nxt (upd ρ i (.fr t))/\H1=H:=aM (P:=fun f H1=>f= .nxt (upd ρ i (.fr t))/\H1=H) e4 ⟨rfl,rfl⟩
  obtain⟨rfl,rfl⟩:=e6
  obtain⟨W',I'⟩:=I.freeze e5
  exact hr O A J nm _ _ W' _ s d y Pr fl H' ad cx I' e2
 ·refine bT (Fy hs hf hm) fun st O ab m1 m2=> ?_;obtain rfl:=ab
  ·refine wpAny_execs_cons (wpAny_mono (hx st A J nm ρ fp W H s d y Pr f H1 m1 cx I e1) (fun ae L q=> ?_) fun _ _ z=>z)
   cases f with
   |nxt aa=>
    obtain⟨rfl,Y,F,Z⟩:=q
    exact hr O A J nm aa F Y H1 L d y Pr fl H' m2 cx Z e2
   |cnt aa=>
    obtain⟨rfl,Y,F,Z⟩:=q
    exact aM (P:=fun fl H'=>hE w h0 d y J nm Pr H' fl .cont L) e2 ⟨rfl,Y,F,Z⟩
   |ret lv=>
    obtain⟨v,rfl,q⟩:=q
    exact aM (P:=fun fl H'=>hE w h0 d y J nm Pr H' fl (.ret v) L) e2 ⟨v,rfl,q⟩
theorem Pv(B:cR w h0)(K:il w h0 C n)(L:iX C):∀x:S,SS w h0 C n x:=by
 refine S.rec (motive_1:=fun x=>SS w h0 C n x) (motive_2:=fun b=>SBk w h0 C n b)
  (fun _ x=>HU (fe B K L x).val (fun j it r e _=>⟨Ew B K L it,fun c h=>((oK B K L r).2 c h).tst,(fe B K L e).val⟩) fun j it k _=>Ew B K L it)
  (fun _ d=>EW (oK B K L d).1)
  (fun _=>EX B)
  (fun _=>Ch B)
  (fun _ a k=>An (fe B K L a).val (fe B K L k).val)
  (fun _ x=>tm B (fe B K L x).val)
  (fun _ _ it r e=>xt (Ew B K L it) (fun c h=>((oK B K L r).2 c h).tst) (fe B K L e).val)
  (fun _ d=>EV B (oK B K L d).1)
  (fun _ d=>xr (oK B K L d).1)
  (fun _ _ d=>E3 B K L (oK B K L d).1)
  (fun _=>Ao)
  (fun _ _ x=>xo (fe B K L x).val)
  (fun _ _ x=>HT (fe B K L x).val)
  (fun _ x=>Aq (fe B K L x).val)
  (fun _ x=>Ap (fe B K L x).val)
  (fun _=>xq)
  (fun _ k v=>Ce (fe B K L k).val (fe B K L v).val)
  (fun _ k x=>xw (fe B K L k).val (fe B K L x).val)
  (fun _ k _=>Cg (fe B K L k).val)
  (fun _ _ k v=>Ci (fe B K L k).val (fe B K L v).val)
  (fun _ _ d=>vc B fun x h=>((oK B K L d).2 x h).val)
  (fun _ _ x=>pS B (fe B K L x).val)
  (fun _=>Cf B)
  (fun _ _ x=>xu (fe B K L x).val)
  (fun c _ _ y q=>HR (fe B K L c) y q)
  (fun _ c _ q=>HP (fe B K L c) q)
  (fun _ it _ q=>EZ (Ew B K L it) q)
  (fun _ _ it _ q=>EY (Ew B K L it) q)
  (fun x=>HQ (fe B K L x).val)
  (fun _ c=>EU (fe B K L c))
  (fun x=>E0 (fe B K L x).val)
  (E1)
  (Cd)
  Cs fun _ _ a b=>zB a b
theorem Px(B:cR w h0)(K:il w h0 C n)(L:iX C)(b:List S):SBk w h0 C n b:=by
 induction b with
 |nil=>exact Cs
 |cons x r d=>exact zB (Pv B K L x) d
end
structure Jf(f:Nat)(d:FnD)(fd:FuncData):Prop where
 body:∃sts,fd.body=.stmts sts/\mB fd.scope.names (cX f) d.body sts=true
 p1:fd.params.posonlyargs=[]
 p2:fd.params.vararg=none
 p3:fd.params.kwonlyargs=[]
 p4:fd.params.kwarg=none
 args:argsOk fd.params.args (cX f)=true
 npar:fd.params.args.length=d.npar
 slots:(cX f).map (·.2)=List.range (cX f).length
 kind:fd.scope.kind=.function
 gen:fd.scope.isGenerator=false
 co:fd.scope.isCoroutine=false
 kinds:∀x∈cX f,fd.scope.names.lookup x.1=some .local\/fd.scope.names.lookup x.1=some .cell
 glob:fd.globals=mainNs
 blt:fd.builtins=builtinsNs
 clo:fd.closure=[]
theorem J7{f:Nat}{st:Stmt}{d:FnD}{P:Stmt->Prop}(W:tab f=some d)(h:mF f st=true)(H:∀name z r L sc y pos,mFb f d name z r sc y=true->P (.FunctionDef name z r [] L [] sc none y pos)):P st:=by
 unfold mF at h
 rw[W]at h
 exact cD h fun q h=>Stmt.FunctionDef.elim (motive_2:=fun st=>∀q:st.ctorIdx=0,Stmt.FunctionDef.elim (motive_2:=fun _=>Bool) st q (fun name z r O _ J sc F y _=>O.isEmpty&&J.isEmpty&&F.isNone&&mFb f d name z r sc y)=true->P st) st q
  (fun name z r O L J sc F y pos _ h=>cT h fun h1 Z Y h=>dy (P:=fun O=>P (.FunctionDef name z r O L J sc F y pos)) h1 (dy (P:=fun J=>P (.FunctionDef name z r [] L J sc F y pos)) Z (kY (P:=fun F=>P (.FunctionDef name z r [] L [] sc F y pos)) Y (H _ _ _ _ _ _ _ h)))) q h
theorem Km{f:Nat}{d:FnD}{dV pm:Value}{cd:Nat}{qn:Option Str}(Y:f<82)(W:tab f=some d):Jf f d (eF (bJ f) qn dV pm cd)/\(eF (bJ f) qn dV pm cd).defaults=dV/\(eF (bJ f) qn dV pm cd).code=.ref cd:=by
 refine J7 (P:=fun st=>Jf f d (eF st qn dV pm cd)/\(eF st qn dV pm cd).defaults=dV/\(eF st qn dV pm cd).code=.ref cd) W (mOf Y) fun F L H re sc J O h=>?_
 ·simp only[mFb,Bool.and_eq_true]at h
  refine xA h fun q r=>?_;refine xA q fun q _=>?_;obtain⟨⟨⟨⟨⟨⟨⟨⟨⟨⟨⟨⟨⟨⟨⟨_,_⟩,h1⟩,h2⟩,h3⟩,h4⟩,h5⟩,_⟩,h6⟩,h7⟩,h8⟩,Z⟩,z⟩,_⟩,_⟩,y⟩:=q
  refine⟨⟨⟨_,rfl,r⟩,List.isEmpty_iff.mp h1,Option.isNone_iff_eq_none.mp h2,List.isEmpty_iff.mp h3,Option.isNone_iff_eq_none.mp h4,h6,eq_of_beq h5,eq_of_beq h7,eq_of_beq h8,(Bool.not_eq_true' _).mp Z,(Bool.not_eq_true' _).mp z,fun x hx=>?_,rfl,rfl,rfl⟩,rfl,rfl⟩
  haveI:=List.all_eq_true.mp y x hx
  rw[Bool.or_eq_true,beq_iff_eq,beq_iff_eq]at this
  exact this
theorem lk:∀{z:List Arg}{d:Nm},argsOk z d=true->∀(i:Nat)(a:Arg),z[i]? =some a->∃k,d[i]? =some (a.arg,k):=by
 intro H
 induction H with
 |nil=>
  rintro _ _ i a h
  simp at h
 |cons b r J=>
  intro F
  cases F with
  |nil=>
   rintro h _ _ _
   exact(aH h).elim
  |cons q d=>
   obtain⟨x,k⟩:=q
   rintro h i a y
   refine(Bool.and_eq_true_iff.mp (show(b.arg==x&&argsOk r d)=true from h)).elim fun O L=>?_
   rw[<-eq_of_beq O]
   cases i with
   |zero=>simp at y;subst y;exact⟨k,rfl⟩
   |succ i=>simpa using J L i a (by simpa using y)
theorem mW:∀{z:List Arg}{d:Nm},argsOk z d=true->(d.map (·.1)).Nodup->(z.map (·.arg)).Nodup:=by
 intro O
 induction O with
 |nil=>
  rintro _ _ _
  exact List.nodup_nil
 |cons b r W=>
  intro H
  cases H with
  |nil=>
   rintro h _
   exact(aH h).elim
  |cons q d=>
   obtain⟨x,k⟩:=q
   rintro h F
   refine xA (Bool.and_eq_true_iff.mp (show(b.arg==x&&argsOk r d)=true from h)) fun h1 y=>?_
   obtain rfl:=eq_of_beq h1
   obtain⟨L,J⟩:=List.nodup_cons.mp F
   rw[List.map_cons,List.nodup_cons]
   refine⟨fun Y=>L ?_,W y J⟩
   refine xEA (List.mem_map.mp Y) fun a ha e=>?_
   refine xE (List.mem_iff_getElem?.mp ha) fun i hi=>?_
   refine(lk y i a hi).elim fun k' Z=>?_
   exact List.mem_map.mpr ⟨_,List.mem_of_getElem? Z,e⟩
theorem oB:(List.range 82).all (fun f=>decide ((cX f).map (·.1)).Nodup)=true:=by kernel_rfl
theorem pT{d:Nm}(hs:d.map (·.2)=List.range d.length){x:Str}{i:Nat}(h:d.lookup x=some i):d[i]? =some (x,i):=by
 haveI y:=dx h
 refine(List.mem_iff_getElem?.mp y).elim fun j q=>?_
 have r:(d.map (·.2))[j]? =some i:=by rw[List.getElem?_map,q];rfl
 rw[hs,List.getElem?_range (List.getElem?_eq_some_iff.mp q).1]at r
 obtain rfl:=Option.some.inj r
 exact q
theorem y0{k:Str->Option NameKind}:∀{q:List (Str×Value)}{m:Str->Option Value}{x:Str},x∉q.map (·.1)->bindL k q m x=m x:=by
 intro z
 induction z with
 |nil=>
  rintro _ _ _
  exact rfl
 |cons d r F=>
  haveI y:=d.1;haveI v:=d.2
  rintro m x h
  rw[List.map_cons,List.mem_cons,not_or]at h
  unfold bindL
  rw[F h.2]
  split
  ·exact if_neg h.1
  ·rfl
theorem Eg{k:Str->Option NameKind}{x:Str}{v:Value}(O:k x=some .local):∀{q:List (Str×Value)}{m:Str->Option Value},(q.map (·.1)).Nodup->(x,v)∈q->bindL k q m x=some v:=by
 intro J
 induction J with
 |nil=>
  rintro _ _ h
  exact(List.not_mem_nil h).elim
 |cons d r L=>
  haveI y:=d.1;haveI u:=d.2
  rintro m z h
  refine(List.nodup_cons.mp z).elim fun H F=>?_
  unfold bindL
  rcases List.mem_cons.mp h with e|h
  ·cases e
   rw[y0 H,if_pos O]
   exact if_pos rfl
  ·exact L F h
theorem y3{k:Str->Option NameKind}:∀{q:List (Str×Value)}{m:Str->Option Value}{x:Str},x∉q.map (·.1)->bindC k q m x=m x:=by
 intro z
 induction z with
 |nil=>
  rintro _ _ _
  exact rfl
 |cons d r F=>
  haveI y:=d.1;haveI v:=d.2
  rintro m x h
  rw[List.map_cons,List.mem_cons,not_or]at h
  unfold bindC
  rw[F h.2]
  split
  ·rfl
  ·exact if_neg h.1
theorem Eh{k:Str->Option NameKind}{x:Str}{v:Value}(O:k x≠some .local):∀{q:List (Str×Value)}{m:Str->Option Value},(q.map (·.1)).Nodup->(x,v)∈q->bindC k q m x=some v:=by
 intro J
 induction J with
 |nil=>
  rintro _ _ h
  exact(List.not_mem_nil h).elim
 |cons d r L=>
  haveI y:=d.1;haveI u:=d.2
  rintro m z h
  refine(List.nodup_cons.mp z).elim fun H F=>?_
  unfold bindC
  rcases List.mem_cons.mp h with e|h
  ·cases e
   rw[y3 H,if_neg O]
   exact if_pos rfl
  ·exact L F h
section
variable{w:World}{s:Shared}
theorem GE{a pm:Nat}{pm':Value}{cd n:Nat}{u v x:Value}(d:s.heap.get? a=some (seqObj "tuple" #[.bool false,.bool true] n)):
  BindsTo s (eF (bJ 32) none (.ref a) pm' cd) ⟨[u],[]⟩ (((eF (bJ 32) none (.ref a) pm' cd).params.args.map (·.arg)).zip [u,.bool false,.bool true])/\
  BindsTo s (eF (bJ 32) none (.ref a) pm' cd) ⟨[u,v],[]⟩ (((eF (bJ 32) none (.ref a) pm' cd).params.args.map (·.arg)).zip [u,v,.bool true])/\
  BindsTo s (eF (bJ 32) none (.ref a) pm' cd) ⟨[u,v,x],[]⟩ (((eF (bJ 32) none (.ref a) pm' cd).params.args.map (·.arg)).zip [u,v,x]):=
 ⟨BindsTo.of_defaults (T:=a) rfl d rfl rfl (by kernel_rfl),BindsTo.of_defaults (T:=a) rfl d rfl rfl (by kernel_rfl),BindsTo.of_defaults (T:=a) rfl d rfl rfl (by kernel_rfl)⟩
theorem GD{a:Nat}{pm':Value}{cd n:Nat}{u1 u2 u3 u4 u5 u6 u7:Value}(d:s.heap.get? a=some (seqObj "tuple" #[.bool true] n)):
  BindsTo s (eF (bJ 69) none (.ref a) pm' cd) ⟨[u1,u2,u3,u4,u5,u6],[]⟩ (((eF (bJ 69) none (.ref a) pm' cd).params.args.map (·.arg)).zip [u1,u2,u3,u4,u5,u6,.bool true])/\
  BindsTo s (eF (bJ 69) none (.ref a) pm' cd) ⟨[u1,u2,u3,u4,u5,u6,u7],[]⟩ (((eF (bJ 69) none (.ref a) pm' cd).params.args.map (·.arg)).zip [u1,u2,u3,u4,u5,u6,u7]):=
 ⟨BindsTo.of_defaults (T:=a) rfl d rfl rfl (by kernel_rfl),BindsTo.of_defaults (T:=a) rfl d rfl rfl (by kernel_rfl)⟩
end
theorem uQ{α:Type}:∀{N:List Str}{vs:List α},vs.length=N.length->(N.zip vs).map (·.1)=N:=by
 intro y
 induction y with
 |nil=>
  intro d
  cases d with
  |nil=>
   rintro _
   exact rfl
  |cons r q=>
   rintro h
   exact Nat.noConfusion h
 |cons n N z=>
  intro d
  cases d with
  |nil=>
   rintro h
   exact Nat.noConfusion h
  |cons v vs=>
   rintro h
   rw[List.zip_cons_cons,List.map_cons,z (by simpa using h)]
@[elab_as_elim] theorem eo {α:Type} {P:List α->Prop} {n:Nat}: ∀{l:List α},l.length=n+1->(∀a r,r.length=n->P (a::r))->P l:=by
 intro d
 cases d with
 |nil=>
  rintro h _
  exact Nat.noConfusion h
 |cons a r=>
  rintro h k
  exact k a r (Nat.succ.inj h)
@[elab_as_elim]theorem ju{α:Type}{P:List α->Prop}:∀{l:List α},l.length=0->P []->P l:=by
 intro d
 cases d with
 |nil=>
  rintro _ k
  exact k
 |cons a r=>
  rintro h _
  exact Nat.noConfusion h
section
variable{w:World}{h0:Heap}{s:Shared}
@[elab_as_elim]
theorem yc{k:Nat}{P:Nat->Prop}(h:k<2)(a:P 0)(b:P 1):P k:=by
 rcases Nat.lt_succ_iff_lt_or_eq.mp h with h|rfl
 ·obtain rfl:=Nat.lt_one_iff.mp h;exact a
 ·exact b
@[elab_as_elim]
theorem C4{k:Nat}{P:Nat->Prop}(h:k<3)(a:P 0)(b:P 1)(c:P 2):P k:=by
 rcases Nat.lt_succ_iff_lt_or_eq.mp h with h|rfl
 ·exact yc h a b
 ·exact c
theorem GG{a n:Nat}{pm':Value}{cd:Nat}(q:s.heap.get? a=some (seqObj "tuple" #[.bool false,.bool true] n)){d:List Value}{k:Nat}(h:d.length=k+1)(y:k<3):
  BindsTo s (eF (bJ 32) none (.ref a) pm' cd) ⟨d,[]⟩ (((eF (bJ 32) none (.ref a) pm' cd).params.args.map (·.arg)).zip (d++[.bool false,.bool true].drop k)):=by
 haveI b:=fun u v x=>GE (s:=s) (pm:=0) (pm':=pm') (cd:=cd) (u:=u) (v:=v) (x:=x) q
 revert h
 refine C4 y (fun h=>?_) (fun h=>?_) fun h=>?_
 ·exact eo h fun u r h=>ju h (b u .none .none).1
 ·exact eo h fun u r h=>eo h fun v r h=>ju h (b u v .none).2.1
 ·exact eo h fun u r h=>eo h fun v r h=>eo h fun x r h=>ju h (b u v x).2.2
theorem GF{a n:Nat}{pm':Value}{cd:Nat}(O:s.heap.get? a=some (seqObj "tuple" #[.bool true] n)){d:List Value}{k:Nat}(h:d.length=k+6)(W:k<2):
  BindsTo s (eF (bJ 69) none (.ref a) pm' cd) ⟨d,[]⟩ (((eF (bJ 69) none (.ref a) pm' cd).params.args.map (·.arg)).zip (d++[.bool true].drop k)):=by
 haveI b:=fun J H F z y q L=>GD (s:=s) (pm':=pm') (cd:=cd) (u1:=J) (u2:=H) (u3:=F) (u4:=z) (u5:=y) (u6:=q) (u7:=L) O
 refine eo h fun J r h=>eo h fun H r h=>eo h fun F r h=>eo h fun z r h=>eo h fun y r h=>eo h fun q r h=>?_
 revert h
 refine yc W (fun h=>?_) fun h=>?_
 ·exact ju h (b J H F z y q .none).1
 ·exact eo h fun L r h=>ju h (b J H F z y q L).2
theorem zF{d:Nat}{q ts:List T}(h:(pad d q ts).length=d)(r:q.length<=d):∃k,k<=q.length/\ts.length=k+(d-q.length)/\pad d q ts=ts++q.drop k:=by
 unfold pad at h⊢
 rw[List.length_append,List.length_drop]at h
 exact⟨q.length+ts.length-d,by omega,by omega,rfl⟩
theorem Ef(B:cR w h0)(k0:∀a o,h0.get? a=some o->s.heap.get? a=some o){f:Nat}(hf:f<82){d:FnD}(F:tab f=some d){dV pm:Value}{cd:Nat}{W:Wd}{ts:List T}{r:List Value}
  (hd:(tab f).map (·.dflt)=some []/\dV=.none\/∃z a n,(tab f).map (·.dflt)=some z/\z≠[]/\dV=.ref a/\h0.get? a=some (seqObj "tuple" (z.map GW).toArray n)) (y:Reps w W ts r) (O:(pad d.npar d.dflt ts).length=d.npar):
  ∃q,BindsTo s (eF (bJ f) none dV pm cd) ⟨r,[]⟩ (((eF (bJ f) none dV pm cd).params.args.map (·.arg)).zip q)/\Reps w W (pad d.npar d.dflt ts) q:=by
 refine xAA (Km (dV:=dV) (pm:=pm) (cd:=cd) (qn:=none) hf F) fun ok aa _=>?_
 by_cases L:f=32
 ·subst L
  obtain rfl:=Option.some.inj F
  rcases hd with⟨e,_⟩|⟨z,a,n,e,_,rfl,Y⟩
  ·exact nomatch e
  obtain rfl:=Option.some.inj e
  refine nc (zF O (by decide)) fun k H hl e=>?_
  rw[e]
  refine⟨_,GG (k0 _ _ Y) (y.length.trans hl) (Nat.lt_succ_of_le H),Reps.append y ?_⟩
  exact C4 (Nat.lt_succ_of_le H) ⟨_,_,rfl,rfl,_,_,rfl,rfl,rfl⟩ ⟨_,_,rfl,rfl,rfl⟩ rfl
 by_cases J:f=69
 ·subst J
  obtain rfl:=Option.some.inj F
  rcases hd with⟨e,_⟩|⟨z,a,n,e,_,rfl,Y⟩
  ·exact nomatch e
  obtain rfl:=Option.some.inj e
  refine nc (zF O (by decide)) fun k H hl e=>?_
  rw[e]
  refine⟨_,GF (k0 _ _ Y) (y.length.trans hl) (Nat.lt_succ_of_le H),Reps.append y ?_⟩
  exact yc (Nat.lt_succ_of_le H) ⟨_,_,rfl,rfl,rfl⟩ rfl
 have hn:d.dflt=[]:=by
  have Z:(List.range 82).all (fun f=>f==32||f==69||(tab f).all (·.dflt.isEmpty))=true:=by decide
  haveI:=List.all_eq_true.mp Z f (List.mem_range.mpr hf)
  rw[F]at this
  simpa [L,J]using this
 haveI e:pad d.npar d.dflt ts=ts:=by rw[hn];simp[pad]
 rw[e]at O⊢
 refine⟨r,BindsTo.of_eq (wP ok.p1 ok.p2 ok.p3 ok.p4 ?_ (mW ok.args ?_) (by rw[y.length,O,ok.npar])),y⟩
 ·rw[aa]
  rcases hd with⟨_,e⟩|⟨z,a,n,e,ne,rfl,Y⟩
  ·exact e
  ·rw[F]at e
   obtain rfl:=Option.some.inj e
   exact absurd hn ne
 ·exact of_decide_eq_true (List.all_eq_true.mp oB f (List.mem_range.mpr hf))
end
theorem B8{f:Nat}{d:FnD}(h:tab f=some d):f<82:=(List.getElem?_eq_some_iff.mp h).1
theorem ya{α:Type}{N:List Str}{vs:List α}{i:Nat}{x:Str}{v:α}(h:N[i]? =some x)(h':vs[i]? =some v):(x,v)∈N.zip vs:=
 List.mem_of_getElem? (List.getElem?_zip_eq_some.mpr ⟨h,h'⟩)
section
variable{w:World}{h0:Heap}{W:Wd}{H:List T}{s s₁:Shared}{f a:Nat}{d:FnD}{fd:FuncData}{as:List T}{vals:List Value}
theorem Ag(F:Fit w h0 W H s.heap)(ok:Jf f d fd)(hf:f<82)(ha:as.length=d.npar)(rs:Reps w W as vals)
  (x:InCallC s (callEnvC fd s.heap.objs.size a).locals (bindL (callEnvC fd s.heap.objs.size a).kindOf ((fd.params.args.map (·.arg)).zip vals) fun _=>none) (callEnvC fd s.heap.objs.size a).cells
   (bindC (callEnvC fd s.heap.objs.size a).kindOf ((fd.params.args.map (·.arg)).zip vals) fun _=>none) s₁):
  Vst w (callEnvC fd s.heap.objs.size a) (cX f) (aS as) (fun _=>[]) W s₁.heap:=by
 haveI nL:¬W.has s.heap.objs.size:=F.not_has aX
 haveI O:vals.length=(fd.params.args.map (·.arg)).length:=by rw[rs.length,ha,List.length_map,ok.npar]
 have nd:((((fd.params.args.map (·.arg)).zip vals)).map (·.1)).Nodup:=by
  rw[uQ O]
  exact mW ok.args (of_decide_eq_true (List.all_eq_true.mp oB f (List.mem_range.mpr hf)))
 have Z:∀x,(callEnvC fd s.heap.objs.size a).kindOf x=some .cell->∃c,(callEnvC fd s.heap.objs.size a).cells.lookup x=some c:=fun x hx=>hY _ _ _ (dx hx)
 refine⟨⟨_,x.toInCall.ns⟩,nL,fun y c Y=>⟨⟨_,x.cell y c Y⟩,fun m=>?_⟩,fun y z c h1 h2=>name_of_addr x.apart (mem_of_lookup h1) (mem_of_lookup h2),Z,fun y i hy=>⟨ok.kinds (y,i) (dx hy),?_⟩,fun _ _ _ _ h=>((List.not_mem_nil h).elim),fun _ _ _ _ _ _ _ h=>(nomatch h),fun y z i h1 h2=>?_⟩
 ·refine(F.alive m).elim fun o ho=>?_
  exact Nat.lt_asymm (Heap.lt_size ho) (x.above y c (mem_of_lookup Y))
 ·cases hi:as[i]? with
  |none=>exact .inl ⟨by simp only[aS,hi],rfl⟩
  |some t=>
   right
   refine xEA (rs.get hi) fun v hv rv=>?_
   have L:i<fd.params.args.length:=by haveI:=(List.getElem?_eq_some_iff.mp hi).1;rw[ok.npar];exact tln this (eln ha)
   refine(lk ok.args i fd.params.args[i] (List.getElem?_eq_getElem L)).elim fun k hk=>?_
   haveI J:=pT ok.slots hy
   rw[hk]at J
   have hm:(y,v)∈(fd.params.args.map (·.arg)).zip vals:=ya (i:=i) (by rw[List.getElem?_map,List.getElem?_eq_getElem L];simpa using(Prod.mk.inj (Option.some.inj J)).1) hv
   refine⟨v,?_,by simp only[aS,hi];exact⟨rv,rfl⟩⟩
   rcases ok.kinds (y,i) (dx hy)with r|r
   ·exact .inl ⟨r,_,x.toInCall.ns,Eg r nd hm⟩
   ·refine(Z y r).elim fun c Y=>?_
    refine .inr ⟨r,c,Y,?_⟩
    haveI:=x.cell y c Y
    rw[Eh (show(callEnvC fd s.heap.objs.size a).kindOf y≠some .local from fun q=>by rw[show(callEnvC fd s.heap.objs.size a).kindOf y=some .cell from r]at q;exact nomatch q) nd hm]at this
    exact this
 ·haveI q1:=pT ok.slots h1
  haveI q2:=pT ok.slots h2
  rw[q1]at q2
  exact(Prod.mk.inj (Option.some.inj q2)).1
end
theorem Gz:∀k,iX (aA tab k):=by
 intro q
 cases q with
 |zero=>
  rintro _ _ _ _ h
  exact((nos h).elim)
 |succ k=>
  rintro f z H r h
  refine aN (show opt (tab f) _ H=some r from h) fun d y _=>B8 y
theorem Gy{w:World}{h0:Heap}(B:cR w h0):∀k,il w h0 (aA tab k) k:=by
 intro m_
 induction m_ with
 |zero=>
  exact fun f A W H s ts vals lv H' ao F rs he=>((nos he).elim)
 |succ k ih=>
  exact fun f A W H s ts vals lv H' ao F rs he=>by
   refine aN (show opt (tab f) _ H=_ from he) fun d ht he=>?_
   have hf:=B8 ht
   refine dZ he fun hp he=>?_
   have hp:=of_decide_eq_true hp
   refine aB he fun fl H1 e1 e2=>?_
   refine BF (B.fn f hf) fun o dV pm cd ho hd af ap=>?_
   refine xAA (Km (dV:=dV) (pm:=pm) (cd:=cd) (qn:=none) hf ht) fun ok _ q=>?_
   refine xEA (Ef B F.base hf ht ap (pm:=pm) (cd:=cd) rs hp) fun ab hb ad=>?_
   refine xEA ok.body fun al J mb=>?_
   generalize eF (bJ f) none dV pm cd=fd at ok hb hd af J mb q
   haveI ae:ab.length=(fd.params.args.map (·.arg)).length:=by rw[ad.length,hp,List.length_map,ok.npar]
   haveI aw:=ao.dp
   haveI av:=ao.un
   refine wpAny_call (codeAny_call_function (by lia) (F.base _ _ ho) hd ok.co ok.gen J (q.symm▸af.keeps F.base) (hb _ _ _ _ ?_))
   rw[ok.clo]
   refine wpAny_newFunctionEnv_cells ok.kind (fun x hx=>?_) fun ay an s₁ x=>?_
   ·haveI am:x.1∈fd.params.args.map (·.arg):=by rw[<-uQ ae];exact List.mem_map.mpr ⟨x,hx,rfl⟩
    refine xE (List.mem_map.mp am) fun b L=>?_;haveI aq:=L.1;haveI e:=L.2
    refine xE (List.mem_iff_getElem?.mp aq) fun i hi=>?_
    refine(lk ok.args i b hi).elim fun j hj=>?_
    haveI:=ok.kinds _ (List.mem_of_getElem? hj)
    rw[e]at this
    refine this.imp id fun h=>⟨h,?_⟩
    refine(hY fd.scope.names (s.heap.objs.size+1) x.1 (dx h)).elim fun c hc=>?_
    rw[hc];rfl
   ·subst an
    refine⟨B.lim.keeps fun b o e=>x.toInCall.keep b o (F.base b o e),codeAny_func ?_⟩
    haveI V:=Ag (a:=dB f) F ok hf hp ad x
    have ac:Stp W s W s₁:=by
     refine m8 x.done fun h' tk ag k=>?_;obtain rfl:=ag
     exact Stp.of_keep k
    haveI I:SInv w h0 s W (callEnvC fd s.heap.objs.size (dB f)) (cX f) (aS (pad d.npar d.dflt ts)) (fun _=>[]) W H [] s₁:=by
     refine⟨ac,by refine xEE x.done fun h' tk L=>?_;obtain rfl:=L.1;haveI k:=L.2;exact F.keep k,V,fun b fb=>?_,F.base,fun _ h=>(List.not_mem_nil h).elim⟩
     rcases fb with rfl|⟨y,hy⟩|⟨_,_,_,hb⟩
     ·exact aX
     ·haveI:=x.above y b (mem_of_lookup hy)
      exact Heap.get?_none_of_le (Nat.le_of_lt this)
     ·cases hb
    haveI cx:Cx k (A.deeper (callEnvC fd s.heap.objs.size (dB f))) (callEnvC fd s.heap.objs.size (dB f)):=⟨⟨ao.hd,by show A.depth+1+k+20<=_;lia,by show A.units+3+10*k+200<_;lia⟩,ok.kind,ok.glob,ok.blt⟩
    refine qi (wpAny_mono (Px B (ih) (Gz k) d.body al _ _ (cX f) _ _ W H s₁ s W [] fl H1 mb cx I e1) (fun ax ar Z=>?_) fun _ _ z=>z)
    cases fl with
    |nxt ak=>
     refine HG Z fun ai Y O aa=>?_;obtain rfl:=ai
     obtain⟨rfl,rfl⟩:=Prod.mk.inj (Option.some.inj e2)
     exact⟨hf,Y,[],aa.st,aa.fit,⟨rfl,rfl⟩,fun _ h=>(List.not_mem_nil h).elim⟩
    |cnt ak=>exact(gj (h:=H1) e2).elim
    |ret au=>
     refine GV Z fun v ah Y O r=>?_;obtain rfl:=ah
     haveI aj:=Prod.mk.inj (Option.some.inj e2);rw[<-aj.1];rw[<-aj.2]
     exact⟨hf,Y,O,r⟩
end Internal
end
section
open PySem PySem.W PyProof.Rows
namespace Internal
set_option backward.match.sparseCases true in
noncomputable def dEs(o:Obj):Array DictEntry:=match o.data with
 |.dict es _=>es
 |_=> #[]
set_option backward.match.sparseCases true in
noncomputable def iZ(o:Obj):Bool:=match o.data with
 |.dict es _=>es.all fun e=>match e.key with
  |.str _ _=>true
  |_=>false
 |_=>false
set_option backward.match.sparseCases true in
noncomputable def nsG(o:Obj)(x:Str):Option Value:=nsFind (dEs o) x
theorem CT{h:Heap}{a:Addr}{o:Obj}(e:h.get? a=some o)(k:iZ o=true):h.Ns a (nsG o):=by
 unfold iZ at k
 cases d:o.data<;>rw[d]at k<;>first|exact(aH k).elim|skip
 rename_i es ep
 refine⟨o,es,ep,e,d,fun e r=>?_,fun x=>by unfold nsG dEs;rw[d]⟩
 have:=Array.all_eq_true_iff_forall_mem.mp k e r
 cases q:e.key<;>rw[q]at this<;>first|exact(aH this).elim|exact⟨_,_,rfl⟩
theorem ES{ov:Option Value}{q:Str}(h:JE ov=some q):∃tk,ov=some (.str q tk):=by
 cases ov with
 |none=>exact(nos h).elim
 |some v=>cases v<;>first|exact(nos h).elim|exact⟨_,by rw[Option.some.inj h]⟩
theorem rc{h:Heap}{c:Nat}{q:Str}(x:∃o,h.get? c=some o/\z4 o=some q):h.CodeRec (.ref c) q:=by
 refine xEA x fun o z d=>?_
 unfold z4 at d
 cases r:o.data<;>rw[r]at d<;>first|exact(nos d).elim|skip
 rename_i vs
 refine xE (ES d) fun y e=>?_
 refine⟨c,o,vs,y,rfl,z,r,?_⟩
 rw[<-Array.getElem?_toList];exact e
theorem vS{α:Type}:∀{l:List (Nat×α)}{y:Nat}{k:α},l.lookup y=some k->(y,k)∈l:=by
 intro z
 induction z with
 |nil=>
  rintro _ _ h
  exact(nos h).elim
 |cons d r F=>
  obtain⟨a,b⟩:=d
  rintro y k h
  rw[List.lookup_cons]at h
  cases q:y==a with
  |true=>rw[q]at h;cases h;rw[beq_iff_eq.mp q];exact List.mem_cons_self
  |false=>rw[q]at h;exact List.mem_cons_of_mem _ (F h)
noncomputable def FJ:Value->Bool
 |.none=>true
 |_=>false
theorem wk(P:Params):(List.range 82).map (fun f=>((pf P (tabStmt.getD f 0)).1.head?,(pf P (tabStmt.getD f 0)).2.head?))=
  (List.range 82).map (fun f=>(some (dB f,fnO (bJ f) none (dflt (tabStmt.getD f 0)) (bB (tabStmt.getD f 0)).m (dB f-1)),some (dB f-1,(fu f:Str)))):=by kernel_rfl
theorem Dz:(List.range 82).map (fun f=>(eF (bJ f) none .none .none 0).qualname)=(List.range 82).map (fun f=>(fu f:Str)):=by kernel_rfl
theorem wj:(List.range 82).all (fun f=>decide (tabStmt.getD f 0<159)&&(f==32||f==69||(FJ (dflt (tabStmt.getD f 0))&&(tab f).all (·.dflt.isEmpty))))=true:=by kernel_rfl
theorem Dp(P:Params):iZ (glO P (bB 159).m (bB 159).g)=true:=by kernel_rfl
theorem Dq(P:Params):(List.range 82).map (fun f=>nsG (glO P (bB 159).m (bB 159).g) (fu f))=(List.range 82).map (fun f=>some (.ref (dB f))):=by kernel_rfl
theorem ID(P:Params):nsG (glO P (bB 159).m (bB 159).g) "Vector" =some (.ref dU):=by kernel_rfl
theorem IE(P:Params):blts.map (fun p=>nsG (glO P (bB 159).m (bB 159).g) p.1)=blts.map fun _=>none:=by kernel_rfl
theorem Hs(P:Params):iZ (boot_o_0 P)=true:=by kernel_rfl
theorem I6(P:Params):blts.map (fun p=>nsG (boot_o_0 P) p.1)=blts.map fun p=>some p.2:=by kernel_rfl
theorem GZ(P:Params):iZ (stO P (bB 159).s)=true/\nsG (stO P (bB 159).s) "sys.recursionlimit" =none:=by constructor<;>kernel_rfl
theorem jr{α β:Type}{l:List α}{f g:α->β}(h:l.map f=l.map g){a:α}(d:a∈l):f a=g a:=List.map_inj_left.mp h a d
theorem Ac{w:World}{s:Shared}(R:iE w.params 159 s):cR w s.heap:=by
 have at':∀{a:Nat} {o:Obj},ew (g9 w.params 159) a=some o->s.heap.get? a=some o:=fun e=>R.sim.get _ _ (by
  have:(ph w.params 159).K=g9 w.params 159:=by show g9 w.params 159++[]=_;rw[List.append_nil]
  rw[this];exact e)
 have g3:s.heap.get? 3=some (glO w.params (bB 159).m (bB 159).g):=at' rfl
 have g0:s.heap.get? 0=some (boot_o_0 w.params):=at' rfl
 have g2:s.heap.get? 2=some (stO w.params (bB 159).s):=at' rfl
 refine⟨fun f z=>?_,⟨_,CT g3 (Dp _),fun f z=>jr (Dq w.params) (List.mem_range.mpr z),ID _,fun p L=>jr (IE w.params) L⟩,⟨_,CT g0 (Hs _),fun p L=>jr (I6 w.params) L⟩,⟨_,CT g2 (GZ _).1,(GZ _).2⟩,fun a o e=>?_,?_⟩
 ·have J:=List.mem_range.mpr z
  have F:=jr (wk w.params) J
  simp only[Prod.mk.injEq]at F
  obtain⟨F,h2⟩:=F
  have y:=List.all_eq_true.mp wj f J
  rw[Bool.and_eq_true,decide_eq_true_eq]at y
  refine xA y fun y r=>?_
  have Y:=R.objs _ y _ (List.mem_of_head? F)
  have hc:=rc (R.codes _ y _ (List.mem_of_head? h2))
  refine⟨_,dflt (tabStmt.getD f 0),(bB (tabStmt.getD f 0)).m,dB f-1,Y,rfl,?_,?_⟩
  ·have:=jr Dz J
   have e:(eF (bJ f) none (dflt (tabStmt.getD f 0)) (bB (tabStmt.getD f 0)).m (dB f-1)).qualname=(eF (bJ f) none .none .none 0).qualname:=by
    generalize bJ f=st
    cases st<;>rfl
   rw[e,this];exact hc
  ·by_cases q:f=32
   ·rw[q]
    exact .inr ⟨_,589,0,rfl,by simp,rfl,R.objs 89 (lsn rfl) (589,zZ 0) (by show _∈(f9 w.params 89).1;exact .tail _ (.head _))⟩
   by_cases W:f=69
   ·rw[W]
    exact .inr ⟨_,905,0,rfl,by simp,rfl,R.objs 145 (lsn rfl) (905,zZ 1) (by show _∈(f9 w.params 145).1;exact .tail _ (.head _))⟩
   ·left
    simp only[beq_eq_false_iff_ne.mpr q,beq_eq_false_iff_ne.mpr W,Bool.false_or,Bool.and_eq_true]at r
    refine xA r fun r O=>?_
    refine⟨?_,?_⟩
    ·cases H:tab f with
     |none=>rw[tab,List.getElem?_eq_none_iff]at H;exact absurd z (by have:tabL.length=82:=rfl;exact Nat.not_lt.mpr (trn (lkn rfl) H))
     |some d=>
      rw[H]at O
      simp only[Option.all_some,List.isEmpty_iff]at O
      rw[Option.map_some,O]
    ·cases hd:dflt (tabStmt.getD f 0)<;>rw[hd]at r<;>first|exact(aH r).elim|rfl
 ·have Z:(a,o)∈(pf w.params 43).1:=vS e
  exact R.objs 43 (lsn rfl) _ Z
 ·exact rc (R.codes 43 (lsn rfl) (300,"Vector.__init__") (.head _))
end Internal
end
section
set_option tactic.hygienic false
open PySem
namespace Internal
@[simp ↓]theorem Pz(ρ:aE)(i j:Nat)(v:LV):upd ρ i v j=match Nat.beq j i with|true=>v|false=>ρ j:=rfl
noncomputable def obd{α β:Type}(o:Option (α×List T))(f:α->M β):Option (β×List T):=match o with
 |Option.none=>Option.none
 |Option.some (a,h')=>f a h'
noncomputable def bn{α β:Type}(m:M α)(f:α->M β):M β:=fun h=>obd (m h) f
noncomputable def pu{α:Type}(a:α):M α:=fun h=>some (a,h)
noncomputable def fa{α:Type}:M α:=fun _=>none
noncomputable def lf{α:Type}:Option α->M α
 |Option.none=>fa
 |Option.some a=>pu a
noncomputable def op{α β:Type}(o:Option α)(f:α->M β):M β:=match o with
 |Option.some a=>f a
 |Option.none=>fa
noncomputable def cn{α:Type}(t:T)(a b:M α):M α:=op (bOf t) fun q=>match q with
 |true=>a
 |false=>b
noncomputable def ifb{α:Type}(c:Bool)(m:M α):M α:=match c with
 |true=>m
 |false=>fa
@[simp]theorem CS{α β:Type}(a:α)(h:List T)(f:α->M β):obd (some (a,h)) f=f a h:=rfl
@[simp]theorem J4{α β:Type}(f:α->M β):obd none f=none:=rfl
@[simp ↓]theorem PU{α β:Type}(m:M α)(f:α->M β)(h:List T):bn m f h=obd (m h) f:=rfl
@[simp]theorem PF{α:Type}(a:α)(h:List T):pu a h=some (a,h):=rfl
@[simp]theorem PR{α:Type}(h:List T):(fa:M α) h=none:=rfl
@[simp]theorem FA{α:Type}(a:α)(h:List T):lf (some a) h=some (a,h):=rfl
@[simp] theorem LU {α:Type} (h:List T):lf (none:Option α) h=none:=rfl
@[simp]theorem Fs{α β:Type}(a:α)(f:α->M β):op (some a) f=f a:=rfl
@[simp] theorem LO {α β:Type} (f:α->M β):op (none:Option α) f=fa:=rfl
@[simp]theorem Ke{α:Type}(m:M α):ifb true m=m:=rfl
@[simp]theorem PL{α:Type}(m:M α):ifb false m=fa:=rfl
@[simp]theorem P2{α:Type}(a b:M α):cn (.bool true) a b=a:=rfl
@[simp]theorem P3{α:Type}(a b:M α):cn (.bool false) a b=b:=rfl
noncomputable def th(m:M LV):M T:=bn m fun v=>lf (frz v)
@[simp ↓]theorem PA(m:M LV)(h:List T):th m h=obd (m h) fun v=>lf (frz v):=rfl
noncomputable def gi:Fl->M LV
 |.ret v=>pu v
 |.nxt _=>pu (.fr .none)
 |.cnt _=>fa
section
variable(C:Nat->List T->M LV)(ρ:aE)(m:M T)
@[simp]theorem Pc  :evX C ρ (.none)=(pu .none):=rfl
@[simp ↓]theorem OP  :opd ρ (.none) m=m:=rfl
@[simp]theorem Pb(b:Bool):evX C ρ (.bool b)=(pu (.bool b)):=rfl
@[simp ↓]theorem OO(b:Bool):opd ρ (.bool b) m=m:=rfl
@[simp]theorem Pa(i:Int):evX C ρ (.int i)=(pu (.int i)):=rfl
@[simp ↓]theorem ON(i:Int):opd ρ (.int i) m=m:=rfl
@[simp]theorem O9(s:Str):evX C ρ (.str s)=(pu (.str s)):=rfl
@[simp ↓]theorem OM(s:Str):opd ρ (.str s) m=m:=rfl
@[simp]theorem O8(a b:Nat):evX C ρ (.powc a b)=(ifb (a==10&&b==18) (pu (.int 1000000000000000000))):=rfl
@[simp ↓]theorem OL(a b:Nat):opd ρ (.powc a b) m=m:=rfl
@[simp]theorem O7(i:Nat):evX C ρ (.var i)=(lf (cI (ρ i))):=rfl
@[simp]theorem O6(f:Nat):evX C ρ (.gfn f)=(pu (.fn f)):=rfl
@[simp ↓]theorem OK(f:Nat):opd ρ (.gfn f) m=m:=rfl
@[simp] theorem O5 (x:X):evX C ρ (.len x)=(bn (opd ρ x (evX C ρ x)) fun t=>lf ((cL t).map fun(n:Nat)=>T.int (n:Int))):=rfl
@[simp ↓]theorem OJ(x:X):opd ρ (.len x) m=m:=rfl
@[simp]theorem O4(x:X):evX C ρ (.abs x)=(bn (evX C ρ x) fun t=>op (iOf t) fun i=>pu (.int i.natAbs)):=rfl
@[simp ↓]theorem OI(x:X):opd ρ (.abs x) m=m:=rfl
@[simp]theorem MJ(x:X):evX C ρ (.neg x)=(bn (evX C ρ x) fun t=>op (iOf t) fun i=>pu (.int (-i))):=rfl
@[simp ↓]theorem LN(x:X):opd ρ (.neg x) m=m:=rfl
@[simp]theorem MI(a b:X):evX C ρ (.max a b)=(bn (evX C ρ a) fun a=>bn (evX C ρ b) fun b=>op (iOf a) fun a=>op (iOf b) fun b=>pu (.int (if b>a then b else a))):=rfl
@[simp ↓]theorem LM(a b:X):opd ρ (.max a b) m=m:=rfl
@[simp]theorem MH(x:X):evX C ρ (.str1 x)=(bn (evX C ρ x) fun t=>lf (tj t)):=rfl
@[simp ↓]theorem LL(x:X):opd ρ (.str1 x) m=m:=rfl
@[simp]theorem MG(x:X):evX C ρ (.sum x)=(bn (evX C ρ x) fun t=>op (lOf t) fun ts=>lf ((oP ts 0).map .int)):=rfl
@[simp ↓]theorem LK(x:X):opd ρ (.sum x) m=m:=rfl
@[simp]theorem MF(x:X):evX C ρ (.sorted x)=(bn (opd ρ x (evX C ρ x)) fun t=>op (lOf t) fun ts=>lf ((dD ts).map .list)):=rfl
@[simp ↓]theorem LJ(x:X):opd ρ (.sorted x) m=m:=rfl
@[simp]theorem ME(x:X):evX C ρ (.sortedSet x)=(bn (evX C ρ x) fun t=>op (lOf t) fun ts=>ifb (Cp ts) (lf ((pU ts).bind fun d=>(dD d).map .list))):=rfl
@[simp ↓]theorem LI(x:X):opd ρ (.sortedSet x) m=m:=rfl
@[simp]theorem MD(x:X):evX C ρ (.lenSet x)=(bn (evX C ρ x) fun t=>op (lOf t) fun ts=>lf ((pU ts).map fun d=>.int d.length)):=rfl
@[simp ↓]theorem LH(x:X):opd ρ (.lenSet x) m=m:=rfl
@[simp]theorem MC(x:X):evX C ρ (.listOf x)=(bn (evX C ρ x) fun t=>op (lOf t) fun ts=>ifb (decide (ts.length<=lim)) (pu (.list ts))):=rfl
@[simp ↓]theorem LG(x:X):opd ρ (.listOf x) m=m:=rfl
@[simp]theorem MB(xs:List X):evX C ρ (.listR xs)=(bn (d9 C ρ xs) fun ts=>lf ((lI ts).map .list)):=rfl
@[simp ↓]theorem LF(xs:List X):opd ρ (.listR xs) m=m:=rfl
@[simp]theorem MA(x:X):evX C ρ (.isNone x)=(bn (evX C ρ x) fun t=>pu (.bool (aZ t))):=rfl
@[simp ↓]theorem LE(x:X):opd ρ (.isNone x) m=m:=rfl
@[simp]theorem Mz(x:X):evX C ρ (.notNone x)=(bn (evX C ρ x) fun t=>pu (.bool !(aZ t))):=rfl
@[simp ↓]theorem LD(x:X):opd ρ (.notNone x) m=m:=rfl
@[simp]theorem My(x:X):evX C ρ (.isVec x)=(bn (evX C ρ x) fun t=>op (vOf t) fun _=>pu (.bool true)):=rfl
@[simp ↓]theorem LC(x:X):opd ρ (.isVec x) m=m:=rfl
@[simp]theorem Mx(x:X):evX C ρ (.isList x)=(bn (evX C ρ x) fun t=>op (bOf t) fun _=>pu (.bool false)):=rfl
@[simp ↓]theorem LB(x:X):opd ρ (.isList x) m=m:=rfl
@[simp]theorem Mw(c:Cm)(a b:X):evX C ρ (.cmp c a b)=(bn (evX C ρ a) fun a=>bn (evX C ρ b) fun b=>lf ((yS c a b).map .bool)):=rfl
@[simp ↓]theorem LA(c:Cm)(a b:X):opd ρ (.cmp c a b) m=m:=rfl
@[simp]theorem Mv(a b:X):evX C ρ (.eq a b)=(bn (evX C ρ a) fun a=>bn (evX C ρ b) fun b=>lf ((eqT a b).map .bool)):=rfl
@[simp ↓]theorem Lz(a b:X):opd ρ (.eq a b) m=m:=rfl
@[simp]theorem Mu(a b:X):evX C ρ (.ne a b)=(bn (evX C ρ a) fun a=>bn (evX C ρ b) fun b=>lf ((eqT a b).map fun r=>.bool !r)):=rfl
@[simp ↓]theorem Ly(a b:X):opd ρ (.ne a b) m=m:=rfl
@[simp]theorem Mt(a b:X):evX C ρ (.isIn a b)=(bn (evX C ρ a) fun a=>bn (opd ρ b (evX C ρ b)) fun b=>lf ((inT a b).map .bool)):=rfl
@[simp ↓]theorem Lx(a b:X):opd ρ (.isIn a b) m=m:=rfl
@[simp]theorem Ms(a b:X):evX C ρ (.notIn a b)=(bn (evX C ρ a) fun a=>bn (opd ρ b (evX C ρ b)) fun b=>lf ((inT a b).map fun r=>.bool !r)):=rfl
@[simp ↓]theorem Lw(a b:X):opd ρ (.notIn a b) m=m:=rfl
@[simp]theorem Mr(xs:List X):evX C ρ (.and xs)=(mC C ρ xs):=rfl
@[simp ↓]theorem Lv(xs:List X):opd ρ (.and xs) m=m:=rfl
@[simp]theorem Mq(xs:List X):evX C ρ (.or xs)=(ur C ρ xs):=rfl
@[simp ↓]theorem Lu(xs:List X):opd ρ (.or xs) m=m:=rfl
@[simp]theorem Mp(x:X):evX C ρ (.not x)=(bn (evX C ρ x) fun t=>op (bOf t) fun q=>pu (.bool !q)):=rfl
@[simp ↓]theorem Ls(x:X):opd ρ (.not x) m=m:=rfl
@[simp]theorem Mo(c a:X)(b:X):evX C ρ (.ite c a b)=(bn (evX C ρ c) fun t=>cn t (evX C ρ a) (evX C ρ b)):=rfl
@[simp ↓]theorem Lr(c a:X)(b:X):opd ρ (.ite c a b) m=m:=rfl
@[simp]theorem Mn(o:Bo)(a b:X):evX C ρ (.bin o a b)=(bn (evX C ρ a) fun a=>bn (evX C ρ b) fun b=>lf (hZ o a b)):=rfl
@[simp ↓]theorem Lq(o:Bo)(a b:X):opd ρ (.bin o a b) m=m:=rfl
@[simp]theorem Mm(x:X)(f:Fld):evX C ρ (.attr x f)=(bn (evX C ρ x) fun t=>lf (cQ f t)):=rfl
@[simp ↓]theorem Lp(x:X)(f:Fld):opd ρ (.attr x f) m=m:=rfl
@[simp]theorem Mk(x k:X):evX C ρ (.idx x k)=(bn (opd ρ x (evX C ρ x)) fun t=>bn (evX C ρ k) fun k=>lf (bF t k)):=rfl
@[simp ↓]theorem Lo(x k:X):opd ρ (.idx x k) m=m:=rfl
@[simp]theorem Mj(x k:X):evX C ρ (.get x k)=(bn (opd ρ x (evX C ρ x)) fun t=>op (dOf t) fun d=>bn (evX C ρ k) fun k=>op (bG k) fun k=>pu ((cJ k d.1 d.2).getD .none)):=rfl
@[simp ↓]theorem Ln(x k:X):opd ρ (.get x k) m=m:=rfl
@[simp]theorem Mi(x k:X)(d:X):evX C ρ (.getD x k d)=(bn (opd ρ x (evX C ρ x)) fun t=>op (dOf t) fun e=>bn (evX C ρ k) fun k=>bn (evX C ρ d) fun d=>op (bG k) fun k=>pu ((cJ k e.1 e.2).getD d)):=rfl
@[simp ↓]theorem Lm(x k:X)(d:X):opd ρ (.getD x k d) m=m:=rfl
@[simp]theorem Mh(x n:X):evX C ρ (.sliceTo x n)=(bn (evX C ρ x) fun t=>bn (evX C ρ n) fun n=>op (lOf t) fun ts=>op (nC n) fun n=>ifb (decide (ts.length<=lim)) (pu (.list (ts.take n)))):=rfl
@[simp ↓]theorem Ll(x n:X):opd ρ (.sliceTo x n) m=m:=rfl
@[simp]theorem Mg(x n:X):evX C ρ (.sliceFrom x n)=(bn (evX C ρ x) fun t=>bn (evX C ρ n) fun n=>op (lOf t) fun ts=>op (nC n) fun n=>ifb (decide (ts.length<=lim)) (pu (.list (ts.drop n)))):=rfl
@[simp ↓]theorem Lj(x n:X):opd ρ (.sliceFrom x n) m=m:=rfl
@[simp]theorem Mf(xs:List X):evX C ρ (.list xs)=(bn (d9 C ρ xs) fun ts=>pu (.list ts)):=rfl
@[simp ↓]theorem Li(xs:List X):opd ρ (.list xs) m=m:=rfl
@[simp]theorem Me(xs:List X):evX C ρ (.tup xs)=(bn (d9 C ρ xs) fun ts=>pu (.tup ts)):=rfl
@[simp ↓]theorem Lh(xs:List X):opd ρ (.tup xs) m=m:=rfl
@[simp]theorem Md(xs:List X):evX C ρ (.mkVec xs)=(bn (d9 C ρ xs) fun ts=>lf (j8 ts)):=rfl
@[simp ↓]theorem Lg(xs:List X):opd ρ (.mkVec xs) m=m:=rfl
@[simp]theorem Mc(f:Nat)(xs:List X):evX C ρ (.call f xs)=(bn (d9 C ρ xs) fun ts=>th (C f ts)):=rfl
@[simp ↓]theorem Lf(f:Nat)(xs:List X):opd ρ (.call f xs) m=m:=rfl
@[simp]theorem Mb(i:Nat)(xs:List X):evX C ρ (.callV i xs)=(op (A1 (ρ i)) fun f=>bn (d9 C ρ xs) fun ts=>th (C f ts)):=rfl
@[simp ↓]theorem Ld(i:Nat)(xs:List X):opd ρ (.callV i xs) m=m:=rfl
@[simp ↓]theorem Lc(i:Nat)(it:It)(cs:List X)(e:X):opd ρ (.comp i it cs e) m=m:=rfl
@[simp ↓]theorem Lb(i:Nat)(it:It)(j:Nat):opd ρ (.comp2 i it j) m=m:=rfl
@[simp]theorem Ma(s:Str)(x:X):evX C ρ (.join s x)=(bn (evX C ρ x) fun t=>op (lOf t) fun ts=>lf ((nh ts).bind fun l=>if(l.map (·.length)).sum+l.length*s.length<=iq then some (.str (Str.join s l))else .none)):=rfl
@[simp ↓]theorem La(s:Str)(x:X):opd ρ (.join s x) m=m:=rfl
@[simp ↓]theorem K9(a:X)(s:Str)(b:X):opd ρ (.fpair a s b) m=m:=rfl
@[simp] theorem L9 (x y:X):evX C ρ (.countOf x y)=(bn (opd ρ x (evX C ρ x)) fun t=>op (lOf t) fun ts=>bn (evX C ρ y) fun y=>lf ((DX y ts).map fun(n:Nat)=>T.int (n:Int))):=rfl
@[simp ↓]theorem K8(x y:X):opd ρ (.countOf x y) m=m:=rfl
@[simp] theorem L8 (x y:X):evX C ρ (.indexOf x y)=(bn (opd ρ x (evX C ρ x)) fun t=>bn (evX C ρ y) fun y=>op (lE t) fun ts=>lf ((He y ts).bind fun r=>r.map fun(n:Nat)=>T.int (n:Int))):=rfl
@[simp ↓]theorem K7(x y:X):opd ρ (.indexOf x y) m=m:=rfl
@[simp]theorem L7(i k:Nat):evX C ρ (.handGet i k)=(op (iL (ρ i)) fun _ h=>(h[k]?).map fun t=>(t,h)):=rfl
@[simp ↓]theorem K6(i k:Nat):opd ρ (.handGet i k) m=m:=rfl
@[simp]theorem L6  :evX C ρ (.stuck)=(fa):=rfl
@[simp ↓]theorem K5  :opd ρ (.stuck) m=m:=rfl
@[simp]theorem Kr  :d9 C ρ ([])=(pu []):=rfl
@[simp] theorem Kq (x:X) (xs:List X):d9 C ρ (x::xs)=(bn (evX C ρ x) fun t=>bn (d9 C ρ xs) fun ts=>pu (t::ts)):=rfl
@[simp]theorem Jw  :mC C ρ ([])=(pu (.bool true)):=rfl
@[simp] theorem Jv (x:X) (xs:List X):mC C ρ (x::xs)=(bn (evX C ρ x) fun t=>cn t (mC C ρ xs) (pu (.bool false))):=rfl
@[simp]theorem Kt  :ur C ρ ([])=(pu (.bool false)):=rfl
@[simp] theorem Ks (x:X) (xs:List X):ur C ρ (x::xs)=(bn (evX C ρ x) fun t=>cn t (pu (.bool true)) (ur C ρ xs)):=rfl
@[simp]theorem Nh  :evC C ρ ([])=(pu true):=rfl
@[simp] theorem Ng (x:X) (xs:List X):evC C ρ (x::xs)=(bn (evX C ρ x) fun t=>cn t (evC C ρ xs) (pu false)):=rfl
@[simp]theorem Nf(x:X):evI C ρ (.val x)=(bn (evX C ρ x) fun t=>lf (fN t)):=rfl
@[simp]theorem Nd(x:X):evI C ρ (.rev x)=(bn (evX C ρ x) fun t=>op (lOf t) fun ts=>ifb (decide (ts.length<=lim)) (pu ts.reverse)):=rfl
@[simp]theorem Nc(xs:List X):evI C ρ (.range xs)=(bn (d9 C ρ xs) fun ts=>lf (lI ts)):=rfl
@[simp ↓]theorem K4(ρ:aE)(m:M T)(i:Nat):opd ρ (.var i) m=lf (cU (ρ i)):=rfl
noncomputable def sdk(ρ:aE)(i j:Nat)(ts:List T)(ks:List Key)(vs:List T)(k:Key)(v:T):Option T->M Fl
 |some u=>pu (.nxt (upd ρ i (.ol (ts++[u]))))
 |.none=>pu (.nxt (upd (upd ρ j (.od (ks++[k]) (vs++[v]))) i (.ol (ts++[v]))))
@[simp]theorem PC(ρ:aE)(i j:Nat)(ts:List T)(ks:List Key)(vs:List T)(k:Key)(v u:T):sdk ρ i j ts ks vs k v (some u)=pu (.nxt (upd ρ i (.ol (ts++[u])))):=rfl
@[simp]theorem PD(ρ:aE)(i j:Nat)(ts:List T)(ks:List Key)(vs:List T)(k:Key)(v:T):sdk ρ i j ts ks vs k v none=pu (.nxt (upd (upd ρ j (.od (ks++[k]) (vs++[v]))) i (.ol (ts++[v])))):=rfl
@[simp]theorem Gl(i:Nat)(x:X):evS C ρ (.asg i x)=(bn (evX C ρ x) fun t=>pu (.nxt (upd ρ i (.fr t)))):=rfl
@[simp]theorem Nb(i:Nat)(xs:List X):evS C ρ (.newL i xs)=(bn (d9 C ρ xs) fun ts=>pu (.nxt (upd ρ i (.ol ts)))):=rfl
@[simp] theorem Na(i:Nat):evS C ρ (.newD i)=(pu (.nxt (upd ρ i (.od [] [])))):=rfl
@[simp] theorem M9(i:Nat):evS C ρ (.newDL i)=(pu (.nxt (upd ρ i (.odl [] [])))):=rfl
@[simp]theorem M8(i:Nat)(a n:X):evS C ρ (.newMul i a n)=(bn (evX C ρ a) fun a=>bn (evX C ρ n) fun n=>op (iOf n) fun n=>ifb (decide (0<=n/\n<=100)) (pu (.nxt (upd ρ i (.ol (List.replicate n.toNat a)))))):=rfl
@[simp]theorem M7(i:Nat)(x:X):evS C ρ (.newSorted i x)=(bn (opd ρ x (evX C ρ x)) fun t=>op (lOf t) fun ts=>op (dD ts) fun d=>pu (.nxt (upd ρ i (.ol d)))):=rfl
@[simp]theorem M6(i:Nat)(xs:List X):evS C ρ (.newV i xs)=(bn (d9 C ρ xs) fun ts=>op (two ts) fun p=>op (sOf p.1) fun k=>op (lOf p.2) fun l=>pu (.nxt (upd ρ i (.ov k (.list l) .none)))):=rfl
@[simp]theorem M5(i:Nat)(xs:List X):evS C ρ (.newHand i xs)=(bn (d9 C ρ xs) fun ts=>bn (rG ts) fun _=>pu (.nxt (upd ρ i (.fr .hand)))):=rfl
@[simp]theorem M4(i f:Nat)(xs:List X):evS C ρ (.asgO i f xs)=(bn (d9 C ρ xs) fun ts=>bn (C f ts) fun v=>pu (.nxt (upd ρ i v))):=rfl
@[simp]theorem M3(i:Nat):evS C ρ (.freeze i)=(op (frz (ρ i)) fun t=>pu (.nxt (upd ρ i (.fr t)))):=rfl
@[simp]theorem M2(i j:Nat)(x:X):evS C ρ (.unpack2 i j x)=(bn (evX C ρ x) fun t=>op ((lE t).bind two) fun p=>pu (.nxt (upd (upd ρ i (.fr p.1)) j (.fr p.2)))):=rfl
@[simp]theorem M1(i:Nat)(x:X):evS C ρ (.aug i .add x)=(op ((cI (ρ i)).bind iOf) fun a=>bn (evX C ρ x) fun t=>op (iOf t) fun b=>pu (.nxt (upd ρ i (.fr (.int (a+b)))))):=rfl
@[simp]theorem M0(i:Nat)(x:X):evS C ρ (.append i x)=(bn (evX C ρ x) fun t=>op (gT (ρ i)) fun ts=>ifb (decide (ts.length<lim)) (pu (.nxt (upd ρ i (.ol (ts++[t])))))):=rfl
@[simp]theorem MZ(i:Nat)(x:X):evS C ρ (.extend i x)=(bn (evX C ρ x) fun t=>op (lOf t) fun d=>op (gT (ρ i)) fun ts=>ifb (decide (ts.length+d.length<=lim)) (pu (.nxt (upd ρ i (.ol (ts++d)))))):=rfl
@[simp]theorem MY(i:Nat):evS C ρ (.reverse i)=(op (gT (ρ i)) fun ts=>ifb (decide (ts.length<=lim)) (pu (.nxt (upd ρ i (.ol ts.reverse))))):=rfl
@[simp]theorem MX(i:Nat)(k v:X):evS C ρ (.store i k v)=(bn (evX C ρ v) fun v=>bn (evX C ρ k) fun k=>op (bG k) fun k=>op (qj (ρ i)) fun d=>ifb (decide (d.1.length<lim)) (pu (.nxt (upd ρ i (.od (dN k v d.1 d.2).1 (dN k v d.1 d.2).2))))):=rfl
@[simp]theorem MW(i:Nat)(k x:X):evS C ρ (.augItem i k x)=(bn (evX C ρ k) fun k=>bn (evX C ρ x) fun x=>op (iOf x) fun x=>op (gT (ρ i)) fun ts=>op (nC k) fun j=>op ((ts[j]?).bind iOf) fun a=>pu (.nxt (upd ρ i (.ol (ts.set j (.int (a+x))))))):=rfl
@[simp]theorem MV(i:Nat)(k v:X):evS C ρ (.sdApp i k v)=(bn (evX C ρ k) fun k=>op (bG k) fun k=>bn (evX C ρ v) fun v=>op (vA (ρ i)) fun d=>ifb (decide (d.1.length<lim)&&d.2.all (fun l=>decide (l.length<lim))) (pu (.nxt (upd ρ i (.odl (gG k v d.1 d.2).1 (gG k v d.1 d.2).2))))):=rfl
@[simp]theorem MU(i j:Nat)(k v:X):evS C ρ (.appSd i j k v)=(bn (evX C ρ k) fun k=>bn (evX C ρ v) fun v=>op (bG k) fun k=>op (gT (ρ i)) fun ts=>op (qj (ρ j)) fun d=>ifb (decide (d.1.length<lim)&&decide (ts.length<lim)) (sdk ρ i j ts d.1 d.2 k v (cJ k d.1 d.2))):=rfl
@[simp]theorem MT(i:Nat)(ks:List Str)(xs:List X):evS C ρ (.setAttrs i ks xs)=(bn (d9 C ρ xs) fun ts=>op (vu (ρ i)) fun v=>ifb (v.2.2.isNone&&iK ks&&decide (ks.length=ts.length)) (pu (.nxt (upd ρ i (.ov v.1 v.2.1 (some (ks.map .s,ts))))))):=rfl
@[simp]theorem MS(i:Nat)(k:Str)(x:X):evS C ρ (.setAttrItem i k x)=(bn (evX C ρ x) fun t=>op (vu (ρ i)) fun v=>op v.2.2 fun d=>ifb (decide (d.1.length<lim)) (pu (.nxt (upd ρ i (.ov v.1 v.2.1 (some (dN (.s k) t d.1 d.2))))))):=rfl
@[simp]theorem MR(i:Nat):evS C ρ (.share i)=(op ((cI (ρ i)).bind vOf) fun _=>pu (.nxt ρ)):=rfl
@[simp]theorem MQ(i k:Nat)(x:X):evS C ρ (.handSet i k x)=(bn (evX C ρ x) fun t=>op (iL (ρ i)) fun _ h=>match decide (k<h.length)with|true=>some (.nxt ρ,h.set k t)|false=>.none):=rfl
@[simp]theorem MP(c:X)(a:List S)(b:List S):evS C ρ (.ite c a b)=(bn (evX C ρ c) fun t=>cn t (evB C ρ a) (evB C ρ b)):=rfl
@[simp]theorem MO(x:X):evS C ρ (.ret x)=(bn (evX C ρ x) fun t=>pu (.ret (.fr t))):=rfl
@[simp]theorem MN(i:Nat)(c:X):evS C ρ (.retO i c)=(bn (evX C ρ c) fun t=>cn t (op (vg (ρ i)) fun lv=>pu (.ret lv)) (pu (.ret (.fr .none)))):=rfl
@[simp]theorem MM(x:X):evS C ρ (.expr x)=(bn (evX C ρ x) fun t=>op (nOf t) fun _=>pu (.nxt ρ)):=rfl
@[simp]theorem ML  :evS C ρ (.cont)=(pu (.cnt ρ)):=rfl
@[simp]theorem MK  :evS C ρ (.stuck)=(fa):=rfl
end
@[simp ↓]theorem Ni(C:Nat->List T->M LV)(ρ:aE):evB C ρ []=pu (.nxt ρ):=rfl
noncomputable def gU(C:Nat->List T->M LV)(r:List S):Fl->M Fl
 |.nxt ρ'=>evB C ρ' r
 |.cnt ρ'=>pu (.cnt ρ')
 |.ret v=>pu (.ret v)
@[simp]theorem Jl(C:Nat->List T->M LV)(r:List S)(ρ:aE):gU C r (.nxt ρ)=evB C ρ r:=rfl
@[simp]theorem Jm(C:Nat->List T->M LV)(r:List S)(ρ:aE):gU C r (.cnt ρ)=pu (.cnt ρ):=rfl
@[simp]theorem Jk(C:Nat->List T->M LV)(r:List S)(v:LV):gU C r (.ret v)=pu (.ret v):=rfl
@[simp ↓] theorem DN (C:Nat->List T->M LV) (ρ:aE) (s:S) (r:List S):evB C ρ (s::r)=bn (evS C ρ s) (gU C r):=rfl
@[simp]theorem OW(v:LV):gi (.ret v)=pu v:=rfl
@[simp]theorem OX(ρ:aE):gi (.nxt ρ)=pu (.fr .none):=rfl
@[simp]theorem L3(t:T):cI (.fr t)=some t:=rfl
@[simp]theorem LT(t:T):cU (.fr t)=some t:=rfl
@[simp]theorem LR(t:List T):cU (.ol t)=some (.list t):=rfl
@[simp]theorem LS(ks:List Key)(vs:List T):cU (.od ks vs)=some (.dict ks vs):=rfl
@[simp]theorem LP(t:List T):gT (.ol t)=some t:=rfl
@[simp]theorem LQ(ks:List Key)(vs:List T):qj (.od ks vs)=some (ks,vs):=rfl
@[simp]theorem Jo(ks:List Key)(vs:List (List T)):vA (.odl ks vs)=some (ks,vs):=rfl
@[simp]theorem K3(k:Str)(it:T)(a:Option (List Key×List T)):vu (.ov k it a)=some (k,it,a):=rfl
@[simp]theorem O1(t:T):frz (.fr t)=some t:=rfl
@[simp]theorem OZ(t:List T):frz (.ol t)=some (.list t):=rfl
@[simp]theorem O0(ks:List Key)(vs:List T):frz (.od ks vs)=some (.dict ks vs):=rfl
@[simp]theorem L0(ks:List Key)(vs:List (List T)):frz (.odl ks vs)=some (.dict ks (vs.map .list)):=rfl
@[simp]theorem OY(k:Str)(it:T):frz (.ov k it none)=some (.vec k it .none):=rfl
@[simp]theorem LZ(k:Str)(it:T)(p:List Key×List T):frz (.ov k it (some p))=some (.vec k it (.dict p.1 p.2)):=rfl
@[simp]theorem JG(t:T):vg (.fr t)=some (.fr t):=rfl
@[simp]theorem JF(ks:List Key)(vs:List T):vg (.od ks vs)=some (.od ks vs):=rfl
@[simp]theorem I9(k:Str)(it a:T):cQ .kind (.vec k it a)=some (.str k):=rfl
@[simp]theorem Hu(k:Str)(it a:T):cQ .items (.vec k it a)=some it:=rfl
@[simp]theorem Hv(k:Str)(it a:T):cQ .attrs (.vec k it a)=some a:=rfl
@[simp]theorem FK:aZ .none=true:=rfl
@[simp]theorem Hb(i:Int):aZ (.int i)=false:=rfl
@[simp]theorem Ha(i:Str):aZ (.str i)=false:=rfl
@[simp]theorem FL(i:List T):aZ (.list i)=false:=rfl
@[simp]theorem G9(i:List T):aZ (.tup i)=false:=rfl
@[simp]theorem FN(b:Bool):aZ (.bool b)=false:=rfl
@[simp]theorem FM(ks:List Key)(vs:List T):aZ (.dict ks vs)=false:=rfl
@[simp]theorem G8(k:Str)(it a:T):aZ (.vec k it a)=false:=rfl
@[simp]theorem PV(b:Bool):bOf (.bool b)=some b:=rfl
@[simp]theorem Ka(l:List T):lOf (.list l)=some l:=rfl
@[simp]theorem PM(i:Int):iOf (.int i)=some i:=rfl
@[simp]theorem PE(s:Str):sOf (.str s)=some s:=rfl
@[simp]theorem PT(ks:List Key)(vs:List T):dOf (.dict ks vs)=some (ks,vs):=rfl
@[simp]theorem Py(k:Str)(it a:T):vOf (.vec k it a)=some ():=rfl
@[simp]theorem PJ:nOf .none=some ():=rfl
@[simp]theorem K2(l:List T):lE (.list l)=some l:=rfl
@[simp]theorem K1(l:List T):lE (.tup l)=some l:=rfl
@[simp]theorem Nw(a b:T):two [a,b]=some (a,b):=rfl
@[simp]theorem PB(l:List T):tOf (.tup l)=some l:=rfl
@[simp]theorem OR(i:Int):bG (.int i)=some (.i i):=rfl
@[simp]theorem Da(i:Str):bG (.str i)=some (.s i):=rfl
@[simp]theorem Jn:tj .none=some (.str "None"):=rfl
@[simp]theorem Nz(s:Str):tj (.str s)=some (.str s):=rfl
@[simp]theorem Pn(c:Cm)(a b:Int):yS c (.int a) (.int b)=some (cmI c a b):=rfl
@[simp]theorem Pm(c:Cm)(a b:Str):yS c (.str a) (.str b)=cmS c a b:=rfl
@[simp]theorem Po(a b:Int):cmI .lt a b=decide (a<b):=rfl
@[simp]theorem Pq(a b:Int):cmI .gt a b=decide (a>b):=rfl
@[simp]theorem Pp(a b:Int):cmI .le a b=decide (a<=b):=rfl
@[simp]theorem Ps(a b:Int):cmI .ge a b=decide (a>=b):=rfl
@[simp]theorem y4(o:Bo)(a b:Int):hZ o (.int a) (.int b)=biI o a b:=rfl
@[simp]theorem Nv(a b:Int):biI .add a b=some (.int (a+b)):=rfl
@[simp]theorem Nu(a b:Int):biI .sub a b=some (.int (a-b)):=rfl
@[simp]theorem dK(l:List T)(i:Int):bF (.list l) (.int i)=(place i l.length).bind fun j=>l[j]? :=rfl
@[simp]theorem IB(l:List T)(i:Int):bF (.tup l) (.int i)=(place i l.length).bind fun j=>l[j]? :=rfl
@[simp]theorem pK(ks:List Key)(vs:List T)(x:Str):bF (.dict ks vs) (.str x)=cJ (.s x) ks vs:=rfl
@[simp]theorem LW(ks:List Key)(vs:List T)(x:Int):bF (.dict ks vs) (.int x)=cJ (.i x) ks vs:=rfl
theorem Fq {i n:Nat} (h:i<n) (d:n<=lim):place (i:Int) n=some i:=by
 unfold place
 rw[if_pos d,if_pos (Int.natCast_nonneg i)]
 simp[h]
theorem Ip{l:List T}(h:l.length<=lim):cL (.list l)=some l.length:=if_pos h
theorem Iq{ks:List Key}{vs:List T}(h:ks.length<=lim):cL (.dict ks vs)=some ks.length:=if_pos h
theorem qK{l:List T}(h:l.length<=lim):fN (.list l)=some l:=if_pos h
@[simp]theorem PK(x:T)(l:List T):inT x (.list l)=inL x l:=rfl
@[simp]theorem Hc(x:T)(l:List T):inT x (.tup l)=inL x l:=rfl
@[simp]theorem OT(x:Str)(ks:List Key)(vs:List T):inT (.str x) (.dict ks vs)=some (eO (.s x) ks):=rfl
@[simp]theorem OU(x:Int)(ks:List Key)(vs:List T):inT (.int x) (.dict ks vs)=some (eO (.i x) ks):=rfl
@[simp]theorem Pe(a b:Str):eqT (.str a) (.str b)=some (a==b):=rfl
@[simp]theorem IY(a b:Int):eqT (.int a) (.int b)=some (a==b):=rfl
@[simp]theorem Pj(a:Int):eqT (.int a) .none=some false:=rfl
@[simp]theorem Pi(a:Int):eqT .none (.int a)=some false:=rfl
@[simp]theorem Pf(a:Str):eqT (.str a) .none=some false:=rfl
@[simp]theorem Pg(a:Str):eqT .none (.str a)=some false:=rfl
@[simp]theorem Ph:eqT .none .none=some true:=rfl
@[simp]theorem Kw{α:Type}(f:T->M (Option α)):gI f []=pu []:=rfl
@[simp]theorem HI(k:Str)(l:List T):j8 [.str k,.list l]=some (.vec k (.list l) .none):=rfl
@[simp]theorem KT(k:Str)(l:List T):j8 [.str k,.list l,.none]=some (.vec k (.list l) .none):=rfl
@[simp]theorem KU(k:Str)(l:List T)(ks:List Key)(vs:List T):j8 [.str k,.list l,.dict ks vs]=some (.vec k (.list l) (.dict ks vs)):=rfl
@[simp] theorem KH (t:T) (ts:List T):rG (t::ts) []=some ((),t::ts):=rfl
@[simp ↓] theorem Nr (a0:T) (d:List T):aS (a0::d) 0= .fr a0:=rfl
@[simp ↓] theorem Nq (a0 a1:T) (d:List T):aS (a0::a1::d) 1= .fr a1:=rfl
@[simp ↓] theorem Np (a0 a1 a2:T) (d:List T):aS (a0::a1::a2::d) 2= .fr a2:=rfl
@[simp ↓] theorem No (a0 a1 a2 a3:T) (d:List T):aS (a0::a1::a2::a3::d) 3= .fr a3:=rfl
@[simp ↓] theorem Nn (a0 a1 a2 a3 a4:T) (d:List T):aS (a0::a1::a2::a3::a4::d) 4= .fr a4:=rfl
@[simp ↓] theorem Nl (a0 a1 a2 a3 a4 a5:T) (d:List T):aS (a0::a1::a2::a3::a4::a5::d) 5= .fr a5:=rfl
@[simp ↓] theorem Nk (a0 a1 a2 a3 a4 a5 a6:T) (d:List T):aS (a0::a1::a2::a3::a4::a5::a6::d) 6= .fr a6:=rfl
@[simp ↓] theorem Nj (a0 a1 a2 a3 a4 a5 a6 d:T) (q:List T):aS (a0::a1::a2::a3::a4::a5::a6::d::q) 7= .fr d:=rfl
section
variable(n:Nat)(h:List T)(a0 a1 a2 a3 a4 a5 a6:T)
theorem rm:aA tab (n+1) 4 [a0] h=obd (evB (aA tab n) (aS [a0]) j0 h) gi:=by kernel_rfl!
theorem uE:aA tab (n+1) 5 [a0] h=obd (evB (aA tab n) (aS [a0]) jK h) gi:=by kernel_rfl!
theorem Bg:aA tab (n+1) 6 [a0] h=obd (evB (aA tab n) (aS [a0]) rD h) gi:=by kernel_rfl!
theorem sq:aA tab (n+1) 10 [a0,a1] h=obd (evB (aA tab n) (aS [a0,a1]) iT h) gi:=by kernel_rfl!
theorem gK:aA tab (n+1) 12 [a0] h=obd (evB (aA tab n) (aS [a0]) eG h) gi:=by kernel_rfl!
theorem rp:aA tab (n+1) 17 [a0] h=obd (evB (aA tab n) (aS [a0]) ig h) gi:=by kernel_rfl!
theorem yY:aA tab (n+1) 22 [a0,a1,a2] h=obd (evB (aA tab n) (aS [a0,a1,a2]) om h) gi:=by kernel_rfl!
theorem ss:aA tab (n+1) 23 [a0,a1] h=obd (evB (aA tab n) (aS [a0,a1]) iV h) gi:=by kernel_rfl!
theorem iC:aA tab (n+1) 24 [a0,a1,a2] h=obd (evB (aA tab n) (aS [a0,a1,a2]) eJ h) gi:=by kernel_rfl!
theorem mO:aA tab (n+1) 25 [a0] h=obd (evB (aA tab n) (aS [a0]) fG h) gi:=by kernel_rfl!
theorem mN:aA tab (n+1) 26 [a0,a1,a2,a3,a4] h=obd (evB (aA tab n) (aS [a0,a1,a2,a3,a4]) fF h) gi:=by kernel_rfl!
theorem pj:aA tab (n+1) 27 [a0,a1,a2,a3,a4] h=obd (evB (aA tab n) (aS [a0,a1,a2,a3,a4]) gP h) gi:=by kernel_rfl!
theorem sk:aA tab (n+1) 28 [a0,a1,a2,a3,a4] h=obd (evB (aA tab n) (aS [a0,a1,a2,a3,a4]) mU h) gi:=by kernel_rfl!
theorem kr:aA tab (n+1) 29 [a0,a1,a2,a3] h=obd (evB (aA tab n) (aS [a0,a1,a2,a3]) gd h) gi:=by kernel_rfl!
theorem rh:aA tab (n+1) 31 [a0,a1] h=obd (evB (aA tab n) (aS [a0,a1]) ib h) gi:=by kernel_rfl!
theorem pd:aA tab (n+1) 32 [a0] h=obd (evB (aA tab n) (aS [a0,.bool false,.bool true]) lg h) gi:=by kernel_rfl!
theorem pi:aA tab (n+1) 35 [a0] h=obd (evB (aA tab n) (aS [a0]) gO h) gi:=by kernel_rfl!
theorem n5:aA tab (n+1) 36 [a0] h=obd (evB (aA tab n) (aS [a0]) fS h) gi:=by kernel_rfl!
theorem rg:aA tab (n+1) 37 [a0,a1] h=obd (evB (aA tab n) (aS [a0,a1]) kD h) gi:=by kernel_rfl!
theorem si:aA tab (n+1) 40 [a0] h=obd (evB (aA tab n) (aS [a0]) iQ h) gi:=by kernel_rfl!
theorem kA:aA tab (n+1) 41 [a0] h=obd (evB (aA tab n) (aS [a0]) gf h) gi:=by kernel_rfl!
theorem uB:aA tab (n+1) 43 [a0] h=obd (evB (aA tab n) (aS [a0]) jF h) gi:=by kernel_rfl!
theorem mK:aA tab (n+1) 44 [a0] h=obd (evB (aA tab n) (aS [a0]) fC h) gi:=by kernel_rfl!
theorem sj:aA tab (n+1) 46 [a0,a1] h=obd (evB (aA tab n) (aS [a0,a1]) iR h) gi:=by kernel_rfl!
theorem j4:aA tab (n+1) 47 [a0,a1] h=obd (evB (aA tab n) (aS [a0,a1]) eP h) gi:=by kernel_rfl!
theorem n7:aA tab (n+1) 48 [a0,a1] h=obd (evB (aA tab n) (aS [a0,a1]) fU h) gi:=by kernel_rfl!
theorem sn:aA tab (n+1) 49 [a0,a1,a2] h=obd (evB (aA tab n) (aS [a0,a1,a2]) iS h) gi:=by kernel_rfl!
theorem j5:aA tab (n+1) 50 [a0,a1] h=obd (evB (aA tab n) (aS [a0,a1]) eQ h) gi:=by kernel_rfl!
theorem n6:aA tab (n+1) 51 [a0,a1] h=obd (evB (aA tab n) (aS [a0,a1]) fT h) gi:=by kernel_rfl!
theorem uC:aA tab (n+1) 52 [a0,a1] h=obd (evB (aA tab n) (aS [a0,a1]) jG h) gi:=by kernel_rfl!
theorem oa:aA tab (n+1) 53 [a0] h=obd (evB (aA tab n) (aS [a0]) i5 h) gi:=by kernel_rfl!
theorem iB:aA tab (n+1) 54 [a0] h=obd (evB (aA tab n) (aS [a0]) eI h) gi:=by kernel_rfl!
theorem n9:aA tab (n+1) 56 [a0] h=obd (evB (aA tab n) (aS [a0]) fW h) gi:=by kernel_rfl!
theorem j6:aA tab (n+1) 57 [a0] h=obd (evB (aA tab n) (aS [a0]) eR h) gi:=by kernel_rfl!
theorem og:aA tab (n+1) 58 [a0] h=obd (evB (aA tab n) (aS [a0]) fX h) gi:=by kernel_rfl!
theorem uD:aA tab (n+1) 59 [a0,a1,a2,a3] h=obd (evB (aA tab n) (aS [a0,a1,a2,a3]) jH h) gi:=by kernel_rfl!
theorem gL:aA tab (n+1) 60 [a0] h=obd (evB (aA tab n) (aS [a0]) eH h) gi:=by kernel_rfl!
theorem wH:aA tab (n+1) 61 [a0,a1] h=obd (evB (aA tab n) (aS [a0,a1]) ld h) gi:=by kernel_rfl!
theorem n8:aA tab (n+1) 63 [a0,a1] h=obd (evB (aA tab n) (aS [a0,a1]) fV h) gi:=by kernel_rfl!
theorem pe:aA tab (n+1) 64 [a0,a1,a2,a3] h=obd (evB (aA tab n) (aS [a0,a1,a2,a3]) jI h) gi:=by kernel_rfl!
theorem sr:aA tab (n+1) 65 [a0,a1,a2] h=obd (evB (aA tab n) (aS [a0,a1,a2]) iU h) gi:=by kernel_rfl!
theorem jD:aA tab (n+1) 68 [a0,a1] h=obd (evB (aA tab n) (aS [a0,a1]) fL h) gi:=by kernel_rfl!
theorem mG:aA tab (n+1) 69 [a0,a1,a2,a3,a4,a5] h=obd (evB (aA tab n) (aS [a0,a1,a2,a3,a4,a5,.bool true]) jJ h) gi:=by kernel_rfl!
theorem rj:aA tab (n+1) 70 [a0,a1] h=obd (evB (aA tab n) (aS [a0,a1]) ic h) gi:=by kernel_rfl!
theorem mM:aA tab (n+1) 71 [a0] h=obd (evB (aA tab n) (aS [a0]) fE h) gi:=by kernel_rfl!
theorem mJ:aA tab (n+1) 72 [a0] h=obd (evB (aA tab n) (aS [a0]) fB h) gi:=by kernel_rfl!
theorem pn:aA tab (n+1) 73 [a0,a1] h=obd (evB (aA tab n) (aS [a0,a1]) gQ h) gi:=by kernel_rfl!
theorem pp:aA tab (n+1) 74 [a0,a1,a2,a3,a4] h=obd (evB (aA tab n) (aS [a0,a1,a2,a3,a4]) gS h) gi:=by kernel_rfl!
theorem mH:aA tab (n+1) 75 [a0] h=obd (evB (aA tab n) (aS [a0]) oJ h) gi:=by kernel_rfl!
theorem ro:aA tab (n+1) 76 [a0,a1] h=obd (evB (aA tab n) (aS [a0,a1]) kJ h) gi:=by kernel_rfl!
theorem gb:aA tab (n+1) 77 [a0,a1] h=obd (evB (aA tab n) (aS [a0,a1]) eV h) gi:=by kernel_rfl!
theorem hX:aA tab (n+1) 78 [a0,a1] h=obd (evB (aA tab n) (aS [a0,a1]) e8 h) gi:=by kernel_rfl!
theorem wI:aA tab (n+1) 79 [a0] h=obd (evB (aA tab n) (aS [a0]) lh h) gi:=by kernel_rfl!
theorem rq:aA tab (n+1) 80 [a0] h=obd (evB (aA tab n) (aS [a0]) ii h) gi:=by kernel_rfl!
theorem I5:aA tab (n+1) 81 [a0] h=obd (evB (aA tab n) (aS [a0]) b_law h) gi:=by kernel_rfl!
end
noncomputable def tn (j:Nat):T:= .int (j:Int)
@[simp]theorem Ft{α β d:Type}(o:Option (α×List T))(f:α->M β)(g:β->M d):obd (obd o f) g=obd o fun a=>bn (f a) g:=by
 cases o<;>rfl
theorem eX{α β:Type}{o:Option (α×List T)}{a:α}{h:List T}{k:α->M β}{r:Option (β×List T)}(e:o=some (a,h))(d:k a h=r):obd o k=r:=by
 rw[e];exact d
section
variable{α β:Type}{C:Nat->List T->M LV}{ρ:aE}{i:Nat}{it:It}{e:X}{cs:List X}{b:List S}{h:List T}
theorem Gp{f:T->M (Option β)}{g:α->T}{p:α->Bool}{g':α->β}:∀(l:List α),(∀a∈l,f (g a) h=some (if p a then some (g' a)else none,h))->gI f (l.map g) h=some ((l.filter p).map g',h):=by
 intro r
 induction r with
 |nil=>
  rintro _
  exact rfl
 |cons a l y=>
  rintro hs
  haveI F:=hs a (.head _)
  haveI q:=y fun b z=>hs b (.tail _ z)
  show obd (f (g a) h) _=_
  rw[F]
  cases d:p a
  ·show obd (gI f (l.map g) h) _=_
   rw[q,List.filter_cons_of_neg (by simp[d])];rfl
  ·show obd (gI f (l.map g) h) _=_
   rw[q,List.filter_cons_of_pos d];rfl
theorem cE(l:List α)(g:α->T)(p:α->Bool)(g':α->T)(z:evI C ρ it h=some (l.map g,h))(H:∀a∈l,evC C (upd ρ i (.fr (g a))) cs h=some (p a,h))
  (F:∀a∈l,p a=true->evX C (upd ρ i (.fr (g a))) e h=some (g' a,h)) {k:T->M β} {r:Option (β×List T)} (y:k (.list ((l.filter p).map g')) h=r):obd (evX C ρ (.comp i it cs e) h) k=r:=by
 refine eX ?_ y
 show obd (evI C ρ it h) _=_
 rw[z]
 show obd (gI _ (l.map g) h) _=_
 rw[Gp (p:=p) (g':=g') l fun a d=>?_]; · rfl
 show obd (evC C _ cs h) _=_
 rw[H a d]
 cases q:p a
 ·rfl
 ·show obd (evX C _ e h) _=_
  rw[F a d q];rfl
theorem aQ(l:List α)(g:α->T)(g':α->T)(q:evI C ρ it h=some (l.map g,h))
  (y:∀a∈l,evX C (upd ρ i (.fr (g a))) e h=some (g' a,h)) {k:T->M β} {r:Option (β×List T)} (d:k (.list (l.map g')) h=r):obd (evX C ρ (.comp i it [] e) h) k=r:=
 cE l g (fun _=>true) g' q (fun _ _=>rfl) (fun a z _=>y a z) (by rw[List.filter_eq_self.mpr fun _ _=>rfl];exact d)
theorem um{f:T->aE->M Fl}{g:α->T}(I:List α->aE->Prop):
  ∀(l:List α) (d:List α) (ρ:aE),(∀p a q ρ,l=p++a::q->I (d++p) ρ->∃ρ',(f (g a) ρ h=some (.nxt ρ',h)\/f (g a) ρ h=some (.cnt ρ',h))/\I (d++p++[a]) ρ')->I d ρ->
   ∃ρ',kZ f (l.map g) ρ h=some (.nxt ρ',h)/\I (d++l) ρ':=by
 intro H
 induction H with
 |nil=>
  rintro d ρ _ i
  exact⟨ρ,rfl,by rw[List.append_nil];exact i⟩
 |cons a l J=>
  rintro d ρ hs i
  refine xE (hs [] a l ρ rfl (by rw[List.append_nil];exact i)) fun F r=>?_;haveI y:=r.1;haveI O:=r.2
  obtain⟨z,W,L⟩:=J (d++[a]) F (fun p b q ρ e j=>by
   haveI:=hs (a::p) b q ρ (by rw[e];rfl) (by simpa using j)
   simpa using this) (by simpa using O)
  refine⟨z,?_,by simpa using L⟩
  show obd (f (g a) ρ h) _=_
  rcases y with y|y<;>rw[y]<;>exact W
theorem bE(l:List α)(g:α->T)(I:List α->aE->Prop)(y:evI C ρ it h=some (l.map g,h))(h0:I [] ρ)
  (hs:∀p a q ρ,l=p++a::q->I p ρ->∃ρ',(evB C (upd ρ i (.fr (g a))) b h=some (.nxt ρ',h)\/evB C (upd ρ i (.fr (g a))) b h=some (.cnt ρ',h))/\I (p++[a]) ρ')
  {k:Fl->M β} {r:Option (β×List T)} (d:∀ρ',I l ρ'->k (.nxt ρ') h=r):obd (evS C ρ (.for1 i it b) h) k=r:=by
 refine xEA (um (f:=fun t ρ=>evB C (upd ρ i (.fr t)) b) I l [] ρ (by exact hs) h0) fun ρ' e z=>?_
 refine eX ?_ (d ρ' (by exact z))
 show obd (evI C ρ it h) _=_
 exact y▸e
theorem jV(l:List α)(g:α->T)(I:List α->aE->Prop)(d:evI C ρ it h=some (l.map g,h))(h0:I [] ρ)
  (hs:∀p a q ρ,l=p++a::q->I p ρ->∃ρ',(evB C (upd ρ i (.fr (g a))) b h=some (.nxt ρ',h)\/evB C (upd ρ i (.fr (g a))) b h=some (.cnt ρ',h))/\I (p++[a]) ρ'):∃ρ',evS C ρ (.for1 i it b) h=some (.nxt ρ',h)/\I l ρ':=by
 refine xEA (um (f:=fun t ρ=>evB C (upd ρ i (.fr t)) b) I l [] ρ (by exact hs) h0) fun ρ' e r=>?_
 refine⟨ρ',?_,by exact r⟩
 show obd (evI C ρ it h) _=_
 exact d▸e
theorem Dy{j:Nat}(l:List α)(g g':α->T)(I:List α->aE->Prop)(y:evI C ρ it h=some (l.map (fun a=>.tup [g a,g' a]),h))(h0:I [] ρ)
  (hs:∀p a q ρ,l=p++a::q->I p ρ->∃ρ',(evB C (upd (upd ρ i (.fr (g a))) j (.fr (g' a))) b h=some (.nxt ρ',h)\/evB C (upd (upd ρ i (.fr (g a))) j (.fr (g' a))) b h=some (.cnt ρ',h))/\I (p++[a]) ρ')
  {k:Fl->M β} {r:Option (β×List T)} (d:∀ρ',I l ρ'->k (.nxt ρ') h=r):obd (evS C ρ (.for2 i j it b) h) k=r:=by
 refine xEA (um (f:=fun t ρ=>opt ((tOf t).bind two) fun p=>evB C (upd (upd ρ i (.fr p.1)) j (.fr p.2)) b) (g:=fun a=>.tup [g a,g' a]) I l [] ρ (by exact hs) h0) fun ρ' e z=>?_
 refine eX ?_ (d ρ' (by exact z))
 show obd (evI C ρ it h) _=_
 exact y▸e
end
noncomputable def zv(f:T->aE->M Fl)(ts:List T):Fl->M Fl
 |.nxt ρ'=>kZ f ts ρ'
 |.cnt ρ'=>kZ f ts ρ'
 |.ret v=>pu (.ret v)
@[simp]theorem Ji(f:T->aE->M Fl)(ts:List T)(ρ:aE):zv f ts (.nxt ρ)=kZ f ts ρ:=rfl
@[simp]theorem Jj(f:T->aE->M Fl)(ts:List T)(ρ:aE):zv f ts (.cnt ρ)=kZ f ts ρ:=rfl
@[simp]theorem Jh(f:T->aE->M Fl)(ts:List T)(v:LV):zv f ts (.ret v)=pu (.ret v):=rfl
theorem cC(f:T->aE->M Fl)(ρ:aE):kZ f [] ρ=pu (.nxt ρ):=rfl
theorem bZ (f:T->aE->M Fl) (t:T) (ts:List T) (ρ:aE):kZ f (t::ts) ρ=bn (f t ρ) (zv f ts):=rfl
theorem eA(C:Nat->List T->M LV)(ρ:aE)(i:Nat)(it:It)(b:List S):evS C ρ (.for1 i it b)=bn (evI C ρ it) fun ts=>kZ (fun t ρ=>evB C (upd ρ i (.fr t)) b) ts ρ:=rfl
noncomputable def onE{α:Type}(f:T->M (Option α))(ts:List T)(r:Option α):M (List α):=bn (gI f ts) fun rs=>pu (match r with|some a=>a::rs|none=>rs)
noncomputable def zw(C:Nat->List T->M LV)(ρ:aE)(e:X)(ok:Bool):M (Option T):=match ok with
 |true=>bn (evX C ρ e) fun v=>pu (some v)
 |false=>pu none
@[simp]theorem KY(C:Nat->List T->M LV)(ρ:aE)(e:X):zw C ρ e true=bn (evX C ρ e) fun v=>pu (some v):=rfl
@[simp]theorem KZ(C:Nat->List T->M LV)(ρ:aE)(e:X):zw C ρ e false=pu none:=rfl
@[simp] theorem J2 {α:Type} (f:T->M (Option α)) (ts:List T) (a:α):onE f ts (some a)=bn (gI f ts) fun d=>pu (a::d):=rfl
@[simp]theorem J3{α:Type}(f:T->M (Option α))(ts:List T):onE f ts none=bn (gI f ts) fun d=>pu d:=rfl
theorem s0 {α:Type} (f:T->M (Option α)) (t:T) (ts:List T):gI f (t::ts)=bn (f t) (onE f ts):=rfl
theorem ux(C:Nat->List T->M LV)(ρ:aE)(i:Nat)(it:It)(cs:List X)(e:X):evX C ρ (.comp i it cs e)=bn (evI C ρ it) fun ts=>bn (gI (fun t=>bn (evC C (upd ρ i (.fr t)) cs) (zw C (upd ρ i (.fr t)) e)) ts) fun d=>pu (.list d):=by
 show bnd (evI C ρ it) _=_
 funext h
 show obd (evI C ρ it h) _=obd (evI C ρ it h) _
 congr 1
theorem xO(C:Nat->List T->M LV)(ρ:aE)(i j:Nat)(it:It)(cs:List X)(e:X):evS C ρ (.newComp i j it cs e)=bn (evX C ρ (.comp j it cs e)) fun t=>op (lOf t) fun l=>pu (.nxt (upd ρ i (.ol l))):=by
 funext h
 show obd (evI C ρ it h) _=obd (obd (evI C ρ it h) _) _
 cases evI C ρ it h with
 |none=>rfl
 |some p=>
  show obd (gI _ p.1 p.2) _=obd (obd (gI _ p.1 p.2) _) _
  cases gI _ p.1 p.2<;>rfl
theorem s9(C:Nat->List T->M LV)(ρ:aE)(n:Nat)(c:X)(b:List S):evS C ρ (.whl n c b)=pP (fun ρ=>bn (evX C ρ c) fun t=>lf (bOf t)) (fun ρ=>evB C ρ b) n ρ:=rfl
noncomputable def B5(c:aE->M Bool)(b:aE->M Fl)(n:Nat):Fl->M Fl
 |.nxt ρ'=>pP c b n ρ'
 |.cnt ρ'=>pP c b n ρ'
 |.ret v=>pu (.ret v)
@[simp]theorem Jg(c:aE->M Bool)(b:aE->M Fl)(n:Nat)(ρ:aE):B5 c b n (.nxt ρ)=pP c b n ρ:=rfl
noncomputable def EN(c:aE->M Bool)(b:aE->M Fl)(n:Nat)(ρ:aE):Bool->M Fl
 |false=>pu (.nxt ρ)
 |true=>bn (b ρ) (B5 c b n)
@[simp]theorem Ny(c:aE->M Bool)(b:aE->M Fl)(n:Nat)(ρ:aE):EN c b n ρ false=pu (.nxt ρ):=rfl
@[simp]theorem Nx(c:aE->M Bool)(b:aE->M Fl)(n:Nat)(ρ:aE):EN c b n ρ true=bn (b ρ) (B5 c b n):=rfl
theorem BP(c:aE->M Bool)(b:aE->M Fl)(n:Nat)(ρ:aE):pP c b (n+1) ρ=bn (c ρ) (EN c b n ρ):=rfl
theorem JA(c:aE->M Bool)(b:aE->M Fl)(ρ:aE):pP c b 40 ρ=bn (c ρ) (EN c b 39 ρ):=rfl
theorem BO{C:Nat->List T->M LV}{c:X}{b:List S}{h:List T}(I:Nat->aE->Prop)
  (hs:∀k ρ,I k ρ->evX C ρ c h=some (.bool false,h)\/(evX C ρ c h=some (.bool true,h)/\∃ρ' r,evB C ρ b h=some (.nxt ρ',h)/\r<k/\I r ρ')):
  ∀d k ρ,k<d->I k ρ->∃ρ' r,evS C ρ (.whl d c b) h=some (.nxt ρ',h)/\I r ρ'/\evX C ρ' c h=some (.bool false,h):=by
 intro d
 induction d with
 |zero=>intro k ρ h;lia
 |succ f L=>
  intro k ρ hk i
  rcases hs k ρ i with e|⟨e,z,J,Z,Y,W⟩
  ·refine⟨ρ,k,?_,i,e⟩
   rw[s9,BP]
   simp[e]
  ·refine xEE (L J z (by lia) W) fun y H q=>?_;haveI F:=q.1;haveI O:=q.2
   refine⟨y,H,?_,O⟩
   rw[s9]at F
   rw[s9,BP]
   simp[e,Z,F]
theorem wQ{a b:List T}(h:a.length+b.length<=lim):hZ .add (.list a) (.list b)=some (.list (a++b)):=by
 exact if_pos h
theorem cV{a:Nat}(h:a<=100):a<=lim:=Nat.le_trans h (by decide)
theorem t9{a:Nat}(h:a<=100):a<lim:=Nat.lt_of_le_of_lt h (by decide)
noncomputable def nt{α:Type} [Inhabited α](l:List α)(j:Nat):α:=l.getD j default
theorem jm{α:Type} [Inhabited α]{l:List α}{j:Nat}(h:j<l.length):l[j]? =some (nt l j):=by
 simp[nt,h]
theorem eL{α β:Type} [Inhabited α][Inhabited β]{l:List α}{j:Nat}(g:α->β)(h:j<l.length):nt (l.map g) j=g (nt l j):=by
 simp[nt,h]
theorem bR{α:Type} [Inhabited α]{l:List α}{j:Nat}(h:j<l.length):nt l j∈l:=by
 simp[nt,h]
theorem nP{α β:Type} [Inhabited α](g:α->β)(l:List α):(List.range l.length).map (fun j=>g (nt l j))=l.map g:=by
 apply List.ext_getElem?
 intro j
 by_cases h:j<l.length
 ·simp[h,nt]
 ·simp[h]
theorem qO{l:List T}{j:Nat}(h:j<l.length)(d:l.length<=100):bF (.list l) (tn j)=some (nt l j):=by
 show(place (j:Int) l.length).bind _=_
 rw[Fq h (Nat.le_trans d (by decide))]
 exact jm h
theorem aW{α:Type} [Inhabited α]{l:List α}{g:α->T}{j:Nat}(h:j<l.length)(d:l.length<=100):bF (.list (l.map g)) (tn j)=some (g (nt l j)):=by
 rw[qO (by rw[List.length_map];exact h) (by rw[List.length_map];exact d),eL g h]
theorem bK{l:List T}(h:l.length<=100):cL (.list l)=some l.length:=if_pos (Nat.le_trans h (by decide))
theorem kT{α:Type}{l:List α}{f:α->T}(h:l.length<=100):cL (.list (l.map f))=some l.length:=(bK (by rw[List.length_map];exact h)).trans (congrArg some (List.length_map f))
theorem cH{l:List T}(h:l.length<=100):fN (.list l)=some l:=if_pos (Nat.le_trans h (by decide))
theorem v7(t:T):fN (.list [t])=some [t]:=rfl
theorem kR{α:Type}{l:List α}{m:Nat}{p q:List α}{a:α}(e:l=p++a::q)(h:l.length<=m):p.length<m:=by
 rw[e]at h;simp at h;lia
theorem dH{m:Nat}{p q:List Nat}{a:Nat}(e:List.range m=p++a::q):a<m/\p.length=a/\p=List.range a:=by
 have y:a<m:=by
  haveI:a∈List.range m:=by rw[e];exact List.mem_append_right _ (.head _)
  simpa using this
 have g:∀j:Nat,(List.range m)[j]? =(p++a::q)[j]? :=fun j=>e▸rfl
 haveI z:m=p.length+(q.length+1):=by simpa using congrArg List.length e
 have r:p.length=a:=by
  haveI:=g p.length
  rw[List.getElem?_range (by lia)]at this
  simpa using this
 refine⟨y,r,?_⟩
 apply List.ext_getElem?
 intro j
 by_cases d:j<p.length
 ·haveI:=g j
  rw[List.getElem?_range (tln (tln d (eln r)) (Nat.le_of_lt y)),List.getElem?_append_left d]at this
  rw[<-this,List.getElem?_range (tln d (eln r))]
 ·rw[List.getElem?_eq_none (Nat.not_lt.mp d),List.getElem?_eq_none (by simp;exact trn (ern r) (Nat.not_lt.mp d))]
theorem dT{a:Nat}(h:a<100):a<lim:=Nat.lt_trans h (by decide)
theorem sO{m:Nat}{a:Int}(q:0<=a)(d:a+m<=1000):hH a (a+m) 1=some ((List.range m).map fun(j:Nat)=>T.int (a+j)):=by
 unfold hH
 rw[if_pos (by lia)]
 haveI:(a+m-a+1-1).fdiv 1=m:=by rw[Int.fdiv_eq_ediv_of_nonneg _ (by decide)];lia
 rw[this]
 simp
theorem bX {m:Nat} (d:m<=100):lI [.int (m:Int)]=some ((List.range m).map tn):=by
 haveI:=sO (m:=m) (a:=0) (by decide) (by lia)
 simp at this
 show hH 0 (m:Int) 1=_
 rw[this];rfl
theorem nv{m:Nat}(d:m<=100):lI [.int 1,.int ((m:Int)+1)]=some ((List.range m).map fun j=>tn (j+1)):=by
 haveI:=sO (m:=m) (a:=1) (by decide) (by lia)
 show hH 1 ((m:Int)+1) 1=_
 rw[Int.add_comm,this]
 congr 2
 funext j
 show T.int (1+(j:Int))=.int ((j+1:Nat):Int)
 congr 1;exact Int.add_comm ..
section
variable(n:Nat)(h:List T)
theorem kh{k:Str}{its:List T}{a:T}{kl:LV}{ka:T}{js:List Nat}(L:its.length<=100)(y:js.length<=100)(hj:∀j∈js,j<its.length)
  (hk:aA tab (n+1) 45 [.vec k (.list its) a] h=some (kl,h)) (z:frz kl=some ka) (F:GN ka=some ka):
  aA tab (n+2) 46 [.vec k (.list its) a,.list (js.map tn)] h=some (.fr (.vec k (.list (js.map fun j=>nt its j)) ka),h):=by
 simp[sj,iR,Ip (cV L)]
 refine bE js tn (fun d ρ=>ρ 0=.fr (.vec k (.list its) a)/\ρ 3=.fr (tn its.length)/\ρ 2=.ol (d.map fun j=>nt its j)) ?_ ?_ ?_ ?_
 ·simp[qK,cV y]
 ·simp[tn]
 ·rintro p a q ρ rfl r;haveI J:=r.1;haveI W:=r.2.1;haveI H:=r.2.2
  haveI O:=hj a (by simp)
  haveI Z:p.length<lim:=t9 (by simp at y;exact trn (Nat.le_add_right ..) y)
  simp[J,H,W,tn,show bF (.list its) (.int a)=_ from qO O L,Z,Nat.not_le.mpr O]
 ·rintro Y r;haveI J:=r.1;haveI W:=r.2.1;haveI H:=r.2.2
  simp[H,J,hk,z,show∀a b c,j8 [a,b,c]=mkV a b c from fun _ _ _=>rfl,mkV,F]
end
section
variable{β:Type}(C:Nat->List T->M LV)(ρ:aE)
noncomputable def ok(x:X)(m:M β)(k:T->M β):M β:=match lq x with
 |some i=>op (cU (ρ i)) k
 |none=>m
noncomputable def oc(q:Bool)(a b:M β):M β:=match q with
 |true=>a
 |false=>b
mutual
noncomputable def kX:X->(T->M β)->M β
 |.none,k=>k .none
 |.bool b,k=>k (.bool b)
 |.int i,k=>k (.int i)
 |.str s,k=>k (.str s)
 |.var i,k=>op (cI (ρ i)) k
 |.gfn f,k=>k (.fn f)
 |.len x,k=>ok ρ x (kX x fun t=>op (cL t) fun n=>k (.int n)) fun t=>op (cL t) fun n=>k (.int n)
 |.neg x,k=>kX x fun t=>op (iOf t) fun i=>k (.int (-i))
 |.max a b,k=>kX a fun a=>kX b fun b=>op (iOf a) fun a=>op (iOf b) fun b=>k (.int (if b>a then b else a))
 |.str1 x,k=>kX x fun t=>op (tj t) k
 |.sum x,k=>kX x fun t=>op (lOf t) fun ts=>op (oP ts 0) fun i=>k (.int i)
 |.listOf x,k=>kX x fun t=>op (lOf t) fun ts=>oc (decide (ts.length<=lim)) (k (.list ts)) fa
 |.isNone x,k=>kX x fun t=>k (.bool (aZ t))
 |.notNone x,k=>kX x fun t=>k (.bool !(aZ t))
 |.cmp c a b,k=>kX a fun a=>kX b fun b=>op (yS c a b) fun q=>k (.bool q)
 |.eq a b,k=>kX a fun a=>kX b fun b=>op (eqT a b) fun q=>k (.bool q)
 |.ne a b,k=>kX a fun a=>kX b fun b=>op (eqT a b) fun q=>k (.bool !q)
 |.isIn a b,k=>kX a fun a=>ok ρ b (kX b fun b=>op (inT a b) fun q=>k (.bool q)) fun b=>op (inT a b) fun q=>k (.bool q)
 |.notIn a b,k=>kX a fun a=>ok ρ b (kX b fun b=>op (inT a b) fun q=>k (.bool !q)) fun b=>op (inT a b) fun q=>k (.bool !q)
 |.and xs,k=>Iw xs k
 |.or xs,k=>kOr xs k
 |.not x,k=>kX x fun t=>op (bOf t) fun q=>k (.bool !q)
 |.ite c a b,k=>kX c fun t=>op (bOf t) fun q=>oc q (kX a k) (kX b k)
 |.bin o a b,k=>kX a fun a=>kX b fun b=>op (hZ o a b) k
 |.attr x f,k=>kX x fun t=>op (cQ f t) k
 |.idx x y,k=>ok ρ x (kX x fun t=>kX y fun y=>op (bF t y) k) fun t=>kX y fun y=>op (bF t y) k
 |.list xs,k=>kXs xs fun ts=>k (.list ts)
 |.tup xs,k=>kXs xs fun ts=>k (.tup ts)
 |.mkVec xs,k=>kXs xs fun ts=>op (j8 ts) k
 |.call f xs,k=>kXs xs fun ts=>bn (C f ts) fun v=>op (frz v) k
 |.callV i xs,k=>op (A1 (ρ i)) fun f=>kXs xs fun ts=>bn (C f ts) fun v=>op (frz v) k
 |.get x y,k=>ok ρ x (kX x fun t=>op (dOf t) fun d=>kX y fun y=>op (bG y) fun y=>k ((cJ y d.1 d.2).getD .none)) fun t=>op (dOf t) fun d=>kX y fun y=>op (bG y) fun y=>k ((cJ y d.1 d.2).getD .none)
 |.getD x y z,k=>ok ρ x (kX x fun t=>op (dOf t) fun e=>kX y fun y=>kX z fun d=>op (bG y) fun y=>k ((cJ y e.1 e.2).getD d)) fun t=>op (dOf t) fun e=>kX y fun y=>kX z fun d=>op (bG y) fun y=>k ((cJ y e.1 e.2).getD d)
 |.sliceTo x n,k=>kX x fun t=>kX n fun n=>op (lOf t) fun ts=>op (nC n) fun n=>oc (decide (ts.length<=lim)) (k (.list (ts.take n))) fa
 |.sliceFrom x n,k=>kX x fun t=>kX n fun n=>op (lOf t) fun ts=>op (nC n) fun n=>oc (decide (ts.length<=lim)) (k (.list (ts.drop n))) fa
 |.sorted x,k=>ok ρ x (kX x fun t=>op (lOf t) fun ts=>op (dD ts) fun us=>k (.list us)) fun t=>op (lOf t) fun ts=>op (dD ts) fun us=>k (.list us)
 |.listR xs,k=>kXs xs fun ts=>op (lI ts) fun us=>k (.list us)
 |.handGet i j,k=>op (iL (ρ i)) fun _ h=>op (h[j]?) k h
 |x,k=>bn (evX C ρ x) k
noncomputable def kXs:List X->(List T->M β)->M β
 | [],k=>k []
 |x::xs,k=>kX x fun t=>kXs xs fun ts=>k (t::ts)
noncomputable def Iw:List X->(T->M β)->M β
 | [],k=>k (.bool true)
 |x::xs,k=>kX x fun t=>op (bOf t) fun q=>oc q (Iw xs k) (k (.bool false))
noncomputable def kOr:List X->(T->M β)->M β
 | [],k=>k (.bool false)
 |x::xs,k=>kX x fun t=>op (bOf t) fun q=>oc q (k (.bool true)) (kOr xs k)
end
end
theorem G0{α β d:Type}(o:Option α)(f:α->M β)(k:β->M d):bn (opt o f) k=op o fun a=>bn (f a) k:=by cases o<;>rfl
theorem jv{α d:Type}(o:Option α)(k:α->M d):bn (lft o) k=op o k:=by cases o<;>rfl
theorem lS{α β d:Type}(o:Option α)(f:α->β)(k:β->M d):bn (lft (o.map f)) k=op o fun a=>k (f a):=by cases o<;>rfl
theorem wO{α β d:Type}(m:M α)(f:α->M β)(k:β->M d):bn (bnd m f) k=bn m fun a=>bn (f a) k:=by
 funext h;show obd (obd (m h) f) k=obd (m h) _;exact Ft ..
theorem kq{α β:Type}(q:Bool)(m:M α)(k:α->M β):bn (iff q m) k=oc q (bn m k) fa:=by cases q<;>rfl
theorem z6{α β:Type}(t:T)(a b:M α)(k:α->M β):bn (cnd t a b) k=op (bOf t) fun q=>oc q (bn a k) (bn b k):=by
 show bn (opt (bOf t) _) k=_
 rw[G0];congr 1;funext q;cases q<;>rfl
section
variable{β:Type}{C:Nat->List T->M LV}{ρ:aE}
theorem qh{x:X}{m:M T}{d:M β}{k:T->M β}(e:d=bn m k):ok ρ x d k=bn (opd ρ x m) k:=by
 show(match lq x with|some i=>op (cU (ρ i)) k|none=>d)=bn (match lq x with|some i=>lft (cU (ρ i))|.none=>m) k
 cases lq x with
 |none=>exact e
 |some i=>exact(jv ..).symm
theorem c1{α d:Type}{m:M α}{f:α->M d}{q:α->M β}{k:d->M β}(e:∀t,q t=bn (f t) k):bn m q=bn (bnd m f) k:=
 (congrArg (bn m) (funext e)).trans (wO ..).symm
theorem d1{α d:Type}{o:Option α}{f:α->M d}{q:α->M β}{k:d->M β}(e:∀t,q t=bn (f t) k):op o q=bn (opt o f) k:=
 (congrArg (op o) (funext e)).trans (G0 ..).symm
theorem Iv:∀x:X,∀k:T->M β,kX C ρ x k=bn (evX C ρ x) k:=by
 refine X.rec (motive_1:=fun x=>∀k:T->M β,kX C ρ x k=bn (evX C ρ x) k) (motive_2:=fun _=>True) (motive_3:=fun F=>(∀k:List T->M β,kXs C ρ F k=bn (d9 C ρ F) k)/\(∀k:T->M β,Iw C ρ F k=bn (mC C ρ F) k)/\∀k:T->M β,kOr C ρ F k=bn (ur C ρ F) k)
  (fun _=>rfl)
  (fun _ _=>rfl)
  (fun _ _=>rfl)
  (fun _ _=>rfl)
  (fun _ _ _=>rfl)
  (fun _ _=>(jv ..).symm)
  (fun _ _=>rfl)
  (fun _ r _=>(qh (r _)).trans (c1 fun t=>(lS ..).symm))
  (fun _ _ _=>rfl)
  (fun _ r _=>(r _).trans (c1 fun t=>d1 fun i=>rfl))
  (fun _ _ z y _=>(z _).trans (c1 fun _=>(y _).trans (c1 fun _=>d1 fun _=>d1 fun _=>rfl)))
  (fun _ r _=>(r _).trans (c1 fun t=>(jv ..).symm))
  (fun _ r _=>(r _).trans (c1 fun t=>d1 fun _=>(lS ..).symm))
  (fun _ r _=>(qh (r _)).trans (c1 fun _=>d1 fun _=>(lS ..).symm))
  (fun _ _ _=>rfl)
  (fun _ _ _=>rfl)
  (fun _ r k=>(r _).trans (c1 fun t=>d1 fun H=>(kq _ (pur (.list H)) k).symm))
  (fun _ d _=>(d.1 _).trans (c1 fun _=>(lS ..).symm))
  (fun _ r _=>(r _).trans (c1 fun t=>rfl))
  (fun _ r _=>(r _).trans (c1 fun t=>rfl))
  (fun _ _ _=>rfl)
  (fun _ _ _=>rfl)
  (fun _ _ _ z y _=>(z _).trans (c1 fun _=>(y _).trans (c1 fun _=>(lS ..).symm)))
  (fun _ _ z y _=>(z _).trans (c1 fun _=>(y _).trans (c1 fun _=>(lS ..).symm)))
  (fun _ _ z y _=>(z _).trans (c1 fun _=>(y _).trans (c1 fun _=>(lS ..).symm)))
  (fun _ _ z y _=>(z _).trans (c1 fun _=>(qh (y _)).trans (c1 fun _=>(lS ..).symm)))
  (fun _ _ z y _=>(z _).trans (c1 fun _=>(qh (y _)).trans (c1 fun _=>(lS ..).symm)))
  (fun _ d k=>d.2.1 k)
  (fun _ d k=>d.2.2 k)
  (fun _ r _=>(r _).trans (c1 fun t=>d1 fun _=>rfl))
  (fun _ _ _ W z y k=>(W _).trans (c1 fun t=>(congrArg (op (bOf t)) (funext fun q=>congr (congrArg (oc q) (z k)) (y k))).trans (z6 ..).symm))
  (fun _ _ _ z y _=>(z _).trans (c1 fun _=>(y _).trans (c1 fun _=>(jv ..).symm)))
  (fun _ _ r _=>(r _).trans (c1 fun t=>(jv ..).symm))
  (fun _ _ r J _=>(qh (r _)).trans (c1 fun _=>(J _).trans (c1 fun _=>(jv ..).symm)))
  (fun _ _ r J _=>(qh (r _)).trans (c1 fun _=>d1 fun _=>(J _).trans (c1 fun _=>d1 fun _=>rfl)))
  (fun _ _ _ r J O _=>(qh (r _)).trans (c1 fun _=>d1 fun _=>(J _).trans (c1 fun _=>(O _).trans (c1 fun _=>d1 fun _=>rfl))))
  (fun _ n r L k=>(r _).trans (c1 fun _=>(L _).trans (c1 fun _=>d1 fun H=>d1 fun n=>(kq _ (pur (.list (H.take n))) k).symm)))
  (fun _ n r L k=>(r _).trans (c1 fun _=>(L _).trans (c1 fun _=>d1 fun H=>d1 fun n=>(kq _ (pur (.list (H.drop n))) k).symm)))
  (fun _ d _=>(d.1 _).trans (c1 fun _=>rfl))
  (fun _ d _=>(d.1 _).trans (c1 fun _=>rfl))
  (fun _ d _=>(d.1 _).trans (c1 fun _=>(jv ..).symm))
  (fun _ _ d _=>(d.1 _).trans (c1 fun _=>c1 fun _=>(jv ..).symm))
  (fun _ _ d _=>d1 fun _=>(d.1 _).trans (c1 fun _=>c1 fun _=>(jv ..).symm))
  (fun _ _ _ _ _ _ _ _=>rfl)
  (fun _ _ _ _ _=>rfl)
  (fun _ _ _ _=>rfl)
  (fun _ _ _ _ _ _=>rfl)
  (fun _ _ _ _ _=>rfl)
  (fun _ _ _ _ _=>rfl)
  (fun _ j k=>d1 fun _=>funext fun h=>by
  show op (h[j]?) k h=obd ((h[j]?).map fun t=>(t,h)) k
  cases h[j]? <;>rfl)
  (fun _=>rfl)
  (fun _ _=>trivial)
  (fun _ _=>trivial)
  (fun _ _=>trivial)
  ⟨fun _=>rfl,fun _=>rfl,fun _=>rfl⟩ (fun x F r d=>⟨fun k=>(r _).trans (c1 fun _=>(d.1 _).trans (c1 fun _=>rfl)),fun k=>(r _).trans (c1 fun t=>(congrArg (op (bOf t)) (funext fun q=>congrArg (fun m=>oc q m _) (d.2.1 k))).trans (z6 t (mC C ρ F) (pur (T.bool false)) k).symm),fun k=>(r _).trans (c1 fun t=>(congrArg (op (bOf t)) (funext fun q=>congrArg (fun m=>oc q _ m) (d.2.2 k))).trans (z6 t (pur (T.bool true)) (ur C ρ F) k).symm)⟩)
theorem eE(x:X)(k:T->M β):kX C ρ x k=bn (evX C ρ x) k:=Iv x k
theorem nQ(xs:List X)(k:List T->M β):kXs C ρ xs k=bn (d9 C ρ xs) k:=by
 induction xs generalizing k with
 |nil=>rfl
 |cons x xs d=>exact(eE x _).trans (c1 fun _=>(d _).trans (c1 fun _=>rfl))
end
noncomputable def nk{β:Type}(nx:aE->M β)(K:Fl->M β):Fl->M β
 |.nxt ρ=>nx ρ
 |.cnt ρ=>K (.cnt ρ)
 |.ret v=>K (.ret v)
section
variable{β:Type}(C:Nat->List T->M LV)
mutual
noncomputable def kS(ρ:aE):S->(aE->M β)->(Fl->M β)->M β
 |.asg i x,nx,_=>kX C ρ x fun t=>nx (upd ρ i (.fr t))
 |.newL i xs,nx,_=>kXs C ρ xs fun ts=>nx (upd ρ i (.ol ts))
 |.newD i,nx,_=>nx (upd ρ i (.od [] []))
 |.newDL i,nx,_=>nx (upd ρ i (.odl [] []))
 |.newMul i a n,nx,_=>kX C ρ a fun a=>kX C ρ n fun n=>op (iOf n) fun n=>oc (decide (0<=n/\n<=100)) (nx (upd ρ i (.ol (List.replicate n.toNat a)))) fa
 |.newV i xs,nx,_=>kXs C ρ xs fun ts=>op (two ts) fun p=>op (sOf p.1) fun k=>op (lOf p.2) fun l=>nx (upd ρ i (.ov k (.list l) .none))
 |.asgO i f xs,nx,_=>kXs C ρ xs fun ts=>bn (C f ts) fun v=>nx (upd ρ i v)
 |.freeze i,nx,_=>op (frz (ρ i)) fun t=>nx (upd ρ i (.fr t))
 |.unpack2 i j x,nx,_=>kX C ρ x fun t=>op ((lE t).bind two) fun p=>nx (upd (upd ρ i (.fr p.1)) j (.fr p.2))
 |.append i x,nx,_=>kX C ρ x fun t=>op (gT (ρ i)) fun ts=>oc (decide (ts.length<lim)) (nx (upd ρ i (.ol (ts++[t])))) fa
 |.extend i x,nx,_=>kX C ρ x fun t=>op (lOf t) fun us=>op (gT (ρ i)) fun ts=>oc (decide (ts.length+us.length<=lim)) (nx (upd ρ i (.ol (ts++us)))) fa
 |.store i y v,nx,_=>kX C ρ v fun v=>kX C ρ y fun y=>op (bG y) fun y=>op (qj (ρ i)) fun d=>oc (decide (d.1.length<lim)) (nx (upd ρ i (.od (dN y v d.1 d.2).1 (dN y v d.1 d.2).2))) fa
 |.augItem i y x,nx,_=>kX C ρ y fun y=>kX C ρ x fun x=>op (iOf x) fun x=>op (gT (ρ i)) fun ts=>op (nC y) fun j=>op ((ts[j]?).bind iOf) fun a=>nx (upd ρ i (.ol (ts.set j (.int (a+x)))))
 |.sdApp i y v,nx,_=>kX C ρ y fun y=>op (bG y) fun y=>kX C ρ v fun v=>op (vA (ρ i)) fun d=>oc (decide (d.1.length<lim)&&d.2.all (fun l=>decide (l.length<lim))) (nx (upd ρ i (.odl (gG y v d.1 d.2).1 (gG y v d.1 d.2).2))) fa
 |.setAttrItem i y x,nx,_=>kX C ρ x fun t=>op (vu (ρ i)) fun v=>op v.2.2 fun d=>oc (decide (d.1.length<lim)) (nx (upd ρ i (.ov v.1 v.2.1 (some (dN (.s y) t d.1 d.2))))) fa
 |.ite c a b,nx,K=>kX C ρ c fun t=>op (bOf t) fun q=>oc q (kB ρ a (nk nx K)) (kB ρ b (nk nx K))
 |.ret x,_,K=>kX C ρ x fun t=>K (.ret (.fr t))
 |.expr x,nx,_=>kX C ρ x fun t=>op (nOf t) fun _=>nx ρ
 |.cont,_,K=>K (.cnt ρ)
 |.aug i .add x,nx,_=>op ((cI (ρ i)).bind iOf) fun a=>kX C ρ x fun t=>op (iOf t) fun b=>nx (upd ρ i (.fr (.int (a+b))))
 |.setAttrs i ks xs,nx,_=>kXs C ρ xs fun ts=>op (vu (ρ i)) fun v=>oc (v.2.2.isNone&&iK ks&&decide (ks.length=ts.length)) (nx (upd ρ i (.ov v.1 v.2.1 (some (ks.map .s,ts))))) fa
 |.handSet i j x,nx,_=>kX C ρ x fun t=>op (iL (ρ i)) fun _ h=>oc (decide (j<h.length)) (fun _=>nx ρ (h.set j t)) fa h
 |.newHand i xs,nx,_=>kXs C ρ xs fun ts=>bn (rG ts) fun _=>nx (upd ρ i (.fr .hand))
 |.share i,nx,_=>op ((cI (ρ i)).bind vOf) fun _=>nx ρ
 |.newComp i j it cs e,nx,_=>bn (evX C ρ (.comp j it cs e)) fun t=>op (lOf t) fun l=>nx (upd ρ i (.ol l))
 |s,nx,K=>bn (evS C ρ s) (nk nx K)
noncomputable def kB(ρ:aE):List S->(Fl->M β)->M β
 | [],K=>K (.nxt ρ)
 |s::r,K=>kS ρ s (fun ρ'=>kB ρ' r K) K
end
end
section
variable{β:Type}{C:Nat->List T->M LV}
theorem G4(r:List S)(K:Fl->M β)(e:∀ρ,kB C ρ r K=bn (evB C ρ r) K)(d:Fl):nk (fun ρ'=>kB C ρ' r K) K d=bn (gU C r d) K:=by
 cases d with
 |nxt ρ=>exact e ρ
 |cnt ρ=>rfl
 |ret v=>rfl
theorem Kb:∀(s:S)(ρ:aE)(z:aE->M β)(K:Fl->M β),kS C ρ s z K=bn (evS C ρ s) (nk z K):=by
 refine S.rec (motive_1:=fun s=>∀(ρ:aE) (z:aE->M β) (K:Fl->M β),kS C ρ s z K=bn (evS C ρ s) (nk z K)) (motive_2:=fun b=>∀(ρ:aE) (K:Fl->M β),kB C ρ b K=bn (evB C ρ b) K)
  (fun _ x _ _ _=>(eE x _).trans (c1 fun _=>rfl))
  (fun _ F _ _ _=>(nQ F _).trans (c1 fun _=>rfl))
  (fun _ _ _ _=>rfl)
  (fun _ _ _ _=>rfl)
  (fun i a n ρ z K=>(eE a _).trans (c1 fun a=>(eE n _).trans (c1 fun _=>d1 fun n=>(kq _ (pur (.nxt (upd ρ i (.ol (List.replicate n.toNat a))))) (nk z K)).symm)))
  (fun _ _ _ _ _=>rfl)
  (fun _ _ _ _ _ _ _ _=>by rw[xO];exact c1 fun t=>d1 fun l=>rfl)
  (fun _ F _ _ _=>(nQ F _).trans (c1 fun _=>d1 fun _=>d1 fun _=>d1 fun _=>rfl))
  (fun _ F _ _ _=>(nQ F _).trans (c1 fun _=>c1 fun _=>rfl))
  (fun _ _ F _ _ _=>(nQ F _).trans (c1 fun _=>c1 fun _=>rfl))
  (fun _ _ _ _=>d1 fun _=>rfl)
  (fun _ _ x _ _ _=>(eE x _).trans (c1 fun _=>d1 fun _=>rfl))
  (fun _ o x _ _ _=>by
   cases o with
   |add=>exact d1 fun _=>(eE x _).trans (c1 fun _=>d1 fun _=>rfl)
   |_=>rfl)
  (fun i x ρ z K=>(eE x _).trans (c1 fun t=>d1 fun H=>(kq _ (pur (.nxt (upd ρ i (.ol (H++[t]))))) (nk z K)).symm))
  (fun i x ρ z K=>(eE x _).trans (c1 fun t=>d1 fun J=>d1 fun H=>(kq _ (pur (.nxt (upd ρ i (.ol (H++J))))) (nk z K)).symm))
  (fun _ _ _ _=>rfl)
  (fun i y v ρ z K=>(eE v _).trans (c1 fun v=>(eE y _).trans (c1 fun _=>d1 fun y=>d1 fun d=>(kq _ (pur (.nxt (upd ρ i (.od (dN y v d.1 d.2).1 (dN y v d.1 d.2).2)))) (nk z K)).symm)))
  (fun _ y x _ _ _=>(eE y _).trans (c1 fun _=>(eE x _).trans (c1 fun _=>d1 fun _=>d1 fun _=>d1 fun _=>d1 fun _=>rfl)))
  (fun i y v ρ z K=>(eE y _).trans (c1 fun _=>d1 fun y=>(eE v _).trans (c1 fun v=>d1 fun d=>(kq _ (pur (.nxt (upd ρ i (.odl (gG y v d.1 d.2).1 (gG y v d.1 d.2).2)))) (nk z K)).symm)))
  (fun _ _ _ _ _ _ _=>rfl)
  (fun i W F ρ z K=>(nQ F _).trans (c1 fun H=>d1 fun v=>(kq _ (pur (.nxt (upd ρ i (.ov v.1 v.2.1 (some (W.map .s,H)))))) (nk z K)).symm))
  (fun i y x ρ z K=>(eE x _).trans (c1 fun t=>d1 fun v=>d1 fun d=>(kq _ (pur (.nxt (upd ρ i (.ov v.1 v.2.1 (some (dN (.s y) t d.1 d.2)))))) (nk z K)).symm))
  (fun _ _ _ _=>d1 fun _=>rfl)
  (fun _ j x ρ z K=>(eE x _).trans (c1 fun t=>d1 fun _=>funext fun h=>by
  show oc (decide (j<h.length)) (fun _=>z ρ (h.set j t)) fa h=obd (match decide (j<h.length)with|true=>some (.nxt ρ,h.set j t)|false=>.none) (nk z K)
  cases decide (j<h.length)<;>rfl))
  (fun c _ _ O L ρ _ _=>(eE c _).trans (c1 fun t=>(congrArg (op (bOf t)) (funext fun q=>congr (congrArg (oc q) (O ρ _)) (L ρ _))).trans (z6 ..).symm))
  (fun _ _ _ _ _ _ _=>rfl)
  (fun _ _ _ _ _ _ _=>rfl)
  (fun _ _ _ _ _ _ _ _=>rfl)
  (fun x _ _ _=>(eE x _).trans (c1 fun _=>rfl))
  (fun _ _ _ _ _=>rfl)
  (fun x _ _ _=>(eE x _).trans (c1 fun _=>d1 fun _=>rfl))
  (fun _ _ _=>rfl)
  (fun _ _ _=>rfl)
  (fun _ _=>rfl) (fun s r a b ρ K=>(a ρ _ _).trans ((congrArg (bn (evS C ρ s)) (funext (G4 r K fun ρ=>b ρ K))).trans (wO ..).symm))
theorem zN(ρ:aE)(b:List S)(K:Fl->M β):kB C ρ b K=bn (evB C ρ b) K:=by
 induction b generalizing ρ with
 |nil=>rfl
 |cons s r d=>exact(Kb s ρ _ _).trans ((congrArg (bn (evS C ρ s)) (funext (G4 r K fun ρ=>d ρ))).trans (wO ..).symm)
variable{α:Type}{h h1:List T}
noncomputable def kI(C:Nat->List T->M LV)(ρ:aE):It->(List T->M β)->M β
 |.val x,k=>kX C ρ x fun t=>op (fN t) k
 |.range xs,k=>kXs C ρ xs fun ts=>op (lI ts) k
 |it,k=>bn (evI C ρ it) k
theorem G5(ρ:aE):∀(it:It)(k:List T->M β),kI C ρ it k=bn (evI C ρ it) k:=by
 intro r
 cases r with
 |val x=>
  rintro k
  exact(eE x _).trans (c1 fun _=>(jv ..).symm)
 |range d=>
  rintro k
  exact(nQ d _).trans (c1 fun _=>(jv ..).symm)
 |rev q=>
  rintro _
  exact rfl
noncomputable def kL(C:Nat->List T->M LV)(i:Nat)(b:List S)(nx:aE->M β)(K:Fl->M β):List T->aE->M β
 | [],ρ=>nx ρ
 |t::ts,ρ=>kB C (upd ρ i (.fr t)) b fun
  |.nxt ρ'=>kL C i b nx K ts ρ'
  |.cnt ρ'=>kL C i b nx K ts ρ'
  |.ret v=>K (.ret v)
theorem Kc(i:Nat)(b:List S)(q:aE->M β)(K:Fl->M β):∀(ts:List T)(ρ:aE),kL C i b q K ts ρ=bn (kZ (fun t ρ=>evB C (upd ρ i (.fr t)) b) ts ρ) (nk q K):=by
 intro y
 induction y with
 |nil=>
  rintro _
  exact rfl
 |cons t ts r=>
  rintro ρ
  exact(zN _ b _).trans ((congrArg (bn (evB C (upd ρ i (.fr t)) b)) (funext fun z=>by
   cases z with
   |nxt d=>exact r d
   |cnt d=>exact r d
   |ret v=>rfl)).trans (wO ..).symm)
theorem jl{ρ:aE}{i:Nat}{it:It}{b:List S}{d:aE->M β}{K:Fl->M β}{r:Option (β×List T)}(q:kI C ρ it (fun ts=>kL C i b d K ts ρ) h=r):bn (evS C ρ (.for1 i it b)) (nk d K) h=r:=by
 refine Eq.trans (congrFun ?_ h) q
 rw[G5,funext fun ts=>Kc i b d K ts ρ]
 exact wO ..
theorem Ed(m:M α)(h:List T):bn m pu h=m h:=by
 show obd (m h) pu=m h
 cases m h<;>rfl
theorem kIe{ρ:aE}{it:It}{r:Option (List T×List T)}(q:kI C ρ it pu h=r):evI C ρ it h=r:=((congrFun (G5 ρ it pu) h).trans (Ed ..)).symm.trans q
theorem kXe{ρ:aE}{x:X}{r:Option (T×List T)}(q:kX C ρ x pu h=r):evX C ρ x h=r:=((congrFun (eE x pu) h).trans (Ed ..)).symm.trans q
theorem kF{ρ:aE}{b:List S}{z r:Option (LV×List T)}(e:z=obd (evB C ρ b h) gi)(q:kB C ρ b gi h=r):z=r:=e.trans ((congrFun (zN ρ b gi) h).symm.trans q)
theorem kE{ρ:aE}{b:List S}{r:Option (Fl×List T)}(q:kB C ρ b pu h=r):evB C ρ b h=r:=((congrFun (zN ρ b pu) h).trans (Ed ..)).symm.trans q
theorem jo{o:Option α}{f:α->M β}{a:α}{r:Option (β×List T)}(p:o=some a)(q:f a h=r):op o f h=r:=(congrArg (fun o=>op o f h) p).trans q
theorem jb{m:M α}{f:α->M β}{a:α}{r:Option (β×List T)}(p:m h=some (a,h1))(q:f a h1=r):bn m f h=r:=(congrArg (fun o=>obd o f) p).trans q
theorem kG{ρ:aE}{b:List S}{z r:Option (LV×List T)}(e:z=obd (evB C ρ b h) gi)(q:∀d,d=C->kB d ρ b gi h=r):z=r:=kF e (q C rfl)
theorem jc{d:Nat->List T->M LV}{i:Nat}{ts:List T}{f:LV->M β}{v:LV}{r:Option (β×List T)}(e:d=C)(p:C i ts h=some (v,h1))(q:f v h1=r):bn (d i ts) f h=r:=by subst e;exact jb p q
theorem jt{c:Bool}{m d:M β}{r:Option (β×List T)}(p:c=true)(q:m h=r):oc c m d h=r:=(congrArg (fun c=>oc c m d h) p).trans q
theorem jf{c:Bool}{m d:M β}{r:Option (β×List T)}(p:c=false)(q:d h=r):oc c m d h=r:=(congrArg (fun c=>oc c m d h) p).trans q
theorem nx1{I:aE->Prop}{ρ ρ':aE}{b:List S}(p:kB C ρ b pu h=some (.nxt ρ',h))(q:I ρ'):∃ρ',(evB C ρ b h=some (.nxt ρ',h)\/evB C ρ b h=some (.cnt ρ',h))/\I ρ':=⟨ρ',.inl (kE p),q⟩
theorem nx2{I:aE->Prop}{ρ ρ':aE}{b:List S}(p:kB C ρ b pu h=some (.cnt ρ',h))(q:I ρ'):∃ρ',(evB C ρ b h=some (.nxt ρ',h)\/evB C ρ b h=some (.cnt ρ',h))/\I ρ':=⟨ρ',.inr (kE p),q⟩
theorem kH{ρ:aE}{b:List S}{k:Fl->M β}{r:Option (β×List T)}(q:∀d,d=C->kB d ρ b k h=r):obd (evB C ρ b h) k=r:=(congrFun (zN ρ b k) h).symm.trans (q C rfl)
theorem nsf(a:Int):(!(a==a))=false:=by rw[beq_self_eq_true];rfl
theorem jw{ρ:aE}{n:Nat}{c:X}{b:List S}{d:aE->M β}{K:Fl->M β}{r:Option (β×List T)}(p:evX C ρ c h=some (.bool false,h1))(q:d ρ h1=r):bn (evS C ρ (.whl (n+1) c b)) (nk d K) h=r:=by
 have e:evS C ρ (.whl (n+1) c b) h=some (.nxt ρ,h1):=by
  show obd (obd (evX C ρ c h) _) _=_
  rw[p];rfl
 exact jb (m:=evS C ρ (.whl (n+1) c b)) e q
end
inductive Pk where|pa|pb|pc|po
 deriving DecidableEq
inductive Fm where|fi|fs|ff
 deriving DecidableEq
noncomputable instance:Inhabited Pk:=⟨.po⟩
noncomputable def it:Fm->Pk->T
 |_,.po=>.none
 |.fi,.pa=>.int 3
 |.fi,.pb=>.int (-1)
 |.fi,.pc=>.int 8
 |.fs,.pa=>.str s_u
 |.fs,.pb=>.str s_v
 |.fs,.pc=>.str s_
 |.ff,.pa=>.int 1
 |.ff,.pb=>.int 2
 |.ff,.pc=>.int 3
noncomputable def lb:Fm->Pk->T
 |_,.po=>.none
 |.fi,.pa=>.str (cG 3)
 |.fi,.pb=>.str (cG (-1))
 |.fi,.pc=>.str (cG 8)
 |.fs,.pa=>.str s_u
 |.fs,.pb=>.str s_v
 |.fs,.pc=>.str s_
 |.ff,.pa=>.str s_z
 |.ff,.pb=>.str s_a
 |.ff,.pc=>.str s_m
noncomputable def vI(l:List T):T:=.vec aG (.list l) .none
noncomputable def vC(l:List T):T:=.vec aP (.list l) .none
noncomputable def zam:List T:=[.str s_z,.str s_a,.str s_m]
noncomputable def KD:T:=vC [.str gy]
noncomputable def kd:Fm->Str
 |.fs=>aP
 |_=>aG
noncomputable def ats:Fm->T
 |.ff=>.dict [.s cN,.s iH] [vC zam,KD]
 |_=>.none
noncomputable def gv(f:Fm)(l:List T):T:=.vec (kd f) (.list l) (ats f)
noncomputable def isF:Fm->Bool
 |.ff=>true
 |_=>false
noncomputable def kl:Fm->LV
 |.ff=>.od [.s cN,.s iH] [vC zam,KD]
 |_=>.fr .none
noncomputable def frA(nms:List T)(lab:T):T:=.dict [.s iG,.s iH,.s cM] [vC nms,vC [.str lH],lab]
noncomputable def frm(cols:List T)(nms:List T)(lab:T):T:=.vec fQ (.list cols) (frA nms lab)
@[simp]theorem LY(f:Fm)(l:List T):cQ .kind (gv f l)=some (.str (kd f)):=rfl
@[simp]theorem Kg(f:Fm)(l:List T):cQ .items (gv f l)=some (.list l):=rfl
@[simp]theorem Kh(f:Fm)(l:List T):cQ .attrs (gv f l)=some (ats f):=rfl
@[simp]theorem KX(l:List T):aZ (vC l)=false:=rfl
@[simp]theorem KV(l:List T):aZ (vI l)=false:=rfl
@[simp]theorem JD(l:List T):cQ .items (vC l)=some (.list l):=rfl
@[simp]theorem JB(l:List T):cQ .items (vI l)=some (.list l):=rfl
@[simp]theorem LX(f:Fm)(l:List T):aZ (gv f l)=false:=rfl
@[simp]theorem P0(f:Fm)(l:List T):vOf (gv f l)=some ():=rfl
section
variable(n:Nat)(h:List T)
theorem fK(f:Fm)(l:List T):aA tab (n+1) 45 [gv f l] h=some (kl f,h):=by cases f<;>kernel_rfl!
theorem yA(f:Fm):frz (kl f)=some (ats f):=by cases f<;>rfl
theorem En(f:Fm):GN (ats f)=some (ats f):=by cases f<;>rfl
theorem bN(f:Fm)(l:List T):aA tab (n+3) 38 [gv f l] h=some (.fr (.bool (isF f)),h):=by cases f<;>kernel_rfl!
theorem oA(f:Fm)(l:List T):aA tab (n+3) 13 [gv f l] h=some (.fr .none,h):=by cases f<;>kernel_rfl!
@[simp] theorem IH(f:Fm)(l:List T):aA tab (n+1) 9 [gv f l,.str cN] h=some (.fr (match f with|.ff=>vC zam|_=>.none),h):=by cases f<;>kernel_rfl!
@[simp] theorem KF(f:Fm)(l:List T):aA tab (n+2) 15 [gv f l] h=some (.fr (.list (match f with|.ff=>[.str gy]|_=>[])),h):=by cases f<;>kernel_rfl!
theorem r7(f:Fm)(p:Pk)(d:f≠.ff):aA tab (n+1) 10 [.str (kd f),it f p] h=some (.fr (lb f p),h):=by cases f<;>cases p<;>first|exact(d rfl).elim|kernel_rfl!
theorem vU(p:Pk):aA tab (n+1) 11 [.list zam,it .ff p] h=some (.fr (lb .ff p),h):=by cases p<;>kernel_rfl!
theorem o4:aA tab (n+3) 12 [vC zam] h=some (.fr (.list zam),h):=by kernel_rfl!
theorem r9:aA tab (n+1) 7 [vC zam] h=some (.fr (.bool true),h):=by kernel_rfl!
theorem cP(f:Fm)(P:List Pk)(r:P.length<=100):aA tab (n+4) 12 [gv f (P.map (it f))] h=some (.fr (.list (P.map (lb f))),h):=by
 haveI q:fN (.list (P.map (it f)))=some (P.map (it f)):=qK (by simpa using cV r)
 by_cases d:f=.ff
 ·subst d
  haveI z:eqT (.str (kd .ff)) (.str aG)=some true:=by kernel_rfl!
  haveI y:inT (.str gy) (.list [.str gy])=some true:=by kernel_rfl!
  rw[gK]
  simp[eG,o4,r9,z,y]
  refine aQ P (it .ff) (lb .ff) (by simp[q]) (fun a _=>?_) ?_
  ·simp[vU]
  ·simp
 ·haveI g:(match (generalizing:=false) f with|.ff=>vC zam|_=>.none)=T.none:=by cases f<;>first|rfl|exact(d rfl).elim
  simp[gK,eG,g]
  refine aQ P (it f) (lb f) (by simp[q]) (fun a _=>?_) ?_
  ·simp[r7 _ _ _ _ d]
  ·simp
noncomputable def ck(f:Fm):Pk->Str
 |.po=>Ay
 |p=>Cz++(match lb f p with|.str s=>s|_=>s_)
noncomputable def rk(f:Fm)(p:Pk):Str:=cG (ck f p).length++s__xxx++ck f p
noncomputable def ia(p:Pk):T:=match it .fi p with|.none=>.none|t=>.tup [t,.int 1]
theorem yo(p:Pk):aA tab (n+3) 19 [.str aG,it .fi p,.str bC,.list []] h=some (.fr (ia p),h):=by cases p<;>kernel_rfl!
theorem DL(p:Pk)(d:p≠.po):aA tab (n+2) 3 [ia p] h=some (.fr (lb .fi p),h):=by cases p<;>first|exact(d rfl).elim|kernel_rfl!
theorem jA(f:Fm)(P:List Pk)(d:P.length<=100):aA tab (n+5) 60 [gv f (P.map (it f))] h=some (.fr (.list (P.map fun p=>.str (ck f p))),h):=by
 haveI y:fN (.list (P.map (it f)))=some (P.map (it f)):=qK (by simpa using cV d)
 haveI r:fN (.list (P.map (lb f)))=some (P.map (lb f)):=qK (by simpa using cV d)
 cases f
 ·haveI F:inT (.str aG) (.tup [.str aP,.str bS])=some false:=by kernel_rfl!
  haveI z:inT (.str aG) (.tup [.str aG,.str bC])=some true:=by kernel_rfl!
  haveI H:aA tab (n+4) 22 [gv .fi (P.map (it .fi)),.str bC,.list []] h=some (.fr (.vec bC (.list (P.map ia)) .none),h):=by
   simp[yY,om,show eqT (.str (kd .fi)) (.str bC)=some false from by kernel_rfl!]
   refine aQ P (it .fi) (ia) (by simp[y]) (fun a _=>?_) ?_
   ·simp[show kd .fi=aG from rfl,yo]
   ·simp[show decide (P.length<=lim)=true from by simpa using cV d,oA]
    kernel_rfl!
  simp[gL,eH,bN,isF,show kd .fi=aG from rfl,F,z,H]
  refine aQ P (ia) (fun p=>.str (ck .fi p)) (by simp[qK,cV d]) (fun a _=>?_) ?_
  ·by_cases q:a=.po
   ·subst q;kernel_rfl!
   ·haveI:=DL (n+2) h a q
    cases a<;>first|exact(q rfl).elim|(simp[this];kernel_rfl!)
  ·simp
 all_goals
  first
  |simp[gL,eH,bN,isF,cP,d,show inT (.str (kd .fs)) (.tup [.str aP,.str bS])=some true from by kernel_rfl!]
   refine aQ P (lb .fs) (fun p=>.str (ck .fs p)) (by simp[cP,d,r]) (fun a _=>?_) ?_
   ·cases a<;>kernel_rfl!
   ·simp
  |simp[gL,eH,bN,isF,cP,d]
   refine aQ P (lb .ff) (fun p=>.str (ck .ff p)) (by simp[cP,d,r]) (fun a _=>?_) ?_
   ·cases a<;>kernel_rfl!
   ·simp
theorem fpq{P:Fm->Pk->Pk->Bool}(h:([Fm.fi,.fs,.ff].all fun f=>[Pk.pa,.pb,.pc,.po].all fun p=>[Pk.pa,.pb,.pc,.po].all (P f p))=true)(f:Fm)(p q:Pk):P f p q=true:=
 List.all_eq_true.mp (List.all_eq_true.mp (List.all_eq_true.mp h f (by cases f<;>decide)) p (by cases p<;>decide)) q (by cases q<;>decide)
theorem Ic(f:Fm)(p q:Pk)(e:rk f p=rk f q):p=q:=of_decide_eq_true (fpq (P:=fun f p q=>decide (rk f p=rk f q->p=q)) (by decide +kernel) f p q) e
theorem Fn(f:Fm)(p:Pk):((nh [.str (rk f p)]).bind fun l=>if(l.map (·.length)).sum+l.length*s_.length<=iq then some (T.str (Str.join s_ l))else none)=some (.str (rk f p)):=by
 cases f<;>cases p<;>kernel_rfl!
theorem I3(f:Fm)(p:Pk):cL (.str (ck f p))=some (ck f p).length:=by cases f<;>cases p<;>kernel_rfl!
theorem Pt(f:Fm)(p:Pk):(ck f p).length<=3:=by cases f<;>cases p<;>decide
theorem Dg {k:Nat} (h:k<=9):(cG (k:Int)).length=1:=by
 haveI:k∈List.range 10:=by simp;exact tmn h rfl
 revert this k
 decide
theorem eW{i:Int}(h: -1000000<=i)(h':i<=1000000):small i=true:=by
 unfold small big
 rw[decide_eq_true (f6 (of_decide_eq_true rfl) h),decide_eq_true (yn h' rfl)];rfl
theorem JY(f:Fm)(p:Pk):(small ((ck f p).length:Int)&&decide ((cG ((ck f p).length:Int)).length+s__xxx.length+(ck f p).length<=iq))=true:=by
 haveI h:=Pt f p
 rw[eW (Int.natCast_nonneg _) (ug (Int.ofNat_le.mpr h) rfl),Dg (tkn h rfl),show s__xxx.length=1 from rfl]
 unfold iq
 simp;lia
theorem DM{C:Nat->List T->M LV}{ρ:aE}{a b:X}{s t:Str}{i:Int}(q:evX C ρ a h=some (.int i,h))(d:evX C ρ b h=some (.str t,h))(ok:(small i&&decide ((cG i).length+s.length+t.length<=iq))=true):
  evX C ρ (.fpair a s b) h=some (.str (cG i++s++t),h):=by
 show obd (evX C ρ a h) _=_
 rw[q]
 show obd (evX C ρ b h) _=_
 rw[d]
 show iff (small i&&decide ((cG i).length+s.length+t.length<=iq)) (pur (T.str (cG i++s++t))) h=_
 rw[ok]
theorem jg(f:Fm)(P:List Pk)(y:P.length<=100):aA tab (n+6) 61 [.list [gv f (P.map (it f))],.int P.length] h=some (.fr (.list (P.map fun p=>.str (rk f p))),h):=by
 simp[wH,ld]
 refine aQ [gv f (P.map (it f))] id (fun _=>.list (P.map fun p=>.str (ck f p))) (by simp[v7]) (fun a F=>?_) ?_
 ·obtain rfl:a=gv f (P.map (it f)):=by simpa using F
  simp[jA,y]
 simp
 refine bE (List.range P.length) tn (fun d z=>z 2=.fr (.list [.list (P.map fun p=>.str (ck f p))])/\z 3=.ol (d.map fun j=>.str (rk f (nt P j)))) ?_ ?_ ?_ ?_
 ·simp[bX y]
 ·simp
 ·rintro p a q z e r;haveI J:=r.1;haveI H:=r.2
  haveI r:=dH e;haveI F:=r.1;haveI L:=r.2.1
  haveI L:p.length<lim:=dT (tln (ltn (eln r.2.1) r.1) y)
  simp[J,H]
  refine⟨upd (upd z 4 (.fr (tn a))) 3 (.ol (p.map (fun j=>.str (rk f (nt P j)))++[.str (rk f (nt P a))])),.inl (aQ [.list (P.map fun p=>.str (ck f p))] id (fun _=>.str (rk f (nt P a))) (by simp[v7,J]) (fun b W=>?_) ?_),?_⟩
  ·obtain rfl:b=.list (P.map fun p=>.str (ck f p)):=by simpa using W
   exact DM h (by simp[aW F y,I3]) (by simp[aW F y]) (JY f _)
  ·simp[Fn,L]
  ·simp[J,H]
 ·rintro O r;haveI J:=r.1;haveI H:=r.2
  simp[H]
  exact nP (fun p=>T.str (rk f p)) P
theorem cA(f:Fm)(P:List Pk)(js:List Nat)(y:P.length<=100)(d:js.length<=100)(r:∀j∈js,j<P.length):
  aA tab (n+2) 46 [gv f (P.map (it f)),.list (js.map tn)] h=some (.fr (gv f ((js.map (nt P)).map (it f))),h):=by
 haveI:=kh (n:=n) (h:=h) (k:=kd f) (its:=P.map (it f)) (a:=ats f) (kl:=kl f) (ka:=ats f) (js:=js) (by rw[List.length_map];exact y) d (by rw[List.length_map];exact r) (fK n h f _) (yA f) (En f)
 show aA tab (n+2) 46 [.vec (kd f) (.list (P.map (it f))) (ats f),_] h=_
 rw[this]
 haveI e:js.map (nt (P.map (it f)))=(js.map (nt P)).map (it f):=by
  simp only[List.map_map,List.map_inj_left]
  exact fun j q=>eL _ (r j q)
 rw[e];rfl
theorem fH(l:List T)(js:List Nat)(q:l.length<=100)(d:js.length<=100)(r:∀j∈js,j<l.length):
  aA tab (n+2) 46 [vI l,.list (js.map tn)] h=some (.fr (vI (js.map (nt l))),h):=
 kh (n:=n) (h:=h) (k:=aG) (its:=l) (a:=.none) (kl:=.fr .none) (ka:=.none) (js:=js) q d r (by kernel_rfl!) rfl rfl
end
noncomputable def ghv:List T:=[.str s_g,.str s_h,.str s_v]
noncomputable def lbs(m:Nat):List T:=(List.range m).map fun j=>tn (j+1)
theorem gW(m:Nat):(lbs m).length=m:=by simp[lbs]
@[simp]theorem Jp(c n:List T)(l:T):cQ .items (frm c n l)=some (.list c):=rfl
@[simp]theorem Jq(c n:List T)(l:T):cQ .attrs (frm c n l)=some (frA n l):=rfl
@[simp]theorem Kl(n:List T)(l:T):aZ (frA n l)=false:=rfl
@[simp]theorem O2(n:List T)(l:T):inT (.str cM) (frA n l)=some true:=rfl
@[simp]theorem Kk(n:List T)(l:T):bF (frA n l) (.str cM)=some l:=rfl
@[simp]theorem Jr(n:List T)(l:T):bF (frA n l) (.str iG)=some (vC n):=rfl
@[simp]theorem KW(l:List T):cQ .kind (vI l)=some (.str aG):=rfl
@[simp]theorem JC(l:List T):cQ .attrs (vI l)=some .none:=rfl
noncomputable def kn (j:Nat):Key:= .i (j:Int)
theorem Iu{a b:Nat}(h:kn a=kn b):a=b:=by
 haveI:(a:Int)=(b:Int):=by injection h
 exact Int.ofNat.inj this
section
variable(n:Nat)(h:List T)
theorem hJ{m:Nat}(d:m<=100):aA tab (n+2) 40 [.int m] h=some (.fr (vI (lbs m)),h):=by
 simp[si,iQ,nv d,rm,j0,cV d];rfl
theorem FH(l:List T):aA tab (n+1) 45 [vI l] h=some (.fr .none,h):=by kernel_rfl!
theorem vE(l:List T):aA tab (n+3) 13 [vI l] h=some (.fr .none,h):=by kernel_rfl!
theorem ww{α:Type}(k:α->Key)(d:List α)(a:α)(q:∀x∈d,k x=k a->x=a)(r:a∉d):eO (k a) (d.map k)=false:=by
 unfold eO
 simp only[List.any_map,List.any_eq_false,Function.comp]
 intro x hx
 simp only[decide_eq_true_eq]
 exact fun e=>r (q x hx e▸hx)
theorem mD{k:Key}{v:T}{ks:List Key}{vs:List T}(h:eO k ks=false):dN k v ks vs=(ks++[k],vs++[v]):=by
 unfold dN;rw[h];rfl
theorem sf{m:Nat}(O:m<=100):aA tab (n+1) 50 [vI (lbs m),.int m] h=some (.fr .none,h):=by
 haveI W:=gW m
 simp[j5,eQ,bK (show(lbs m).length<=100 by lia),W]
 refine bE (List.range m) (fun j=>tn (j+1)) (fun d H=>H 2=.od (d.map fun j=>.i ((j+1:Nat):Int)) (d.map fun _=>.bool true)) ?_ ?_ ?_ ?_
 ·simp[cH (show(lbs m).length<=100 by lia)];rfl
 ·rfl
 ·rintro p a q H e J
  haveI r:=dH e;haveI Z:=r.1;haveI Y:=r.2.1;haveI z:=r.2.2
  have y:eO (.i ((a+1:Nat):Int)) (p.map fun j=>.i ((j+1:Nat):Int))=false:=
   ww (fun j:Nat=>Key.i ((j+1:Nat):Int)) p a (fun x _ e=>by simp at e;exact Int.ofNat.inj e) (by rw[z];simp)
  haveI F:p.length<lim:=dT (tln (ltn (eln r.2.1) r.1) O)
  simp at y
  simp[J,tn,y,F,mD y]
 ·intro L J
  simp
theorem zO(a b c:T):fN (.list [a,b,c])=some [a,b,c]:=rfl
theorem vm{f1 f2:Fm}{l1 l2 l3:List T}{m:Nat}(y:l1.length=m)(r:l2.length=m)(q:l3.length=m)(d:m<=100):
  aA tab (n+2) 47 [.list [gv f1 l1,gv f2 l2,vI l3],.int m] h=some (.fr (.list [gv f1 l1,gv f2 l2,vI l3]),h):=by
 haveI H:cL (.list l1)=some m:=by rw[bK (trn (eln y) d),y]
 haveI F:cL (.list l2)=some m:=by rw[bK (trn (eln r) d),r]
 haveI z:cL (.list l3)=some m:=by rw[bK (trn (eln q) d),q]
 haveI v:∀f l,j8 [.str (kd f),.list l,ats f]=some (gv f l):=fun f l=>by cases f<;>rfl
 simp[j4,eP,eA,zO,bZ,cC,H,F,z,fK,yA,v,FH,lim]
 rfl
theorem nF{f1 f2:Fm}{l1 l2 l3:List T}{m:T}:aA tab (n+4) 48 [.list [gv f1 l1,gv f2 l2,vI l3],m] h=some (.fr .none,h):=by
 simp[n7,fU,eA,zO,bZ,cC,oA,vE]
theorem kN(f1 f2:Fm)(l1 l2 l3:List T)(lab:T):aA tab (n+2) 39 [.list [gv f1 l1,gv f2 l2,vI l3],.list ghv,lab] h=some (.fr (frm [gv f1 l1,gv f2 l2,vI l3] ghv lab),h):=by kernel_rfl!
theorem rZ{f1 f2:Fm}{l1 l2 l3:List T}{m:Nat}(y:l1.length=m)(r:l2.length=m)(q:l3.length=m)(d:m<=100):
  aA tab (n+5) 49 [.list [gv f1 l1,gv f2 l2,vI l3],.list ghv,.none] h=some (.fr (frm [gv f1 l1,gv f2 l2,vI l3] ghv (vI (lbs m))),h):=by
 haveI J:cL (.list l1)=some m:=by rw[bK (trn (eln y) d),y]
 haveI H:cL (.list l2)=some m:=by rw[bK (trn (eln r) d),r]
 haveI F:cL (.list l3)=some m:=by rw[bK (trn (eln q) d),q]
 haveI z:(if 0<m then(m:Int)else 0)=m:=by split<;>lia
 simp[sn,iS,eA,zO,bZ,cC,J,H,F,z,vm,y,r,q,d,nF,hJ,sf,kN]
noncomputable def fr3(f1 f2:Fm)(P Q:List Pk)(V:List T)(L:List T):T:=frm [gv f1 (P.map (it f1)),gv f2 (Q.map (it f2)),vI V] ghv (vI L)
theorem nA{c:List T}{m:Nat}{js:List Nat}(hm:m<=100)(hj:∀j∈js,j<m)(J:js.Nodup)(L:js.length<=100):
  aA tab (n+1) 51 [frm c ghv (vI (lbs m)),.list (js.map tn)] h=some (.fr (vI (js.map fun j=>tn (j+1))),h):=by
 haveI e1:cL (.list (lbs m))=some m:=by rw[bK (by rw[gW];exact hm),gW]
 simp[n6,fT,e1]
 refine bE js tn (fun d y=>y 0=.fr (frm c ghv (vI (lbs m)))/\y 1=.fr (.list (js.map tn))/\y 2=.fr (vI (lbs m))/\y 3=.fr (.int m)/\y 5=.fr (.bool false)/\y 4=.od (d.map kn) (d.map fun _=>.bool true)) ?_ ?_ ?_ ?_
 ·simp[cH,L]
 ·simp
 ·rintro p a q y e r;haveI h0:=r.1;haveI H:=r.2.1;haveI F:=r.2.2.1;haveI Z:=r.2.2.2.1;haveI W:=r.2.2.2.2.1;haveI Y:=r.2.2.2.2.2
  have z:eO (.i (a:Int)) (p.map kn)=false:=
   ww kn p a (fun x _ e=>Iu e) (by rw[e]at J;simp[List.nodup_append]at J;exact fun q=>J.2.2 _ q|>.1 rfl)
  haveI hp:p.length<lim:=t9 (Nat.le_trans (Nat.le_of_lt (kR e (Nat.le_refl _))) L)
  have O:a<m:=hj a (by rw[e];exact List.mem_append_right _ (.head _))
  simp[h0,H,F,Z,Y,W,tn,z,hp,mD z,show¬m<=a from Nat.not_le.mpr (O)];rfl
 ·rintro aa r;haveI h0:=r.1;haveI H:=r.2.1;haveI F:=r.2.2.1;haveI Z:=r.2.2.2.1;haveI W:=r.2.2.2.2.1;haveI Y:=r.2.2.2.2.2
  simp[h0,H,F,Z,Y,W]
  refine aQ js tn (fun j=>tn (j+1)) (by simp[cH,L,H]) (fun a O=>?_) ?_
  ·haveI:=hj a O
   simp[F,qO (show a<(lbs m).length by rw[gW];exact this) (by rw[gW];exact hm)]
   simp[nt,lbs,this]
  ·simp;rfl
theorem fA(c:List T)(lab:T):aA tab (n+4) 42 [frm c ghv lab] h=some (.fr (.list ghv),h):=by kernel_rfl!
theorem tE{f1 f2:Fm}{P Q:List Pk}{V:List T}{m:Nat}{js:List Nat}(F:P.length=m)(z:Q.length=m)(y:V.length=m)(d:m<=100)(r:∀j∈js,j<m)(L:js.Nodup)(q:js.length<=100):
  aA tab (n+5) 52 [fr3 f1 f2 P Q V (lbs m),.list (js.map tn)] h=some (.fr (fr3 f1 f2 (js.map (nt P)) (js.map (nt Q)) (js.map (nt V)) (js.map fun j=>tn (j+1))),h):=by
 haveI J:=cA (n+2) h f1 P js (trn (eln F) d) q (by rw[F];exact r)
 haveI H:=cA (n+2) h f2 Q js (trn (eln z) d) q (by rw[z];exact r)
 haveI W:=fH (n+2) h V js (trn (eln y) d) q (by rw[y];exact r)
 haveI O:=nA (n+3) h (c:=[gv f1 (P.map (it f1)),gv f2 (Q.map (it f2)),vI V]) d r L q
 simp only[List.map_map]at J H
 simp[uC,jG,fr3,ux,zO,s0,J,H,W,O,fA,kN]
theorem eZ{l:List T}(d:l.length<=100):aA tab (n+1) 5 [.list l] h=some (.fr (vC l),h):=by
 simp[uE,jK,cV d];rfl
theorem BW(f:Fm)(l:List T):j8 [.str (kd f),.list l,ats f]=some (gv f l):=by cases f<;>rfl
noncomputable def cat{α:Type}(R:List (List α)):List α:=R.flatten
@[simp]theorem Nt{α:Type}:cat ([]:List (List α))=[]:=rfl
@[simp]theorem gM{α:Type}(R:List (List α))(a:List α):cat (R++[a])=cat R++a:=by simp[cat]
theorem pN{α:Type}{P p q:List (List α)}{a:List α}{m:Nat}(e:P=p++a::q)(h:(cat P).length<=m):(cat p).length+a.length<=m:=by
 rw[e]at h
 simp only[cat,List.flatten_append,List.flatten_cons,List.length_append]at h⊢
 lia
noncomputable def ko:Fm->Int
 |.fs=>4
 |_=>2
theorem q9{α:Type}(f:Fm)(P:List α)(W:P≠[])(O:P.length<=100):aA tab (n+2) 17 [.list (P.map fun _=>.str (kd f))] h=some (.fr (.str (kd f)),h):=by
 have L:∀n,aA tab (n+1) 16 [.str (kd f)] h=some (.fr (.int (ko f)),h):=fun n=>by cases f<;>kernel_rfl!
 have z:bF (.tup [.str nr,.str bS,.str aG,.str bC,.str aP,.str fQ,.str eh]) (.int (ko f))=some (.str (kd f)):=by cases f<;>kernel_rfl!
 simp[rp,ig]
 refine bE P (fun _=>.str (kd f)) (fun d y=>y 1=.fr (.tup [.str nr,.str bS,.str aG,.str bC,.str aP,.str fQ,.str eh])/\y 2=.fr (.int (if d=[]then 0 else ko f))) ?_ ?_ ?_ ?_
 ·exact kIe (by apply jo (cH (show(P.map fun _=>T.str (kd f)).length<=100 by rw[List.length_map];exact O));rfl)
 ·exact⟨rfl,rfl⟩
 ·rintro p a q y e ⟨H,F⟩
  haveI:(if(if p=[]then 0 else ko f)<ko f then ko f else if p=[]then 0 else ko f)=ko f:=by
   cases f<;>(by_cases h:p=[]<;>first|(simp only[if_pos h];rfl)|(simp only[if_neg h];rfl))
  simp[H,F,L,this]
 ·rintro J r;haveI H:=r.1;haveI F:=r.2
  simp[H,F,W,-IB,z]
theorem yB:bF (ats .ff) (.str cN)=some (vC zam):=rfl
theorem nT(P:List (List Pk))(hP:P≠[])(hl:P.length<=100)(hs:(cat P).length<=100):
  aA tab (n+5) 53 [.list (P.map fun p=>gv .ff (p.map (it .ff)))] h=some (.fr (gv .ff ((cat P).map (it .ff))),h):=by
 haveI z0:bF (.list (P.map fun p=>gv .ff (p.map (it .ff)))) (.int 0)=some (gv .ff ((nt P 0).map (it .ff))):=aW (g:=fun p=>gv .ff (p.map (it .ff))) (List.length_pos_iff.mpr hP) hl
 haveI ix:∀q,q≠.po->bF (.dict [.s s_z,.s s_a,.s s_m] [.int 1,.int 2,.int 3]) (lb .ff q)=some (it .ff q):=fun q hq=>by cases q<;>first|exact(hq rfl).elim|kernel_rfl!
 refine kG (oa ..) fun C W=>?_
 refine bE P (fun p=>gv .ff (p.map (it .ff))) (fun d z=>z 0=.fr (.list (P.map fun p=>gv .ff (p.map (it .ff))))/\z 1=.ol (if d=[]then []else zam)/\z 2=(if d=[]then .od [] []else .od [.s s_z,.s s_a,.s s_m] [.int 1,.int 2,.int 3])) ?_ ?_ ?_ ?_
 ·exact kIe (by apply jo (cH (by rw[List.length_map];exact hl));rfl)
 ·exact⟨rfl,rfl,rfl⟩
 ·rintro p a q z e r;haveI J:=r.1;haveI H:=r.2.1;haveI F:=r.2.2
  haveI Z:¬p++[a]=[]:=by simp
  by_cases O:p=[]
  ·simp only[O,if_pos]at H F
   apply nx1
   ·apply jc W (bN ..)
    refine jl ?_
    apply jo (congrArg cU F)
    apply jo (congrArg gT H)
    apply jo (congrArg qj F)
    rfl
   ·exact⟨J,by rw[if_neg Z];rfl,by rw[if_neg Z];rfl⟩
  ·simp only[O,if_neg,not_false_eq_true]at H F
   apply nx1
   ·apply jc W (bN ..)
    refine jl ?_
    apply jo (congrArg cU F)
    apply jo (congrArg cU F)
    apply jo (congrArg cU F)
    rfl
   ·exact⟨J,by rw[if_neg Z];exact H,by rw[if_neg Z];exact F⟩
 rintro ab r;haveI J:=r.1;haveI H:=r.2.1;haveI F:=r.2.2
 simp only[hP,if_neg,not_false_eq_true]at H F
 refine bE P (fun p=>gv .ff (p.map (it .ff))) (fun d z=>z 0=.fr (.list (P.map fun p=>gv .ff (p.map (it .ff))))/\z 1=.ol zam/\z 2=.od [.s s_z,.s s_a,.s s_m] [.int 1,.int 2,.int 3]/\z 6=.ol ((cat d).map (it .ff))) ?_ ?_ ?_ ?_
 ·exact kIe (by apply jo (congrArg cI J);apply jo (cH (by rw[List.length_map];exact hl));rfl)
 ·exact⟨J,H,F,rfl⟩
 ·rintro p a q z e r;haveI J:=r.1;refine xAA r.2 fun H F h6=>?_
  haveI L:=pN e hs
  haveI ha:a.length<=100:=trn (Nat.le_add_left ..) L
  obtain⟨y,er,i0,i1,i2,i6⟩:=jV (C:=C) (ρ:=upd z 3 (.fr (gv .ff (a.map (it .ff))))) (i:=5) (it:=.val (.call 12 [.var 3])) (b:=[.append 6 (.ite (.isNone (.var 5)) .none (.idx (.var 2) (.var 5)))]) (h:=h) a (lb .ff) (fun d y=>y 0=z 0/\y 1=z 1/\y 2=z 2/\y 6=.ol ((cat p++d).map (it .ff)))
   (kIe (by apply jc W (cP n h .ff a ha);apply jo (cH (by rw[List.length_map];exact ha));rfl)) ⟨rfl,rfl,rfl,h6.trans (by rw[List.append_nil])⟩ (by
    rintro Y b q' y e' r;haveI g0:=r.1;haveI g1:=r.2.1;haveI g2:=r.2.2.1;haveI g6:=r.2.2.2
    have O:((cat p++Y).map (it .ff)).length<lim:=by rw[List.length_map,List.length_append];exact dT (by rw[e']at L;simp at L;lia)
    have st:((cat p++Y).map (it .ff))++[it .ff b]=(cat p++(Y++[b])).map (it .ff):=by simp
    refine nx1 (ρ':=upd (upd y 5 (.fr (lb .ff b))) 6 (.ol ((cat p++Y).map (it .ff)++[it .ff b]))) ?_ ⟨g0,g1,g2,congrArg LV.ol st⟩
    by_cases hb:b=.po
    ·rw[hb]
     apply jo (congrArg gT g6)
     apply jt (decide_eq_true O)
     rfl
    ·apply jf (show aZ (lb .ff b)=false by cases b<;>first|exact(hb rfl).elim|rfl)
     apply jo (congrArg cU (g2.trans F))
     apply jo (ix b hb)
     apply jo (congrArg gT g6)
     apply jt (decide_eq_true O)
     rfl)
  refine⟨y,.inl (kE (jb er rfl)),i0.trans J,i1.trans H,i2.trans F,by rw[i6,gM]⟩
 rintro aa r;haveI J:=r.1;haveI H:=r.2.1;haveI F:=r.2.2.1;haveI h6:=r.2.2.2
 apply jo (congrArg cU J)
 apply jo z0
 apply jc W (fK ..)
 apply jo (congrArg frz H)
 apply jc W (eZ (n+3) h (show zam.length<=100 by decide))
 apply jo (congrArg frz h6)
 rfl
theorem uF{α β:Type}(g:α->β)(P:List (List α)):cat (P.map (List.map g))=(cat P).map g:=by simp[cat]
theorem gX(f:Fm)(hf:f≠.ff)(P:List (List T))(Z:P≠[])(F:P.length<=100)(hs:(cat P).length<=100):
  aA tab (n+6) 54 [.list (P.map (gv f))] h=some (.fr (gv f (cat P)),h):=by
 have Y:bF (.list (P.map (gv f))) (.int 0)=some (gv f (nt P 0)):=aW (List.length_pos_iff.mpr Z) F
 have H:isF f=false:=by cases f<;>first|rfl|exact(hf rfl).elim
 simp[iB,eI,Y,bN,H,-dK]
 refine bE P (gv f) (fun d y=>y 0=.fr (.list (P.map (gv f)))/\y 1=.ol (d.map (gv f))) ?_ ?_ ?_ ?_
 ·exact kIe (by apply jo (cH (by simpa using F));rfl)
 ·simp
 ·rintro p a q y e r;haveI z:=r.1;haveI W:=r.2
  haveI J:p.length<lim:=t9 (Nat.le_trans (Nat.le_of_lt (kR e (Nat.le_refl _))) F)
  simp[z,W,bN,H,J]
 rintro ab r;haveI z:=r.1;haveI W:=r.2
 simp[z,W]
 refine aQ P (gv f) (fun _=>.str (kd f)) (by simp[cH,F]) (fun a ha=>?_) ?_
 ·simp
 simp[q9,Z,F]
 refine bE P (gv f) (fun d y=>y 0=.fr (.list (P.map (gv f)))/\y 3=.fr (.str (kd f))/\y 4=.ol (cat d)) ?_ ?_ ?_ ?_
 ·simp[cH,F]
 ·simp[z]
 ·rintro p a q y e r;haveI z:=r.1;haveI O:=r.2.1;haveI L:=r.2.2
  haveI J:(cat p).length+a.length<=lim:=cV (pN e hs)
  simp[z,O,L,J]
 rintro aa r;haveI z:=r.1;haveI O:=r.2.1;haveI L:=r.2.2
 simp[z,O,L,Y,-dK,fK,yA,BW]
theorem ft(f:Fm)(P:List (List Pk))(q:P≠[])(d:P.length<=100)(hs:(cat P).length<=100):
  aA tab (n+6) 54 [.list (P.map fun p=>gv f (p.map (it f)))] h=some (.fr (gv f ((cat P).map (it f))),h):=by
 by_cases r:f=.ff
 ·subst r
  haveI y:bF (.list (P.map fun p=>gv .ff (p.map (it .ff)))) (.int 0)=some (gv .ff ((nt P 0).map (it .ff))):=aW (g:=fun p=>gv .ff (p.map (it .ff))) (List.length_pos_iff.mpr q) d
  simp[iB,eI,y,-dK,bN,isF,nT,q,d,hs]
 ·haveI:=gX n h f r (P.map (List.map (it f))) (by simpa using q) (by simpa using d) (by rw[uF];simpa using hs)
  rw[uF,List.map_map]at this
  exact this
theorem iy(P:List (List T))(q:P≠[])(d:P.length<=100)(hs:(cat P).length<=100):
  aA tab (n+6) 54 [.list (P.map vI)] h=some (.fr (vI (cat P)),h):=
 gX n h .fi (by decide) P q d hs
end
theorem sQ{α β:Type}{f:α->β}{l:List α}(d:∀a b,f a=f b->a=b)(h:l.Nodup):(l.map f).Nodup:=
 List.Pairwise.map f (fun a b q e=>q (d a b e)) h
noncomputable def tx (x:Nat):Str:=cG (x:Int)
noncomputable def fx(x:Nat):Str:=tx x++s__xx++cG 1
theorem xi{x y:Nat}(hx:x<=12)(d:y<=12)(e:tx x=tx y):x=y:=by
 haveI:∀x∈List.range 13,∀y∈List.range 13,tx x=tx y->x=y:=by decide +kernel
 exact this x (by simp;exact tmn hx rfl) y (by simp;exact tmn d rfl) e
theorem Ds{x y:Nat}(hx:x<=12)(d:y<=12)(e:fx x=fx y):x=y:=by
 haveI:∀x∈List.range 13,∀y∈List.range 13,fx x=fx y->x=y:=by decide +kernel
 exact this x (by simp;exact tmn hx rfl) y (by simp;exact tmn d rfl) e
theorem zt{x y:Nat}(hx:x<=12)(d:y<=12):tx x≠fx y:=by
 haveI:∀x∈List.range 13,∀y∈List.range 13,tx x≠fx y:=by decide +kernel
 exact this x (by simp;exact tmn hx rfl) y (by simp;exact tmn d rfl)
noncomputable def tT(x:Nat):T:=.str (tx x)
noncomputable def uqT(d:List Nat)(x:Nat):T:=.str (if x∈d then fx x else tx x)
noncomputable def uq0(d:List Nat):List Nat×List T:=d.foldl (fun s x=>(s.1++[x],s.2++[uqT s.1 x])) ([],[])
theorem EL(d:List Nat):∀s:List Nat×List T,(d.foldl (fun s x=>(s.1++[x],s.2++[uqT s.1 x])) s).1=s.1++d:=by
 induction d with
 |nil=>simp
 |cons a d q=>intro s;rw[List.foldl_cons,q];simp
noncomputable def uq(d:List Nat):List T:=(uq0 d).2
theorem HJ:uq []=[]:=rfl
theorem lu(d:List Nat)(x:Nat):uq (d++[x])=uq d++[uqT d x]:=by
 unfold uq uq0
 rw[List.foldl_append,List.foldl_cons,List.foldl_nil]
 show _++[uqT _ x]=_
 rw[EL];rfl
theorem dW{α:Type}{P:List α->Prop}(h0:P [])(hs:∀l a,P l->P (l++[a]))(l:List α):P l:=by
 rw[<-List.reverse_reverse l]
 induction l.reverse with
 |nil=>exact h0
 |cons a r d=>rw[List.reverse_cons];exact hs _ _ d
theorem te:∀d:List Nat,(uq d).length=d.length:=dW rfl fun l a q=>by rw[lu];simp[q]
theorem B0:∀d:List Nat,(∀x,d.count x<=2)->∀k∈uq d,(∃x∈d,k=.str (tx x))\/(∃x,d.count x=2/\k=.str (fx x)):=dW (fun _ k h=>by simp[HJ]at h) fun l a F r k q=>by
 haveI H:∀x,l.count x<=2:=fun x=>by haveI:=r x;rw[List.count_append]at this;exact trn (Nat.le_add_right ..) this
 rw[lu]at q
 rcases List.mem_append.mp q with q|q
 ·rcases F H k q with⟨x,hx,e⟩|⟨x,hx,e⟩
  ·exact .inl ⟨x,by simp[hx],e⟩
  ·refine .inr ⟨x,?_,e⟩
   haveI:=r x
   rw[List.count_append]at this⊢;exact Nat.le_antisymm (this) (trn (ern hx) (Nat.le_add_right ..))
 ·obtain rfl:k=uqT l a:=by simpa using q
  unfold uqT
  by_cases y:a∈l
  ·refine .inr ⟨a,?_,by rw[if_pos y]⟩
   haveI z:=r a
   haveI J:=List.count_pos_iff.mpr y
   rw[List.count_append]at z⊢
   simp at z⊢;exact Nat.le_antisymm (z) (J)
  ·exact .inl ⟨a,by simp,by rw[if_neg y]⟩
theorem BZ:∀d:List Nat,(∀x,d.count x<=2)->(∀x∈d,x<=12)->(uq d).Pairwise (fun a b=>bG a≠bG b):=dW (fun _ _=>.nil) fun l a W J L=>by
 have H:∀x,l.count x<=2:=fun x=>by haveI:=J x;rw[List.count_append]at this;exact trn (Nat.le_add_right ..) this
 have r:∀x∈l,x<=12:=fun x hx=>L x (by simp[hx])
 haveI z:=L a (by simp)
 rw[lu,List.pairwise_append]
 refine⟨W H r,by simp,fun k Y O F=>?_⟩
 obtain rfl:O=uqT l a:=by simpa using F
 rcases B0 l H k Y with⟨x,hx,rfl⟩|⟨x,hx,rfl⟩
 ·unfold uqT
  by_cases q:a∈l
  ·rw[if_pos q];intro e;simp at e;exact zt (r x hx) z e
  ·rw[if_neg q];intro e;simp at e;exact q (xi (r x hx) z e▸hx)
 ·haveI y:x<=12:=r x (List.count_pos_iff.mp (tln (lsn rfl) (ern hx)))
  unfold uqT
  by_cases q:a∈l
  ·rw[if_pos q];intro e;simp at e
   haveI:=Ds y z e
   subst this
   haveI:=J x
   rw[List.count_append]at this;simp at this;lia
  ·rw[if_neg q];intro e;simp at e;exact zt z y e.symm
theorem DV:∀(l acc:List T),(∀a∈acc,∀b∈l,bG a≠bG b)->l.Pairwise (fun a b=>bG a≠bG b)->cZ acc l=acc++l:=by
 intro z
 induction z with
 |nil=>
  rintro acc _ _
  exact(List.append_nil acc).symm
 |cons t q F=>
  rintro acc y L
  refine(List.pairwise_cons.mp L).elim fun J H=>?_
  show(if acc.any (fun a=>decide (bG a=bG t))then cZ acc q else cZ (acc++[t]) q)=_
  have:(acc.any fun a=>decide (bG a=bG t))=false:=by
   simp only[List.any_eq_false,decide_eq_true_eq]
   exact fun a d=>y a d t (by simp)
  rw[this]
  rw[if_neg (by decide),F (acc++[t]) (fun a d b r=>?_) H]
  ·simp
  ·rcases List.mem_append.mp d with d|d
   ·exact y a d b (by simp[r])
   ·obtain rfl:a=t:=by simpa using d
    exact J b r
theorem zA{l:List T}(h:l.length<=6)(k:(iW l||fY l)=true)(d:l.Pairwise (fun a b=>bG a≠bG b)):pU l=some l:=by
 unfold pU
 rw[decide_eq_true h,k]
 simp[DV l [] (fun _ h=>nomatch h) d]
noncomputable def jj(t:Nat)(js:List Nat):List Nat:=if js=List.range js.length then(List.range js.length).map (fun p=>t+p+1)else js.map (· +1)
noncomputable def G2(R:List (List Nat)):Nat×List Nat:=R.foldl (fun s js=>(s.1+js.length,s.2++jj s.1 js)) (0,[])
theorem AJ(d:List (List Nat)):∀s:Nat×List Nat,(d.foldl (fun(s:Nat×List Nat) js=>(s.1+js.length,s.2++jj s.1 js)) s).1=s.1+(cat d).length:=by
 induction d with
 |nil=>simp
 |cons a d q=>intro s;rw[List.foldl_cons,q];simp[cat];exact Nat.add_assoc ..
noncomputable def jk(R:List (List Nat)):List Nat:=(G2 R).2
theorem qm:jk []=[]:=rfl
theorem iw(R:List (List Nat))(js:List Nat):jk (R++[js])=jk R++jj (cat R).length js:=by
 unfold jk G2
 rw[List.foldl_append,List.foldl_cons,List.foldl_nil]
 show _++jj _ js=_
 rw[AJ];simp
theorem AF(t:Nat)(js:List Nat):(jj t js).length=js.length:=by unfold jj;split<;>simp
theorem qo:∀R:List (List Nat),(jk R).length=(cat R).length:=dW rfl fun l a d=>by rw[iw,gM];simp[d,AF]
theorem vq(t x:Nat)(js:List Nat)(d:js≠[]):(jj t js).count x<=(js.map (· +1)).count x+js.count 0:=by
 unfold jj
 split
 ·rename_i e
  haveI r:((List.range js.length).map (fun p=>t+p+1)).count x<=1:=List.nodup_iff_count.mp (sQ (fun a b h=>by lia) List.nodup_range) x
  haveI q:1<=js.count 0:=List.count_pos_iff.mpr (by rw[e];simp;exact List.length_pos_iff.mpr d)
  exact trn (trn r q) (Nat.le_add_left ..)
 ·exact Nat.le_add_right ..
theorem xI:∀R:List (List Nat),(∀js∈R,js≠[])->∀x,(jk R).count x<=((cat R).map (· +1)).count x+(cat R).count 0:=dW (fun _ x=>by simp[qm]) fun l a d h x=>by
 haveI:=d (fun js q=>h js (by simp[q])) x
 haveI r:=vq (cat l).length x a (h a (by simp))
 rw[iw,gM]
 simp only[List.map_append,List.count_append]
 lia
theorem ql{R:List (List Nat)}(h:∀js∈R,js≠[])(d:(cat R).Nodup)(x:Nat):(jk R).count x<=2:=by
 haveI y:=xI R h x
 haveI r:((cat R).map (· +1)).count x<=1:=List.nodup_iff_count.mp (sQ (fun a b h=>by lia) d) x
 haveI q:=List.nodup_iff_count.mp d 0
 lia
theorem zJ:∀R:List (List Nat),∀m,(∀j∈cat R,j<m)->(cat R).length<=m->∀x∈jk R,x<=m:=dW (fun _ _ _ x h=>by simp[qm]at h) fun l a y m q d x hx=>by
 rw[gM]at q d
 rw[iw]at hx
 simp at d
 rcases List.mem_append.mp hx with hx|hx
 ·exact y m (fun j z=>q j (by simp[z])) (trn (Nat.le_add_right ..) d) x hx
 ·unfold jj at hx
  split at hx
  ·simp at hx
   obtain⟨p,r,rfl⟩:=hx
   lia
  ·simp at hx
   obtain⟨p,r,rfl⟩:=hx
   haveI:=q p (by simp[r])
   exact this
section
variable(n:Nat)(h:List T)
theorem jy(k:Key)(v:T)(ks:List Key)(vs:List T):(dN k v ks vs).1.length<=ks.length+1:=by
 unfold dN;split<;>simp
theorem dset_mem{k d:Key}{v:T}{ks:List Key}{vs:List T}:d∈(dN k v ks vs).1↔d=k\/d∈ks:=by
 unfold dN
 split
 ·rename_i h
  haveI:k∈ks:=by
   unfold eO at h
   simp at h;exact h
  constructor
  ·exact .inr
  ·rintro(rfl|h)<;>assumption
 ·simp[or_comm]
theorem dmem_iff{k:Key}{ks:List Key}:eO k ks=true↔k∈ks:=by
 unfold eO;simp
theorem k8{k:Key}:∀{ks:List Key}(vs:List T),k∉ks->cJ k ks vs=none:=by
 intro q
 induction q with
 |nil=>
  rintro _ _
  exact rfl
 |cons a ks r=>
  intro d
  cases d with
  |nil=>
   rintro _
   exact rfl
  |cons v vs=>
   rintro h
   show(if a=k then some v else cJ k ks vs)=none
   rw[if_neg (fun e=>h (by simp[e])),r vs fun m=>h (by simp[m])]
theorem z8{a b:Str}(h:a.length+b.length<=iq):Bi a b=some (a++b):=if_pos h
theorem KA{N d q:List Nat}{a x:Nat}(e:N=d++a::q)(r:N.count x<=2)(hx:d.count x=2):(d++[a]).count x=2:=by
 rw[e,List.count_append,List.count_cons]at r
 rw[List.count_append,List.count_singleton]
 split at r<;>simp_all<;>omega
theorem qB(N:List Nat)(hl:N.length<=12)(hb:∀x∈N,x<=12)(hc:∀x,N.count x<=2):
  aA tab (n+1) 37 [.list (N.map tT),.str s__xx] h=some (.fr (.list (uq N)),h):=by
 have ak:fN (.list (N.map tT))=some (N.map tT):=cH (by simp;exact tkn hl rfl)
 refine kF (rg ..) ?_
 refine bE N tT (fun d J=>J 0=.fr (.list (N.map tT))/\J 1=.fr (.str s__xx)/\∃F W,J 2=.od F W/\F.length<=d.length/\∀k∈F,∃x∈N,k=.s (tx x)) ?_ ?_ ?_ ?_
 ·exact kIe (by apply jo ak;rfl)
 ·exact⟨rfl,rfl,[],[],rfl,Nat.le_refl _,fun _ z=>nomatch z⟩
 ·intro p a q J e L;refine zo L fun h0 h1 F W h2 r hm=>?_
  have hp:F.length<lim:=dT (by haveI:=kR e (Nat.le_refl _);exact tln (tln (ltn r this) hl) (lkn rfl))
  refine nx1 (ρ':=upd (upd J 3 (.fr (tT a))) 2 (.od (dN (.s (tx a)) (.bool true) F W).1 (dN (.s (tx a)) (.bool true) F W).2)) ?_ ⟨h0,h1,_,_,rfl,?_,fun k af=>?_⟩
  ·apply jo (congrArg qj h2)
   apply jt (decide_eq_true hp)
   rfl
  ·haveI:=jy (.s (tx a)) (.bool true) F W;simp;lia
  ·rcases dset_mem.mp af with rfl|af
   ·exact⟨a,by rw[e];simp,rfl⟩
   ·exact hm k af
 intro aq L;refine zo L fun h0 h1 F W h2 r hm=>?_
 have s1:tj (.int 1)=some (.str (cG 1)):=by kernel_rfl!
 haveI al:∀a b:Str,hZ .add (.str a) (.str b)=(Bi a b).map T.str:=fun _ _=>rfl
 have cl:∀x∈N,(tx x).length<=2/\(tx x++s__xx).length<=3:=fun x hx=>by
  haveI:∀x∈List.range 13,(tx x).length<=2/\(tx x++s__xx).length<=3:=by decide +kernel
  exact this x (by simp;haveI:=hb x hx;exact tmn this rfl)
 refine bE N tT (fun d J=>J 0=.fr (.list (N.map tT))/\J 1=.fr (.str s__xx)/\J 6=.ol (uq d)/\
  (∃F W,J 2=.od F W/\F.length<=N.length+d.length/\∀k∈F,(∃x∈N,k=.s (tx x))\/(∃x,d.count x=2/\k=.s (fx x)))/\
  (∃F W,J 4=.od F W/\F.length<=2*d.length/\(∀x∈d,Key.s (tx x)∈F)/\∀k∈F,(∃x∈d,k=.s (tx x))\/(∃x∈d,k=.s (fx x)))/\
  (∃F W,J 5=.od F W/\F.length<=d.length/\∀k∈F,∃x,d.count x=2/\k=.s (tx x))) ?_ ?_ ?_ ?_
 ·exact kIe (by apply jo (congrArg cI h0);apply jo ak;rfl)
 ·exact⟨h0,h1,rfl,⟨F,W,h2,r,fun k z=>.inl (hm k z)⟩,⟨[],[],rfl,Nat.zero_le _,fun _ z=>(nomatch z),fun _ z=>nomatch z⟩,⟨[],[],rfl,Nat.zero_le _,fun _ z=>nomatch z⟩⟩
 ·intro d a q J e L;refine BL L fun h0 h1 h6 E2 E4 E5=>?_
  refine bT E2 fun Z ad h2 k2 m2=>?_
  refine m7 E4 fun y O h4 k4 i4 m4=>?_
  refine bT E5 fun Y ab h5 k5 m5=>?_
  have hd:=kR e hl
  have ag:a∈N:=by rw[e];simp
  have ha:=hb a ag
  have ac:∀x∈d,x∈N:=fun x hx=>by rw[e];simp[hx]
  haveI l2:Z.length<lim:=dT (by lia)
  haveI l4:y.length<lim:=dT (by lia)
  haveI l5:Y.length<lim:=dT (tln (ltn k5 hd) (lkn rfl))
  haveI l6:(uq d).length<lim:=by rw[te];exact dT (tln hd (lkn rfl))
  haveI ar:(dN (.s (fx a)) (.bool true) y O).1.length<=y.length+1:=jy _ _ _ _
  haveI cnt:∀x,(d++[a]).count x=d.count x+(if a=x then 1 else 0):=fun x=>by rw[List.count_append,List.count_singleton];simp
  have da:(d++[a]).length=d.length+1:=by simp
  have ia:a∈d++[a]:=by simp
  have ai:∀k∈y,(∃x∈d++[a],k=.s (tx x))\/∃x∈d++[a],k=.s (fx x):=fun k r=>(m4 k r).imp (fun⟨x,hx,H⟩=>⟨x,List.mem_append_left _ hx,H⟩) fun⟨x,hx,H⟩=>⟨x,List.mem_append_left _ hx,H⟩
  have aj:∀k∈Z,(∃x∈N,k=.s (tx x))\/∃x,(d++[a]).count x=2/\k=.s (fx x):=fun k r=>(m2 k r).imp id fun⟨x,hx,H⟩=>⟨x,KA e (hc x) hx,H⟩
  have ah:∀k∈Y,∃x,(d++[a]).count x=2/\k=.s (tx x):=fun k r=>(m5 k r).elim fun x z=>⟨x,KA e (hc x) z.1,z.2⟩
  by_cases aa:a∈d
  ·haveI c1:d.count a=1:=by
    haveI h1:=hc a
    haveI h2:=List.count_pos_iff.mpr aa
    rw[e,List.count_append,List.count_cons_self]at h1
    lia
   haveI ae:eO (.s (tx a)) y=true:=dmem_iff.mpr (i4 a aa)
   haveI am:eO (.s (fx a)) Z=false:=by
    rw[Bool.eq_false_iff]
    intro z
    rcases m2 _ (dmem_iff.mp z)with⟨x,hx,H⟩|⟨x,hx,H⟩
    ·exact zt (hb x hx) ha (by injection H with H;exact H.symm)
    ·haveI:a=x:=Ds ha (hb x (ac x (List.count_pos_iff.mp (by lia)))) (by injection H)
     subst this;lia
   haveI nf:cJ (.s (tx a)) Y ab=none:=k8 _ fun z=>by
    refine xEA (m5 _ z) fun x hx H=>?_
    have:a=x:=xi ha (hb x (ac x (List.count_pos_iff.mp (by lia)))) (by injection H)
    subst this;lia
   haveI ao:Bi (tx a) s__xx=some (tx a++s__xx):=z8 (by haveI:=(cl a ag).1;haveI:s__xx.length=1:=rfl;unfold iq;lia)
   haveI an:Bi (tx a++s__xx) (cG 1)=some (fx a):=z8 (by haveI:=(cl a ag).2;haveI:(cG 1).length=1:=rfl;unfold iq;lia)
   have ca:(d++[a]).count a=2:=by rw[List.count_append,c1];simp
   refine⟨upd (upd (upd (upd (upd (upd (upd J 3 (.fr (tT a))) 7 (.fr (.int 1))) 8 (.fr (.str (fx a)))) 5 (.od (dN (.s (tx a)) (.int 2) Y ab).1 (dN (.s (tx a)) (.int 2) Y ab).2)) 2 (.od (dN (.s (fx a)) (.bool true) Z ad).1 (dN (.s (fx a)) (.bool true) Z ad).2)) 4 (.od (dN (.s (fx a)) (.bool true) y O).1 (dN (.s (fx a)) (.bool true) y O).2)) 6 (.ol (uq d++[uqT d a])),.inl ?_,h0,h1,congrArg LV.ol (lu ..).symm,⟨_,_,rfl,by haveI:=jy (.s (fx a)) (.bool true) Z ad;lia,fun k r=>?_⟩,⟨_,_,rfl,by lia,fun x hx=>dset_mem.mpr (.inr ?_),fun k r=>?_⟩,⟨_,_,rfl,by haveI:=jy (.s (tx a)) (.int 2) Y ab;lia,fun k r=>?_⟩⟩
   ·simp[h0,h1,h2,h4,h5,h6,tT,ae,nf,s9,JA,al,ao,an,s1,am,l2,l4,l5,l6,uqT,aa]
   ·rcases dset_mem.mp r with rfl|r
    ·exact .inr ⟨a,ca,rfl⟩
    ·exact aj k r
   ·rcases List.mem_append.mp hx with hx|hx
    ·exact i4 x hx
    ·rw[List.mem_singleton.mp hx];exact i4 a aa
   ·rcases dset_mem.mp r with rfl|r
    ·exact .inr ⟨a,ia,rfl⟩
    ·exact ai k r
   ·rcases dset_mem.mp r with rfl|r
    ·exact⟨a,ca,rfl⟩
    ·exact ah k r
  ·haveI ae:eO (.s (tx a)) y=false:=by
    rw[Bool.eq_false_iff]
    intro z
    rcases m4 _ (dmem_iff.mp z)with⟨x,hx,H⟩|⟨x,hx,H⟩
    ·have:a=x:=xi ha (hb x (ac x hx)) (by injection H)
     exact aa (this▸hx)
    ·exact zt ha (hb x (ac x hx)) (by injection H)
   refine nx2 (ρ':=upd (upd (upd J 3 (.fr (tT a))) 4 (.od (dN (.s (tx a)) (.bool true) y O).1 (dN (.s (tx a)) (.bool true) y O).2)) 6 (.ol (uq d++[uqT d a]))) ?_ ⟨h0,h1,congrArg LV.ol (lu ..).symm,⟨_,_,h2,by lia,aj⟩,⟨_,_,rfl,by haveI:=jy (.s (tx a)) (.bool true) y O;lia,fun x hx=>dset_mem.mpr ?_,fun k r=>?_⟩,⟨_,_,h5,Nat.le_of_lt (ltn k5 (ern da)),ah⟩⟩
   ·apply jo (congrArg cU h4)
    apply jt (congrArg not ae)
    apply jo (congrArg qj h4)
    apply jt (decide_eq_true l4)
    apply jo (congrArg gT h6)
    apply jt (decide_eq_true l6)
    rw[show uqT d a=tT a from congrArg T.str (if_neg aa)]
    rfl
   ·rcases List.mem_append.mp hx with hx|hx
    ·exact .inr (i4 x hx)
    ·rw[List.mem_singleton.mp hx];exact .inl rfl
   ·rcases dset_mem.mp r with rfl|r
    ·exact .inl ⟨a,ia,rfl⟩
    ·exact ai k r
 ·intro ap L;refine xh L fun h0 h1 h6 _=>?_
  exact jo (congrArg frz h6) rfl
end
noncomputable def sc(j:Nat):Nat:=j+1
noncomputable def lab(js:List Nat):T:=vI (js.map fun j=>tn (j+1))
theorem yk(js:List Nat):(js.map fun j=>tn (j+1))=(js.map sc).map tn:=by simp[sc]
section
variable(n:Nat)(h:List T)
theorem Cc{j:Nat}(d:j<=1000):tj (tn j)=some (tT j):=by
 haveI:small (j:Int)=true:=eW (Int.natCast_nonneg _) (ug (Int.ofNat_le.mpr d) rfl)
 show(if small (j:Int)=true then some (T.str (cG j))else none)=_
 rw[if_pos this];rfl
theorem r6(l:List Nat)(d:l.length<=100)(q:∀j∈l,j<=1000):aA tab (n+4) 12 [vI (l.map tn)] h=some (.fr (.list (l.map tT)),h):=by
 haveI g:∀n,aA tab (n+1) 9 [vI (l.map tn),.str cN] h=some (.fr .none,h):=fun n=>by kernel_rfl!
 haveI z:(aG==aP)=false:=by decide
 haveI y:(aG==bS)=false:=by decide
 rw[gK]
 simp[eG,g]
 refine aQ l tn tT (by simp[cH,d]) (fun a r=>?_) ?_
 ·simp -implicitDefEqProofs [sq,iT,z,y,show aZ (tn a)=false from rfl,Cc (q a r)]
 ·simp
theorem hO(c:List T)(js:List Nat)(d:js.length<=100):aA tab (n+1) 41 [frm c ghv (lab js)] h=some (.fr (.int js.length),h):=by
 simp[kA,gf,lab,bK,d]
theorem tB(c:List T)(js:List Nat)(q:js.length<=100)(h0:js≠[])(r:∀j∈js,j<100):aA tab (n+5) 43 [frm c ghv (lab js)] h=some (.fr (.list ((js.map sc).map tT)),h):=by
 haveI e:((js.length:Int)==0)=false:=by haveI:=List.length_pos_iff.mpr h0;simp;exact h0
 haveI d:=r6 n h (js.map sc) (by rw[List.length_map];exact q) (by simp[sc];intro a y;haveI:=r a y;exact tnn this rfl)
 rw[<-yk]at d
 simp[uB,jF,hO,q,h0,e]
 rw[show aA tab (n+4) 12 [lab js] h=_ from d]
 simp
theorem I8(a b:Nat):jE (tn a) (tn b)=decide (a=b):=by
 show((a:Int)==(b:Int))=_
 by_cases e:a=b
 ·subst e;simp
 ·rw[decide_eq_false e]
  haveI:(a:Int)≠b:=by lia
  simpa using this
theorem Ek:∀(l d:List Nat),rB wR (l.map tn) (d.map tn)=decide (l=d)
 | [],[]=>rfl
 | [],_::_=>rfl
 |_::_,[]=>rfl
 |a::l,b::d=>by
  show(jE (tn a) (tn b)&&rB wR (l.map tn) (d.map tn))=_
  rw[I8,Ek]
  by_cases e:a=b<;>simp[e]
theorem Hq(l d:List Nat):eqT (.list (l.map tn)) (.list (d.map tn))=some (decide (l=d)):=by
 haveI a:∀l:List Nat,dz (.list (l.map tn))=true:=fun l=>by
  show(l.map tn).all qM=true
  rw[List.all_map];exact List.all_eq_true.mpr fun _ _=>rfl
 show(if(dz _&&dz _)=true then _ else _)=_
 rw[a,a]
 show some (rB wR _ _)=_
 rw[Ek]
theorem Cr(js:List Nat):(js.map sc=(List.range js.length).map sc)↔js=List.range js.length:=by
 constructor
 ·intro e
  haveI q:∀(l d:List Nat),l.map sc=d.map sc->l=d:=by
   intro l
   induction l with
   |nil=>intro d e;cases d with
    |nil=>rfl
    |cons=>simp at e
   |cons a l r=>intro d e;cases d with
    |nil=>simp at e
    |cons b d=>simp[sc]at e;rw[e.1,r d (by simpa [sc]using e.2)]
  exact q _ _ e
 ·intro e;rw[<-e]
theorem mj(c:List T)(js:List Nat)(d:js.length<=99):aA tab (n+1) 44 [frm c ghv (lab js)] h=some (.fr (.bool (decide (js=List.range js.length))),h):=by
 haveI y:(aG==aG)=true:=by decide
 haveI r:=nv (show js.length<=100 from tkn d rfl)
 haveI q:eqT (.list (js.map fun j=>tn (j+1))) (.list ((List.range js.length).map fun j=>tn (j+1)))=some (decide (js=List.range js.length)):=by
  rw[yk,yk,Hq]
  congr 1
  exact decide_eq_decide.mpr (Cr js)
 simp[mK,fC,lab,bK,show js.length<=100 from tkn d rfl,r,q]
 by_cases e:js=List.range js.length
 ·rw[decide_eq_true e];simp
 ·rw[decide_eq_false e];simp
theorem qN{l:List T}(d:l.length<=100):aA tab (n+1) 4 [.list l] h=some (.fr (vI l),h):=by
 simp[rm,j0,cV d];rfl
noncomputable def mY(R:List (List Nat)):Bool:=R.all fun js=>decide (js=List.range js.length)
noncomputable def kV(R:List (List Nat)):T:=if mY R=true then vI (lbs (cat R).length)else vC (uq (jk R))
theorem nR(c:List Nat->List T)(R:List (List Nat))(hR:R.length<=100)(h0:∀js∈R,js≠[])(O:(cat R).length<=12)(W:∀j∈cat R,j<(cat R).length)(nd:(cat R).Nodup):
  aA tab (n+6) 56 [.list (R.map fun js=>frm (c js) ghv (lab js))] h=some (.fr (kV R),h):=by
 haveI nl:=qo R
 haveI mu:=qB (n+4) h (jk R) (trn (eln nl) O) (fun x hx=>by haveI:=zJ R _ W (Nat.le_refl _) x hx;exact trn this O) (ql h0 nd)
 simp[n9,fW]
 refine bE R (fun js=>frm (c js) ghv (lab js)) (fun d H=>H 1=.fr (.int (cat d).length)/\H 2=.fr (.bool (mY d))/\H 3=.ol ((jk d).map tT)) ?_ ?_ ?_ ?_
 ·simp[cH,hR]
 ·simp[qm,mY]
 ·rintro p a q H e r;haveI y:=r.1;haveI L:=r.2.1;haveI F:=r.2.2
  haveI z:=pN e O
  haveI Z:a≠[]:=h0 a (by rw[e];exact List.mem_append_right _ (.head _))
  haveI Y:∀j∈a,j<100:=fun j hj=>by
   haveI:=W j (by rw[e];simp[cat,hj])
   exact tln (tln this O) (lkn rfl)
  haveI hx:(jk p).length+a.length<=lim:=by rw[qo];exact cV (tkn z rfl)
  by_cases J:a=List.range a.length
  ·refine⟨upd (upd (upd (upd H 4 (.fr (frm (c a) ghv (lab a)))) 5 (.fr (.int a.length))) 3 (.ol ((jk (p++[a])).map tT))) 1 (.fr (.int ((cat p).length+a.length))),.inl ?_,?_⟩
   ·simp[y,L,F,hO,show a.length<=100 from tkn (trn (Nat.le_add_left ..) z) rfl,mj,show a.length<=99 from tkn (trn (Nat.le_add_left ..) z) rfl]
    rw[decide_eq_true J]
    simp
    refine aQ (List.range a.length) tn (fun j=>tT ((cat p).length+j+1)) (by simp[bX (show a.length<=100 from tkn (trn (Nat.le_add_left ..) z) rfl)]) (fun b W=>?_) ?_
    ·haveI ab:b<a.length:=by simpa using W
     haveI s:=Cc (j:=(cat p).length+b+1) (by lia)
     haveI:T.int ((cat p).length+(b:Int)+1)=tn ((cat p).length+b+1):=rfl
     rw[<-this]at s
     simp -implicitDefEqProofs [y,tn,s]
    ·simp[F,hx,y,iw]
     unfold jj
     rw[if_pos J]
     simp[Function.comp_def]
   ·haveI:mY (p++[a])=mY p:=by unfold mY;rw[List.all_append];simp[decide_eq_true J]
    simp[L,this]
  ·refine⟨upd (upd (upd (upd (upd H 4 (.fr (frm (c a) ghv (lab a)))) 5 (.fr (.int a.length))) 2 (.fr (.bool false))) 3 (.ol ((jk (p++[a])).map tT))) 1 (.fr (.int ((cat p).length+a.length))),.inl ?_,?_⟩
   ·simp[y,L,F,hO,show a.length<=100 from tkn (trn (Nat.le_add_left ..) z) rfl,mj,show a.length<=99 from tkn (trn (Nat.le_add_left ..) z) rfl]
    rw[decide_eq_false J]
    haveI rn:=tB n h (c a) a (tkn (trn (Nat.le_add_left ..) z) rfl) Z Y
    simp only[List.map_map]at rn
    simp[rn,F,hx,y,iw]
    unfold jj
    rw[if_neg J]
    simp[Function.comp_def,sc]
   ·haveI:mY (p++[a])=false:=by unfold mY;rw[List.all_append];simp[decide_eq_false J]
    simp[this]
 rintro aa r;haveI y:=r.1;haveI L:=r.2.1;haveI F:=r.2.2
 cases hp:mY R
 ·simp[y,L,F,hp,mu,eZ,show(uq (jk R)).length<=100 by rw[te];exact tkn (trn (eln nl) O) rfl,kV]
 ·simp[y,L,F,hp,nv (show(cat R).length<=100 by lia),qN,show(cat R).length<=100 by lia,kV];rfl
theorem yb(c:List T)(l:T):aA tab (n+5) 55 [.list ghv,frm c ghv l] h=some (.fr (.list c),h):=by kernel_rfl!
theorem GC{f1 f2:Fm}{A B:List Nat->List Pk}{D:List Nat->List T}(R:List (List Nat))(q:R.length<=12)(d:R≠[])(h0:∀js∈R,js≠[])(hl:(cat R).length<=12)(hb:∀j∈cat R,j<(cat R).length)(O:(cat R).Nodup)
  (lA:(cat (R.map A)).length<=12) (Z:(cat (R.map B)).length<=12) (Y:(cat (R.map D)).length<=12):
  aA tab (n+7) 57 [.list (R.map fun js=>frm [gv f1 ((A js).map (it f1)),gv f2 ((B js).map (it f2)),vI (D js)] ghv (lab js))] h=
   some (.fr (frm [gv f1 ((cat (R.map A)).map (it f1)),gv f2 ((cat (R.map B)).map (it f2)),vI (cat (R.map D))] ghv (kV R)),h):=by
 let c:List Nat->List T:=fun js=>[gv f1 ((A js).map (it f1)),gv f2 ((B js).map (it f2)),vI (D js)]
 let F:List Nat->T:=fun js=>frm (c js) ghv (lab js)
 have l3:∀js,cL (.list (c js))=some 3:=fun _=>rfl
 have g3:decide ((3:Int)>0)=true:=rfl
 have L:lI [.int 3]=some [tn 0,tn 1,tn 2]:=by kernel_rfl!
 have W:cL (.list ghv)=some 3:=rfl
 have J:bF (.list (R.map F)) (.int 0)=some (F (nt R 0)):=aW (List.length_pos_iff.mpr d) (tkn q rfl)
 have jl:=nR n h c R (tkn q rfl) h0 hl hb O
 have H:=ft n h f1 (R.map A) (by simpa using d) (by simp;exact tkn q rfl) (tkn lA rfl)
 have z:=ft n h f2 (R.map B) (by simpa using d) (by simp;exact tkn q rfl) (tkn Z rfl)
 have y:=iy n h (R.map D) (by simpa using d) (by simp;exact tkn q rfl) (tkn Y rfl)
 simp only[List.map_map]at H z y
 show aA tab (n+7) 57 [.list (R.map F)] h=_
 simp[j6,eR]
 refine cE R F (fun _=>true) F (by simp[cH,show R.length<=100 from tkn q rfl]) (fun a r=>?_) (fun a r _=>?_) ?_
 ·simp[show cQ .items (F a)=some (.list (c a))from rfl,l3,g3]
 ·simp
 simp[List.filter_eq_self.mpr,bK,show R.length<=100 from tkn q rfl,d,show((R.length:Int)==0)=false from by simp;exact d,J,-dK]
 have cn:∀js,aA tab (n+6) 42 [F js] h=some (.fr (.list ghv),h):=fun js=>fA (n+2) h (c js) (lab js)
 simp[cn]
 refine aQ R F (fun js=>.list (c js)) (by simp[cH,show R.length<=100 from tkn q rfl]) (fun a r=>?_) ?_
 ·have:=yb (n+1) h (c a) (lab a)
  simp
  rw[show aA tab (n+6) 55 [.list ghv,F a] h=_ from this];rfl
 simp[W,L,eA,bZ,cC]
 refine aQ R (fun js=>.list (c js)) (fun js=>gv f1 ((A js).map (it f1))) (by simp[cH,show R.length<=100 from tkn q rfl]) (fun a r=>?_) ?_
 ·simp;rfl
 simp[bZ,cC,show aA tab (n+6) 54 [.list (R.map fun js=>gv f1 ((A js).map (it f1)))] h=_ from H,show(0:Nat)<lim by decide]
 refine aQ R (fun js=>.list (c js)) (fun js=>gv f2 ((B js).map (it f2))) (by simp[cH,show R.length<=100 from tkn q rfl]) (fun a r=>?_) ?_
 ·simp;rfl
 simp[bZ,cC,show aA tab (n+6) 54 [.list (R.map fun js=>gv f2 ((B js).map (it f2)))] h=_ from z,show(1:Nat)<lim by decide]
 refine aQ R (fun js=>.list (c js)) (fun js=>vI (D js)) (by simp[cH,show R.length<=100 from tkn q rfl]) (fun a r=>?_) ?_
 ·simp;rfl
 simp[bZ,cC,show aA tab (n+6) 54 [.list (R.map fun js=>vI (D js))] h=_ from y,show(2:Nat)<lim by decide,
  show aA tab (n+6) 56 [.list (R.map F)] h=_ from jl,kN]
end
noncomputable def ord:Fm->List Pk
 |.fi=>[.pb,.pa,.pc]
 |.fs=>[.pc,.pa,.pb]
 |.ff=>[.pa,.pb,.pc]
noncomputable def pv(D:List Pk)(p:Pk):List Pk:=if p≠.po/\p∉D then D++[p]else D
noncomputable def ddp(P:List Pk):List Pk:=P.foldl pv []
noncomputable def grp(f:Fm)(P:List Pk):List Pk:=(ord f).filter fun p=>decide (p∈P)
noncomputable def pt(f:Fm)(P:List Pk):List Pk:=grp f P++(if .po∈P then [.po]else [])
noncomputable def cF(P:List Pk)(p:Pk):List Nat:=(List.range P.length).filter fun j=>decide (nt P j=p)
noncomputable def dG(f:Fm)(P:List Pk):List (List Nat):=(pt f P).map (cF P)
theorem gJ(P:List Pk)(p:Pk):ddp (P++[p])=pv (ddp P) p:=by unfold ddp;rw[List.foldl_append];rfl
theorem eY:∀(P:List Pk)(p:Pk),p∈ddp P↔p≠.po/\p∈P:=dW (fun p=>by simp[ddp]) fun l a z p=>by
 rw[gJ]
 unfold pv
 split
 ·rename_i h
  simp only[List.mem_append,List.mem_singleton,z]
  constructor
  ·rintro(⟨r,y⟩|rfl)
   ·exact⟨r,.inl y⟩
   ·exact⟨h.1,.inr rfl⟩
  ·rintro d;haveI r:=d.1;obtain y|rfl:=d.2
   ·exact .inl ⟨r,y⟩
   ·exact .inr rfl
 ·rename_i h
  rw[z]
  simp only[List.mem_append,List.mem_singleton]
  constructor
  ·rintro d;haveI r:=d.1;haveI y:=d.2;exact⟨r,.inl y⟩
  ·rintro d;haveI r:=d.1;obtain y|rfl:=d.2
   ·exact⟨r,y⟩
   ·haveI:p∈ddp l:=Classical.byContradiction fun q=>h ⟨r,q⟩
    exact(z p).mp this
theorem fw:∀P:List Pk,(ddp P).Nodup:=dW .nil fun l a d=>by
 rw[gJ]
 unfold pv
 split
 ·rename_i h
  rw[List.nodup_append]
  exact⟨d,by simp,fun x hx y q=>by
    obtain rfl:y=a:=by simpa using q
    exact fun e=>h.2 (e▸hx)⟩
 ·exact d
theorem Ie:∀D:List Pk,D.length=D.count .pa+D.count .pb+D.count .pc+D.count .po:=by
 intro d
 induction d with
 |nil=>
  exact rfl
 |cons a D q=>
  haveI:=q
  cases a<;>simp[List.count_cons]<;>lia
theorem kK{D:List Pk}(d:D.Nodup)(h0: .po∉D):D.length<=3:=by
 haveI c:=List.nodup_iff_count.mp d
 haveI c1:=c .pa
 haveI y:=c .pb
 haveI r:=c .pc
 haveI q:=List.count_eq_zero.mpr h0
 rw[Ie];lia
noncomputable def pks:Nat->List (List Pk)
 |0=>[[]]
 |n+1=>[]::(pks n).flatMap fun l=>[.pa::l,.pb::l,.pc::l,.po::l]
theorem Fr{D:List Pk}:∀{n:Nat},D.length<=n->D∈pks n:=by
 induction D with
 |nil=>intro n _;cases n<;>exact .head _
 |cons p D d=>
  intro n h
  cases n with
  |zero=>exact(Nat.not_succ_le_zero _ h).elim
  |succ n=>exact .tail _ (List.mem_flatMap.mpr ⟨D,d (Nat.le_of_succ_le_succ h),by cases p<;>simp⟩)
noncomputable def pk16s:List (List Pk):=[[],[.pa],[.pb],[.pc],[.pa,.pb],[.pa,.pc],[.pb,.pa],[.pb,.pc],[.pc,.pa],[.pc,.pb],[.pa,.pb,.pc],[.pa,.pc,.pb],[.pb,.pa,.pc],[.pb,.pc,.pa],[.pc,.pa,.pb],[.pc,.pb,.pa]]
theorem J1{β:Type}{f g:List Pk->β}{D:List Pk}(r:D.Nodup)(h0: .po∉D)(h:pk16s.map f=pk16s.map g):f D=g D:=by
 haveI d:(pks 3).all (fun D=> !decide D.Nodup||decide (.po∈D)||decide (D∈pk16s))=true:=by decide +kernel
 haveI q:=List.all_eq_true.mp d D (Fr (kK r h0))
 rw[decide_eq_true r,decide_eq_false h0]at q
 exact List.map_inj_left.mp h D (of_decide_eq_true q)
theorem Ck(f:Fm){D:List Pk}(d:D.Nodup)(h0: .po∉D):dD (D.map (it f))=some (((ord f).filter fun p=>decide (p∈D)).map (it f)):=by
 refine J1 (f:=fun D=>dD (D.map (it f))) (g:=fun D=>some (((ord f).filter fun p=>decide (p∈D)).map (it f))) d h0 ?_
 cases f<;>kernel_rfl!
theorem FR(f:Fm)(P:List Pk):((ord f).filter fun p=>decide (p∈ddp P))=grp f P:=by
 unfold grp
 apply List.filter_congr
 intro p d
 haveI:p≠.po:=by rintro rfl;cases f<;>exact absurd d (by decide)
 exact decide_eq_decide.mpr (by rw[eY];simp[this])
theorem De(f:Fm)(p:Pk):dz (it f p)=true:=by cases f<;>cases p<;>rfl
theorem Df(f:Fm)(p q:Pk):iO (it f p) (it f q)=decide (p=q):=eq_of_beq (fpq (P:=fun f p q=>iO (it f p) (it f q)==decide (p=q)) (by decide +kernel) f p q)
theorem yw(f:Fm)(p:Pk)(D:List Pk):inL (it f p) (D.map (it f))=some (decide (p∈D)):=by
 unfold inL
 rw[De,if_pos (by simp[De])]
 congr 1
 induction D with
 |nil=>rfl
 |cons a D d=>
  rw[List.map_cons,List.any_cons,d,Df]
  by_cases h:a=p
  ·rw[h];simp
  ·rw[decide_eq_false h,Bool.false_or]
   exact decide_eq_decide.mpr (by simp[show¬p=a from fun e=>h e.symm])
theorem yI(f:Fm)(p q:Pk):eqT (it f p) (it f q)=some (decide (p=q)):=by
 haveI:(dz (it f p)&&dz (it f q))=true:=by simp[De]
 unfold eqT;rw[if_pos this,Df]
theorem eT(f:Fm)(p:Pk):aZ (it f p)=decide (p=.po):=by cases f<;>cases p<;>rfl
section
variable(n:Nat)(h:List T)
theorem r5(f:Fm)(P:List Pk)(Y:P.length<=100):aA tab (n+1) 80 [gv f (P.map (it f))] h=some (.fr (.list ((dG f P).map fun js=>.list (js.map tn))),h):=by
 haveI i1:fN (.list (P.map (it f)))=some (P.map (it f)):=cH (by rw[List.length_map];exact Y)
 simp[rq,ii]
 refine bE P (it f) (fun d y=>y 0=.fr (gv f (P.map (it f)))/\y 1=.ol ((ddp d).map (it f))) ?_ ?_ ?_ ?_
 ·simp[i1]
 ·simp[ddp]
 ·rintro p a q y e J;haveI r:=J.1;haveI z:=J.2
  haveI hp:(ddp p).length<lim:=dT (Nat.lt_of_le_of_lt (kK (fw p) (fun q=>((eY _ _).mp q).1 rfl)) (by decide))
  by_cases F:a=.po
  ·refine⟨upd y 2 (.fr (it f a)),.inl ?_,?_⟩
   ·simp[r,z,eT,F]
   ·simp[r,z,gJ,pv,F]
  ·by_cases O:a∈ddp p
   ·refine⟨upd y 2 (.fr (it f a)),.inl ?_,?_⟩
    ·simp[r,z,eT,F,yw,O]
    ·simp[r,z,gJ,pv,F,O]
   ·refine⟨upd (upd y 2 (.fr (it f a))) 1 (.ol ((ddp p).map (it f)++[it f a])),.inl ?_,?_⟩
    ·simp[r,z,eT,F,yw,O,hp]
    ·simp[r,z,gJ,pv,F,O]
 rintro ab ⟨r,z⟩
 have st:=Ck f (fw P) (fun q=>((eY _ _).mp q).1 rfl)
 rw[FR]at st
 have hg:(grp f P).length<=3:=by
  have:=List.length_filter_le (fun p=>decide (p∈P)) (ord f)
  unfold grp;cases f<;>exact this
 have H:inL T.none (P.map (it f))=some (decide (.po∈P)):=by
  have:=yw f .po P
  rwa [show it f .po=T.none by cases f<;>rfl]at this
 have L:∀y:aE,y 0=.fr (gv f (P.map (it f)))->y 1=.fr (.list ((pt f P).map (it f)))->
   obd (evX (aA tab n) y (.comp 3 (.val (.var 1)) [] (.comp 4 (.range [.len (.attr (.var 0) .items)]) [.eq (.idx (.attr (.var 0) .items) (.var 4)) (.var 3)] (.var 4))) h) (fun t=>bn (bn (pu (.ret (.fr t))) (gU (aA tab n) [])) gi)=some (.fr (.list ((dG f P).map fun js=>.list (js.map tn))),h):=by
  intro y r z
  haveI aa:(pt f P).length<=100:=by
   unfold pt
   split<;>simp<;>exact tkn hg rfl
  refine aQ (pt f P) (it f) (fun p=>.list ((cF P p).map tn)) (by simp[z,cH,aa]) (fun a ha=>?_) ?_
  ·haveI l1:cL (.list (P.map (it f)))=some P.length:=by rw[bK (by simpa using Y)];simp
   have:=cE (C:=aA tab n) (ρ:=upd y 3 (.fr (it f a))) (i:=4) (it:=.range [.len (.attr (.var 0) .items)]) (cs:=[.eq (.idx (.attr (.var 0) .items) (.var 4)) (.var 3)]) (e:=.var 4) (h:=h)
    (List.range P.length) tn (fun j=>decide (nt P j=a)) tn (by simp[r,l1,bX Y]) (fun j hj=>?_) (fun j hj _=>by simp) (k:=fun t=>pu t) rfl
   ·generalize evX (aA tab n) _ _ h=X at this⊢
    cases X with
    |none=>cases this
    |some p=>exact this
   ·haveI Z:j<P.length:=by simpa using hj
    simp[r,aW Z Y,yI]
    by_cases q:nt P j=a<;>simp[q]
  ·simp[dG]
 by_cases W: .po∈P
 ·simp[r,z,st,H,W,show(grp f P).length<lim from dT (tmn hg rfl)]
  refine L _ (by simp[r]) ?_
  simp[pt,W,show it f .po=T.none by cases f<;>rfl]
 ·simp[r,z,st,H,W,show(grp f P).length<lim from dT (tmn hg rfl)]
  refine L _ (by simp[r]) ?_
  simp[pt,W]
end
theorem yT(a b:Str):cmS .lt a b=some (lB a b):=rfl
theorem yU(a b:Str):cmS .gt a b=some (lB b a):=rfl
def Cm2(x y:T):Prop:=(∃a b,x=.int a/\y=.int b)\/(∃a b,x=.str a/\y=.str b)
noncomputable def lT(l:List Nat):T:=.list (l.map tn)
theorem yl{l:List Nat}(h:l.length<=100):cL (lT l)=some l.length:=by unfold lT;rw[bK (by simpa using h)];simp
theorem kW{l:List Nat}{j:Nat}(h:j<l.length)(d:l.length<=100):bF (lT l) (tn j)=some (tn (nt l j)):=aW h d
section
variable(n:Nat)(h:List T)
theorem Be{k:Str}(F:k=aG\/k=aP){x y:T}(z:Cm2 x y):∃r,aA tab (n+1) 24 [.str k,x,y] h=some (.fr (.int r),h):=by
 haveI e:(k==bC)=false:=by rcases F with rfl|rfl<;>decide
 rcases z with⟨a,b,rfl,rfl⟩|⟨a,b,rfl,rfl⟩
 ·refine⟨if a<b then-1 else if b<a then 1 else 0,?_⟩
  simp[iC,eJ,e]
  by_cases d:a<b
  ·simp[d]
  ·by_cases q:b<a
   ·simp[d,q]
   ·simp[d,q]
 ·refine⟨if lB a b=true then-1 else if lB b a=true then 1 else 0,?_⟩
  simp[iC,eJ,e,yT,yU]
  cases d:lB a b
  ·cases q:lB b a
   ·simp[d,q,yT,yU]
   ·simp[d,q,yT,yU]
  ·rfl
theorem qF{k:Str}(d:k=aG\/k=aP){x:T}(hx:aZ x=false):aA tab (n+1) 23 [.str k,x] h=some (.fr (.bool false),h):=by
 haveI e:(k==bC)=false:=by rcases d with rfl|rfl<;>decide
 simp[ss,iV,hx,e]
theorem Cm2.none1{x y:T}(h:Cm2 x y):aZ x=false:=by rcases h with⟨a,b,rfl,rfl⟩|⟨a,b,rfl,rfl⟩<;>rfl
theorem Cm2.none2{x y:T}(h:Cm2 x y):aZ y=false:=by rcases h with⟨a,b,rfl,rfl⟩|⟨a,b,rfl,rfl⟩<;>rfl
structure Col(k:Str)(its:List T):Prop where
 kind:k=aG\/k=aP
 len:its.length<=6
 cm:∀i j,i<its.length->j<its.length->Cm2 (nt its i) (nt its j)
noncomputable def cv(k:Str)(its:List T):T:=.vec k (.list its) .none
theorem D3{k:Str}{its:List T}(c:Col k its){i j:Nat}(F:i<its.length)(z:j<its.length):
  ∃r,aA tab (n+3) 27 [.list [cv k its],tn i,tn j,.list [.bool false],.bool true] h=some (.fr (.int r),h):=by
 haveI y:=c.len
 haveI d:=c.cm i j F z
 refine xE (Be n h c.kind d) fun r Z=>?_
 have J:bF (.list its) (tn i)=some (nt its i):=qO F (tkn y rfl)
 have H:bF (.list its) (tn j)=some (nt its j):=qO z (tkn y rfl)
 have hp:aA tab (n+2) 26 [cv k its,tn i,tn j,.bool false,.bool true] h=some (.fr (.int r),h):=by
  simp[mN,fF,cv,J,H,qF n h c.kind d.none1,qF n h c.kind d.none2,Z]
 refine⟨r,?_⟩
 have L:lI [.int 1]=some [tn 0]:=by kernel_rfl!
 haveI Y:bF (.list [cv k its]) (tn 0)=some (cv k its):=rfl
 haveI W:bF (.list [T.bool false]) (tn 0)=some (.bool false):=rfl
 have O:cL (.list [cv k its])=some 1:=rfl
 simp[pj,gP,eA,O,L,bZ,cC,Y,W,hp]
 by_cases q:r=0
 ·rw[q];simp[cC]
 ·haveI:(r==0)=false:=by simpa using q
  simp[this]
theorem lD{l:List Nat}{i:Nat}:(l.map tn).drop i=(l.drop i).map tn:=by rw[List.map_drop]
theorem tJ{i:Nat}(d:i<=1000):nC (tn i)=some i:=by
 show(if 0<=(i:Int)/\(i:Int)<1000000 then some (i:Int).toNat else none)=some i
 rw[if_pos ⟨Int.natCast_nonneg _,yn (Int.ofNat_le.mpr d) rfl⟩];rfl
theorem C1{k:Str}{its:List T}(c:Col k its){L R:List Nat}(hL:∀j∈L,j<its.length)(hR:∀j∈R,j<its.length)(lL:L.length<=6)(lR:R.length<=6):
  ∃M:List Nat,aA tab (n+4) 28 [lT L,lT R,.list [cv k its],.list [.bool false],.bool true] h=some (.fr (lT M),h)/\M.Perm (L++R):=by
 let I:Nat->aE->Prop:=fun m d=>d 0=.fr (lT L)/\d 1=.fr (lT R)/\d 2=.fr (.list [cv k its])/\d 3=.fr (.list [.bool false])/\d 4=.fr (.bool true)/\
  ∃(i j:Nat) (M:List Nat),d 5=.ol (M.map tn)/\d 6=.fr (tn i)/\d 7=.fr (tn j)/\i<=L.length/\j<=R.length/\M.Perm (L.take i++R.take j)/\m=(L.length-i)+(R.length-j)
 haveI ll:cL (lT L)=some L.length:=yl (tkn lL rfl)
 haveI lr:cL (lT R)=some R.length:=yl (tkn lR rfl)
 haveI ct:∀a b:Nat,yS .lt (tn a) (.int (b:Int))=some (decide (a<b)):=fun a b=>by
  show some (decide ((a:Int)<b))=_
  congr 1;exact decide_eq_decide.mpr (by lia)
 haveI ad:∀a,iOf (tn a)=some (a:Int):=fun _=>rfl
 haveI ac:∀a:Nat,T.int ((a:Int)+1)=tn (a+1):=fun _=>rfl
 haveI lp:=BO (C:=aA tab (n+3)) (c:=.and [.cmp .lt (.var 6) (.len (.var 0)),.cmp .lt (.var 7) (.len (.var 1))]) (h:=h)
  (b:=[.ite (.cmp .le (.call 27 [.var 2,.idx (.var 0) (.var 6),.idx (.var 1) (.var 7),.var 3,.var 4]) (.int 0)) [.append 5 (.idx (.var 0) (.var 6)),.aug 6 .add (.int 1)] [.append 5 (.idx (.var 1) (.var 7)),.aug 7 .add (.int 1)]]) I (by
  intro m d aa;refine oN aa fun y F h2 Z Y i j M h5 q z hi hj W J=>?_;obtain rfl:=J
  by_cases H:i<L.length
  ·by_cases O:j<R.length
   ·refine .inr ⟨kXe (by apply jo (congrArg cI q);apply jo (congrArg cU y);apply jo ll;apply jo (ct ..);apply jt (decide_eq_true H);apply jo (congrArg cI z);apply jo (congrArg cU F);apply jo lr;apply jo (ct ..);apply jt (decide_eq_true O);rfl),?_⟩
    haveI xL:=kW H (tkn lL rfl)
    haveI xR:=kW O (tkn lR rfl)
    refine xE (D3 n h c (hL _ (bR H)) (hR _ (bR O))) fun r hr=>?_
    haveI hm:M.length<lim:=by
     haveI:=W.length_eq
     simp at this
     exact dT (by lia)
    by_cases q3:r<=0
    ·refine⟨upd (upd d 5 (.ol (M.map tn++[tn (nt L i)]))) 6 (.fr (tn (i+1))),L.length-(i+1)+(R.length-j),?_,by lia,y,F,h2,Z,Y,i+1,j,M++[nt L i],by simp,rfl,z,H,hj,?_,rfl⟩
     ·refine kE ?_
      apply jo (congrArg cI h2)
      apply jo (congrArg cU y)
      apply jo (congrArg cI q)
      apply jo xL
      apply jo (congrArg cU F)
      apply jo (congrArg cI z)
      apply jo xR
      apply jo (congrArg cI Z)
      apply jo (congrArg cI Y)
      apply jb hr
      apply jt (decide_eq_true q3)
      apply jo (congrArg cU y)
      apply jo (congrArg cI q)
      apply jo xL
      apply jo (congrArg gT h5)
      apply jt (decide_eq_true (show(M.map tn).length<lim by rw[List.length_map];exact hm))
      apply jo (congrArg (fun v=>(cI v).bind iOf) q)
      rfl
     ·rw[List.take_add_one,jm H]
      refine(W.append_right _).trans ?_
      simp only[Option.toList_some,List.append_assoc]
      exact List.Perm.append_left _ List.perm_append_comm
    ·refine⟨upd (upd d 5 (.ol (M.map tn++[tn (nt R j)]))) 7 (.fr (tn (j+1))),L.length-i+(R.length-(j+1)),?_,by lia,y,F,h2,Z,Y,i,j+1,M++[nt R j],by simp,q,rfl,hi,O,?_,rfl⟩
     ·refine kE ?_
      apply jo (congrArg cI h2)
      apply jo (congrArg cU y)
      apply jo (congrArg cI q)
      apply jo xL
      apply jo (congrArg cU F)
      apply jo (congrArg cI z)
      apply jo xR
      apply jo (congrArg cI Z)
      apply jo (congrArg cI Y)
      apply jb hr
      apply jf (decide_eq_false q3)
      apply jo (congrArg cU F)
      apply jo (congrArg cI z)
      apply jo xR
      apply jo (congrArg gT h5)
      apply jt (decide_eq_true (show(M.map tn).length<lim by rw[List.length_map];exact hm))
      apply jo (congrArg (fun v=>(cI v).bind iOf) z)
      rfl
     ·rw[List.take_add_one,jm O]
      refine(W.append_right _).trans ?_
      simp only[Option.toList_some,List.append_assoc]
      exact .refl _
   ·exact .inl (kXe (by apply jo (congrArg cI q);apply jo (congrArg cU y);apply jo ll;apply jo (ct ..);apply jt (decide_eq_true H);apply jo (congrArg cI z);apply jo (congrArg cU F);apply jo lr;apply jo (ct ..);apply jf (decide_eq_false O);rfl))
  ·exact .inl (kXe (by apply jo (congrArg cI q);apply jo (congrArg cU y);apply jo ll;apply jo (ct ..);apply jf (decide_eq_false H);rfl)))
 obtain⟨ab,m',e',⟨y,F,h2,Z,Y,i,j,M,h5,q,z,hi,hj,W,-⟩,-⟩:=lp 40 (L.length+R.length) (upd (upd (upd (aS [lT L,lT R,.list [cv k its],.list [.bool false],.bool true]) 5 (.ol [])) 6 (.fr (.int 0))) 7 (.fr (.int 0))) (by lia)
  ⟨rfl,rfl,rfl,rfl,rfl,0,0,[],rfl,rfl,rfl,Nat.zero_le _,Nat.zero_le _,.refl _,rfl⟩
 haveI ae:M.length=i+j:=by
  haveI:=W.length_eq
  simp at this
  lia
 refine⟨M++L.drop i++R.drop j,?_,?_⟩
 ·haveI b1:hZ .add (.list (M.map tn)) (.list ((L.drop i).map tn))=some (.list ((M++L.drop i).map tn)):=by
   rw[wQ (by simp;exact cV (by lia))];simp only[List.map_append]
  haveI b2:hZ .add (.list ((M++L.drop i).map tn)) (.list ((R.drop j).map tn))=some (.list ((M++L.drop i++R.drop j).map tn)):=by
   rw[wQ (by simp;exact cV (by lia))];simp only[List.map_append]
  refine kG (sk ..) fun C hC=>?_
  subst hC
  apply jb e'
  apply jo (congrArg frz h5)
  apply jo (congrArg cI y)
  apply jo (congrArg cI q)
  apply jo (show lOf (lT L)=some (L.map tn)from rfl)
  apply jo (tJ (show i<=1000 from tkn (trn hi lL) rfl))
  apply jt (decide_eq_true (show(L.map tn).length<=lim by rw[List.length_map];exact cV (tkn lL rfl)))
  rw[lD]
  apply jo b1
  apply jo (congrArg cI F)
  apply jo (congrArg cI z)
  apply jo (show lOf (lT R)=some (R.map tn)from rfl)
  apply jo (tJ (show j<=1000 from tkn (trn hj lR) rfl))
  apply jt (decide_eq_true (show(R.map tn).length<=lim by rw[List.length_map];exact cV (tkn lR rfl)))
  rw[lD]
  apply jo b2
  rfl
 ·refine((W.append_right _).append_right _).trans ?_
  haveI e1:=List.take_append_drop i L
  haveI e2:=List.take_append_drop j R
  conv=>rhs;rw[<-e1,<-e2]
  simp only[List.append_assoc]
  refine List.Perm.append_left _ ?_
  rw[<-List.append_assoc,<-List.append_assoc]
  exact List.Perm.append_right _ List.perm_append_comm
theorem AC{L:Nat}(q:1<=L)(d:L<=6):lI [.int 0,.int ((L:Int)-1),.int 2]=some ((List.range (L / 2)).map fun k=>tn (2*k)):=by
 rcases L with _|_|_|_|_|_|_|L
 ·lia
 all_goals first|kernel_rfl! |lia
theorem la{α:Type}:∀js:List α,cat (js.map fun j=>[j])=js:=by
 intro d
 induction d with
 |nil=>
  exact rfl
 |cons a js q=>
  haveI:=q
  simp only[cat,List.map_cons,List.flatten_cons]at this⊢
  rw[this];rfl
theorem rY{k:Str}{its:List T}(c:Col k its){js:List Nat}(hj:∀j∈js,j<its.length)(hl:js.length<=6):
  ∃M:List Nat,aA tab (n+5) 29 [lT js,.list [cv k its],.list [.bool false],.bool true] h=some (.fr (lT M),h)/\M.Perm js:=by
 haveI ij:fN (lT js)=some (js.map tn):=cH (by rw[List.length_map];exact tkn hl rfl)
 by_cases h0:js=[]
 ·subst h0
  refine⟨[],?_,.refl _⟩
  simp[kr,gd]
  exact aQ [] tn (fun j=>lT [j]) (by simp[ij]) (fun _ h=>nomatch h) (by simp[bK];rfl)
 let I:Nat->aE->Prop:=fun m L=>L 1=.fr (.list [cv k its])/\L 2=.fr (.list [.bool false])/\L 3=.fr (.bool true)/\∃y:List (List Nat),L 4=.fr (.list (y.map lT))/\y.length=m/\1<=m/\m<=6/\(cat y).Perm js
 haveI lr:∀y:List (List Nat),y.length<=6->cL (.list (y.map lT))=some y.length:=fun y h=>by rw[bK (by rw[List.length_map];exact tkn h rfl)];simp
 haveI lp:=BO (C:=aA tab (n+4)) (c:=.cmp .gt (.len (.var 4)) (.int 1)) (h:=h)
  (b:=[.newL 5 [],.for1 6 (.range [.int 0,.bin .sub (.len (.var 4)) (.int 1),.int 2]) [.append 5 (.call 28 [.idx (.var 4) (.var 6),.idx (.var 4) (.bin .add (.var 6) (.int 1)),.var 1,.var 2,.var 3])],.ite (.eq (.bin .mod (.len (.var 4)) (.int 2)) (.int 1)) [.append 5 (.idx (.var 4) (.neg (.int 1)))] [],.freeze 5,.asg 4 (.var 5)]) I (by
  rintro m L ⟨h1,h2,h3,y,W,Y,ad,H,hp⟩
  haveI J:=lr y (trn (eln Y) H)
  rw[Y]at J
  by_cases q:m=1
  ·exact .inl (by simp[W,J,q])
  ·refine .inr ⟨by simp[W,J];lia,?_⟩
   haveI ml:(cat y).length<=6:=by rw[hp.length_eq];exact hl
   haveI mem:∀j,j<y.length->nt y j∈y:=fun j hj=>bR hj
   haveI ab:∀r∈y,∀j∈r,j<its.length:=fun r hr j ag=>hj j (hp.mem_iff.mp (by simp[cat];exact⟨r,hr,ag⟩))
   haveI rl:∀r∈y,r.length<=6:=fun r hr=>by
    refine xEE (List.append_of_mem hr) fun p q' e=>?_
    haveI:=pN e ml
    exact trn (Nat.le_add_left ..) this
   obtain⟨F,e',g1,g2,g3,g4,z,g5,gl,gp⟩:=jV (C:=aA tab (n+4)) (ρ:=upd L 5 (.ol [])) (i:=6) (it:=.range [.int 0,.bin .sub (.len (.var 4)) (.int 1),.int 2]) (h:=h)
    (b:=[.append 5 (.call 28 [.idx (.var 4) (.var 6),.idx (.var 4) (.bin .add (.var 6) (.int 1)),.var 1,.var 2,.var 3])])
    (List.range (m / 2)) (fun k=>tn (2*k)) (fun d F=>F 1=L 1/\F 2=L 2/\F 3=L 3/\F 4=L 4/\∃z:List (List Nat),F 5=.ol (z.map lT)/\z.length=d.length/\(cat z).Perm (cat (y.take (2*d.length))))
    (by simp[W,J,AC ad H]) (by simp) (by
     rintro p a q F e aa;haveI g1:=aa.1;haveI g2:=aa.2.1;refine HH aa.2.2 fun g3 g4 z g5 gl gp=>?_
     refine xAA (dH e) fun ha af _=>?_
     haveI a1:2*a<y.length:=by lia
     haveI a2:2*a+1<y.length:=by lia
     haveI x1:bF (.list (y.map lT)) (tn (2*a))=some (lT (nt y (2*a))):=aW a1 (tkn (trn (eln Y) H) rfl)
     haveI x2:bF (.list (y.map lT)) (tn (2*a+1))=some (lT (nt y (2*a+1))):=aW a2 (tkn (trn (eln Y) H) rfl)
     refine xEA (C1 n h c (ab _ (mem _ a1)) (ab _ (mem _ a2)) (rl _ (mem _ a1)) (rl _ (mem _ a2))) fun M hM pM=>?_
     haveI bt:hZ .add (tn (2*a)) (.int 1)=some (tn (2*a+1)):=rfl
     haveI Z:z.length<lim:=dT (by lia)
     refine⟨upd (upd F 6 (.fr (tn (2*a)))) 5 (.ol (z.map lT++[lT M])),.inl ?_,by simp[g1],by simp[g2],by simp[g3],by simp[g4],z++[M],by simp,by simp[gl],?_⟩
     ·simp[g1,g2,g3,g4,g5,h1,h2,h3,W,x1,x2,bt,hM,Z]
     ·rw[gM]
      haveI:y.take (2*(p++[a]).length)=y.take (2*p.length)++[nt y (2*a),nt y (2*a+1)]:=by
       simp only[List.length_append,List.length_singleton]
       rw[show 2*(p.length+1)=2*p.length+1+1 by lia,List.take_add_one,List.take_add_one,af,jm a1,jm a2]
       simp
      rw[this]
      haveI:cat (y.take (2*p.length)++[nt y (2*a),nt y (2*a+1)])=cat (y.take (2*p.length))++(nt y (2*a)++nt y (2*a+1)):=by simp[cat]
      rw[this]
      exact gp.append pM)
   rw[List.length_range]at gl gp
   by_cases ai:m%2=1
   ·haveI ac:bF (.list (y.map lT)) (.int (-1))=some (lT (nt y (m-1))):=by
     rw[dK]
     haveI:place (-1) (y.map lT).length=some (m-1):=by
      unfold place
      rw[if_pos (by simp;exact cV (tkn (trn (eln Y) H) rfl)),if_neg (by decide),if_pos (by rw[List.length_map];lia)]
      congr 1;simp;lia
     rw[this]
     show(y.map lT)[m-1]? =_
     rw[jm (by rw[List.length_map];lia),eL lT (by lia)]
    haveI O:((m:Int).fmod 2==1)=true:=by
     rw[Int.fmod_eq_emod_of_nonneg _ (by decide)];simp;lia
    haveI Z:z.length<lim:=dT (by lia)
    refine⟨upd (upd (upd F 5 (.ol (z.map lT++[lT (nt y (m-1))]))) 5 (.fr (.list (z.map lT++[lT (nt y (m-1))])))) 4 (.fr (.list (z.map lT++[lT (nt y (m-1))]))),m / 2+1,?_,by lia,by simp[g1,h1],by exact(g2).trans (h2),by simp[g3,h3],z++[nt y (m-1)],by simp,by simp[gl],Nat.le_add_left ..,by lia,?_⟩
    ·haveI bm:hZ .mod (.int (m:Int)) (.int 2)=some (.int ((m:Int).fmod 2)):=by kernel_rfl!
     simp[e',g1,g2,g3,g4,g5,W,J,bm,O,ac,-dK,Z]
    ·rw[gM]
     refine(gp.append_right _).trans ?_
     rw[<-gM]
     haveI:y.take (2*(m / 2))++[nt y (m-1)]=y:=by
      haveI e1:=List.take_add_one (l:=y) (i:=m-1)
      rw[jm (show m-1<y.length by lia),show m-1+1=y.length by lia,List.take_length]at e1
      rw[show 2*(m / 2)=m-1 by lia]
      exact e1.symm
     rw[this];exact hp
   ·haveI O:((m:Int).fmod 2==1)=false:=by
     rw[Int.fmod_eq_emod_of_nonneg _ (by decide)];simp;lia
    refine⟨upd (upd F 5 (.fr (.list (z.map lT)))) 4 (.fr (.list (z.map lT))),m / 2,?_,by lia,by simp[g1,h1],by simp[g2,h2],by simp[g3,h3],z,rfl,by simp[gl],by lia,by lia,?_⟩
    ·haveI bm:hZ .mod (.int (m:Int)) (.int 2)=some (.int ((m:Int).fmod 2)):=by kernel_rfl!
     simp[e',g1,g2,g3,g4,g5,W,J,bm,O,-dK]
    ·refine gp.trans ?_
     rw[List.take_of_length_le (by lia)]
     exact hp)
 haveI jp:=List.length_pos_iff.mpr h0
 haveI c0:=la js
 obtain⟨F,m',e',⟨h1,h2,h3,y,W,Y,ad,H,hp⟩,ef⟩:=lp 40 js.length (upd (aS [lT js,.list [cv k its],.list [.bool false],.bool true]) 4 (.fr (.list ((js.map fun j=>[j]).map lT)))) (tmn hl rfl)
  ⟨by simp,by simp,by simp,js.map fun j=>[j],by simp,by simp,jp,hl,by rw[c0]⟩
 haveI l1:=lr y (trn (eln Y) H)
 haveI ae:y.length=1:=by
  simp[W,l1]at ef
  lia
 obtain⟨r,rfl⟩:=List.length_eq_one_iff.mp ae
 refine⟨r,?_,by simpa [cat]using hp⟩
 rw[kr]
 haveI l2:=lr (js.map fun j=>[j]) (by rw[List.length_map];exact hl)
 simp only[List.map_map,List.length_map]at l2 e'
 haveI ah:bF (.list [lT r]) (.int 0)=some (lT r):=rfl
 simp[gd]
 refine aQ js tn (fun j=>lT [j]) (by simp[ij]) (fun a ha=>by simp;rfl) ?_
 haveI ne:((js.length:Int)==0)=false:=by simp;exact h0
 haveI l3:cL (.list (js.map fun j=>lT [j]))=some js.length:=l2
 haveI e2:evS (aA tab (n+4)) (upd (aS [lT js,.list [cv k its],.list [.bool false],.bool true]) 4 (.fr (.list (js.map fun j=>lT [j])))) _ h=_:=e'
 simp[l3,ne,h0,e2,W,ah,-dK]
theorem sV{k:Str}{its:List T}(c:Col k its):aA tab (n+1) 6 [cv k its] h=some (.fr (.int its.length),h):=by
 haveI e:(k==nr)=false:=by rcases c.kind with rfl|rfl<;>decide
 haveI:=c.len
 simp[Bg,rD,cv,e,bK (show its.length<=100 from tkn this rfl)]
theorem vy{k:Str}{its:List T}(c:Col k its):
  ∃M:List Nat,aA tab (n+6) 32 [.list [cv k its]] h=some (.fr (lT M),h)/\M.Perm (List.range its.length):=by
 haveI z:=c.len
 refine xEA (rY n h c (js:=List.range its.length) (fun j Z=>by simpa using Z) (by simpa using z)) fun M hM O=>?_
 refine⟨M,?_,O⟩
 haveI ak:inT (.str k) (.tup [.str bS,.str aG,.str bC,.str aP])=some true:=by rcases c.kind with rfl|rfl<;>kernel_rfl!
 haveI cs:aA tab (n+5) 25 [cv k its] h=some (.fr .none,h):=by
  simp[mO,fG,cv,-Hc,ak]
 haveI ek:aA tab (n+5) 30 [.bool false,.int 1] h=some (.fr (.list [.bool false]),h):=by kernel_rfl!
 haveI W:cL (.list [cv k its])=some 1:=rfl
 haveI H:bF (.list [cv k its]) (.int 0)=some (cv k its):=rfl
 haveI Y:aA tab (n+5) 31 [.list [cv k its],.bool true] h=some (.fr (lT (List.range its.length)),h):=by
  simp[rh,ib]
  refine bE (List.range its.length) tn (fun d y=>y 1=.fr (.bool true)/\y 2=.ol (d.map tn)) ?_ ?_ ?_ ?_
  ·simp[H,-dK,sV (n+3) h c,bX (show its.length<=100 from tkn z rfl)]
  ·exact⟨rfl,rfl⟩
  ·rintro p a q y e r;haveI J:=r.1;haveI F:=r.2
   haveI r:=dH e;haveI ha:=r.1;haveI hp:=r.2.1
   haveI:p.length<lim:=dT (tln (tln (ltn (eln r.2.1) r.1) z) (lkn rfl))
   simp[J,F,this]
  ·rintro L r;haveI J:=r.1;haveI F:=r.2
   simp[F];rfl
 simp[pd,lg,W,eA,v7,bZ,cC,cs,sV (n+4) h c,H,-dK,ek,Y,hM]
theorem zH(f:Fm){D:List Pk}(d:D.Nodup)(h0: .po∉D):aA tab (n+6) 32 [.list [cv (kd f) (D.map (it f))]] h=some (.fr (lT (((ord f).filter fun p=>decide (p∈D)).map fun p=>D.idxOf p)),h):=by
 refine J1 (f:=fun D=>aA tab (n+6) 32 [.list [cv (kd f) (D.map (it f))]] h) (g:=fun D=>some (.fr (lT (((ord f).filter fun p=>decide (p∈D)).map fun p=>D.idxOf p)),h)) d h0 ?_
 cases f<;>kernel_rfl!
end
noncomputable def fM(f:Fm)(p:Pk):Key:=.s (rk f p)
theorem gC{f:Fm}{p q:Pk}(e:fM f p=fM f q):p=q:=Ic f p q (by injection e)
theorem jY{α:Type}(k:α->Key)(g:α->T)(d:∀a b,k a=k b->a=b):∀(D:List α)(p:α),p∈D->cJ (k p) (D.map k) (D.map g)=some (g p)
 |a::D,p,h=>by
  show(if k a=k p then some (g a)else cJ (k p) (D.map k) (D.map g))=_
  by_cases e:k a=k p
  ·rw[if_pos e,d _ _ e]
  ·rw[if_neg e]
   rcases List.mem_cons.mp h with rfl|h
   ·exact(e rfl).elim
   ·exact jY k g d D p h
theorem jz{α:Type}(k:α->Key)(g:α->T)(d:∀a b,k a=k b->a=b)(D:List α)(p:α)(h:p∉D):cJ (k p) (D.map k) (D.map g)=none:=
 k8 _ fun z=>by
  refine xEA (List.mem_map.mp z) fun x hx e=>?_
  exact h (d x p e▸hx)
theorem C8{α:Type} [DecidableEq α](k:α->Key)(g:α->List T)(d:∀a b,k a=k b->a=b)(v:T)(p:α):∀(D:List α),D.Nodup->vV (k p) v (D.map k) (D.map g)=D.map fun q=>if q=p then g q++[v]else g q:=by
 intro y
 induction y with
 |nil=>
  rintro _
  exact rfl
 |cons a D z=>
  rintro r
  haveI J:=(List.nodup_cons.mp r).1;haveI H:=(List.nodup_cons.mp r).2
  show(if k a=k p then(g a++[v])::D.map g else g a::vV (k p) v (D.map k) (D.map g))=_
  by_cases e:k a=k p
  ·haveI:=d _ _ e
   rw[<-this]
   rw[if_pos rfl,List.map_cons,if_pos rfl]
   congr 1
   apply List.map_congr_left
   intro q F
   rw[if_neg fun(e:q=a)=>J (e▸F)]
  ·rw[if_neg e,z H,List.map_cons,if_neg fun q=>e (by rw[q])]
theorem ga{α:Type}(k:α->Key)(d:∀a b,k a=k b->a=b)(D:List α)(p:α):eO (k p) (D.map k)=true↔p∈D:=by
 rw[dmem_iff]
 simp only[List.mem_map]
 constructor
 ·rintro⟨x,hx,e⟩
  haveI:=d x p e
  subst this;exact hx
 ·exact fun h=>⟨p,h,rfl⟩
theorem C5(f:Fm)(P:List Pk)(d:List Nat)(a:Nat)(J:∀j∈d,nt P j≠.po)(y:nt P a≠.po):
  gG (fM f (nt P a)) (tn a) ((ddp (d.map (nt P))).map (fM f)) ((ddp (d.map (nt P))).map fun p=>(d.filter fun j=>decide (nt P j=p)).map tn)=
   ((ddp ((d++[a]).map (nt P))).map (fM f),(ddp ((d++[a]).map (nt P))).map fun p=>((d++[a]).filter fun j=>decide (nt P j=p)).map tn):=by
 haveI F:=fw (d.map (nt P))
 rw[List.map_append,List.map_singleton,gJ]
 unfold gG pv
 by_cases h:nt P a∈ddp (d.map (nt P))
 ·rw[if_pos ((ga (fM f) (fun _ _=>gC) _ _).mpr h),C8 (fM f) _ (fun _ _=>gC) _ _ _ F,if_neg (by simp[h])]
  congr 1
  apply List.map_congr_left
  intro q r
  simp only[List.filter_append,List.map_append]
  by_cases e:q=nt P a
  ·rw[e];simp
  ·rw[if_neg e];simp[show¬nt P a=q from fun z=>e z.symm]
 ·rw[if_neg (by rw[ga (fM f) (fun _ _=>gC)];exact h),if_pos ⟨y,h⟩]
  simp only[List.map_append,List.map_singleton,List.filter_append]
  congr 2
  ·apply List.map_congr_left
   intro q r
   simp[show¬nt P a=q from fun z=>h (z▸r)]
  ·haveI:(d.filter fun j=>decide (nt P j=nt P a))=[]:=by
    rw[List.filter_eq_nil_iff]
    intro j H
    simp only[decide_eq_true_eq]
    exact fun e=>h ((eY _ _).mpr ⟨y,e▸List.mem_map_of_mem H⟩)
   simp[this]
noncomputable def npo(P:List Pk)(j:Nat):Bool:=decide (nt P j≠.po)
noncomputable def kept(P:List Pk):List Nat:=(List.range P.length).filter (npo P)
theorem cS{P:List Pk}{j:Nat}(h:j∈kept P):j<P.length/\nt P j≠.po:=by
 unfold kept npo at h;simpa using h
theorem qI(P:List Pk):(kept P).Nodup:=List.Pairwise.filter _ List.nodup_range
theorem l7(P:List Pk):(kept P).length<=P.length:=by
 have:=List.length_filter_le (npo P) (List.range P.length)
 simpa [kept]using this
theorem qJ{P:List Pk}{p:Pk}(d:p≠.po):((kept P).filter fun j=>decide (nt P j=p))=cF P p:=by
 unfold kept npo cF
 rw[List.filter_filter]
 apply List.filter_congr
 intro j _
 by_cases e:nt P j=p
 ·simp[e,d]
 ·simp[e]
theorem kept_mem{P:List Pk}{p:Pk}:p∈ddp ((kept P).map (nt P))↔p≠.po/\p∈P:=by
 rw[eY]
 constructor
 ·rintro⟨r,F⟩
  refine⟨r,?_⟩
  refine xEA (List.mem_map.mp F) fun j q d=>?_;obtain rfl:=d
  exact bR (cS q).1
 ·intro z;refine xA z fun r F=>?_
  refine⟨r,?_⟩
  refine xE (List.getElem_of_mem F) fun j y=>?_;obtain⟨q,e⟩:=y
  haveI:nt P j=p:=by rw[<-e];simp[nt,q]
  exact List.mem_map.mpr ⟨j,by unfold kept npo;simp[q,this,r],this⟩
theorem v5(f:Fm)(P:List Pk):((ord f).filter fun p=>decide (p∈ddp ((kept P).map (nt P))))=grp f P:=by
 unfold grp
 apply List.filter_congr
 intro p d
 haveI:p≠.po:=by rintro rfl;cases f<;>exact absurd d (by decide)
 exact decide_eq_decide.mpr (by rw[kept_mem];simp[this])
theorem grp_mem{f:Fm}{P:List Pk}{p:Pk}:p∈grp f P↔p≠.po/\p∈P:=by
 rw[<-v5,List.mem_filter]
 simp only[decide_eq_true_eq,kept_mem]
 constructor
 ·exact fun h=>h.2
 ·rintro⟨d,q⟩
  refine⟨?_,d,q⟩
  cases f<;>cases p<;>first|exact(d rfl).elim|decide
noncomputable def gk(f:Fm)(P:List Pk)(d:List Nat):List Key:=(ddp (d.map (nt P))).map (fM f)
noncomputable def gl(P:List Pk)(d:List Nat):List (List T):=(ddp (d.map (nt P))).map fun p=>(d.filter fun j=>decide (nt P j=p)).map tn
theorem IG(f:Fm)(P:List Pk)(d:List Nat):(gk f P d).length<=3:=by
 have:=kK (fw (d.map (nt P))) (fun q=>((eY _ _).mp q).1 rfl)
 simpa [gk]using this
theorem IF(P:List Pk)(d:List Nat)(q:d.length<=100):((gl P d).all fun l=>decide (l.length<lim))=true:=by
 unfold gl
 simp only[List.all_map,List.all_eq_true,Function.comp,decide_eq_true_eq]
 intro x _
 haveI:=List.length_filter_le (fun j=>decide (nt P j=x)) d
 simp only[List.length_map]
 exact t9 (trn this q)
theorem FV(P:List Pk):(gl P (kept P)).map T.list=(ddp ((kept P).map (nt P))).map fun p=>lT (cF P p):=by
 unfold gl
 rw[List.map_map]
 apply List.map_congr_left
 intro p d
 show T.list (((kept P).filter fun j=>decide (nt P j=p)).map tn)=_
 rw[qJ ((kept_mem.mp d).1)];rfl
noncomputable def j3(P:List Pk)(d:List Nat):List Nat:=d.foldl (fun F j=>if nt P j∈F.map (nt P)then F else F++[j]) []
theorem jT(P:List Pk)(d:List Nat)(a:Nat):j3 P (d++[a])=if nt P a∈(j3 P d).map (nt P)then j3 P d else j3 P d++[a]:=by
 unfold j3;rw[List.foldl_append];rfl
theorem wf(P:List Pk):∀d:List Nat,(∀j∈d,nt P j≠.po)->(j3 P d).map (nt P)=ddp (d.map (nt P)):=dW (fun _=>rfl) fun d a r h=>by
 haveI r:=r fun j y=>h j (by simp[y])
 haveI z:=h a (by simp)
 rw[jT,List.map_append,List.map_singleton,gJ,<-r]
 unfold pv
 by_cases q:nt P a∈(j3 P d).map (nt P)
 ·rw[if_pos q,if_neg (by simp[q])]
 ·rw[if_neg q,if_pos ⟨z,q⟩];simp
theorem Du(P:List Pk):∀d:List Nat,∀j∈j3 P d,j∈d:=dW (fun j h=>by simp[j3]at h) fun d a r j q=>by
 rw[jT]at q
 split at q
 ·simp[r j q]
 ·rcases List.mem_append.mp q with q|q
  ·simp[r j q]
  ·simp at q;simp[q]
theorem qP{P:List Pk}{d q:List Nat}{a:Nat}(e:kept P=d++a::q):(nt (cF P (nt P a)) 0=a↔nt P a∉d.map (nt P))/\cF P (nt P a)≠[]:=by
 have Y:nt P a≠.po:=(cS (show a∈kept P by rw[e];exact List.mem_append_right _ (.head _))).2
 rw[<-qJ Y,e]
 rw[List.filter_append,List.filter_cons_of_pos (by simp)]
 haveI J:=qI P
 rw[e]at J
 refine⟨?_,by simp⟩
 cases L:d.filter fun j=>decide (nt P j=nt P a)with
 |nil=>
  simp only[List.nil_append]
  refine⟨fun _ z=>?_,fun _=>rfl⟩
  refine xE (List.mem_map.mp z) fun j F=>?_;haveI W:=F.1;haveI Z:=F.2
  haveI:=List.filter_eq_nil_iff.mp L j W
  simp[Z]at this
 |cons b r=>
  have O:b∈d.filter fun j=>decide (nt P j=nt P a):=by rw[L];simp
  haveI y:=(List.mem_filter.mp O).1;haveI H:=(List.mem_filter.mp O).2
  refine⟨fun z=>?_,fun z=>(z (List.mem_map.mpr ⟨b,y,by simpa using H⟩)).elim⟩
  haveI:b=a:=z
  subst this
  haveI:=(List.nodup_append.mp J).2.2 b y b (by simp)
  exact(this rfl).elim
theorem eN{α:Type} [DecidableEq α][Inhabited α]{D:List α}{p:α}(h:p∈D):D.idxOf p<D.length/\nt D (D.idxOf p)=p:=by
 haveI d:=List.idxOf_lt_length_of_mem h
 refine⟨d,?_⟩
 simp[nt,d]
section
variable(n:Nat)(h:List T)
theorem qG(f:Fm)(p:Pk):aA tab (n+1) 23 [.str (kd f),it f p] h=some (.fr (.bool (decide (p=.po))),h):=by cases f<;>cases p<;>kernel_rfl!
theorem wC(f:Fm)(P:List Pk)(d:P.length<=100){j:Nat}(r:j<P.length):aA tab (n+2) 70 [.list [gv f (P.map (it f))],tn j] h=some (.fr (.bool (decide (nt P j≠.po))),h):=by
 simp[rj,ic,eA,v7,bZ,aW r d,qG]
 by_cases q:nt P j=.po<;>simp[q,cC]
theorem i9(f:Fm)(l:List T):aA tab (n+1) 67 [gv f l] h=some (.fr (cv (kd f) l),h):=by cases f<;>kernel_rfl!
theorem lY{l:List Nat}(h:l.length<=100):fN (lT l)=some (l.map tn):=cH (by simpa using h)
theorem yx(f:Fm)(P:List Pk)(O:P.length<=12):aA tab (n+7) 71 [.list [gv f (P.map (it f))]] h=some (.fr (.list ((grp f P).map fun p=>lT (cF P p))),h):=by
 haveI i0:bF (.list [gv f (P.map (it f))]) (.int 0)=some (gv f (P.map (it f))):=rfl
 have lP:cL (.list (P.map (it f)))=some P.length:=kT (tkn O rfl)
 haveI kl:=l7 P
 have kn:∀j∈kept P,nt P j≠.po:=fun j y=>(cS y).2
 let g:=gv f (P.map (it f))
 let ks:T:=.list (P.map fun p=>.str (rk f p))
 have kx:∀j,j<P.length->bF ks (tn j)=some (.str (rk f (nt P j))):=fun j y=>aW (g:=fun p=>T.str (rk f p)) y (tkn O rfl)
 have ag:∀p,bG (.str (rk f p))=some (fM f p):=fun _=>rfl
 have tx:∀p,p≠.po->p∈P->bF (.dict (gk f P (kept P)) ((gl P (kept P)).map T.list)) (.str (rk f p))=some (lT (cF P p)):=fun p h1 h2=>by
  rw[FV]
  exact jY (fM f) (fun p=>lT (cF P p)) (fun _ _=>gC) _ p (kept_mem.mpr ⟨h1,h2⟩)
 have ac:∀j,j∈kept P->bF (.dict (gk f P (kept P)) ((gl P (kept P)).map T.list)) (.str (rk f (nt P j)))=some (lT (cF P (nt P j))):=fun j y=>tx _ (cS y).2 (bR (cS y).1)
 simp[mM,fE,i0,-dK,lP]
 refine cE (List.range P.length) tn (npo P) tn (by simp[bX (show P.length<=100 from tkn O rfl)]) (fun j y=>?_) (fun j y _=>rfl) ?_
 ·have ai:j<P.length:=by simpa using y
  simp[wC (n+4) h f P (tkn O rfl) ai,npo]
  by_cases q:nt P j=.po<;>simp[q]
 rw[show(List.range P.length).filter (npo P)=kept P from rfl]
 simp[show aA tab (n+6) 61 [.list [gv f (P.map (it f))],.int P.length] h=_ from jg n h f P (tkn O rfl)]
 refine bE (kept P) tn (fun d H=>H 0=.fr (.list [g])/\H 2=.fr (.list ((kept P).map tn))/\H 3=.fr ks/\H 4=.odl (gk f P d) (gl P d)) ?_ ?_ ?_ ?_
 ·simp[show fN (.list ((kept P).map tn))=_ from lY (l:=kept P) (tkn (trn kl O) rfl)]
 ·simp[ddp];exact⟨rfl,rfl,rfl,rfl⟩
 ·rintro p a q H e r;haveI L:=r.1;haveI h2:=r.2.1;haveI J:=r.2.2.1;haveI W:=r.2.2.2
  have Z:a∈kept P:=by rw[e];simp
  haveI Y:=(cS Z).1;haveI ab:=(cS Z).2
  have hp:p.length<(kept P).length:=by rw[e];simp
  haveI hd:∀j∈p,nt P j≠.po:=fun j y=>kn j (by rw[e];simp[y])
  haveI ls:gG (fM f (nt P a)) (tn a) (gk f P p) (gl P p)=(gk f P (p++[a]),gl P (p++[a])):=C5 f P p a hd ab
  have c1:(gk f P p).length<lim:=dT (by haveI:=IG f P p;exact tmn this rfl)
  haveI c2:=IF P p (tnn (tln (tln hp kl) O) rfl)
  refine⟨upd (upd H 5 (.fr (tn a))) 4 (.odl (gk f P (p++[a])) (gl P (p++[a]))),.inl ?_,L,h2,by simp[J],by simp⟩
  simp[L,h2,J,W,kx a Y,ag,c1,c2,ls,-List.all_eq_true]
 rintro am r;haveI L:=r.1;haveI h2:=r.2.1;haveI J:=r.2.2.1;haveI W:=r.2.2.2
 simp[W]
 refine bE (kept P) tn (fun d H=>H 0=.fr (.list [g])/\H 3=.fr ks/\H 4=.fr (.dict (gk f P (kept P)) ((gl P (kept P)).map T.list))/\H 6=.ol ((j3 P d).map tn)) ?_ ?_ ?_ ?_
 ·simp[h2,show fN (.list ((kept P).map tn))=_ from lY (l:=kept P) (tkn (trn kl O) rfl)]
 ·simp[L,J];rfl
 ·rintro p a q H e r;haveI L:=r.1;haveI J:=r.2.1;haveI W:=r.2.2.1;haveI h6:=r.2.2.2
  have Z:a∈kept P:=by rw[e];simp
  haveI Y:=(cS Z).1;haveI ab:=(cS Z).2
  have hd:∀j∈p,nt P j≠.po:=fun j y=>kn j (by rw[e];simp[y])
  haveI hf:=(qP e).1;haveI ah:=(qP e).2
  have al:(cF P (nt P a)).length<=100:=by
   haveI:=List.length_filter_le (fun j=>decide (nt P j=nt P a)) (List.range P.length)
   unfold cF;simp at this;exact tkn (trn this O) rfl
  haveI x0:bF (lT (cF P (nt P a))) (.int 0)=some (tn (nt (cF P (nt P a)) 0)):=kW (List.length_pos_iff.mpr ah) al
  have fm:=wf P p hd
  haveI af:eqT (tn (nt (cF P (nt P a)) 0)) (tn a)=some (decide (nt P a∉(j3 P p).map (nt P))):=by
   show some (((nt (cF P (nt P a)) 0:Nat):Int)==(a:Int))=_
   congr 1
   rw[fm]
   haveI:((nt (cF P (nt P a)) 0:Nat):Int)=(a:Int)↔nt P a∉ddp (p.map (nt P)):=by
    rw[Int.natCast_inj,hf,eY];simp[ab]
   rw[Bool.eq_iff_iff]
   simp only[beq_iff_eq,decide_eq_true_eq]
   exact this
  haveI fl:(j3 P p).length<lim:=by
   haveI:=kK (fw (p.map (nt P))) (fun q=>((eY _ _).mp q).1 rfl)
   rw[<-fm]at this;simp at this;exact dT (tmn this rfl)
  by_cases z:nt P a∈(j3 P p).map (nt P)
  ·refine⟨upd H 5 (.fr (tn a)),.inl ?_,by simp[L],J,W,?_⟩
   ·simp[L,J,W,h6,kx a Y,ac a Z,x0,af,-pK,-List.mem_map]
    simp[z,-List.mem_map]
   ·rw[jT,if_pos z];simp[h6]
  ·refine⟨upd (upd H 5 (.fr (tn a))) 6 (.ol ((j3 P p).map tn++[tn a])),.inl ?_,by simp[L],by simp[J],W,?_⟩
   ·simp[L,J,W,h6,kx a Y,ac a Z,x0,af,-pK,-List.mem_map]
    simp[z,-List.mem_map,fl]
   ·rw[jT,if_neg z];simp
 rintro ak r;haveI L:=r.1;haveI J:=r.2.1;haveI W:=r.2.2.1;haveI h6:=r.2.2.2
 let F:=j3 P (kept P)
 have hF:F.map (nt P)=ddp ((kept P).map (nt P)):=wf P _ kn
 have Fm:∀j∈F,j∈kept P:=Du P _
 have ae:(F.map (nt P)).Nodup:=by exact hF▸fw _
 have ad: .po∉F.map (nt P):=by exact hF▸fun q=>((eY _ _).mp q).1 rfl
 have lF:F.length<=3:=by haveI:=kK ae ad;simpa using this
 haveI pk:=cA (n+4) h f P F (tkn O rfl) (tkn lF rfl) fun j y=>(cS (Fm j y)).1
 have ob:=zH n h f ae ad
 rw[show((ord f).filter fun p=>decide (p∈F.map (nt P)))=grp f P by exact hF▸v5 f P]at ob
 have aj:(grp f P).length<=3:=by
  have:=List.length_filter_le (fun p=>decide (p∈P)) (ord f)
  unfold grp;cases f<;>exact this
 simp[h6]
 rw[show(j3 P (kept P)).map tn=F.map tn from rfl]
 refine aQ [g] id (fun _=>cv (kd f) ((F.map (nt P)).map (it f))) ?_ (fun a Z=>?_) ?_
 ·simp[L,cV]
 ·obtain rfl:a=g:=by simpa using Z
  simp
  rw[show aA tab (n+6) 46 [g,.list (F.map tn)] h=_ from pk]
  simp[i9]
 simp
 simp only[List.map_map]at ob
 have ol:(grp f P).length<=100:=tkn aj rfl
 refine aQ (grp f P) (fun p=>tn ((F.map (nt P)).idxOf p)) (fun p=>lT (cF P p)) ?_ (fun p hp=>?_) ?_
 ·simp[ob,lY,ol]
 ·haveI r:=grp_mem.mp hp;haveI p1:=r.1;haveI p2:=r.2
  haveI pF:p∈F.map (nt P):=by rw[hF];exact kept_mem.mpr ⟨p1,p2⟩
  haveI r:=eN pF;haveI i1:=r.1;haveI i2:=r.2
  have aa:(F.map (nt P)).idxOf p<F.length:=by simpa using i1
  rw[eL (nt P) aa]at i2
  haveI y1:bF (.list (F.map tn)) (tn ((F.map (nt P)).idxOf p))=some (tn (nt F ((F.map (nt P)).idxOf p))):=kW aa (tkn lF rfl)
  have y2:=kx _ (cS (Fm _ (bR aa))).1
  rw[i2]at y2
  simp[J,W,y1,y2,tx p p1 p2,-pK]
 ·simp
end
noncomputable def gs:List T:=[.str s_g,.str s_s]
noncomputable def gq(vs:List Int)(js:List Nat):Int:=(js.map (nt vs)).sum
noncomputable def sg(P:List Pk)(vs:List Int)(p:Pk):T:=.int (gq vs (cF P p))
noncomputable def Ca(f:Fm)(P:List Pk)(vs:List Int):T:=frm [gv f ((grp f P).map (it f)),vI ((grp f P).map (sg P vs))] gs (vI (lbs (grp f P).length))
theorem jO:∀(l:List Int)(a:Int),oP (l.map T.int) a=some (a+l.sum):=by
 intro d
 induction d with
 |nil=>
  rintro a
  exact congrArg some (Int.add_zero a).symm
 |cons x l q=>
  rintro a
  show oP (l.map T.int) (a+x)=_
  rw[q,List.sum_cons];congr 1;exact Int.add_assoc ..
@[simp]theorem L4(k:Nat):A1 (.fr (.fn k))=some k:=rfl
theorem G7(a b:T):fN (.list [a,b])=some [a,b]:=rfl
theorem iM(f:Fm)(P:List Pk):(grp f P).length<=3:=by
 haveI:=List.length_filter_le (fun p=>decide (p∈P)) (ord f)
 unfold grp;cases f<;>exact this
theorem lj{P:List Pk}{p:Pk}{j:Nat}(h:j∈cF P p):j<P.length/\nt P j=p:=by
 unfold cF at h;simpa using h
theorem uN(P:List Pk)(p:Pk):(cF P p).length<=P.length:=by
 have:=List.length_filter_le (fun j=>decide (nt P j=p)) (List.range P.length)
 simpa [cF]using this
theorem uM{P:List Pk}{p:Pk}(h:p∈P):cF P p≠[]:=by
 refine xE (List.getElem_of_mem h) fun j d=>?_;obtain⟨q,e⟩:=d
 haveI:j∈cF P p:=by unfold cF;simp[q,nt,e]
 exact List.ne_nil_of_mem this
section
variable(n:Nat)(h:List T)
theorem yj(l:List Int):aA tab (n+1) 79 [vI (l.map T.int)] h=some (.fr (vI [.int l.sum]),h):=by
 simp[wI,lh,jO];rfl
theorem xN(f1:Fm)(l1 l2:List T)(lab:T):aA tab (n+2) 39 [.list [gv f1 l1,vI l2],.list gs,lab] h=some (.fr (frm [gv f1 l1,vI l2] gs lab),h):=by kernel_rfl!
theorem o9{f:Fm}{l1 l2:List T}{m:Nat}(r:l1.length=m)(q:l2.length=m)(d:m<=100):aA tab (n+1) 73 [.list [vI l1],.list [gv f l2]] h=some (.fr .none,h):=by
 haveI F:cL (.list l1)=some m:=by rw[bK (trn (eln r) d),r]
 haveI z:cL (.list l2)=some m:=by rw[bK (trn (eln q) d),q]
 haveI y:bF (.list [gv f l2]) (.int 0)=some (gv f l2):=rfl
 haveI H:hZ .add (.list [vI l1]) (.list [gv f l2])=some (.list [vI l1,gv f l2]):=rfl
 simp[pn,gQ,y,-dK,z,H,eA,G7,bZ,cC,F]
theorem l8(l:List T)(h0:l≠[])(y:l.length<=100):aA tab (n+7) 72 [.list (l.map fun t=>vI [t])] h=some (.fr (vI l),h):=by
 haveI jc:=iy n h (l.map fun t=>[t]) (by simpa using h0) (by simpa using y) (by rw[la];exact y)
 rw[la,List.map_map]at jc
 haveI r:inT (.str aG) (.tup [.str bS,.str aG,.str bC,.str aP])=some true:=by kernel_rfl!
 haveI J:∀t:T,cL (.list [t])=some 1:=fun _=>rfl
 simp[mJ,fB]
 refine bE l (fun t=>vI [t]) (fun d z=>z 0=.fr (.list (l.map fun t=>vI [t]))) ?_ ?_ ?_ ?_
 ·exact kIe (by apply jo (cH (by simpa));rfl)
 ·rfl
 ·rintro p a q z e h0
  simp[h0,r,-Hc,J]
 ·intro F L
  haveI H:((l.length:Int)==0)=false:=by simp;exact h0
  simp[L,bK,y,h0,H,show aA tab (n+6) 54 [.list (l.map fun t=>vI [t])] h=_ from jc]
theorem uP(f:Fm)(P:List Pk)(vs:List Int)(q:P.length<=12)(F:vs.length=P.length)(J:grp f P≠[]):
  aA tab (n+8) 74 [.list [vI (vs.map T.int)],.list [.str s_s],.list [gv f (P.map (it f))],.list [.str s_g],.fn 79] h=some (.fr (Ca f P vs),h):=by
 haveI y:=iM f P
 haveI i1:fN (.list [gv f (P.map (it f))])=some [gv f (P.map (it f))]:=rfl
 haveI i2:fN (.list [vI (vs.map T.int)])=some [vI (vs.map T.int)]:=rfl
 haveI Z:cL (.list [gv f (P.map (it f))])=some 1:=rfl
 haveI O:cL (.list ((grp f P).map fun p=>lT (cF P p)))=some (grp f P).length:=kT (tkn y rfl)
 haveI Y:(((grp f P).length:Int)==0)=false:=by simp;exact J
 haveI cg:=o9 (n+6) h (f:=f) (l1:=vs.map T.int) (l2:=P.map (it f)) (m:=P.length) (by rw[List.length_map];exact F) (by simp) (tkn q rfl)
 haveI bi:hZ .add (.list [.str s_g]) (.list [.str s_s])=some (.list gs):=rfl
 simp[pp,gS,Z,cg,yx n h f P q,O,Y,J]
 simp only[eA]
 simp[i1,bZ]
 refine aQ (grp f P) (fun p=>lT (cF P p)) (fun p=>tn (nt (cF P p) 0)) (by exact kIe (by apply jo (cH (by simp;exact tkn y rfl));rfl)) (fun p d=>?_) ?_
 ·haveI:bF (lT (cF P p)) (.int 0)=some (tn (nt (cF P p) 0)):=kW (List.length_pos_iff.mpr (uM (grp_mem.mp d).2)) (by haveI:=uN P p;exact tkn (trn this q) rfl)
  simp[this]
 haveI H:=cA (n+5) h f P ((grp f P).map fun p=>nt (cF P p) 0) (tkn q rfl) (by rw[List.length_map];exact tkn y rfl) (by
  intro j r
  refine xEA (List.mem_map.mp r) fun p d z=>?_;obtain rfl:=z
  exact(lj (bR (List.length_pos_iff.mpr (uM (grp_mem.mp d).2)))).1)
 rw[show(((grp f P).map fun p=>nt (cF P p) 0).map (nt P))=grp f P from by
  rw[List.map_map]
  refine List.map_congr_left (g:=id) (fun p d=>?_)|>.trans (List.map_id _)
  exact(lj (bR (List.length_pos_iff.mpr (uM (grp_mem.mp d).2)))).2]at H
 rw[List.map_map]at H
 simp[show aA tab (n+7) 46 [gv f (P.map (it f)),.list ((grp f P).map fun p=>tn (nt (cF P p) 0))] h=_ from H,cC,show(0:Nat)<lim by decide]
 simp[eA,i2,bZ]
 refine aQ (grp f P) (fun p=>lT (cF P p)) (fun p=>vI [sg P vs p]) (by exact kIe (by apply jo (cH (by simp;exact tkn y rfl));rfl)) (fun p d=>?_) ?_
 ·haveI L:=fH (n+5) h (vs.map T.int) (cF P p) (by rw[List.length_map];exact tkn (trn (eln F) q) rfl) (by haveI:=uN P p;exact tkn (trn this q) rfl) (fun j r=>by haveI:=(lj r).1;simp;exact tln this (ern F))
  haveI e:(cF P p).map (nt (vs.map T.int))=((cF P p).map (nt vs)).map T.int:=by
   rw[List.map_map]
   exact List.map_congr_left fun j r=>eL T.int (by haveI:=(lj r).1;exact tln this (ern F))
  rw[e]at L
  simp[show aA tab (n+7) 46 [vI (vs.map T.int),lT (cF P p)] h=_ from L,-List.map_map]
  rw[show aA tab (n+7) 79 [vI (((cF P p).map (nt vs)).map T.int)] h=_ from yj (n+6) h _]
  simp[sg,gq]
 haveI W:=l8 n h ((grp f P).map (sg P vs)) (by simpa using J) (by rw[List.length_map];exact tkn y rfl)
 rw[List.map_map]at W
 simp[show aA tab (n+7) 72 [.list ((grp f P).map fun p=>vI [sg P vs p])] h=_ from W,cC,show(1:Nat)<lim by decide,bi,O,hJ (n+5) h (show(grp f P).length<=100 by lia),xN]
 rfl
end
noncomputable def pr(a b:Nat):T:=.tup [tn a,tn b]
section
variable(n:Nat)(h:List T)
theorem yX(c:List T)(l:T):aA tab (n+5) 62 [frm c ghv l,.list [.str s_g]] h=some (.fr (.list [.int 0]),h):=by kernel_rfl!
theorem yW(c:List T)(l:T):aA tab (n+5) 62 [frm c gs l,.list [.str s_g]] h=some (.fr (.list [.int 0]),h):=by kernel_rfl!
theorem o8(c:List T)(l:T):aA tab (n+4) 42 [frm c gs l] h=some (.fr (.list gs),h):=by kernel_rfl!
theorem mw(c d:List T)(m:Nat)(q:m<=100):aA tab (n+1) 41 [frm c d (vI (lbs m))] h=some (.fr (.int m),h):=by
 simp[kA,gf,bK,gW,q]
theorem CV{α:Type} [Inhabited α]{D:List α}(r:D.Nodup){i j:Nat}(q:i<D.length)(d:j<D.length)(e:nt D i=nt D j):i=j:=by
 have g:=List.pairwise_iff_getElem.mp r
 have z:nt D i=D[i]:=by simp[nt,q]
 have y:nt D j=D[j]:=by simp[nt,d]
 rw[z,y]at e
 rcases Nat.lt_trichotomy i j with h|h|h
 ·exact(g i j q d h e).elim
 ·exact h
 ·exact(g j i d q h e.symm).elim
theorem t8{α:Type} [DecidableEq α][Inhabited α]{D:List α}(r:D.Nodup){j:Nat}(d:j<D.length):D.idxOf (nt D j)=j:=by
 have q:=eN (bR d)
 exact CV r q.1 d q.2
theorem nO(f:Fm)(P G:List Pk)(hl:P.length<=12)(hG:G.Nodup)(Z: .po∉G)(hm:∀p∈P,p≠.po->p∈G):
  aA tab (n+1) 63 [.list (P.map fun p=>.str (rk f p)),.list (G.map fun p=>.str (rk f p))] h=some (.fr (.list ((kept P).map fun j=>pr j (G.idxOf (nt P j)))),h):=by
 haveI gl:=kK hG Z
 haveI lP:cL (.list (P.map fun p=>T.str (rk f p)))=some P.length:=kT (tkn hl rfl)
 haveI lG:cL (.list (G.map fun p=>T.str (rk f p)))=some G.length:=kT (Nat.le_trans (by assumption) (by decide))
 haveI kx:∀j,j<P.length->bF (.list (P.map fun p=>T.str (rk f p))) (tn j)=some (.str (rk f (nt P j))):=fun j F=>aW (g:=fun p=>T.str (rk f p)) F (tkn hl rfl)
 haveI kg:∀j,j<G.length->bF (.list (G.map fun p=>T.str (rk f p))) (tn j)=some (.str (rk f (nt G j))):=fun j F=>aW (g:=fun p=>T.str (rk f p)) F (tkn gl rfl)
 haveI O:∀p,bG (.str (rk f p))=some (fM f p):=fun _=>rfl
 simp[n8,fV,lG]
 refine bE (List.range G.length) tn (fun d y=>y 0=.fr (.list (P.map fun p=>T.str (rk f p)))/\y 1=.fr (.list (G.map fun p=>T.str (rk f p)))/\y 2=.odl ((d.map (nt G)).map (fM f)) (d.map fun j=>[tn j])) ?_ ?_ ?_ ?_
 ·simp[lG,bX (show G.length<=100 from tkn gl rfl)]
 ·simp
 ·rintro p a q y e r;haveI H:=r.1;haveI h1:=r.2.1;haveI J:=r.2.2
  refine xAA (dH e) fun L hp W=>?_
  haveI nm:eO (fM f (nt G a)) ((p.map (nt G)).map (fM f))=false:=by
   rw[Bool.eq_false_iff]
   intro z
   rw[ga (fM f) (fun _ _=>gC)]at z
   refine xEA (List.mem_map.mp z) fun j F e'=>?_
   rw[W]at F
   haveI F:j<a:=by simpa using F
   haveI:=CV hG (show j<G.length from tln F (Nat.le_of_lt L)) L e'
   lia
  haveI ls:gG (fM f (nt G a)) (tn a) ((p.map (nt G)).map (fM f)) (p.map fun j=>[tn j])=(((p++[a]).map (nt G)).map (fM f),(p++[a]).map fun j=>[tn j]):=by
   unfold gG;rw[nm];simp
  haveI c2:((p.map fun j=>[tn j]).all fun l=>decide (l.length<lim))=true:=by
   simp only[List.all_map,List.all_eq_true,Function.comp,decide_eq_true_eq]
   intro x _;exact(by decide:(1:Nat)<lim)
  haveI c1:p.length<lim:=dT (tln (tln (ltn (eln hp) L) gl) (lkn rfl))
  refine⟨upd (upd y 3 (.fr (tn a))) 2 (.odl (((p++[a]).map (nt G)).map (fM f)) ((p++[a]).map fun j=>[tn j])),.inl ?_,H,h1,by simp⟩
  simp[h1,J,kg a L,O,ls,c1,c2,-List.all_eq_true,-List.map_map,-List.all_map,-List.map_append]
 rintro ab r;haveI H:=r.1;haveI h1:=r.2.1;haveI J:=r.2.2
 haveI tb:∀p,cJ (fM f p) (((List.range G.length).map (nt G)).map (fM f)) (((List.range G.length).map fun j=>[tn j]).map T.list)=if p∈G then some (.list [tn (G.idxOf p)])else none:=by
  intro p
  haveI e1:((List.range G.length).map (nt G))=G:=by
   haveI:=nP (id:Pk->Pk) G
   simpa using this
  haveI e2:(((List.range G.length).map fun j=>[tn j]).map T.list)=G.map fun p=>.list [tn (G.idxOf p)]:=by
   rw[<-nP (fun p=>T.list [tn (G.idxOf p)]) G,List.map_map]
   apply List.map_congr_left
   intro j F
   haveI:j<G.length:=by simpa using F
   simp[t8 hG this]
  rw[e1,e2]
  by_cases z:p∈G
  ·rw[if_pos z];exact jY (fM f) (fun p=>T.list [tn (G.idxOf p)]) (fun _ _=>gC) G p z
  ·rw[if_neg z];exact jz (fM f) (fun p=>T.list [tn (G.idxOf p)]) (fun _ _=>gC) G p z
 simp[J,-List.map_map]
 refine bE (List.range P.length) tn (fun d y=>y 0=.fr (.list (P.map fun p=>T.str (rk f p)))/\y 2=.fr (.dict (((List.range G.length).map (nt G)).map (fM f)) (((List.range G.length).map fun j=>[tn j]).map T.list))/\y 4=.ol ((d.filter (npo P)).map fun j=>pr j (G.idxOf (nt P j)))) ?_ ?_ ?_ ?_
 ·simp[H,lP,bX (show P.length<=100 from tkn hl rfl)]
 ·simp[H]
 ·rintro p a q y e r;haveI H:=r.1;haveI J:=r.2.1;haveI h4:=r.2.2
  refine xAA (dH e) fun L hp W=>?_
  haveI hk:=kx a L
  by_cases z:nt P a=.po
  ·refine⟨upd y 3 (.fr (tn a)),.inl ?_,H,by simp[J],?_⟩
   ·simp[eA,H,J,hk,O,tb,z,Z,-List.map_map,show∀x,fN (.list x)=if x.length<=lim then some x else none from fun _=>rfl,cC,lim]
   ·simp[h4,npo,z]
  ·haveI zg:=hm _ (bR L) z
   haveI Y:(p.filter (npo P)).length<lim:=by
    haveI:=List.length_filter_le (npo P) p
    exact dT (tln (tln (ltn (trn this (eln hp)) L) hl) (lkn rfl))
   refine⟨upd (upd (upd y 3 (.fr (tn a))) 5 (.fr (tn (G.idxOf (nt P a))))) 4 (.ol ((p.filter (npo P)).map (fun j=>pr j (G.idxOf (nt P j)))++[pr a (G.idxOf (nt P a))])),.inl ?_,H,J,?_⟩
   ·simp[eA,H,J,h4,hk,O,tb,zg,-List.map_map,v7,cC,bZ,Y,pr]
   ·simp[npo,z]
 ·intro aa r;refine xAA r fun H J h4=>?_
  simp[h4,kept]
theorem Ij{α:Type} [Inhabited α]{A B:List α}{j:Nat}(d:j<A.length):nt (A++B) j=nt A j:=by
 simp[nt,List.getElem?_append_left d]
theorem r8(f:Fm)(P G:List Pk)(ks:List Nat)(c:Nat->Nat)(hP:P.length<=12)(hG:G.length<=12)(H:ks.length<=12)(O:∀j∈ks,j<P.length):
  aA tab (n+7) 65 [gv f (P.map (it f)),gv f (G.map (it f)),.list (ks.map fun j=>pr j (c j))] h=some (.fr (gv f ((ks.map (nt P)).map (it f))),h):=by
 haveI jc:=ft n h f [P,G] (by simp) (by simp) (by simp[cat];lia)
 haveI Y:cL (.list (P.map (it f)))=some P.length:=kT (tkn hP rfl)
 haveI F:=cA (n+4) h f (P++G) ks (by simp;lia) (tkn H rfl) (fun j y=>by haveI:=O j y;simp;exact tln this (Nat.le_add_right ..))
 rw[show ks.map (nt (P++G))=ks.map (nt P)from List.map_congr_left fun j y=>Ij (O j y)]at F
 haveI e0:cat [P,G]=P++G:=by simp[cat]
 rw[e0]at jc
 simp[sr,iU,show aA tab (n+6) 54 [.list [gv f (P.map (it f)),gv f (G.map (it f))]] h=_ from jc,Y,-List.map_append,-List.map_map]
 refine Dy ks tn (fun j=>tn (c j)) (fun d z=>z 3=.fr (gv f ((P++G).map (it f)))/\z 5=.ol (d.map tn)) ?_ ?_ ?_ ?_
 ·simp[cH,show ks.length<=100 from tkn H rfl];exact fun _ _=>rfl
 ·exact⟨rfl,rfl⟩
 ·rintro p a q z e r;haveI L:=r.1;haveI J:=r.2
  haveI Z:p.length<lim:=dT (by haveI:=kR e (Nat.le_refl _);exact tln (tln this H) (lkn rfl))
  simp[L,J,show aZ (tn a)=false from rfl,Z]
 ·rintro W r;haveI L:=r.1;haveI J:=r.2
  simp only[List.map_append]at F
  simp[L,J,show aA tab (n+6) 46 [gv f (P.map (it f)++G.map (it f)),.list (ks.map tn)] h=_ from F]
noncomputable def mok(f:Fm):Str:=match f with
 |.fi=>aG
 |_=>aP
noncomputable def mol(f:Fm)(p:Pk):T:=match f with
 |.ff=>lb .ff p
 |f=>it f p
theorem qA(f:Fm)(K:List Pk)(z:K.length<=12):aA tab (n+5) 68 [.list [gv f (K.map (it f))],.bool false] h=some (.fr (.list [cv (mok f) (K.map (mol f))]),h):=by
 have y:bF (.list [gv f (K.map (it f))]) (.int 0)=some (gv f (K.map (it f))):=rfl
 have r:cL (.list [gv f (K.map (it f))])=some 1:=rfl
 by_cases q:f=.ff
 ·subst q
  simp[jD,fL,y,-dK,r,bN,isF,cP,show K.length<=100 from tkn z rfl,eZ]
  rfl
 ·have d:isF f=false:=by cases f<;>first|rfl|exact(q rfl).elim
  simp[jD,fL,y,-dK,r,bN,d]
  refine aQ [gv f (K.map (it f))] id (fun _=>cv (kd f) (K.map (it f))) (rfl) (fun a F=>?_) ?_
  ·obtain rfl:a=gv f (K.map (it f)):=by simpa using F
   simp[i9]
  ·simp
   cases f<;>first|exact(q rfl).elim|rfl
theorem C0(f:Fm):(∀x,x≠.po->∃a,mol f x=.int a)\/∀x,x≠.po->∃a,mol f x=.str a:=by
 cases f
 ·exact .inl fun x hx=>by cases x<;>first|exact(hx rfl).elim|exact⟨_,rfl⟩
 ·exact .inr fun x hx=>by cases x<;>first|exact(hx rfl).elim|exact⟨_,rfl⟩
 ·exact .inr fun x hx=>by cases x<;>first|exact(hx rfl).elim|exact⟨_,rfl⟩
theorem Fw(f:Fm){K:List Pk}(z:K.length<=6)(h0: .po∉K):Col (mok f) (K.map (mol f)) where
 kind:=by cases f<;>first|exact .inl rfl|exact .inr rfl
 len:=by rw[List.length_map];exact z
 cm:=fun i j y r=>by
  simp at y r
  rw[eL (mol f) y,eL (mol f) r]
  haveI a:nt K i≠.po:=fun e=>h0 (e▸bR y)
  haveI b:nt K j≠.po:=fun e=>h0 (e▸bR r)
  rcases C0 f with k|k
  ·refine(k _ a).elim fun u q=>?_
   refine xE (k _ b) fun v d=>?_
   exact .inl ⟨u,v,q,d⟩
  ·refine(k _ a).elim fun u q=>?_
   refine xE (k _ b) fun v d=>?_
   exact .inr ⟨u,v,q,d⟩
noncomputable def AZ:List T:=[.str s_g,.str s_h,.str s_v,.str s_s]
theorem xM(f1 f2:Fm)(l1 l2 l3 d:List T)(lab:T):aA tab (n+2) 39 [.list [gv f1 l1,gv f2 l2,vI l3,vI d],.list AZ,lab] h=some (.fr (frm [gv f1 l1,gv f2 l2,vI l3,vI d] AZ lab),h):=by kernel_rfl!
theorem Ii:aA tab (n+1) 66 [.list ghv,.list gs,.list [.str s_g],.str pD] h=some (.fr (.list [.str s_h,.str s_v]),h):=by kernel_rfl!
theorem Ih:aA tab (n+1) 66 [.list gs,.list ghv,.list [.str s_g],.str Fi] h=some (.fr (.list [.str s_s]),h):=by kernel_rfl!
theorem AO(f f2:Fm)(P Q:List Pk)(vs:List Int)(F:P.length<=6)(hQ:Q.length=P.length)(hv:vs.length=P.length):
  ∃σ:List Nat,σ.Perm (kept P)/\aA tab (n+8) 69 [frm [gv f (P.map (it f)),gv f2 (Q.map (it f2)),vI (vs.map T.int)] ghv (vI (lbs P.length)),Ca f P vs,.list [.str s_g],.bool false,.bool false,.list [.str pD,.str Fi]] h=
   some (.fr (frm [gv f ((σ.map (nt P)).map (it f)),gv f2 ((σ.map (nt Q)).map (it f2)),vI (σ.map fun j=>.int (nt vs j)),vI (σ.map fun j=>sg P vs (nt P j))] AZ (vI (lbs σ.length))),h):=by
 let G:=grp f P
 haveI hG:G.Nodup:=List.Pairwise.filter _ (by cases f<;>decide)
 haveI ac: .po∉G:=fun z=>(grp_mem.mp z).1 rfl
 haveI Z:G.length<=3:=iM f P
 haveI kl:=l7 P
 let c:Nat->Nat:=fun j=>G.idxOf (nt P j)
 let K:List Pk:=(kept P).map (nt P)
 haveI K0: .po∉K:=fun z=>by
  refine xEA (List.mem_map.mp z) fun j d e=>?_
  exact(cS d).2 e
 refine xEA (vy (n+1) h (Fw f (K:=K) (by simp[K];exact trn kl F) K0)) fun M hM pM=>?_
 haveI Ml:M.length=(kept P).length:=by haveI:=pM.length_eq;simpa [K]using this
 have O:∀j∈M,j<(kept P).length:=fun j d=>by haveI:=pM.mem_iff.mp d;simpa [K]using this
 let σ:List Nat:=M.map (nt (kept P))
 haveI J:σ.Perm (kept P):=by
  haveI:=pM.map (nt (kept P))
  refine this.trans ?_
  haveI e:(K.map (mol f)).length=(kept P).length:=by simp[K]
  rw[e]
  haveI:=nP (id:Nat->Nat) (kept P)
  simp at this
  rw[this]
 refine⟨σ,J,?_⟩
 let x:T:=frm [gv f (P.map (it f)),gv f2 (Q.map (it f2)),vI (vs.map T.int)] ghv (vI (lbs P.length))
 let y:T:=Ca f P vs
 haveI r1:=jg (n+1) h f P (tkn F rfl)
 haveI r2:=jg (n+1) h f G (tkn Z rfl)
 haveI mp:=nO (n+5) h f P G (tkn F rfl) hG ac (fun p hp h0=>grp_mem.mpr ⟨h0,hp⟩)
 haveI mg:aA tab (n+7) 64 [.list (P.map fun p=>.str (rk f p)),.list (G.map fun p=>.str (rk f p)),.bool false,.bool false] h=some (.fr (.list ((kept P).map fun j=>pr j (c j))),h):=by
  refine kF (pe ..) ?_
  apply jb mp
  rfl
 haveI kc:=r8 n h f P G (kept P) c (tkn F rfl) (tkn Z rfl) (tkn (trn kl F) rfl) fun j d=>(cS d).1
 haveI fx:aA tab (n+7) 41 [x] h=some (.fr (.int P.length),h):=mw (n+6) h _ _ _ (tkn F rfl)
 haveI fy:aA tab (n+7) 41 [y] h=some (.fr (.int G.length),h):=mw (n+6) h _ _ _ (show(grp f P).length<=100 by haveI:=iM f P;exact tkn Z rfl)
 haveI W:=cA (n+5) h f K M (by simp[K];exact tkn (trn kl F) rfl) (tkn (trn (trn (eln Ml) kl) F) rfl) (fun j d=>by simpa [K]using O j d)
 haveI ab:M.map (nt K)=σ.map (nt P):=by
  show _=(M.map (nt (kept P))).map (nt P)
  rw[List.map_map]
  exact List.map_congr_left fun j d=>eL (nt P) (O j d)
 rw[ab]at W
 show aA tab (n+8) 69 [x,y,_,_,_,_] h=_
 refine kG (mG ..) fun C q=>?_
 apply jc q (yX (n+2) h _ _)
 apply jc q (yW (n+2) h _ _)
 apply jc q fx
 apply jc q r1
 apply jc q fy
 apply jc q r2
 apply jc q mg
 refine jl ?_
 apply jc q kc
 apply jc q (qA (n+2) h f K (by simp[K];exact tkn (trn kl F) rfl))
 apply jc q hM
 refine aQ M tn (fun j=>pr (nt (kept P) j) (c (nt (kept P) j))) (by simp[lY,show M.length<=100 from tkn (trn (trn (eln Ml) kl) F) rfl]) (fun j d=>?_) ?_
 ·exact kXe (by apply jo (aW (l:=kept P) (g:=fun j=>pr j (c j)) (O j d) (tkn (trn kl F) rfl));rfl)
 rw[show(M.map fun j=>pr (nt (kept P) j) (c (nt (kept P) j)))=σ.map fun j=>pr j (c j) by show _=(M.map (nt (kept P))).map _;rw[List.map_map];rfl]
 refine aQ [gv f (K.map (it f))] id (fun _=>gv f ((σ.map (nt P)).map (it f))) rfl (fun a ha=>?_) ?_
 ·obtain rfl:a=gv f (K.map (it f)):=by simpa using ha
  exact kXe (by apply jc q W;rfl)
 haveI L:fN (.list (σ.map fun j=>pr j (c j)))=some (σ.map fun j=>pr j (c j)):=cH (by simp[σ];exact tkn (trn (trn (eln Ml) kl) F) rfl)
 haveI r:∀j∈σ,j<P.length/\nt P j≠.po:=fun j d=>cS (J.mem_iff.mp d)
 haveI H:σ.length<=6:=by haveI:=J.length_eq;exact trn (trn (eln this) kl) F
 haveI q1:=cA (n+5) h f2 Q σ (tkn (trn (eln hQ) F) rfl) (tkn H rfl) (fun j d=>by haveI:=(r j d).1;exact tln this (ern hQ))
 haveI q2:=fH (n+5) h (vs.map T.int) σ (by rw[List.length_map];exact tkn (trn (eln hv) F) rfl) (tkn H rfl) (fun j d=>by haveI:=(r j d).1;simp;exact tln this (ern hv))
 haveI q3:=fH (n+5) h (G.map (sg P vs)) (σ.map c) (by simp;exact tkn Z rfl) (by rw[List.length_map];exact tkn H rfl) (fun j d=>by
  refine xEA (List.mem_map.mp d) fun i hi Y=>?_;obtain rfl:=Y
  haveI:=(r i hi)
  simp
  exact(eN (grp_mem.mpr ⟨this.2,bR this.1⟩)).1)
 rw[show σ.map (nt (vs.map T.int))=σ.map fun j=>.int (nt vs j)from List.map_congr_left fun j d=>eL T.int (by haveI:=(r j d).1;exact tln this (ern hv))]at q2
 rw[show(σ.map c).map (nt (G.map (sg P vs)))=σ.map fun j=>sg P vs (nt P j)from by
  rw[List.map_map]
  refine List.map_congr_left fun j d=>?_
  haveI:=r j d
  haveI:=eN (grp_mem (f:=f).mpr ⟨this.2,bR this.1⟩)
  show nt (G.map (sg P vs)) (G.idxOf (nt P j))=_
  rw[eL (sg P vs) this.1,this.2],List.map_map]at q3
 apply jc q (fA (n+3) h _ _)
 apply jc q (o8 (n+3) h _ _)
 refine jl ?_
 refine aQ σ (fun j=>pr j (c j)) tn (kIe (by apply jo L;rfl)) (fun j d=>rfl) ?_
 apply jc q q1
 refine aQ σ (fun j=>pr j (c j)) tn (kIe (by apply jo L;rfl)) (fun j d=>rfl) ?_
 apply jc q q2
 refine jl ?_
 refine aQ σ (fun j=>pr j (c j)) (fun j=>tn (c j)) (kIe (by apply jo L;rfl)) (fun j d=>rfl) ?_
 apply jc q q3
 haveI aa:cL (.list (σ.map fun j=>pr j (c j)))=some σ.length:=by rw[bK (by simp;exact tkn H rfl)];simp
 apply jc q (Ii (n+6) h)
 apply jc q (Ih (n+6) h)
 apply jo aa
 apply jc q (hJ (n+5) h (show σ.length<=100 from tkn H rfl))
 apply jc q (xM (n+5) h f f2 _ _ _ _ _)
 rfl
end
noncomputable def lev(f:Fm)(P:List Pk):List Pk:=match f with
 |.ff=>ord .ff
 |f=>grp f P
noncomputable def cd(L:List Pk)(p:Pk):T:=if p=.po then .none else tn (L.idxOf p)
noncomputable def ik(f:Fm):Pk->Str
 |.po=>Ay
 |p=>match it f p with
  |.str s=>Cz++s
  |.int i=>cG i
  |_=>s_
theorem IA(f:Fm)(p q:Pk)(e:ik f p=ik f q):p=q:=of_decide_eq_true (fpq (P:=fun f p q=>decide (ik f p=ik f q->p=q)) (by decide +kernel) f p q) e
theorem I4(f:Fm)(p q:Pk)(e:ck f p=ck f q):p=q:=of_decide_eq_true (fpq (P:=fun f p q=>decide (ck f p=ck f q->p=q)) (by decide +kernel) f p q) e
noncomputable def nU(f:Fm)(p:Pk):Key:=.s (ik f p)
theorem Dk{f:Fm}{p q:Pk}(e:nU f p=nU f q):p=q:=IA f p q (by injection e)
noncomputable def jC(f:Fm)(p:Pk):Key:=.s (ck f p)
theorem rf{f:Fm}{p q:Pk}(e:jC f p=jC f q):p=q:=I4 f p q (by injection e)
theorem DT{α:Type}(k:α->Key)(g:α->T):∀(D:List α)(p:α),(∀a∈D,k a=k p->a=p)->p∈D->cJ (k p) (D.map k) (D.map g)=some (g p):=by
 intro D p
 induction D with
 |nil=>intro _ h;exact(List.not_mem_nil h).elim
 |cons a D r=>
  intro d h
  show(if k a=k p then some (g a)else cJ (k p) (D.map k) (D.map g))=_
  by_cases e:k a=k p
  ·rw[if_pos e,d a (.head _) e]
  ·rw[if_neg e]
   exact r (fun b y=>d b (.tail _ y)) ((List.mem_cons.mp h).elim (fun q=>(e (congrArg k q.symm)).elim) id)
noncomputable def fp1(P:List Pk)(j:Nat):Nat:=P.idxOf (nt P j)
noncomputable def f7(P:List Pk)(j:Nat):Bool:=decide (fp1 P j=j)
theorem Dx{P:List Pk}{j:Nat}(d:j<P.length):fp1 P j<P.length/\nt P (fp1 P j)=nt P j:=eN (bR d)
theorem IK{P:List Pk}{j:Nat}(d:j<P.length):fp1 P j<=j:=by
 unfold fp1
 haveI:P[j]? =some (nt P j):=jm d
 haveI e:P.take (j+1)=P.take j++[nt P j]:=by rw[List.take_add_one,this];rfl
 haveI m:nt P j∈P.take (j+1):=by rw[e];exact List.mem_append_right _ (.head _)
 haveI r:=List.idxOf_lt_length_of_mem m
 haveI q:∀x,x∈P.take (j+1)->P.idxOf x=(P.take (j+1)).idxOf x:=fun x m=>by
  conv=>lhs;rw[<-List.take_append_drop (j+1) P]
  rw[List.idxOf_append,if_pos m]
 rw[q _ m]
 simp at r;lia
theorem FX{P:List Pk}{j:Nat}(d:j<P.length):fp1 P (fp1 P j)=fp1 P j:=by
 show P.idxOf (nt P (fp1 P j))=_
 rw[(Dx d).2];rfl
section
variable(n:Nat)(h:List T)
theorem oD(f:Fm)(p:Pk):aA tab (n+1) 33 [.str (kd f),it f p] h=some (.fr (.str (ik f p)),h):=by cases f<;>cases p<;>kernel_rfl!
theorem AP(f:Fm)(l:List T):aA tab (n+1) 34 [gv f l] h=some (.fr (.bool false),h):=by cases f<;>kernel_rfl!
theorem o5(f:Fm)(P:List Pk)(O:P.length<=12):aA tab (n+2) 35 [gv f (P.map (it f))] h=some (.fr (lT ((List.range P.length).map (fp1 P))),h):=by
 haveI lP:cL (.list (P.map (it f)))=some P.length:=kT (tkn O rfl)
 simp[pi,gO,AP]
 refine bE (List.range P.length) tn (fun d y=>y 0=.fr (gv f (P.map (it f)))/\y 2=.ol ((d.map (fp1 P)).map tn)/\y 5=.od ((d.filter (f7 P)).map fun j=>nU f (nt P j)) ((d.filter (f7 P)).map tn)) ?_ ?_ ?_ ?_
 ·simp[lP,bX (show P.length<=100 from tkn O rfl)]
 ·exact⟨rfl,rfl,rfl⟩
 ·rintro d a q y e r;haveI Z:=r.1;haveI h2:=r.2.1;haveI h5:=r.2.2
  refine xAA (dH e) fun H hp L=>?_
  haveI x:=aW (l:=P) (g:=it f) H (tkn O rfl)
  haveI kx:bG (.str (ik f (nt P a)))=some (nU f (nt P a)):=rfl
  haveI fl:(d.filter (f7 P)).length<lim:=by
   haveI:=List.length_filter_le (f7 P) d
   exact dT (tln (tln (ltn (trn this (eln hp)) H) O) (lkn rfl))
  haveI dl:d.length<lim:=dT (tln (tln (ltn (eln hp) H) O) (lkn rfl))
  have J:∀i∈d.filter (f7 P),nU f (nt P i)=nU f (nt P a)->i=fp1 P a:=fun i F e=>by
   haveI ab:fp1 P i=i:=by simpa [f7]using(List.mem_filter.mp F).2
   rw[<-ab];unfold fp1;rw[Dk e]
  by_cases z:fp1 P a=a
  ·haveI nf:cJ (nU f (nt P a)) ((d.filter (f7 P)).map fun j=>nU f (nt P j)) ((d.filter (f7 P)).map tn)=none:=k8 _ fun m=>by
    refine xE (List.mem_map.mp m) fun i Y=>?_;haveI F:=Y.1;haveI e:=Y.2
    haveI:=J i F e
    haveI W:=(List.mem_filter.mp F).1
    rw[L]at W;simp at W;lia
   refine⟨upd (upd (upd y 3 (.fr (tn a))) 5 (.od (((d.filter (f7 P)).map fun j=>nU f (nt P j))++[nU f (nt P a)]) ((d.filter (f7 P)).map tn++[tn a]))) 2 (.ol ((d.map (fp1 P)).map tn++[tn a])),.inl ?_,Z,by simp[z],by simp[f7,z]⟩
   simp[Z,h2,h5,x,oD,kx,fl,dl,nf,-List.map_map]
  ·haveI aa:fp1 P a<a:=by haveI:=IK H;exact Nat.lt_of_le_of_ne this z
   haveI hm:fp1 P a∈d.filter (f7 P):=by
    rw[List.mem_filter]
    exact⟨by rw[L];simpa using aa,by simp[f7,FX H]⟩
   haveI nf:cJ (nU f (nt P a)) ((d.filter (f7 P)).map fun j=>nU f (nt P j)) ((d.filter (f7 P)).map tn)=some (tn (fp1 P a)):=by
    have e2:=(Dx H).2
    haveI:=DT (fun j=>nU f (nt P j)) tn (d.filter (f7 P)) (fp1 P a) (fun i F e=>J i F (by rw[e,e2])) hm
    simp only[e2]at this
    exact this
   refine⟨upd (upd y 3 (.fr (tn a))) 2 (.ol ((d.map (fp1 P)).map tn++[tn (fp1 P a)])),.inl ?_,Z,by simp,by simp[f7,z,h5]⟩
   simp[Z,h2,h5,x,oD,kx,fl,dl,nf,-List.map_map]
 ·rintro ac r;haveI Z:=r.1;haveI h2:=r.2.1;haveI h5:=r.2.2
  simp[h2,lT]
noncomputable def uqp(P:List Pk):List Nat:=(List.range P.length).filter (f7 P)
theorem Ai(f:Fm)(P:List Pk)(q:P.length<=12):aA tab (n+3) 36 [gv f (P.map (it f))] h=some (.fr (lT (uqp P)),h):=by
 haveI y:((List.range P.length).map (fp1 P)).length=P.length:=by simp
 simp[n5,fS,o5 n h f P q]
 refine cE (List.range P.length) tn (f7 P) tn (by simp[yl (show((List.range P.length).map (fp1 P)).length<=100 by lia),bX (show P.length<=100 by lia)]) (fun j r=>?_) (fun j r _=>by simp) ?_
 ·haveI d:j<P.length:=by simpa using r
  haveI x:=kW (l:=(List.range P.length).map (fp1 P)) (j:=j) (tln d (ern y)) (tkn (trn (eln y) q) rfl)
  rw[eL (fp1 P) (by simpa using d)]at x
  haveI F:nt (List.range P.length) j=j:=by simp[nt,d]
  rw[F]at x
  haveI z:eqT (tn (fp1 P j)) (tn j)=some (f7 P j):=by
   show some (((fp1 P j:Nat):Int)==(j:Int))=_
   unfold f7
   congr 1
   rw[Bool.eq_iff_iff]
   simp only[beq_iff_eq,decide_eq_true_eq,Int.natCast_inj]
  simp[x,z]
  cases f7 P j<;>simp
 ·simp;rfl
noncomputable def prs(P:List Pk):List Nat:=(uqp P).filter (npo P)
theorem prs_mem{P:List Pk}{j:Nat}:j∈prs P↔j<P.length/\fp1 P j=j/\nt P j≠.po:=by
 unfold prs uqp npo f7
 simp[List.mem_filter]
 exact fun _=>And.comm
theorem sP(P:List Pk):((prs P).map (nt P)).Nodup:=by
 haveI d:(prs P).Nodup:=List.Pairwise.filter _ (List.Pairwise.filter _ List.nodup_range)
 unfold List.Nodup at d⊢
 rw[List.pairwise_map]
 refine d.imp_of_mem fun{a b} z y r e=>r ?_
 haveI d:=(prs_mem.mp z).2.1
 haveI q:=(prs_mem.mp y).2.1
 unfold fp1 at d q
 rw[<-d,<-q,e]
theorem prs_map{P:List Pk}{p:Pk}:p∈(prs P).map (nt P)↔p≠.po/\p∈P:=by
 rw[List.mem_map]
 constructor
 ·intro d;refine xEA d fun j z q=>?_;obtain rfl:=q
  haveI:=prs_mem.mp z
  exact⟨this.2.2,bR this.1⟩
 ·rintro d;haveI H:=d.1;haveI F:=d.2
  haveI d:=eN F;haveI y:=d.1;haveI r:=d.2
  refine⟨P.idxOf p,prs_mem.mpr ⟨y,?_,by rw[r];exact H⟩,r⟩
  unfold fp1;rw[r]
theorem Fo(f:Fm)(P:List Pk):((ord f).filter fun p=>decide (p∈(prs P).map (nt P)))=grp f P:=by
 unfold grp
 apply List.filter_congr
 intro p d
 haveI:p≠.po:=by cases f<;>(simp[ord]at d;rcases d with rfl|rfl|rfl<;>decide)
 exact decide_eq_decide.mpr (by rw[prs_map];simp[this])
theorem C6{f:Fm}(d:f≠.ff)(P:List Pk):lev f P=grp f P:=by cases f<;>first|rfl|exact(d rfl).elim
theorem lX(f:Fm)(P:List Pk)(J:P.length<=12):aA tab (n+7) 75 [gv f (P.map (it f))] h=some (.fr (.tup [.list ((lev f P).map (lb f)),.list (P.map (cd (lev f P)))]),h):=by
 have i1:fN (.list (P.map (it f)))=some (P.map (it f)):=cH (by rw[List.length_map];exact tkn J rfl)
 by_cases hf:f=.ff
 ·subst hf
  refine kG (mH ..) fun C H=>?_
  apply jc H (bN ..)
  refine aQ P (it .ff) (cd (lev .ff P)) (by exact kIe (by apply jo (i1);rfl)) (fun a _=>by cases a<;>kernel_rfl!) ?_
  rfl
 ·have ac:isF f=false:=by cases f<;>first|rfl|exact(hf rfl).elim
  rw[C6 hf]
  have pl:(prs P).length<=3:=by
   haveI:=kK (sP P) (fun z=>(prs_map.mp z).1 rfl)
   simpa using this
  haveI ul:(uqp P).length<=12:=by
   haveI:=List.length_filter_le (f7 P) (List.range P.length)
   simp at this;unfold uqp;exact trn this J
  haveI gl:=iM f P
  have aa:=cA (n+4) h f P (prs P) (tkn J rfl) (tkn pl rfl) fun j F=>(prs_mem.mp F).1
  haveI ob:=zH n h f (sP P) (fun z=>(prs_map.mp z).1 rfl)
  rw[Fo]at ob
  let o:Pk->Nat:=fun p=>nt (prs P) (((prs P).map (nt P)).idxOf p)
  have Y:∀p∈grp f P,((prs P).map (nt P)).idxOf p<(prs P).length/\o p<P.length/\nt P (o p)=p:=fun p y=>by
   haveI i1:=(eN (prs_map.mpr (grp_mem.mp y))).1;haveI i2:=(eN (prs_map.mpr (grp_mem.mp y))).2
   haveI L:((prs P).map (nt P)).idxOf p<(prs P).length:=by simpa using i1
   rw[eL (nt P) L]at i2
   exact⟨L,(prs_mem.mp (bR L)).1,i2⟩
  have W:=cA (n+4) h f P ((grp f P).map o) (tkn J rfl) (by rw[List.length_map];exact tkn gl rfl) (fun j F=>by
   refine xEA (List.mem_map.mp F) fun p y Z=>?_;obtain rfl:=Z
   exact(Y p y).2.1)
  rw[show((grp f P).map o).map (nt P)=grp f P from by
   rw[List.map_map]
   exact(List.map_congr_left (g:=id) fun p y=>(Y p y).2.2).trans (List.map_id _)]at W
  have kx:∀j,j<P.length->bF (.list (P.map fun p=>T.str (ck f p))) (tn j)=some (.str (ck f (nt P j))):=fun j F=>aW (g:=fun p=>T.str (ck f p)) F (tkn J rfl)
  haveI lt:=cP (n+2) h f (grp f P) (tkn gl rfl)
  refine kG (mH ..) fun C H=>?_
  apply jc H (bN ..)
  apply jf ac
  apply jc H (Ai (n+3) h f P J)
  refine cE (uqp P) tn (npo P) tn (by simp[lY,show(uqp P).length<=100 by lia]) (fun j F=>?_) (fun j F _=>rfl) ?_
  ·have ab:j<P.length:=by
    unfold uqp at F
    haveI:=(List.mem_filter.mp F).1
    simpa using this
   refine(show evC C _ _ h=_ from ?_)
   simp[H,aW ab (show P.length<=100 from tkn J rfl),qG,npo]
   by_cases q:nt P j=.po<;>simp[q]
  rw[show(uqp P).filter (npo P)=prs P from rfl]
  apply jc H aa
  apply jc H (i9 ..)
  refine aQ (grp f P) (fun p=>tn (((prs P).map (nt P)).idxOf p)) (fun p=>tn (o p)) ?_ (fun p y=>?_) ?_
  ·refine kIe ?_
   apply jc H ob
   apply jo (lY (by rw[List.length_map];exact tkn gl rfl))
   exact congrArg (fun l=>some (l,h)) (List.map_map ..)
  ·haveI y1:bF (.list ((prs P).map tn)) (tn (((prs P).map (nt P)).idxOf p))=some (tn (o p)):=kW (Y p y).1 (tkn pl rfl)
   exact kXe (by apply jo y1;rfl)
  apply jc H (jA (n+1) h f P (tkn J rfl))
  refine bE (grp f P) (fun p=>tn (o p)) (fun d O=>O 0=.fr (gv f (P.map (it f)))/\O 5=.fr (.list ((grp f P).map fun p=>tn (o p)))/\O 6=.fr (.list (P.map fun p=>.str (ck f p)))/\O 7=.od (d.map (jC f)) ((List.range d.length).map tn)) ?_ ?_ ?_ ?_
  ·refine kIe ?_
   apply jo (cH (by rw[List.length_map];exact tkn gl rfl))
   rfl
  ·exact⟨rfl,rfl,rfl,rfl⟩
  ·rintro d p q O e r;haveI h0:=r.1;haveI h5:=r.2.1;haveI h6:=r.2.2.1;haveI h7:=r.2.2.2
   haveI y:p∈grp f P:=by rw[e];exact List.mem_append_right _ (.head _)
   haveI y2:=kx _ (Y p y).2.1
   rw[(Y p y).2.2]at y2
   haveI nd:(grp f P).Nodup:=List.Pairwise.filter _ (by cases f<;>simp[ord])
   have nm:eO (jC f p) (d.map (jC f))=false:=by
    rw[Bool.eq_false_iff]
    intro z
    rw[ga (jC f) (fun _ _=>rf)]at z
    rw[e]at nd
    exact(List.nodup_append.mp nd).2.2 p z p (by simp) rfl
   haveI dl:d.length<lim:=dT (by haveI:=kR e (Nat.le_refl _);exact tln (tln this gl) (lkn rfl))
   haveI ln:cL (.dict (d.map (jC f)) ((List.range d.length).map tn))=some d.length:=by rw[Iq (by rw[List.length_map];exact Nat.le_of_lt dl)];simp
   have kk:bG (.str (ck f p))=some (jC f p):=rfl
   refine⟨upd (upd O 8 (.fr (tn (o p)))) 7 (.od (d.map (jC f)++[jC f p]) ((List.range d.length).map tn++[tn d.length])),.inl (kE ?_),h0,h5,h6,by simp[List.range_succ]⟩
   haveI ad:(d.map (jC f)).length<lim:=by rw[List.length_map];exact dl
   apply jo (congrArg cU h7)
   apply jo ln
   apply jo (congrArg cU h6)
   apply jo y2
   apply jo (congrArg qj h7)
   apply jt (decide_eq_true ad)
   exact congrArg (fun x:List Key×List T=>some (Fl.nxt (upd _ 7 (LV.od x.1 x.2)),h)) (mD nm)
  rintro ae r;haveI h0:=r.1;haveI h5:=r.2.1;refine xA r.2.2 fun h6 h7=>?_
  have e5:((grp f P).map fun p=>tn (o p))=((grp f P).map o).map tn:=by simp
  rw[e5]at h5
  apply jo (congrArg cI h0)
  apply jo (congrArg cI h5)
  apply jc H W
  apply jc H lt
  refine aQ P (fun p=>.str (ck f p)) (cd (grp f P)) (kIe (by apply jo (congrArg cI h6);apply jo (cH (by rw[List.length_map];exact tkn J rfl));rfl)) (fun p y=>?_) ?_
  ·have nd:(grp f P).Nodup:=List.Pairwise.filter _ (by cases f<;>simp[ord])
   have e1:(List.range (grp f P).length).map tn=(grp f P).map fun p=>tn ((grp f P).idxOf p):=by
    rw[<-nP (fun p=>tn ((grp f P).idxOf p)) (grp f P)]
    apply List.map_congr_left
    intro j F
    rw[t8 nd (by simpa using F)]
   haveI kk:bG (.str (ck f p))=some (jC f p):=rfl
   by_cases z:p=.po
   ·subst z
    haveI:cJ (jC f .po) ((grp f P).map (jC f)) ((grp f P).map fun p=>tn ((grp f P).idxOf p))=none:=jz _ _ (fun _ _=>rf) _ _ fun m=>(grp_mem.mp m).1 rfl
    simp[h7,e1,kk,this,cd,-Da]
   ·haveI:cJ (jC f p) ((grp f P).map (jC f)) ((grp f P).map fun p=>tn ((grp f P).idxOf p))=some (tn ((grp f P).idxOf p)):=jY (jC f) (fun p=>tn ((grp f P).idxOf p)) (fun _ _=>rf) _ _ (grp_mem.mpr ⟨z,y⟩)
    simp[h7,e1,kk,this,cd,z,-Da]
  ·rfl
end
noncomputable def hit(L1 L2:List Pk)(P Q:List Pk)(j:Nat):Option Nat:=if nt P j=.po\/nt Q j=.po then none else some (L2.idxOf (nt Q j)*L1.length+L1.idxOf (nt P j))
noncomputable def cnt(L1 L2 P Q:List Pk)(d:List Nat)(k:Nat):Int:=((d.filter fun j=>decide (hit L1 L2 P Q j=some k)).length:Int)
noncomputable def tbl(L1 L2 P Q:List Pk)(d:List Nat):List T:=(List.range (L1.length*L2.length)).map fun k=>.int (cnt L1 L2 P Q d k)
noncomputable def arr(its:List T)(t1 t2:List T):T:=.vec aG (.list its) (.dict [.s kf,.s gA] [vI [.int t1.length,.int t2.length],.vec fQ (.list [vC t1,vC t2]) .none])
theorem pI(f:Fm)(P:List Pk):(lev f P).length<=3:=by
 cases f<;>first|exact iM _ P|exact(by decide:(ord .ff).length<=3)
theorem pH{f:Fm}{P:List Pk}{p:Pk}(h0:p≠.po)(d:p∈P):p∈lev f P:=by
 cases f<;>first|exact grp_mem.mpr ⟨h0,d⟩|(cases p<;>first|exact(h0 rfl).elim|exact(by decide:Pk.pa∈ord .ff)|exact(by decide:Pk.pb∈ord .ff)|exact(by decide:Pk.pc∈ord .ff))
theorem sU(f:Fm)(P:List Pk):(lev f P).Nodup:=by
 cases f<;>first|exact List.Pairwise.filter _ (by decide)|exact(by decide:(ord .ff).Nodup)
theorem E8{N k:Nat}(F:Nat->T)(v:T):((List.range N).map F).set k v=(List.range N).map fun i=>if i=k then v else F i:=by
 apply List.ext_getElem?
 intro i
 by_cases d:i<N
 ·by_cases e:i=k
  ·subst e;simp[d]
  ·rw[List.getElem?_set_ne (fun q=>e q.symm)];simp[d,e]
 ·rw[List.getElem?_eq_none (by simp;exact Nat.not_lt.mp d),List.getElem?_eq_none (by simp;exact Nat.not_lt.mp d)]
theorem qz{i j r c:Nat}(q:i<r)(d:j<c):j*r+i<r*c:=by
 haveI:(j+1)*r<=c*r:=Nat.mul_le_mul_right _ d
 rw[Nat.add_mul]at this
 rw[Nat.mul_comm r c];lia
section
variable(n:Nat)(h:List T)
theorem x8 {a b:Nat} (q:a<=100) (d:b<=100):biI .mul (a:Int) (b:Int)=some (.int ((a:Int)*(b:Int))):=by
 haveI y:small (a:Int)=true:=eW (Int.natCast_nonneg _) (ug (Int.ofNat_le.mpr q) rfl)
 haveI r:small (b:Int)=true:=eW (Int.natCast_nonneg _) (ug (Int.ofNat_le.mpr d) rfl)
 show(if(small (a:Int)&&small (b:Int))=true then some (T.int ((a:Int)*(b:Int)))else none)=_
 exact if_pos (Bool.and_eq_true_iff.mpr ⟨y,r⟩)
theorem wx(q d:List T)(z:q.length<=100)(y:d.length<=100):aA tab (n+2) 58 [.list [.list q,.list d]] h=some (.fr (.vec fQ (.list [vC q,vC d]) .none),h):=by
 haveI r:cL (.list [T.list q,T.list d])=some 2:=rfl
 haveI c1:=eZ n h z
 haveI F:=eZ n h y
 simp[og,fX,ux,G7,s0,r,eA,bZ,cC,c1,F,show(0:Nat)<lim by decide,show(1:Nat)<lim by decide]
theorem tI(its r q:List T)(z:r.length<=100)(y:q.length<=100):aA tab (n+3) 59 [.str aG,.list its,.list [.int r.length,.int q.length],.list [.list r,.list q]] h=some (.fr (arr its r q),h):=by
 haveI d:=wx n h r q z y
 haveI i:aA tab (n+2) 4 [.list [.int r.length,.int q.length]] h=some (.fr (vI [.int r.length,.int q.length]),h):=qN (n+1) h (by simp)
 haveI m:eO (.s gA) [.s kf]=false:=by kernel_rfl!
 simp[uD,jH,i,d,mD m,show iK [kf]=true from rfl,show(1:Nat)<lim by decide]
 rfl
theorem Bc(f1 f2:Fm)(P Q r y:List Pk)(hl:P.length<=12)(hQ:Q.length=P.length)(J:r.length<=3)(H:y.length<=3)
  (g1:∀p∈P,p≠.po->p∈r) (g2:∀p∈Q,p≠.po->p∈y)
  (r1:aA tab (n+7) 75 [gv f1 (P.map (it f1))] h=some (.fr (.tup [.list (r.map (lb f1)),.list (P.map (cd r))]),h))
  (r2:aA tab (n+7) 75 [gv f2 (Q.map (it f2))] h=some (.fr (.tup [.list (y.map (lb f2)),.list (Q.map (cd y))]),h)):
  aA tab (n+8) 76 [gv f1 (P.map (it f1)),gv f2 (Q.map (it f2))] h=some (.fr (arr (tbl r y P Q (List.range P.length)) (r.map (lb f1)) (y.map (lb f2))),h):=by
 haveI lP:cL (.list (P.map (it f1)))=some P.length:=by rw[bK (by simp;exact tkn hl rfl)];simp
 haveI lQ:cL (.list (Q.map (it f2)))=some P.length:=by rw[bK (by simp;exact tkn (trn (eln hQ) hl) rfl)];simp[hQ]
 haveI O:cL (.list (r.map (lb f1)))=some r.length:=by rw[bK (by simp;exact tkn J rfl)];simp
 haveI aa:cL (.list (y.map (lb f2)))=some y.length:=by rw[bK (by simp;exact tkn H rfl)];simp
 haveI lc:cL (.list (P.map (cd r)))=some P.length:=by rw[bK (by simp;exact tkn hl rfl)];simp
 haveI m1:=x8 (show r.length<=100 from tkn J rfl) (show y.length<=100 from tkn H rfl)
 haveI m9:r.length*y.length<=9:=Nat.mul_le_mul J H
 haveI t0:List.replicate ((r.length:Int)*(y.length:Int)).toNat (T.int 0)=tbl r y P Q []:=by
  rw[show((r.length:Int)*(y.length:Int)).toNat=r.length*y.length by rw[<-Int.natCast_mul];rfl]
  apply List.ext_getElem?
  intro i
  by_cases hi:i<r.length*y.length
  ·simp[tbl,cnt,hi]
  ·rw[List.getElem?_eq_none (by simp;exact Nat.not_lt.mp hi),List.getElem?_eq_none (by simp[tbl];exact Nat.not_lt.mp hi)]
 haveI p0:(0:Int)<=(r.length:Int)*(y.length:Int):=by rw[<-Int.natCast_mul];exact Int.natCast_nonneg _
 haveI Ig:(r.length:Int)*(y.length:Int)<=100:=by rw[<-Int.natCast_mul];exact ug (Int.ofNat_le.mpr m9) rfl
 refine kF (ro ..) ?_
 apply jo lP
 apply jo lQ
 apply jo (IY ..)
 apply jf (by simp)
 apply jb r1
 apply jb r2
 apply jo O
 apply jo aa
 apply jo ((y4 ..).trans m1)
 apply jt (by simp[p0,Ig])
 refine bE (List.range P.length) tn (fun d F=>F 2=.fr (.list (r.map (lb f1)))/\F 3=.fr (.list (P.map (cd r)))/\F 4=.fr (.list (y.map (lb f2)))/\F 5=.fr (.list (Q.map (cd y)))/\F 6=.ol (tbl r y P Q d)) ?_ ?_ ?_ ?_
 ·simp[lc,bX (show P.length<=100 from tkn hl rfl)]
 ·exact⟨rfl,rfl,rfl,rfl,congrArg LV.ol t0⟩
 ·rintro d a q F e z;haveI Y:=z.1;haveI L:=z.2.1;haveI h4:=z.2.2.1;haveI W:=z.2.2.2.1;haveI h6:=z.2.2.2.2
  haveI z:=dH e;haveI ha:=z.1;haveI hp:=z.2.1;haveI ac:=z.2.2
  have x3:bF (.list (P.map (cd r))) (tn a)=some (cd r (nt P a)):=aW ha (tkn hl rfl)
  have x5:bF (.list (Q.map (cd y))) (tn a)=some (cd y (nt Q a)):=aW (tln z.1 (ern hQ)) (tkn (trn (eln hQ) hl) rfl)
  by_cases Z:nt P a=.po
  ·refine⟨upd F 7 (.fr (tn a)),.inl (kE ?_),Y,L,h4,W,?_⟩
   ·apply jo (congrArg cU L)
    apply jo x3
    apply jf (by simp[cd,Z])
    rfl
   ·simp[h6,tbl,cnt,hit,Z]
  ·by_cases z2:nt Q a=.po
   ·refine⟨upd F 7 (.fr (tn a)),.inl (kE ?_),Y,L,h4,W,?_⟩
    ·apply jo (congrArg cU L)
     apply jo x3
     apply jt (by simp[cd,Z,show∀j,aZ (tn j)=false from fun _=>rfl])
     apply jo (congrArg cU W)
     apply jo x5
     apply jf (by simp[cd,z2])
     rfl
    ·simp[h6,tbl,cnt,hit,z2]
   ·haveI i1:=eN (g1 _ (bR ha) Z)
    haveI i2:=eN (g2 _ (bR (show a<Q.length from tln z.1 (ern hQ))) z2)
    haveI kl:=qz i1.1 i2.1
    haveI hh:hit r y P Q a=some (y.idxOf (nt Q a)*r.length+r.idxOf (nt P a)):=by simp[hit,Z,z2]
    haveI c1:cd r (nt P a)=tn (r.idxOf (nt P a)):=if_neg Z
    haveI c2:cd y (nt Q a)=tn (y.idxOf (nt Q a)):=if_neg z2
    haveI mm:=x8 (show y.idxOf (nt Q a)<=100 by lia) (show r.length<=100 by lia)
    refine⟨upd (upd F 7 (.fr (tn a))) 6 (.ol (tbl r y P Q (d++[a]))),.inl (kE ?_),Y,L,h4,W,rfl⟩
    haveI bM:hZ .mul (tn (y.idxOf (nt Q a))) (.int (r.length:Int))=some (.int ((y.idxOf (nt Q a):Int)*(r.length:Int))):=by
     simp -implicitDefEqProofs only[tn,y4];exact mm
    haveI bA:hZ .add (.int ((y.idxOf (nt Q a):Int)*(r.length:Int))) (tn (r.idxOf (nt P a)))=some (tn (y.idxOf (nt Q a)*r.length+r.idxOf (nt P a))):=by
     show some (T.int _)=some (T.int _)
     rw[Int.natCast_add,Int.natCast_mul]
    generalize y.idxOf (nt Q a)*r.length+r.idxOf (nt P a)=k at kl hh bA⊢
    haveI nq:nC (tn k)=some k:=tJ (tnn (tln kl m9) rfl)
    haveI gx:(tbl r y P Q d)[k]? =some (.int (cnt r y P Q d k)):=by simp[tbl,kl]
    haveI st:(tbl r y P Q d).set k (.int (cnt r y P Q d k+1))=tbl r y P Q (d++[a]):=by
     unfold tbl
     rw[E8]
     apply List.map_congr_left
     intro i _
     by_cases e:i=k
     ·subst e;simp[cnt,hh]
     ·haveI:¬k=i:=fun q=>e q.symm
      simp[e,cnt,hh,this]
    haveI nn:∀j,aZ (tn j)=false:=fun _=>rfl
    rw[c1]at x3
    rw[c2]at x5
    apply jo (congrArg cU L)
    apply jo x3
    apply jo (congrArg cU W)
    apply jo x5
    apply jo (congrArg cU W)
    apply jo x5
    apply jo (congrArg cU Y)
    apply jo O
    apply jo bM
    apply jo (congrArg cU L)
    apply jo x3
    apply jo bA
    apply jo (congrArg gT h6)
    apply jo nq
    apply jo (show((tbl r y P Q d)[k]?).bind iOf=some (cnt r y P Q d k) by rw[gx];rfl)
    show some (Fl.nxt (upd _ 6 (.ol _)),h)=_
    rw[st]
 ·rintro ab z;haveI Y:=z.1;haveI L:=z.2.1;haveI h4:=z.2.2.1;haveI W:=z.2.2.2.1;haveI h6:=z.2.2.2.2
  have na:=tI (n+4) h (tbl r y P Q (List.range P.length)) (r.map (lb f1)) (y.map (lb f2)) (by simp;exact tkn J rfl) (by simp;exact tkn H rfl)
  simp only[List.length_map]at na
  apply jo (congrArg frz h6)
  apply jo (congrArg cU Y)
  apply jo O
  apply jo (congrArg cU h4)
  apply jo aa
  apply jo (congrArg cI Y)
  apply jo (congrArg cI h4)
  apply jb na
  rfl
theorem wB(f1 f2:Fm)(P Q:List Pk)(q:P.length<=12)(y:Q.length=P.length):
  aA tab (n+8) 76 [gv f1 (P.map (it f1)),gv f2 (Q.map (it f2))] h=some (.fr (arr (tbl (lev f1 P) (lev f2 Q) P Q (List.range P.length)) ((lev f1 P).map (lb f1)) ((lev f2 Q).map (lb f2))),h):=
 Bc n h f1 f2 P Q _ _ q y (pI _ _) (pI _ _) (fun _ d r=>pH r d) (fun _ d r=>pH r d) (lX n h f1 P q) (lX n h f2 Q (trn (eln y) q))
end
noncomputable def hs(cs:List Int)(a:Nat)(r s:Int):List T:=[.list (cs.map .int),.int a,.int r,.int s]
def HS(h:List T):Prop:=∃(cs:List Int)(a:Nat)(r s:Int),h=hs cs a r s/\a<=cs.length/\cs.length<=63/\0<=r/\0<=s/\s<2147483647
@[simp]theorem Kf:iL (.fr .hand)=some ():=rfl
@[simp]theorem PZ(cs:List Int)(a:Nat)(r s:Int):(hs cs a r s)[0]? =some (.list (cs.map .int)):=rfl
@[simp]theorem PY(cs:List Int)(a:Nat)(r s:Int):(hs cs a r s)[1]? =some (.int a):=rfl
@[simp]theorem PX(cs:List Int)(a:Nat)(r s:Int):(hs cs a r s)[2]? =some (.int r):=rfl
@[simp]theorem PW(cs:List Int)(a:Nat)(r s:Int):(hs cs a r s)[3]? =some (.int s):=rfl
@[simp]theorem PQ(cs:List Int)(a:Nat)(r s:Int)(p:0<(hs cs a r s).length):(hs cs a r s)[0]=.list (cs.map .int):=rfl
@[simp]theorem PP(cs:List Int)(a:Nat)(r s:Int)(p:1<(hs cs a r s).length):(hs cs a r s)[1]=.int a:=rfl
@[simp]theorem PO(cs:List Int)(a:Nat)(r s:Int)(p:2<(hs cs a r s).length):(hs cs a r s)[2]=.int r:=rfl
@[simp]theorem PN(cs:List Int)(a:Nat)(r s:Int)(p:3<(hs cs a r s).length):(hs cs a r s)[3]=.int s:=rfl
theorem zU(cs:List Int)(a:Nat)(r s:Int):1<(hs cs a r s).length:=by show _<4;exact lsn rfl
theorem zT(cs:List Int)(a:Nat)(r s:Int):2<(hs cs a r s).length:=by show _<4;exact lsn rfl
theorem zS(cs:List Int)(a:Nat)(r s:Int):3<(hs cs a r s).length:=by show _<4;exact Nat.lt_succ_self _
theorem wd(cs:List Int)(a:Nat)(r s:Int):(hs cs a r s).set 1 (.int ((a:Int)+1))=hs cs (a+1) r s:=rfl
theorem ui(cs:List Int)(a:Nat)(b r s:Int):(hs cs a r s).set 2 (.int b)=hs cs a b s:=rfl
theorem FQ(cs:List Int)(a:Nat)(b r s:Int):(hs cs a r s).set 3 (.int b)=hs cs a r b:=rfl
theorem x9{a b:Int}(h:0<b)(h':b<=2147483647):biI .mod a b=some (.int (a.fmod b)):=by
 show(if 0<b/\b<big then some (T.int (a.fmod b))else none)=_
 rw[if_pos ⟨h,by unfold big;exact yn h' rfl⟩]
theorem zW{a b:Int}(h:0<b)(h':b<=2147483647):biI .fdiv a b=some (.int (a.fdiv b)):=by
 show(if 0<b/\b<big then some (T.int (a.fdiv b))else none)=_
 rw[if_pos ⟨h,by unfold big;lia⟩]
theorem zK{a b:Int}(y:0<=a)(r:a<=2147483647)(q:0<=b)(d:b<=2147483647):biI .mul a b=some (.int (a*b)):=by
 have F:small a=true:=by unfold small big;rw[decide_eq_true (f6 (of_decide_eq_true rfl) y),decide_eq_true (yn r rfl)];rfl
 have z:small b=true:=by unfold small big;rw[decide_eq_true (f6 (of_decide_eq_true rfl) q),decide_eq_true (yn d rfl)];rfl
 show(if(small a&&small b)=true then some (T.int (a*b))else none)=_
 rw[F,z];rfl
theorem uo{a b:Int}(h:0<b):0<=a.fmod b/\a.fmod b<b:=by
 rw[Int.fmod_eq_emod_of_nonneg _ (Int.le_of_lt h)]
 exact⟨Int.emod_nonneg _ (Int.ne_of_gt (h)),Int.emod_lt_of_pos _ h⟩
theorem F3{a b:Int}(d:0<=a)(h:0<b):0<=a.fdiv b:=by
 rw[Int.fdiv_eq_ediv_of_nonneg _ (by lia)];exact Int.ediv_nonneg d (by lia)
theorem dig{a b:Int}(h:0<b):∃d:Nat,a.fmod b=d/\(d:Int)<b:=by
 haveI:=uo (a:=a) h
 exact⟨(a.fmod b).toNat,(Int.toNat_of_nonneg (this.1)).symm,by omega⟩
section
variable(n:Nat)
theorem pE{L:Int}(hL:1<=L)(ab:L<=9){h:List T}(H:HS h):∃(d:Nat)(h':List T),aA tab (n+1) 77 [.hand,.int L] h=some (.fr (tn d),h')/\(d:Int)<L/\HS h':=by
 refine xc H fun F a r s aa ha hc hr Z ac=>?_;obtain rfl:=aa
 have lc:cL (.list (F.map T.int))=some F.length:=kT (tkn hc rfl)
 have O:∀(a:Nat) (r:Int),a<=F.length->0<=r->∃(d:Nat) (h':List T),(r.fmod L=d)/\h'=hs F a (r.fdiv L) s/\(d:Int)<L/\HS h':=fun a r ha hr=>by
  refine xE (dig (a:=r) (b:=L) (f6 (of_decide_eq_true rfl) hL)) fun d J=>?_;haveI e:=J.1;haveI W:=J.2
  exact⟨d,_,e,rfl,W,F,a,_,s,rfl,ha,hc,F3 hr (f6 (of_decide_eq_true rfl) hL),Z,ac⟩
 have mL:∀x,biI .mod x L=some (.int (x.fmod L)):=fun x=>x9 (f6 (of_decide_eq_true rfl) hL) (ug ab rfl)
 have dL:∀x,biI .fdiv x L=some (.int (x.fdiv L)):=fun x=>zW (f6 (of_decide_eq_true rfl) hL) (ug ab rfl)
 by_cases z:r=0
 ·by_cases y:a=F.length
  ·haveI b1:=zK Z (by lia) (show(0:Int)<=48271 by lia) (by lia)
   have b2:=x9 (a:=s*48271) (show(0:Int)<2147483647 by lia) (by lia)
   haveI b3:=zW (a:=(s*48271).fmod 2147483647) (show(0:Int)<7 by lia) (by lia)
   obtain⟨k1,k2⟩:=uo (a:=s*48271) (show(0:Int)<2147483647 by lia)
   refine xE (dig (a:=((s*48271).fmod 2147483647).fdiv 7) (b:=L) (f6 (of_decide_eq_true rfl) hL)) fun d J=>?_;haveI e:=J.1;haveI W:=J.2
   refine⟨d,hs F a r ((s*48271).fmod 2147483647),?_,W,F,a,r,_,rfl,ha,hc,hr,k1,k2⟩
   subst z y
   simp[gb,eV,zU,zT,zS,lc,b1,b2,b3,FQ,mL,e]
   rfl
  ·have hx:a<F.length:=Nat.lt_of_le_of_ne ha y
   haveI x:bF (.list (F.map T.int)) (.int a)=some (.int (nt F a)):=aW (g:=T.int) hx (tkn hc rfl)
   obtain⟨d,h',e,Y,W,H⟩:=O (a+1) (if 0<=nt F a then nt F a else-nt F a) (hx) (by split<;>lia)
   refine⟨d,h',?_,W,H⟩
   rw[z]
   haveI yy:((a:Int)==(F.length:Int))=false:=by simp;exact Int.ne_of_lt (Int.ofNat_lt.mpr hx)
   by_cases q:0<=nt F a
   ·rw[if_pos q]at e Y
    simp[gb,eV,zU,zT,zS,lc,x,-dK,y,yy,q,wd,ui,mL,dL,e,Y]
    rfl
   ·rw[if_neg q]at e Y
    simp[gb,eV,zU,zT,zS,lc,x,-dK,y,yy,q,wd,ui,mL,dL,e,Y]
    rfl
 ·refine m7 (O a r ha hr) fun d h' e Y W H=>?_
  refine⟨d,h',?_,W,H⟩
  haveI zz:(r==0)=false:=by simpa using z
  simp[gb,eV,zU,zT,zS,z,zz,mL,dL,ui,e,Y]
  rfl
end
theorem Gn{α β:Type}{f:T->M (Option β)}{g:α->β}{Q:α->Prop}:∀(ts:List T),(∀t∈ts,∀h,HS h->∃a h',f t h=some (some (g a),h')/\HS h'/\Q a)->∀h,HS h->∃(d:List α)(h':List T),gI f ts h=some (d.map g,h')/\HS h'/\d.length=ts.length/\∀a∈d,Q a:=by
 intro J
 induction J with
 |nil=>
  rintro _ h H
  exact⟨[],h,rfl,H,rfl,fun _ h=>nomatch h⟩
 |cons t ts O=>
  rintro r h H
  refine bT (r t (.head _) h H) fun a y e1 H1 F=>?_
  refine m7 (O (fun t W=>r t (.tail _ W)) y H1) fun d Y Z H2 L z=>?_
  refine⟨a::d,Y,?_,H2,by simp[L],fun b q=>?_⟩
  ·show obd (f t h) _=_
   rw[e1]
   show obd (gI f ts y) _=_
   rw[Z];rfl
  ·rcases List.mem_cons.mp q with rfl|q
   ·exact F
   ·exact z b q
theorem z3{α:Type}{C:Nat->List T->M LV}{ρ:aE}{i m:Nat}{x e:X}{g:α->T}{Q:α->Prop}{h:List T}(H:HS h)(z:m<=100)(hx:∀h,evX C ρ x h=some (.int m,h))
  (F:∀t h,HS h->∃a h',evX C (upd ρ i (.fr t)) e h=some (g a,h')/\HS h'/\Q a):
  ∃(d:List α) (h':List T),evX C ρ (.comp i (.range [x]) [] e) h=some (.list (d.map g),h')/\HS h'/\d.length=m/\∀a∈d,Q a:=by
 obtain⟨d,h',O,Y,y,r⟩:=Gn (f:=fun t=>bn (evC C (upd ρ i (.fr t)) []) (zw C (upd ρ i (.fr t)) e)) (g:=g) (Q:=Q) ((List.range m).map tn) (fun t _ h H=>by
  refine bT (F t h H) fun a h' L W q=>?_
  exact⟨a,h',by simp[L],W,q⟩) h H
 refine⟨d,h',?_,Y,by simpa using y,r⟩
 haveI J:evI C ρ (.range [x]) h=some ((List.range m).map tn,h):=by simp[hx,bX z]
 rw[ux]
 show obd (evI C ρ (.range [x]) h) _=_
 rw[J]
 show obd (gI _ ((List.range m).map tn) h) _=_
 rw[O];rfl
noncomputable def CK:Nat->Pk
 |0=>.pa
 |1=>.pb
 |2=>.pc
 |_=>.po
section
variable(n:Nat)
theorem we{m:Nat}(hm:m<=100){h:List T}(H:HS h):∃(f:Fm)(P:List Pk)(h':List T),aA tab (n+2) 78 [.hand,.int m] h=some (.fr (gv f (P.map (it f))),h')/\P.length=m/\HS h':=by
 obtain⟨d,h1,e1,q,H1⟩:=pE n (show(1:Int)<=3 by lia) (by lia) H
 obtain⟨y,Y,Z,H2,l2,O⟩:=z3 (C:=aA tab (n+1)) (ρ:=upd (aS [.hand,.int m]) 2 (.fr (tn d))) (i:=5) (m:=m) (x:=.var 1) (e:=.call 77 [.var 0,.int 4]) (g:=tn) (Q:=fun d=>d<4) H1 hm (fun h=>by simp)
  (fun t h H=>by
   obtain⟨d,h',e,q,H'⟩:=pE n (show(1:Int)<=4 by lia) (by lia) H
   exact⟨d,h',by simp[e],H',by lia⟩)
 haveI W:fN (.list (y.map tn))=some (y.map tn):=cH (by rw[List.length_map];exact trn (eln l2) hm)
 have r:∀(f:Fm),∃P:List Pk,P.length=m/\y.map (fun d=>it f (CK d))=P.map (it f):=fun f=>⟨y.map CK,by rw[List.length_map];exact l2,by simp⟩
 haveI dd:d=0\/d=1\/d=2:=by lia
 rcases dd with rfl|rfl|rfl
 ·refine xEA (r .fi) fun P F J=>?_
  refine⟨.fi,P,Y,?_,F,H2⟩
  rw[<-J]
  have z:eqT (tn 0) (.int 0)=some true:=by kernel_rfl!
  simp[hX,e8,e1,Z,z]
  refine aQ y tn (fun d=>it .fi (CK d)) (by simp[W]) (fun d q=>?_) (by simp;rfl)
  haveI:=O d q
  haveI:d=0\/d=1\/d=2\/d=3:=by lia
  rcases this with rfl|rfl|rfl|rfl<;>kernel_rfl!
 ·refine xEA (r .fs) fun P F J=>?_
  refine⟨.fs,P,Y,?_,F,H2⟩
  rw[<-J]
  haveI z:eqT (tn 1) (.int 0)=some false:=by kernel_rfl!
  haveI L:eqT (tn 1) (.int 1)=some true:=by kernel_rfl!
  simp[hX,e8,e1,Z,z,L]
  refine aQ y tn (fun d=>it .fs (CK d)) (by simp[W]) (fun d q=>?_) (by simp;rfl)
  haveI:=O d q
  haveI:d=0\/d=1\/d=2\/d=3:=by lia
  rcases this with rfl|rfl|rfl|rfl<;>kernel_rfl!
 ·refine xEA (r .ff) fun P F J=>?_
  refine⟨.ff,P,Y,?_,F,H2⟩
  rw[<-J]
  haveI z:eqT (tn 2) (.int 0)=some false:=by kernel_rfl!
  haveI L:eqT (tn 2) (.int 1)=some false:=by kernel_rfl!
  simp[hX,e8,e1,Z,z,L]
  refine aQ y tn (fun d=>it .ff (CK d)) (by simp[W]) (fun d q=>?_) (by simp[show iK [cN,iH]=true from rfl];kernel_rfl!)
  haveI:=O d q
  haveI:d=0\/d=1\/d=2\/d=3:=by lia
  rcases this with rfl|rfl|rfl|rfl<;>kernel_rfl!
end
theorem zE{l1 l2:List Nat}(r:l1.Nodup)(d:l2.Nodup)(h:∀a,a∈l1↔a∈l2):l1.Perm l2:=by
 rw[List.perm_iff_count]
 intro a
 haveI c1:=List.nodup_iff_count.mp r a
 haveI y:=List.nodup_iff_count.mp d a
 by_cases z:a∈l1
 ·haveI:=List.count_pos_iff.mpr z
  haveI:=List.count_pos_iff.mpr ((h a).mp z)
  lia
 ·rw[List.count_eq_zero.mpr z,List.count_eq_zero.mpr fun q=>z ((h a).mpr q)]
theorem cat_mem{α:Type}{R:List (List α)}{a:α}:a∈cat R↔ ∃l∈R,a∈l:=by simp[cat]
theorem ry(P:List Pk):∀L:List Pk,L.Nodup->(cat (L.map (cF P))).Nodup:=by
 intro z
 induction z with
 |nil=>
  rintro _
  exact .nil
 |cons p L r=>
  rintro y
  refine(List.nodup_cons.mp y).elim fun Z Y=>?_
  haveI r:=r Y
  show(cF P p++cat (L.map (cF P))).Nodup
  rw[List.nodup_append]
  refine⟨List.Pairwise.filter _ List.nodup_range,r,fun a W b O e=>?_⟩
  subst e
  refine xEA (cat_mem.mp O) fun l J H=>?_
  refine xEA (List.mem_map.mp J) fun q F d=>?_;obtain rfl:=d
  haveI:=(lj W).2
  rw[(lj H).2]at this
  exact Z (this▸F)
theorem oH{P L:List Pk}{a:Nat}:a∈cat (L.map (cF P))↔a<P.length/\nt P a∈L:=by
 rw[cat_mem]
 constructor
 ·intro d;refine xEA d fun l F z=>?_
  refine xEA (List.mem_map.mp F) fun q y r=>?_;obtain rfl:=r
  haveI:=lj z
  exact⟨this.1,this.2▸y⟩
 ·rintro d;haveI J:=d.1;haveI H:=d.2
  exact⟨_,List.mem_map.mpr ⟨_,H,rfl⟩,by unfold cF;simp[J]⟩
theorem nV(f:Fm)(P:List Pk):(grp f P).Nodup:=List.Pairwise.filter _ (by cases f<;>simp[ord])
theorem zi(f:Fm)(P:List Pk):(pt f P).Nodup:=by
 unfold pt
 split
 ·rw[List.nodup_append]
  exact⟨nV f P,by simp,fun a q b d e=>by
   simp at d;subst d;subst e;exact(grp_mem.mp q).1 rfl⟩
 ·simpa using nV f P
theorem allg_mem{f:Fm}{P:List Pk}{p:Pk}:p∈pt f P↔p∈P:=by
 unfold pt
 by_cases z:p=.po
 ·subst z
  split
  ·rename_i h;simp[h]
  ·rename_i h;simp[h,grp_mem]
 ·split
  ·simp[grp_mem,z]
  ·simp[grp_mem,z]
theorem jP(f:Fm)(P:List Pk):(cat (dG f P)).Perm (List.range P.length):=by
 refine zE (ry P _ (zi f P)) List.nodup_range fun a=>?_
 unfold dG
 rw[oH,allg_mem]
 simp only[List.mem_range]
 exact⟨fun h=>h.1,fun h=>⟨h,bR h⟩⟩
theorem Do(f:Fm)(P:List Pk):(cat ((grp f P).map (cF P))).Perm (kept P):=by
 refine zE (ry P _ (nV f P)) (qI P) fun a=>?_
 rw[oH,grp_mem]
 unfold kept npo
 simp only[List.mem_filter,List.mem_range,decide_eq_true_eq]
 exact⟨fun h=>⟨h.1,h.2.1⟩,fun h=>⟨h.1,h.2,bR h.1⟩⟩
theorem Cb{l d:List Int}(h:l.Perm d):l.sum=d.sum:=by
 induction h with
 |nil=>rfl
 |cons a _ q=>simp[q]
 |swap a b l=>simp;lia
 |trans _ _ i j=>exact i.trans j
theorem Ak(vs:List Int):∀R:List (List Nat),gq vs (cat R)=(R.map (gq vs)).sum:=by
 intro d
 induction d with
 |nil=>
  exact rfl
 |cons l R q=>
  haveI:=q
  unfold gq cat at *
  simp only[List.flatten_cons,List.map_append,List.sum_append,List.map_cons,List.sum_cons]
  rw[this]
theorem EP(f:Fm)(P:List Pk)(vs:List Int):(((grp f P).map fun p=>gq vs (cF P p))).sum=gq vs (kept P):=by
 haveI q:=Cb ((Do f P).map (nt vs))
 haveI d:=Ak vs ((grp f P).map (cF P))
 unfold gq at d⊢
 rw[<-q,d,List.map_map];rfl
theorem tA{f:Fm}{P:List Pk}{js:List Nat}(h:js∈dG f P):js≠[]:=by
 refine xEA (List.mem_map.mp h) fun p q d=>?_;obtain rfl:=d
 exact uM (allg_mem.mp q)
theorem CA(f:Fm)(P:List Pk):(dG f P).length<=4:=by
 haveI:=iM f P
 unfold dG pt
 split<;>simp<;>lia
theorem v0{f:Fm}{P:List Pk}(h:kept P≠[]):grp f P≠[]:=by
 refine xE (List.exists_mem_of_ne_nil _ h) fun j d=>?_
 have:=cS d
 exact List.ne_nil_of_mem (grp_mem.mpr ⟨this.2,bR this.1⟩)
theorem oh{t:T}(h:isS t=true):jE t t=true:=by cases t<;>first|exact Bool.noConfusion (show false=true from h)|exact beq_self_eq_true _|rfl
theorem s4{f:T->T->Bool}:∀l:List T,(∀t∈l,f t t=true)->rB f l l=true:=by
 intro d
 induction d with
 |nil=>
  rintro _
  exact rfl
 |cons t l q=>
  rintro h
  show(f t t&&rB f l l)=true
  rw[h t (by simp),q fun t r=>h t (by simp[r])];rfl
theorem Bq{t:T}(h:qM t=true):wR t t=true:=by
 cases t with
 |tup d=>exact s4 d fun t q=>oh (by haveI:d.all isS=true:=h;exact List.all_eq_true.mp this t q)
 |none=>rfl
 |int i=>exact oh (t:=.int i) rfl
 |str s=>exact oh (t:=.str s) rfl
 |_=>cases h
theorem qT{l:List T}(h:∀t∈l,qM t=true):eqT (.list l) (.list l)=some true:=by
 haveI d:dz (.list l)=true:=List.all_eq_true.mpr h
 unfold eqT
 rw[d]
 show some (rB wR l l)=_
 rw[s4 l fun t q=>Bq (h t q)]
theorem G6(f:Fm)(p:Pk):qM (it f p)=true:=by cases f<;>cases p<;>rfl
theorem DZ(r q P Q:List Pk)(d:List Nat)(a k:Nat):cnt r q P Q (d++[a]) k=cnt r q P Q d k+(if hit r q P Q a=some k then 1 else 0):=by
 unfold cnt
 rw[List.filter_append]
 by_cases z:hit r q P Q a=some k
 ·simp[z]
 ·simp[z]
theorem FP(x:Option Nat):∀K:List Nat,K.Nodup->(K.map fun k=>if x=some k then(1:Int)else 0).sum=if∃k∈K,x=some k then 1 else 0:=by
 intro J
 induction J with
 |nil=>
  rintro _
  exact rfl
 |cons k K L=>
  rintro H
  haveI W:=(List.nodup_cons.mp H).1;haveI O:=(List.nodup_cons.mp H).2
  rw[List.map_cons,List.sum_cons,L O]
  by_cases z:x=some k
  ·haveI:¬ ∃d∈K,x=some d:=fun r=>r.elim fun d r=>r.elim fun q e=>by
    rw[z]at e;injection e with e;exact W (e▸q)
   rw[if_pos z,if_neg this,if_pos ⟨k,by simp,z⟩];rfl
  ·rw[if_neg z]
   by_cases y:∃d∈K,x=some d
   ·refine xEA y fun d q e=>?_
    rw[if_pos ⟨d,q,e⟩,if_pos ⟨d,by simp[q],e⟩];rfl
   ·rw[if_neg y,if_neg]; · rfl
    intro F;refine xEA F fun d q e=>?_
    rcases List.mem_cons.mp q with rfl|q
    ·exact z e
    ·exact y ⟨d,q,e⟩
theorem EQ{α:Type}(f g:α->Int):∀K:List α,(K.map fun k=>f k+g k).sum=(K.map f).sum+(K.map g).sum:=by
 intro d
 induction d with
 |nil=>
  exact rfl
 |cons k K q=>
  simp only[List.map_cons,List.sum_cons];rw[q];lia
theorem z5(r q P Q:List Pk)(K:List Nat)(F:K.Nodup):∀d:List Nat,(K.map (cnt r q P Q d)).sum=((d.filter fun j=>decide (∃k∈K,hit r q P Q j=some k)).length:Int):=dW (by
  rw[show K.map (cnt r q P Q [])=K.map fun _=>(0:Int)from rfl]
  induction K with
  |nil=>rfl
  |cons k K y=>simpa using y (List.nodup_cons.mp F).2) fun d a y=>by
 rw[show(K.map (cnt r q P Q (d++[a])))=K.map fun k=>cnt r q P Q d k+(if hit r q P Q a=some k then 1 else 0)from List.map_congr_left fun k _=>DZ r q P Q d a k]
 rw[EQ,y,FP _ _ F,List.filter_append]
 by_cases z:∃k∈K,hit r q P Q a=some k
 ·rw[if_pos z];simp[z]
 ·rw[if_neg z];simp[z]
theorem uj{d r P Q:List Pk}{j u v:Nat}(W:nt P j≠.po->nt P j∈d)(O:u<d.length):hit d r P Q j=some (v*d.length+u)↔nt P j≠.po/\nt Q j≠.po/\d.idxOf (nt P j)=u/\r.idxOf (nt Q j)=v:=by
 unfold hit
 by_cases z:nt P j=.po\/nt Q j=.po
 ·rw[if_pos z]
  refine⟨(fun h=>nomatch h),fun h=>?_⟩
  rcases z with z|z
  ·exact(h.1 z).elim
  ·exact(h.2.1 z).elim
 ·rw[if_neg z]
  haveI F:nt P j≠.po:=fun e=>z (.inl e)
  haveI L:nt Q j≠.po:=fun e=>z (.inr e)
  haveI H:=(eN (W F)).1
  generalize d.idxOf (nt P j)=x at H⊢
  generalize r.idxOf (nt Q j)=y
  constructor
  ·intro e
   injection e with e
   haveI J:(y*d.length+x)%d.length=(v*d.length+u)%d.length:=e▸rfl
   rw[Nat.mul_comm y,Nat.mul_comm v,Nat.mul_add_mod,Nat.mul_add_mod,Nat.mod_eq_of_lt H,Nat.mod_eq_of_lt O]at J
   subst J
   refine⟨F,L,rfl,?_⟩
   haveI:y*d.length=v*d.length:=by lia
   exact Nat.eq_of_mul_eq_mul_right (by lia) this
  ·rintro q;obtain rfl:=q.2.2.1;obtain rfl:=q.2.2.2;rfl
noncomputable def sl(i k:Nat):List S:=(b_law.drop i).take k
theorem jX(C:Nat->List T->M LV)(h:List T):∀(a:List S)(b:List S)(ρ:aE),evB C ρ (a++b) h=obd (evB C ρ a h) (gU C b)
 | [],b,ρ=>rfl
 |s::a,b,ρ=>by
  show obd (evS C ρ s h) (gU C (a++b))=obd (obd (evS C ρ s h) (gU C a)) (gU C b)
  haveI q:∀(f:Fl) (h:List T),gU C (a++b) f h=obd (gU C a f h) (gU C b):=fun f h=>by
   cases f with
   |nxt d=>exact jX C h a b d
   |cnt d=>rfl
   |ret v=>rfl
  cases evS C ρ s h with
  |none=>rfl
  |some p=>exact q p.1 p.2
theorem F2:∀R:List (List Nat),(∀js∈R,js.length<=100)->qR (R.map lT)=some ((cat R).map tn):=by
 intro q
 induction q with
 |nil=>
  rintro _
  exact rfl
 |cons l R d=>
  rintro h
  haveI d:=d fun js r=>h js (by simp[r])
  show(if(l.map tn).length<=lim then(qR (R.map lT)).map (l.map tn++ ·)else none)=_
  rw[if_pos (by simpa using cV (h l (by simp))),d]
  simp[cat]
section
variable{n:Nat}{h:List T}{f1 f2:Fm}{P Q:List Pk}{vs:List Int}
structure Dr(P Q:List Pk)(vs:List Int):Prop where
 m1:1<=P.length
 m6:P.length<=6
 q:Q.length=P.length
 v:vs.length=P.length
noncomputable def dff(f1 f2:Fm)(P Q:List Pk)(vs:List Int):T:=frm [gv f1 (P.map (it f1)),gv f2 (Q.map (it f2)),vI (vs.map T.int)] ghv (vI (lbs P.length))
noncomputable def wN(f1 f2:Fm)(P Q:List Pk)(vs:List Int):T:=
 frm [gv f1 (((cat (dG f1 P)).map (nt P)).map (it f1)),gv f2 (((cat (dG f1 P)).map (nt Q)).map (it f2)),vI ((cat (dG f1 P)).map fun j=>T.int (nt vs j))] ghv (kV (dG f1 P))
theorem jQ{f:Fm}{P:List Pk}{j:Nat}(h:j∈cat (dG f P)):j<P.length:=by simpa using(jP f P).mem_iff.mp h
theorem CB(f:Fm)(P:List Pk):(cat (dG f P)).length=P.length:=by simpa using(jP f P).length_eq
theorem CC{f:Fm}{P:List Pk}{js:List Nat}(d:js∈dG f P){j:Nat}(h:j∈js):j<P.length:=jQ (cat_mem.mpr ⟨js,d,h⟩)
theorem Ib{f:Fm}{P:List Pk}{js:List Nat}(q:js∈dG f P):js.Nodup:=by
 refine xEA (List.mem_map.mp q) fun p r d=>?_;obtain rfl:=d
 exact List.Pairwise.filter _ List.nodup_range
theorem zD{f:Fm}{P:List Pk}{js:List Nat}(q:js∈dG f P):js.length<=P.length:=by
 refine xEA (List.mem_map.mp q) fun p r d=>?_;obtain rfl:=d
 exact uN P p
theorem NC(D:Dr P Q vs){ρ:aE}(h3:ρ 3=.fr (.int P.length))(h4:ρ 4=.fr (gv f1 (P.map (it f1))))(h5:ρ 5=.fr (gv f2 (Q.map (it f2))))(h6:ρ 6=.fr (.list (vs.map T.int))):
  ∃ρ',evB (aA tab (n+8)) ρ (sl 6 4) h=some (.nxt ρ',h)/\ρ' 3=ρ 3/\ρ' 4=ρ 4/\ρ' 5=ρ 5/\ρ' 6=ρ 6/\ρ' 7=.fr (dff f1 f2 P Q vs)/\ρ' 9=.fr (lT (cat (dG f1 P)))/\ρ' 10=.fr (wN f1 f2 P Q vs):=by
 obtain⟨d1,r,O,H⟩:=D
 haveI mf:=rZ (n+3) h (f1:=f1) (f2:=f2) (l1:=P.map (it f1)) (l2:=Q.map (it f2)) (l3:=vs.map T.int) (m:=P.length) (by simp) (by rw[List.length_map];exact O) (by rw[List.length_map];exact H) (tkn r rfl)
 haveI lp:=r5 (n+7) h f1 P (tkn r rfl)
 haveI rl:=CA f1 P
 haveI L:fN (.list ((dG f1 P).map lT))=some ((dG f1 P).map lT):=cH (by rw[List.length_map];exact Nat.le_trans (by assumption) (by decide))
 haveI fo:=F2 (dG f1 P) fun d q=>by haveI:=zD q;exact tkn (trn this r) rfl
 haveI y:=CB f1 P
 haveI pr:∀d∈dG f1 P,aA tab (n+8) 52 [dff f1 f2 P Q vs,lT d] h=some (.fr (fr3 f1 f2 (d.map (nt P)) (d.map (nt Q)) (d.map fun j=>T.int (nt vs j)) (d.map fun j=>tn (j+1))),h):=fun d q=>by
  haveI:=tE (n+3) h (f1:=f1) (f2:=f2) (P:=P) (Q:=Q) (V:=vs.map T.int) (m:=P.length) (js:=d) rfl O (by rw[List.length_map];exact H) (tkn r rfl) (fun j z=>CC q z) (Ib q) (by haveI:=zD q;exact tkn (trn this r) rfl)
  rw[show d.map (nt (vs.map T.int))=d.map fun j=>T.int (nt vs j)from List.map_congr_left fun j z=>eL T.int (by haveI:=CC q z;exact tln this (ern H))]at this
  exact this
 haveI F:∀{Y:Type} (g:Nat->Y),cat ((dG f1 P).map fun d=>d.map g)=(cat (dG f1 P)).map g:=fun g=>uF g _
 haveI W:=GC (n+1) h (f1:=f1) (f2:=f2) (A:=fun d=>d.map (nt P)) (B:=fun d=>d.map (nt Q)) (D:=fun d=>d.map fun j=>T.int (nt vs j)) (dG f1 P) (tkn rl rfl)
  (fun e=>by rw[e]at y;simp at y;lia) (fun d q=>tA q) (tkn (trn (eln y) r) rfl) (fun j q=>by haveI:=jQ q;exact tln this (ern y)) ((jP f1 P).nodup_iff.mpr List.nodup_range) (by rw[F];simp;exact tkn (trn (eln y) r) rfl) (by rw[F];simp;exact tkn (trn (eln y) r) rfl) (by rw[F];simp;exact tkn (trn (eln y) r) rfl)
 rw[F,F,F]at W
 refine⟨upd (upd (upd (upd ρ 7 (.fr (dff f1 f2 P Q vs))) 8 (.fr (.list ((dG f1 P).map lT)))) 9 (.fr (lT (cat (dG f1 P))))) 10 (.fr (wN f1 f2 P Q vs)),?_,by simp,by simp,by simp,by simp,by simp,by simp,by simp⟩
 haveI e2:∀ρ:aE,evX (aA tab (n+8)) ρ (.comp2 29 (.val (.var 8)) 30) h=obd (evI (aA tab (n+8)) ρ (.val (.var 8)) h) fun Z=>lf ((qR Z).bind fun J=>if J.length<=lim then some (.list J)else .none):=fun _=>rfl
 haveI lm:(cat (dG f1 P)).length<=lim:=cV (tkn (trn (eln y) r) rfl)
 simp[sl,b_law,h3,h4,h5,h6,cV (show vs.length<=100 from tkn (trn (eln H) r) rfl),HI,show aA tab (n+8) 49 [.list [gv f1 (P.map (it f1)),gv f2 (Q.map (it f2)),.vec aG (.list (vs.map T.int)) .none],.list [.str s_g,.str s_h,.str s_v],.none] h=some (.fr (dff f1 f2 P Q vs),h)from mf,
  show aA tab (n+8) 80 [gv f1 (P.map (it f1))] h=some (.fr (.list ((dG f1 P).map lT)),h)from lp,e2,L,fo,lm]
 refine aQ (dG f1 P) lT (fun d=>fr3 f1 f2 (d.map (nt P)) (d.map (nt Q)) (d.map fun j=>T.int (nt vs j)) (d.map fun j=>tn (j+1))) (by exact kIe (by apply jo (L);rfl)) (fun d q=>?_) ?_
 ·simp[pr d q]
 ·simp[show aA tab (n+8) 57 [.list ((dG f1 P).map fun d=>fr3 f1 f2 (d.map (nt P)) (d.map (nt Q)) (d.map fun j=>T.int (nt vs j)) (d.map fun j=>tn (j+1)))] h=some (.fr (wN f1 f2 P Q vs),h)from W]
  rfl
end
noncomputable def Ec:List S:=[.ite (.or [.ne (.attr (.idx (.attr (.var 10) .items) (.var 11)) .kind) (.attr (.idx (.attr (.var 7) .items) (.var 11)) .kind),.ne (.attr (.idx (.attr (.var 10) .items) (.var 11)) .items) (.comp 32 (.val (.var 9)) [] (.idx (.attr (.idx (.attr (.var 7) .items) (.var 11)) .items) (.var 32)))]) [.stuck] [],.ite (.and [.notNone (.attr (.idx (.attr (.var 7) .items) (.var 11)) .attrs),.ne (.attr (.idx (.attr (.idx (.attr (.var 10) .items) (.var 11)) .attrs) (.str cN)) .items) (.list [.str s_z,.str s_a,.str s_m])]) [.stuck] []]
section
variable{n:Nat}{h:List T}{f1 f2:Fm}{P Q:List Pk}{vs:List Int}
theorem yQ{C:Nat->List T->M LV}{ρ:aE}{f:Fm}{R:List Nat}{l Z Y:List T}{g:Nat->T}{k:Nat}{b d:T}(F:ρ 7=.fr d)(z:ρ 9=.fr (lT R))(q:ρ 10=.fr b)(L:cQ .items b=some (.list Z))(H:cQ .items d=some (.list Y))
  (J:bF (.list Z) (tn k)=some (gv f (R.map g))) (y:bF (.list Y) (tn k)=some (gv f l)) (hR:R.length<=100) (hx:∀j∈R,bF (.list l) (tn j)=some (g j)) (d1:∀j,qM (g j)=true):
  evB C (upd ρ 11 (.fr (tn k))) Ec h=some (.nxt (upd ρ 11 (.fr (tn k))),h):=by
 have W:eqT (.list (R.map g)) (.list (R.map g))=some true:=qT fun t ht=>by
  refine xEA (List.mem_map.mp ht) fun j _ r=>?_;obtain rfl:=r
  exact d1 j
 have ez:eqT (.list zam) (.list [.str s_z,.str s_a,.str s_m])=some true:=by kernel_rfl!
 simp[Ec,F,z,q,L,H,J,y]
 refine aQ R tn g (by exact kIe (by apply jo (congrArg cI z);apply jo (lY (by simpa using hR));rfl)) (fun j hj=>?_) ?_
 ·simp[F,H,y,hx j hj]
 ·by_cases O:f=.ff
  ·subst O
   simp[W,F,z,q,L,H,J,y,show aZ (ats .ff)=false from rfl,yB,-pK,ez]
  ·have:aZ (ats f)=true:=by cases f<;>first|rfl|exact(O rfl).elim
   simp[W,F,z,q,L,H,J,y,this]
theorem NB(D:Dr P Q vs){ρ:aE}(h3:ρ 3=.fr (.int P.length))(h7:ρ 7=.fr (dff f1 f2 P Q vs))(h9:ρ 9=.fr (lT (cat (dG f1 P))))(J:ρ 10=.fr (wN f1 f2 P Q vs)):
  ∃ρ',evB (aA tab (n+8)) ρ (sl 10 3) h=some (.nxt ρ',h)/\ρ' 3=ρ 3/\ρ' 4=ρ 4/\ρ' 5=ρ 5/\ρ' 6=ρ 6/\ρ' 7=ρ 7:=by
 obtain⟨d1,H,dq,dv⟩:=D
 haveI L:=CB f1 P
 haveI r3:lI [.int 3]=some ([0,1,2].map tn):=by kernel_rfl!
 have nd:=(jP f1 P).nodup_iff.mpr List.nodup_range
 have bI:cQ .items (wN f1 f2 P Q vs)=some (.list [gv f1 ((cat (dG f1 P)).map fun j=>it f1 (nt P j)),gv f2 ((cat (dG f1 P)).map fun j=>it f2 (nt Q j)),gv .fi ((cat (dG f1 P)).map fun j=>T.int (nt vs j))]):=by
  unfold wN;rw[List.map_map,List.map_map];rfl
 haveI dI:cQ .items (dff f1 f2 P Q vs)=some (.list [gv f1 (P.map (it f1)),gv f2 (Q.map (it f2)),gv .fi (vs.map T.int)]):=rfl
 obtain⟨Z,e1,Y,g4,g5,g6,O,W,z⟩:=jV (C:=aA tab (n+8)) (ρ:=ρ) (i:=11) (it:=.range [.int 3]) (b:=Ec) (h:=h) [0,1,2] tn
  (fun d ρ'=>ρ' 3=ρ 3/\ρ' 4=ρ 4/\ρ' 5=ρ 5/\ρ' 6=ρ 6/\ρ' 7=ρ 7/\ρ' 9=ρ 9/\ρ' 10=ρ 10) (rfl) ⟨rfl,rfl,rfl,rfl,rfl,rfl,rfl⟩ (by
   rintro p a q ρ' e r;haveI Y:=r.1;haveI g4:=r.2.1;haveI g5:=r.2.2.1;haveI g6:=r.2.2.2.1;haveI O:=r.2.2.2.2.1;haveI W:=r.2.2.2.2.2.1;haveI z:=r.2.2.2.2.2.2
   haveI ha:a∈[0,1,2]:=by rw[e];exact List.mem_append_right _ (.head _)
   refine⟨upd ρ' 11 (.fr (tn a)),.inl ?_,Y,g4,g5,g6,O,W,z⟩
   simp at ha
   rcases ha with rfl|rfl|rfl
   ·exact yQ (O.trans h7) (W.trans h9) (z.trans J) bI dI rfl rfl (tkn (trn (eln L) H) rfl) (fun j F=>aW (jQ F) (tkn H rfl)) (fun j=>G6 _ _)
   ·exact yQ (O.trans h7) (W.trans h9) (z.trans J) bI dI rfl rfl (tkn (trn (eln L) H) rfl) (fun j F=>aW (by haveI:=jQ F;exact tln this (ern dq)) (tkn (trn (eln dq) H) rfl)) (fun j=>G6 _ _)
   ·exact yQ (O.trans h7) (W.trans h9) (z.trans J) bI dI rfl rfl (tkn (trn (eln L) H) rfl) (fun j F=>aW (by haveI:=jQ F;exact tln this (ern dv)) (tkn (trn (eln dv) H) rfl)) (fun j=>rfl))
 rw[h3]at Y
 rw[J]at z
 obtain⟨M,k,hM,hl,hs⟩:∃(M:List T) (k:T),kV (dG f1 P)=k/\cQ .items k=some (.list M)/\M.length=P.length/\pU M=some M:=by
  unfold kV
  split
  ·refine⟨lbs (cat (dG f1 P)).length,_,rfl,rfl,by rw[gW,L],zA (by rw[gW];exact trn (eln L) H) ?_ ?_⟩
   ·rw[show∀m,iW (lbs m)=true from fun m=>by unfold iW lbs;rw[List.all_map];exact List.all_eq_true.mpr fun _ _=>rfl];rfl
   ·unfold lbs
    rw[List.pairwise_map]
    exact List.nodup_range.imp fun{a b} ne e=>ne (by simp[tn]at e;exact Int.ofNat.inj e)
  ·haveI nl:=qo (dG f1 P)
   refine⟨uq (jk (dG f1 P)),_,rfl,rfl,by rw[te];exact(nl).trans L,zA (by rw[te];exact trn (trn (eln nl) (eln L)) H) ?_ ?_⟩
   ·haveI:fY (uq (jk (dG f1 P)))=true:=by
     unfold fY
     rw[List.all_eq_true]
     intro x hx
     rcases B0 _ (ql (fun js F=>tA F) nd) x hx with⟨y,_,rfl⟩|⟨y,_,rfl⟩<;>rfl
    simp[this]
   ·exact BZ _ (ql (fun js F=>tA F) nd) fun x hx=>by
     haveI:=zJ (dG f1 P) P.length (fun j F=>jQ F) (eln L) x hx
     exact tkn (trn this H) rfl
 haveI bA:cQ .attrs (wN f1 f2 P Q vs)=some (frA ghv k):=by unfold wN;rw[hM];rfl
 haveI eg:eqT (.list ghv) (.list [.str s_g,.str s_h,.str s_v])=some true:=by kernel_rfl!
 haveI lM:cL (.list M)=some P.length:=by rw[bK (tkn (trn (eln hs.1) H) rfl),hs.1]
 refine⟨upd Z 12 (.fr (.list M)),?_,by simp[Y,h3],g4,g5,g6,O⟩
 haveI e2:=e1
 simp[sl,b_law]
 refine eX e2 ?_
 simp[z,bA,hl,eg,lM,hs.1,hs.2,Y]
end
noncomputable def sx(f:Fm)(p:Pk):T:=.str (match p with
 |.po=> "None"
 |p=>match it f p with
  |.str s=>s
  |.int i=>cG i
  |_=>s_)
theorem zy(f:Fm)(p:Pk):tj (it f p)=some (sx f p):=by
 haveI d:small 3=true/\small (-1)=true/\small 8=true/\small 1=true/\small 2=true:=⟨eW (Int.natCast_nonneg _) (Int.natCast_nonneg _),eW (Int.natCast_nonneg _) (Int.natCast_nonneg _),eW (Int.natCast_nonneg _) (Int.natCast_nonneg _),eW (Int.natCast_nonneg _) (Int.natCast_nonneg _),eW (Int.natCast_nonneg _) (Int.natCast_nonneg _)⟩
 haveI F:=d.1;haveI z:=d.2.1;haveI y:=d.2.2.1;haveI r:=d.2.2.2.1;haveI q:=d.2.2.2.2
 cases f<;>cases p<;>first|rfl|simp[it,tj,sx,F,z,y,r,q]
noncomputable def t4(f1 f2:Fm)(P Q:List Pk)(vs:List Int)(j:Nat):T:=.tup [sx f1 (nt P j),sx f2 (nt Q j),.int (nt vs j),.int (gq vs (cF P (nt P j)))]
theorem As{l d:List T}(p:l.Perm d)(h:∀t∈d,∃a b i j,t=.tup [.str a,.str b,.int i,.int j]):ip l=ip d:=by
 haveI c:=z7
 haveI z:∀t∈l,∃a b i j,t=T.tup [.str a,.str b,.int i,.int j]:=fun t y=>h t (p.mem_iff.mp y)
 refine sG c h ((gr l).trans p) fun k a b r q=>?_
 haveI s:=lC c l z
 obtain⟨H,r⟩:=List.getElem?_eq_some_iff.mp r
 obtain⟨F,q⟩:=List.getElem?_eq_some_iff.mp q
 haveI:=List.pairwise_iff_getElem.mp s k (k+1) H F (Nat.lt_succ_self _)
 rw[r,q]at this
 exact this
section
variable{n:Nat}{h:List T}{f1 f2:Fm}{P Q:List Pk}{vs:List Int}
theorem HN(j:Nat):∃a b i k,t4 f1 f2 P Q vs j=.tup [.str a,.str b,.int i,.int k]:=⟨_,_,_,_,rfl⟩
theorem GY(l:List Nat)(d:l.length<=6):dD (l.map (t4 f1 f2 P Q vs))=some (ip (l.map (t4 f1 f2 P Q vs))):=by
 unfold dD tv
 rw[decide_eq_true (by rw[List.length_map];exact d)]
 haveI:((l.map (t4 f1 f2 P Q vs)).all yq)=true:=by
  simp only[List.all_map,List.all_eq_true,Function.comp]
  intro j _;rfl
 rw[this];simp
theorem JI(D:Dr P Q vs){ρ:aE}(F:ρ 3=.fr (.int P.length))(y:ρ 4=.fr (gv f1 (P.map (it f1)))):
  ∃ρ',evB (aA tab (n+8)) ρ (sl 13 1) h=some (.nxt ρ',h)/\ρ' 3=ρ 3/\ρ' 4=ρ 4/\ρ' 5=ρ 5/\ρ' 6=ρ 6/\ρ' 7=ρ 7/\ρ' 13=.fr (lT (kept P)):=by
 obtain⟨d1,r,J,H⟩:=D
 refine⟨upd ρ 13 (.fr (lT (kept P))),?_,rfl,rfl,rfl,rfl,rfl,rfl⟩
 simp[sl,b_law]
 refine cE (List.range P.length) tn (npo P) tn (by exact kIe (by apply jo (congrArg cI F);apply jo (bX (show P.length<=100 from tkn r rfl));rfl)) (fun j q=>?_) (fun j q _=>by simp) ?_
 ·haveI d:j<P.length:=by simpa using q
  simp[y,aW d (show P.length<=100 from tkn r rfl),eT,npo]
  by_cases z:nt P j=.po<;>simp[z]
 ·simp;rfl
noncomputable def Di:List S:=match sl 14 1 with
 | [.ite _ a _]=>a
 |_=>[]
theorem JH{β:Type}{k:Fl->M β}{r:Option (β×List T)}(D:Dr P Q vs)(hk:kept P≠[]){ρ:aE}(h3:ρ 3=.fr (.int P.length))(h4:ρ 4=.fr (gv f1 (P.map (it f1))))(h5:ρ 5=.fr (gv f2 (Q.map (it f2))))(h6:ρ 6=.fr (.list (vs.map T.int)))(h7:ρ 7=.fr (dff f1 f2 P Q vs))(aa:ρ 13=.fr (lT (kept P)))
  (K:∀ρ',ρ' 3=ρ 3->ρ' 4=ρ 4->ρ' 5=ρ 5->ρ' 6=ρ 6->ρ' 7=ρ 7->ρ' 13=ρ 13->k (.nxt ρ') h=r):obd (evB (aA tab (n+8)) ρ Di h) k=r:=by
 obtain⟨d1,d6,dq,dv⟩:=D
 have kl:=l7 P
 have O:∀j∈kept P,j<P.length:=fun j J=>(cS J).1
 haveI ag:=uP n h f1 P vs (tkn d6 rfl) dv (v0 hk)
 refine xEA (AO n h f1 f2 P Q vs d6 dq dv) fun y ab mo=>?_
 have H:y.length<=6:=by have:=ab.length_eq;exact trn (trn (eln this) kl) d6
 have ah:∀j∈y,j<P.length:=fun j J=>O j (ab.mem_iff.mp J)
 haveI dI:cQ .items (dff f1 f2 P Q vs)=some (.list [gv f1 (P.map (it f1)),gv f2 (Q.map (it f2)),vI (vs.map T.int)]):=rfl
 haveI x0:bF (.list [gv f1 (P.map (it f1)),gv f2 (Q.map (it f2)),vI (vs.map T.int)]) (.int 0)=some (gv f1 (P.map (it f1))):=rfl
 haveI x2:bF (.list [gv f1 (P.map (it f1)),gv f2 (Q.map (it f2)),vI (vs.map T.int)]) (.int 2)=some (vI (vs.map T.int)):=rfl
 haveI sI:cQ .items (Ca f1 P vs)=some (.list [gv f1 ((grp f1 P).map (it f1)),vI ((grp f1 P).map (sg P vs))]):=rfl
 haveI y1:bF (.list [gv f1 ((grp f1 P).map (it f1)),vI ((grp f1 P).map (sg P vs))]) (.int 1)=some (vI ((grp f1 P).map (sg P vs))):=rfl
 have ik:fN (lT (kept P))=some ((kept P).map tn):=lY (tkn (trn kl d6) rfl)
 have vx:∀j,j<P.length->bF (.list (vs.map T.int)) (tn j)=some (.int (nt vs j)):=fun j J=>aW (g:=T.int) (tln J (ern dv)) (tkn (trn (eln dv) d6) rfl)
 have px:∀j,j<P.length->bF (.list (P.map (it f1))) (tn j)=some (it f1 (nt P j)):=fun j J=>aW J (tkn d6 rfl)
 haveI qx:∀j,j<P.length->bF (.list (Q.map (it f2))) (tn j)=some (it f2 (nt Q j)):=fun j J=>aW (tln J (ern dq)) (tkn (trn (eln dq) d6) rfl)
 haveI af:oP ((grp f1 P).map (sg P vs)) 0=some (gq vs (kept P)):=by
  have:=jO ((grp f1 P).map fun p=>gq vs (cF P p)) 0
  rw[List.map_map,EP]at this
  rw[show(grp f1 P).map (sg P vs)=(grp f1 P).map (T.int∘fun p=>gq vs (cF P p))from rfl,this]
  congr 1;exact Int.zero_add _
 have ad:∀l:List Nat,oP (l.map fun j=>T.int (nt vs j)) 0=some (gq vs l):=fun l=>by
  have:=jO (l.map (nt vs)) 0
  rw[List.map_map]at this
  rw[show(l.map fun j=>T.int (nt vs j))=l.map (T.int∘nt vs)from rfl,this]
  unfold gq;congr 1;exact Int.zero_add _
 simp[Di,sl,b_law,h7,dI,x0,x2,-dK,show aA tab (n+8) 74 [.list [vI (vs.map T.int)],.list [.str s_s],.list [gv f1 (P.map (it f1))],.list [.str s_g],.fn 79] h=_ from ag,sI,y1,af]
 refine aQ (kept P) tn (fun j=>.int (nt vs j)) (by exact kIe (by apply jo (congrArg cI aa);apply jo (ik);rfl)) (fun j J=>?_) ?_
 ·simp[h6,vx j (O j J)]
 let mg:T:=frm [gv f1 ((y.map (nt P)).map (it f1)),gv f2 ((y.map (nt Q)).map (it f2)),vI (y.map fun j=>.int (nt vs j)),vI (y.map fun j=>sg P vs (nt P j))] AZ (vI (lbs y.length))
 simp[ad,h7,show aA tab (n+8) 69 [dff f1 f2 P Q vs,Ca f1 P vs,.list [.str s_g],.bool false,.bool false,.list [.str pD,.str Fi]] h=some (.fr mg,h)from mo]
 refine bE (kept P) tn (fun d ρ'=>ρ' 3=ρ 3/\ρ' 4=ρ 4/\ρ' 5=ρ 5/\ρ' 6=ρ 6/\ρ' 7=ρ 7/\ρ' 13=ρ 13/\ρ' 15=.fr mg/\ρ' 16=.ol (d.map (t4 f1 f2 P Q vs))) ?_ ?_ ?_ ?_
 ·simp[aa,ik]
 ·simp
 ·rintro d a q ρ' e F;haveI g3:=F.1;haveI g4:=F.2.1;haveI g5:=F.2.2.1;haveI g6:=F.2.2.2.1;haveI g7:=F.2.2.2.2.1;haveI Z:=F.2.2.2.2.2.1;haveI Y:=F.2.2.2.2.2.2.1;haveI ac:=F.2.2.2.2.2.2.2
  rw[h4]at g4
  rw[h5]at g5
  rw[h6]at g6
  rw[aa]at Z
  have ae:a∈kept P:=by rw[e];simp
  have ha:=O a ae
  haveI hd:d.length<lim:=dT (by have:=kR e (Nat.le_refl _);exact tln (tln (tln this kl) d6) (lkn rfl))
  refine⟨upd (upd (upd ρ' 17 (.fr (tn a))) 18 (.fr (.int (gq vs (cF P (nt P a)))))) 16 (.ol (d.map (t4 f1 f2 P Q vs)++[t4 f1 f2 P Q vs a])),.inl ?_,g3,by simp[g4,h4],by simp[g5,h5],by simp[g6,h6],g7,by simp[Z,aa],Y,by simp⟩
  simp
  refine cE (kept P) tn (fun j=>decide (nt P j=nt P a)) (fun j=>.int (nt vs j)) (by simp[Z,ik]) (fun j J=>?_) (fun j J _=>?_) ?_
  ·simp[g4,px j (O j J),px a ha,yI]
   by_cases z:nt P j=nt P a<;>simp[z]
  ·simp[g6,vx j (O j J)]
  ·rw[qJ (cS ae).2]
   simp[ad,g4,g5,g6,ac,px a ha,qx a ha,vx a ha,zy,hd,t4]
 rintro ai F;haveI g3:=F.1;haveI g4:=F.2.1;haveI g5:=F.2.2.1;haveI g6:=F.2.2.2.1;refine xh F.2.2.2.2 fun g7 Z Y ac=>?_
 haveI mI:cQ .items mg=some (.list [gv f1 ((y.map (nt P)).map (it f1)),gv f2 ((y.map (nt Q)).map (it f2)),vI (y.map fun j=>.int (nt vs j)),vI (y.map fun j=>sg P vs (nt P j))]):=rfl
 have m0:bF (.list [gv f1 ((y.map (nt P)).map (it f1)),gv f2 ((y.map (nt Q)).map (it f2)),vI (y.map fun j=>.int (nt vs j)),vI (y.map fun j=>sg P vs (nt P j))]) (.int 0)=some (gv f1 ((y.map (nt P)).map (it f1))):=rfl
 haveI m1:bF (.list [gv f1 ((y.map (nt P)).map (it f1)),gv f2 ((y.map (nt Q)).map (it f2)),vI (y.map fun j=>.int (nt vs j)),vI (y.map fun j=>sg P vs (nt P j))]) (.int 1)=some (gv f2 ((y.map (nt Q)).map (it f2))):=rfl
 haveI m2:bF (.list [gv f1 ((y.map (nt P)).map (it f1)),gv f2 ((y.map (nt Q)).map (it f2)),vI (y.map fun j=>.int (nt vs j)),vI (y.map fun j=>sg P vs (nt P j))]) (.int 2)=some (vI (y.map fun j=>.int (nt vs j))):=rfl
 haveI m3:bF (.list [gv f1 ((y.map (nt P)).map (it f1)),gv f2 ((y.map (nt Q)).map (it f2)),vI (y.map fun j=>.int (nt vs j)),vI (y.map fun j=>sg P vs (nt P j))]) (.int 3)=some (vI (y.map fun j=>sg P vs (nt P j))):=rfl
 haveI ml:cL (.list ((y.map (nt P)).map (it f1)))=some y.length:=by rw[bK (by simp;exact tkn H rfl)];simp
 haveI mA:cQ .attrs mg=some (frA AZ (vI (lbs y.length))):=rfl
 haveI eg:eqT (.list AZ) (.list [.str s_g,.str s_h,.str s_v,.str s_s])=some true:=by kernel_rfl!
 simp
 refine aQ (List.range y.length) tn (fun i=>t4 f1 f2 P Q vs (nt y i)) (by simp[Y,mI,m0,ml,-dK,bX (show y.length<=100 from tkn H rfl),-List.map_map]) (fun k hk=>?_) ?_
 ·have L:k<y.length:=by simpa using hk
  haveI w0:bF (.list ((y.map (nt P)).map (it f1))) (tn k)=some (it f1 (nt P (nt y k))):=by rw[aW (by simpa using L) (by simp;exact tkn H rfl),eL _ L]
  haveI w1:bF (.list ((y.map (nt Q)).map (it f2))) (tn k)=some (it f2 (nt Q (nt y k))):=by rw[aW (by simpa using L) (by simp;exact tkn H rfl),eL _ L]
  haveI w2:bF (.list (y.map fun j=>T.int (nt vs j))) (tn k)=some (.int (nt vs (nt y k))):=aW (g:=fun j=>T.int (nt vs j)) L (tkn H rfl)
  haveI w3:bF (.list (y.map fun j=>sg P vs (nt P j))) (tn k)=some (sg P vs (nt P (nt y k))):=aW (g:=fun j=>sg P vs (nt P j)) L (tkn H rfl)
  simp[Y,mI,m0,m1,m2,m3,w0,w1,w2,w3,-dK,zy,-List.map_map]
  rfl
 rw[nP (fun j=>t4 f1 f2 P Q vs j) y]
 haveI sp:ip ((kept P).map (t4 f1 f2 P Q vs))=ip (y.map (t4 f1 f2 P Q vs)):=As (ab.symm.map _) fun t ht=>by
  refine xEA (List.mem_map.mp ht) fun j _ W=>?_;obtain rfl:=W
  exact HN j
 haveI se:eqT (.list (ip (y.map (t4 f1 f2 P Q vs)))) (.list (ip (y.map (t4 f1 f2 P Q vs))))=some true:=qT fun t ht=>by
  refine xEA (List.mem_map.mp ((gr _).mem_iff.mp ht)) fun j _ W=>?_;obtain rfl:=W
  rfl
 simp[Y,ac,mA,eg,GY y H,GY (kept P) (trn kl d6),sp,se]
 exact K _ (g3) (g4) (g5) (g6) (g7) (Z)
end
section
variable{L1 L2 P Q:List Pk}{m:Nat}
structure Tb(L1 L2 P Q:List Pk)(m:Nat):Prop where
 mP:P.length=m
 mQ:Q.length=m
 n1:L1.Nodup
 n2:L2.Nodup
 g1:∀p∈P,p≠.po->p∈L1
 g2:∀p∈Q,p≠.po->p∈L2
 o1: .po∉L1
 l1:L1.length<=3
 l2:L2.length<=3
theorem k6{p q:Nat->Bool}{l:List Nat}(h:∀j∈l,p j=q j):((l.filter p).length:Int)=((l.filter q).length:Int):=by rw[List.filter_congr h]
theorem Tb.sym(t:Tb L1 L2 P Q m){u v:Nat}(y:u<L1.length)(r:v<L2.length):cnt L1 L2 P Q (List.range m) (v*L1.length+u)=cnt L2 L1 Q P (List.range m) (u*L2.length+v):=by
 unfold cnt
 refine k6 fun j q=>?_
 haveI q:j<m:=by simpa using q
 apply decide_eq_decide.mpr
 rw[uj (fun z=>t.g1 _ (bR (by rw[t.mP];exact q)) z) y,uj (fun z=>t.g2 _ (bR (by rw[t.mQ];exact q)) z) r]
 exact⟨fun⟨a,b,c,d⟩=>⟨b,a,d,c⟩,fun⟨a,b,c,d⟩=>⟨b,a,d,c⟩⟩
noncomputable def Az(L1 P Q:List Pk)(u j:Nat):Bool:=decide (nt P j=nt L1 u)&&npo Q j
theorem Tb.row(t:Tb L1 L2 P Q m){u:Nat}(y:u<L1.length):(((List.range L2.length).map fun v=>cnt L1 L2 P Q (List.range m) (v*L1.length+u))).sum=(((List.range m).filter (Az L1 P Q u)).length:Int):=by
 haveI J:((List.range L2.length).map fun v=>v*L1.length+u).Nodup:=by
  unfold List.Nodup
  rw[List.pairwise_map]
  refine List.nodup_range.imp fun{a b} H e=>H ?_
  haveI:a*L1.length=b*L1.length:=by lia
  exact Nat.eq_of_mul_eq_mul_right (by lia) this
 haveI:=z5 L1 L2 P Q _ J (List.range m)
 rw[List.map_map]at this
 refine Eq.trans this ?_
 refine k6 fun j F=>?_
 haveI F:j<m:=(List.mem_range.mp F)
 haveI m1:=fun z=>t.g1 _ (bR (show j<P.length by rw[t.mP];exact F)) z
 haveI m2:=fun z=>t.g2 _ (bR (show j<Q.length by rw[t.mQ];exact F)) z
 rw[Bool.eq_iff_iff]
 unfold Az npo
 simp only[decide_eq_true_eq,Bool.and_eq_true,List.mem_map,List.mem_range]
 constructor
 ·intro q;refine xEA q fun k r e=>?_;obtain⟨v,O,rfl⟩:=r
  haveI q:=(uj m1 y).mp e;haveI a:=q.1;haveI b:=q.2.1;haveI c:=q.2.2.1;haveI d:=q.2.2.2
  refine⟨?_,b⟩
  rw[<-c];exact(eN (m1 a)).2.symm
 ·rintro q;haveI a:=q.1;haveI b:=q.2
  haveI L:nt P j≠.po:=fun e=>t.o1 (by rw[<-e,a];exact bR y)
  exact⟨_,⟨L2.idxOf (nt Q j),(eN (m2 b)).1,rfl⟩,(uj m1 y).mpr ⟨L,b,by rw[a];exact t8 t.n1 y,rfl⟩⟩
theorem Tb.tot(t:Tb L1 L2 P Q m):((List.range (L1.length*L2.length)).map (cnt L1 L2 P Q (List.range m))).sum=(((kept P).filter (npo Q)).length:Int):=by
 rw[z5 _ _ _ _ _ List.nodup_range]
 unfold kept
 rw[List.filter_filter,t.mP]
 refine k6 fun j r=>?_
 haveI r:j<m:=by simpa using r
 haveI m1:=fun z=>t.g1 _ (bR (show j<P.length by rw[t.mP];exact r)) z
 haveI m2:=fun z=>t.g2 _ (bR (show j<Q.length by rw[t.mQ];exact r)) z
 rw[Bool.eq_iff_iff]
 unfold npo
 simp only[decide_eq_true_eq,Bool.and_eq_true,List.mem_range]
 constructor
 ·intro d;refine xEA d fun k H e=>?_
  unfold hit at e
  split at e
  ·cases e
  ·rename_i z;exact⟨fun q=>z (.inr q),fun q=>z (.inl q)⟩
 ·intro d;refine xA d fun a b=>?_
  haveI F:=(eN (m1 b)).1
  haveI y:=(eN (m2 a)).1
  exact⟨L2.idxOf (nt Q j)*L1.length+L1.idxOf (nt P j),qz F y,by unfold hit;rw[if_neg (by rintro(q|q);exact b q;exact a q)]⟩
end
theorem Io(f1 f2:Fm){P Q:List Pk}(h:Q.length=P.length):Tb (lev f1 P) (lev f2 Q) P Q P.length where
 mP:=rfl
 mQ:=h
 n1:=sU _ _
 n2:=sU _ _
 g1:=fun _ d q=>pH q d
 g2:=fun _ d q=>pH q d
 o1:=by
  cases f1<;>first|exact fun z=>(grp_mem.mp z).1 rfl|simp[lev,ord]
 l1:=pI _ _
 l2:=pI _ _
theorem FG{f:Fm}{p q:Pk}(d:p≠.po):bG (it f p)=bG (it f q)↔p=q:=by
 refine⟨fun e=>?_,fun e=>by rw[e]⟩
 exact of_decide_eq_true (fpq (P:=fun f p q=>decide (p≠.po->bG (it f p)=bG (it f q)->p=q)) (by decide +kernel) f p q) d e
theorem DU(f:Fm):∀(N D:List Pk),.po∉D->.po∉N->cZ (D.map (it f)) (N.map (it f))=(N.foldl pv D).map (it f):=by
 intro J
 induction J with
 |nil=>
  rintro D _ _
  exact rfl
 |cons p N y=>
  rintro D r H
  haveI F:p≠.po:=fun e=>H (by simp[e])
  haveI d: .po∉N:=fun e=>H (by simp[e])
  show(if(D.map (it f)).any (fun a=>decide (bG a=bG (it f p)))then _ else _)=_
  rw[List.foldl_cons]
  haveI e:(D.map (it f)).any (fun a=>decide (bG a=bG (it f p)))=decide (p∈D):=by
   rw[Bool.eq_iff_iff]
   simp only[List.any_map,List.any_eq_true,Function.comp,decide_eq_true_eq]
   constructor
   ·intro q;refine xEA q fun x hx e=>?_
    haveI:=(FG (fun z=>r (z▸hx))).mp e
    exact this▸hx
   ·exact fun h=>⟨p,h,rfl⟩
  rw[e]
  unfold pv
  by_cases z:p∈D
  ·rw[if_pos (by simpa using z),if_neg (by simp[z])]
   exact y D r d
  ·rw[if_neg (by simpa using z),if_pos ⟨F,z⟩]
   haveI:=y (D++[p]) (by simp[r];exact fun e=>F e.symm) d
   rw[List.map_append]at this
   exact this
theorem AY{f:Fm}(r:f≠.ff){P:List Pk}(L:P.length<=6):Cp ((P.filter fun p=>decide (p≠.po)).map (it f))=true/\((pU ((P.filter fun p=>decide (p≠.po)).map (it f))).bind fun F=>(dD F).map T.list)=some (.list ((grp f P).map (it f))):=by
 have q: .po∉P.filter fun p=>decide (p≠.po):=by simp
 generalize y:(P.filter fun p=>decide (p≠.po))=N at q⊢
 have J:∀p,p∈N↔p≠.po/\p∈P:=fun p=>by rw[<-y];simp[and_comm]
 have H:N.length<=6:=by have:=List.length_filter_le (fun p=>decide (p≠.po)) P;rw[y]at this;exact trn this L
 have k:(iW (N.map (it f))||fY (N.map (it f)))=true:=by
  cases f with
  |ff=>exact(r rfl).elim
  |fi=>
   have:iW (N.map (it .fi))=true:=by
    unfold iW;rw[List.all_map,List.all_eq_true]
    intro p d
    cases p<;>first|rfl|exact(q d).elim
   rw[this];rfl
  |fs=>
   have:fY (N.map (it .fs))=true:=by
    unfold fY;rw[List.all_map,List.all_eq_true]
    intro p d
    cases p<;>first|rfl|exact(q d).elim
   rw[this];simp
 constructor
 ·unfold Cp
  cases f with
  |ff=>exact(r rfl).elim
  |fi=>
   rw[Bool.or_eq_true];right
   rw[List.all_map,List.all_eq_true]
   intro p d
   cases p<;>first|rfl|exact(q d).elim
  |fs=>
   have:fY (N.map (it .fs))=true:=by
    unfold fY;rw[List.all_map,List.all_eq_true]
    intro p d
    cases p<;>first|rfl|exact(q d).elim
   rw[this];rfl
 ·have e:=DU f N [] (by simp) q
  have s:=Ck f (fw N) (fun z=>((eY _ _).mp z).1 rfl)
  have g:((ord f).filter fun p=>decide (p∈ddp N))=grp f P:=by
   unfold grp
   apply List.filter_congr
   intro p d
   have:p≠.po:=by cases f<;>(simp[ord]at d;rcases d with rfl|rfl|rfl<;>decide)
   exact decide_eq_decide.mpr (by rw[eY,J];simp[this])
  rw[g]at s
  unfold pU
  rw[decide_eq_true (by rw[List.length_map];exact H),k]
  show((some (cZ ([].map (it f)) (N.map (it f)))).bind _)=_
  rw[e,Option.bind_some,show N.foldl pv []=ddp N from rfl,s];rfl
noncomputable def P1(r c:Nat):T:=vI [.int r,.int c]
section
variable{n:Nat}{h:List T}{f1 f2:Fm}{P Q:List Pk}{vs:List Int}
theorem on(i q d:List T):cQ .items (arr i q d)=some (.list i):=rfl
noncomputable def Jd(L1 L2:List Pk)(g1 g2:Pk->T):T:=.dict [.s kf,.s gA] [vI [.int L1.length,.int L2.length],.vec fQ (.list [vC (L1.map g1),vC (L2.map g2)]) .none]
theorem Bu(i:List T)(q d:List Pk)(g1 g2:Pk->T):cQ .attrs (arr i (q.map g1) (d.map g2))=some (Jd q d g1 g2):=by
 unfold arr Jd;simp
theorem Ev(q d:List Pk)(g1 g2:Pk->T):bF (Jd q d g1 g2) (.str kf)=some (vI [.int q.length,.int d.length]):=rfl
theorem ti{r q P Q:List Pk}{d:List Nat}{k:Nat}(y:k<r.length*q.length)(z:r.length*q.length<=9):bF (.list (tbl r q P Q d)) (tn k)=some (.int (cnt r q P Q d k)):=by
 haveI:=aW (l:=List.range (r.length*q.length)) (g:=fun k=>T.int (cnt r q P Q d k)) (j:=k) (by simpa using y) (by simp;exact tkn z rfl)
 rw[show nt (List.range (r.length*q.length)) k=k by simp[nt,y]]at this
 exact this
theorem Em {a b:Nat} (q:a<=100) (d:b<=100):hZ .mul (tn a) (.int (b:Int))=some (.int ((a:Int)*(b:Int))):=by
 simp -implicitDefEqProofs only[tn,y4];exact x8 q d
theorem Ht(a b c:Nat):hZ .add (.int ((a:Int)*(b:Int))) (tn c)=some (tn (a*b+c)):=by
 show some (T.int _)=some (T.int _)
 rw[Int.natCast_add,Int.natCast_mul]
theorem B9{z y:List Pk}(t:Tb z y P Q P.length){g1 g2 am al:Pk->T}{C:Nat->List T->M LV}{ρ:aE}
  (ak:ρ 20=.fr (arr (tbl z y P Q (List.range P.length)) (z.map g1) (y.map g2))) (ab:ρ 21=.fr (.int z.length)) (aa:ρ 22=.fr (.int y.length)) (aj:ρ 23=.fr (arr (tbl y z Q P (List.range P.length)) (y.map al) (z.map am))):
  ∃ρ',evS C ρ (.for1 24 (.range [.var 21]) [.for1 25 (.range [.var 22]) [.ite (.ne (.idx (.attr (.var 20) .items) (.bin .add (.bin .mul (.var 25) (.var 21)) (.var 24))) (.idx (.attr (.var 23) .items) (.bin .add (.bin .mul (.var 24) (.var 22)) (.var 25)))) [.stuck] []]]) h=some (.nxt ρ',h)/\(ρ' 3=ρ 3/\ρ' 4=ρ 4/\ρ' 5=ρ 5/\ρ' 13=ρ 13/\ρ' 20=ρ 20/\ρ' 21=ρ 21/\ρ' 22=ρ 22):=by
 haveI H:=t.l1
 haveI F:=t.l2
 haveI m9:z.length*y.length<=9:=Nat.mul_le_mul H F
 haveI ai:y.length*z.length<=9:=Nat.mul_le_mul F H
 haveI r1:=bX (show z.length<=100 from tkn H rfl)
 haveI r2:=bX (show y.length<=100 from tkn F rfl)
 haveI Z:∃ρ',evS C ρ (.for1 24 (.range [.var 21]) [.for1 25 (.range [.var 22]) [.ite (.ne (.idx (.attr (.var 20) .items) (.bin .add (.bin .mul (.var 25) (.var 21)) (.var 24))) (.idx (.attr (.var 23) .items) (.bin .add (.bin .mul (.var 24) (.var 22)) (.var 25)))) [.stuck] []]]) h=some (.nxt ρ',h)/\(ρ' 3=ρ 3/\ρ' 4=ρ 4/\ρ' 5=ρ 5/\ρ' 13=ρ 13/\ρ' 20=ρ 20/\ρ' 21=ρ 21/\ρ' 22=ρ 22/\ρ' 23=ρ 23):=by
  refine jV (List.range z.length) tn (fun d ρ'=>ρ' 3=ρ 3/\ρ' 4=ρ 4/\ρ' 5=ρ 5/\ρ' 13=ρ 13/\ρ' 20=ρ 20/\ρ' 21=ρ 21/\ρ' 22=ρ 22/\ρ' 23=ρ 23) (by exact kIe (by apply jo (congrArg cI ab);apply jo (r1);rfl)) ⟨rfl,rfl,rfl,rfl,rfl,rfl,rfl,rfl⟩ ?_
  rintro p u q ah e r;haveI a3:=r.1;haveI a4:=r.2.1;haveI a5:=r.2.2.1;haveI Y:=r.2.2.2.1;haveI W:=r.2.2.2.2.1;haveI O:=r.2.2.2.2.2.1;haveI J:=r.2.2.2.2.2.2.1;haveI ao:=r.2.2.2.2.2.2.2
  haveI r:=dH e;haveI hu:=r.1
  obtain⟨L,e2,i2⟩:=jV (C:=C) (ρ:=upd ah 24 (.fr (tn u))) (i:=25) (it:=.range [.var 22]) (h:=h) (b:=[.ite (.ne (.idx (.attr (.var 20) .items) (.bin .add (.bin .mul (.var 25) (.var 21)) (.var 24))) (.idx (.attr (.var 23) .items) (.bin .add (.bin .mul (.var 24) (.var 22)) (.var 25)))) [.stuck] []])
   (List.range y.length) tn (fun d ρ'=>(ρ' 3=ρ 3/\ρ' 4=ρ 4/\ρ' 5=ρ 5/\ρ' 13=ρ 13/\ρ' 20=ρ 20/\ρ' 21=ρ 21/\ρ' 22=ρ 22/\ρ' 23=ρ 23)/\ρ' 24=.fr (tn u)) (by simp[J,aa,r2]) (by simp[a3,a4,a5,Y,W,O,J,ao]) (by
    rintro p v q L e r;refine BK r.1 fun b3 b4 b5 an ag af ae ad=>?_;haveI ac:=r.2
    haveI r:=dH e;haveI hv:=r.1
    refine⟨upd L 25 (.fr (tn v)),.inl ?_,by simp[b3,b4,b5,an,ag,af,ae,ad,ac]⟩
    haveI i1:bF (.list (tbl z y P Q (List.range P.length))) (tn (v*z.length+u))=some (.int (cnt z y P Q (List.range P.length) (v*z.length+u))):=ti (qz hu hv) m9
    haveI i2:bF (.list (tbl y z Q P (List.range P.length))) (tn (u*y.length+v))=some (.int (cnt y z Q P (List.range P.length) (u*y.length+v))):=ti (qz hv hu) ai
    rw[<-t.sym hu hv]at i2
    simp -implicitDefEqProofs [ag,af,ae,ad,ac,ak,ab,aa,aj,on,Em (show v<=100 from tnn (tln r.1 F) rfl) (show z.length<=100 from tkn H rfl),Em (show u<=100 from tnn (tln hu H) rfl) (show y.length<=100 from tkn F rfl),Ht,i1,i2])
  refine⟨L,.inl ?_,i2.1⟩
  simp[e2]
 refine xg Z fun ρ' e a3 a4 a5 Y W O J _=>?_
 exact⟨ρ',e,a3,a4,a5,Y,W,O,J⟩
theorem CD{r y:List Pk}(d6:P.length<=6)(t:Tb r y P Q P.length){g1 g2:Pk->T}{C:Nat->List T->M LV}{ρ:aE}{l26:List T}
  (h3:ρ 3=.fr (.int P.length)) (h4:ρ 4=.fr (gv f1 (P.map (it f1)))) (h5:ρ 5=.fr (gv f2 (Q.map (it f2)))) (ak:ρ 26=.fr (.list l26))
  (ai:ρ 20=.fr (arr (tbl r y P Q (List.range P.length)) (r.map g1) (y.map g2))) (aa:ρ 21=.fr (.int r.length)) (ah:ρ 22=.fr (.int y.length))
  (hi:∀u,u<r.length->∀ρ':aE,ρ' 4=ρ 4->ρ' 26=ρ 26->ρ' 24=.fr (tn u)->evX C ρ' (.ite (.notNone (.attr (.var 4) .attrs)) (.bin .add (.var 24) (.int 1)) (.idx (.var 26) (.var 24))) h=some (it f1 (nt r u),h)):
  ∃ρ',evS C ρ (.for1 24 (.range [.var 21]) [.asg 27 (.ite (.notNone (.attr (.var 4) .attrs)) (.bin .add (.var 24) (.int 1)) (.idx (.var 26) (.var 24))),.asg 16 (.len (.comp 38 (.range [.var 3]) [.and [.eq (.idx (.attr (.var 4) .items) (.var 38)) (.var 27),.notNone (.idx (.attr (.var 5) .items) (.var 38))]] (.var 38))),.ite (.ne (.sum (.comp 39 (.range [.var 22]) [] (.idx (.attr (.var 20) .items) (.bin .add (.bin .mul (.var 39) (.var 21)) (.var 24))))) (.var 16)) [.stuck] []]) h=some (.nxt ρ',h)/\(ρ' 5=ρ 5/\ρ' 13=ρ 13/\ρ' 20=ρ 20):=by
 haveI W:=t.l1
 haveI O:=t.l2
 haveI m9:r.length*y.length<=9:=Nat.mul_le_mul W O
 haveI r1:=bX (show r.length<=100 from tkn W rfl)
 haveI r2:=bX (show y.length<=100 from tkn O rfl)
 haveI Z:∃ρ',evS C ρ (.for1 24 (.range [.var 21]) [.asg 27 (.ite (.notNone (.attr (.var 4) .attrs)) (.bin .add (.var 24) (.int 1)) (.idx (.var 26) (.var 24))),.asg 16 (.len (.comp 38 (.range [.var 3]) [.and [.eq (.idx (.attr (.var 4) .items) (.var 38)) (.var 27),.notNone (.idx (.attr (.var 5) .items) (.var 38))]] (.var 38))),.ite (.ne (.sum (.comp 39 (.range [.var 22]) [] (.idx (.attr (.var 20) .items) (.bin .add (.bin .mul (.var 39) (.var 21)) (.var 24))))) (.var 16)) [.stuck] []]) h=some (.nxt ρ',h)/\(ρ' 3=ρ 3/\ρ' 4=ρ 4/\ρ' 5=ρ 5/\ρ' 13=ρ 13/\ρ' 20=ρ 20/\ρ' 21=ρ 21/\ρ' 22=ρ 22/\ρ' 26=ρ 26):=by
  refine jV (List.range r.length) tn (fun d ρ'=>ρ' 3=ρ 3/\ρ' 4=ρ 4/\ρ' 5=ρ 5/\ρ' 13=ρ 13/\ρ' 20=ρ 20/\ρ' 21=ρ 21/\ρ' 22=ρ 22/\ρ' 26=ρ 26) (by simp[aa,r1]) ⟨rfl,rfl,rfl,rfl,rfl,rfl,rfl,rfl⟩ ?_
  rintro p u q L e z;haveI a3:=z.1;haveI a4:=z.2.1;haveI a5:=z.2.2.1;haveI Y:=z.2.2.2.1;haveI J:=z.2.2.2.2.1;refine xAA z.2.2.2.2.2 fun af ae ad=>?_
  haveI z:=dH e;haveI hu:=z.1
  haveI aj:=hi u hu (upd L 24 (.fr (tn u))) (a4) (ad) (rfl)
  let F:=(List.range P.length).filter (Az r P Q u)
  haveI fl:F.length<=6:=Nat.le_trans (List.length_filter_le _ _) (by simpa using d6)
  refine⟨upd (upd (upd L 24 (.fr (tn u))) 27 (.fr (it f1 (nt r u)))) 16 (.fr (.int F.length)),.inl ?_,a3,a4,a5,Y,J,af,ae,ad⟩
  rw[DN,Gl]
  refine eX (a:=.nxt (upd (upd L 24 (.fr (tn u))) 27 (.fr (it f1 (nt r u))))) (h:=h) (eX aj rfl) ?_
  simp
  refine cE (List.range P.length) tn (Az r P Q u) tn (by simp[a3,h3,bX (show P.length<=100 from tkn d6 rfl)]) (fun j hj=>?_) (fun j hj _=>rfl) ?_
  ·haveI ac:j<P.length:=by simpa using hj
   haveI px:=aW (l:=P) (g:=it f1) ac (tkn d6 rfl)
   haveI qx:=aW (l:=Q) (g:=it f2) (j:=j) (by rw[t.mQ];exact ac) (by rw[t.mQ];exact tkn d6 rfl)
   simp[a4,a5,h4,h5,px,qx,yI,eT,Az,npo]
   by_cases z1:nt P j=nt r u
   ·by_cases z2:nt Q j=.po<;>simp[z1,z2,qx,eT]
   ·simp[z1]
  rw[show(List.range P.length).filter (Az r P Q u)=F from rfl]
  simp[bK (show(F.map tn).length<=100 by simp;exact tkn fl rfl)]
  refine aQ (List.range y.length) tn (fun v=>.int (cnt r y P Q (List.range P.length) (v*r.length+u))) (by simp[ae,ah,r2]) (fun v hv=>?_) ?_
  ·haveI ab:v<y.length:=by simpa using hv
   haveI i1:bF (.list (tbl r y P Q (List.range P.length))) (tn (v*r.length+u))=some (.int (cnt r y P Q (List.range P.length) (v*r.length+u))):=ti (qz hu ab) m9
   simp -implicitDefEqProofs [J,af,ai,aa,on,Em (show v<=100 from tnn (tln ab O) rfl) (show r.length<=100 from tkn W rfl),Ht,i1]
  ·haveI su:=jO ((List.range y.length).map fun v=>cnt r y P Q (List.range P.length) (v*r.length+u)) 0
   rw[List.map_map,t.row hu]at su
   haveI ag:oP ((List.range y.length).map fun v=>T.int (cnt r y P Q (List.range P.length) (v*r.length+u))) 0=some (F.length:Int):=by
    rw[show((List.range y.length).map fun v=>T.int (cnt r y P Q (List.range P.length) (v*r.length+u)))=(List.range y.length).map (T.int∘fun v=>cnt r y P Q (List.range P.length) (v*r.length+u))from rfl,su]
    congr 1
    show(0:Int)+(F.length:Int)=_
    exact Int.zero_add _
   simp[ag]
 refine xE Z fun ρ' H=>?_;haveI e:=H.1;haveI a5:=H.2.2.2.1;haveI Y:=H.2.2.2.2.1;haveI J:=H.2.2.2.2.2.1
 exact⟨ρ',e,a5,Y,J⟩
theorem NA(D:Dr P Q vs){ρ:aE}(h4:ρ 4=.fr (gv f1 (P.map (it f1))))(h5:ρ 5=.fr (gv f2 (Q.map (it f2))))(h3:ρ 3=.fr (.int P.length))(h7:ρ 7=.fr (dff f1 f2 P Q vs))(al:ρ 13=.fr (lT (kept P)))
  {d q:List Pk} (t:Tb d q P Q P.length) {g1 g2 ae ad:Pk->T}
  (c1:aA tab (n+8) 76 [gv f1 (P.map (it f1)),gv f2 (Q.map (it f2))] h=some (.fr (arr (tbl d q P Q (List.range P.length)) (d.map g1) (q.map g2)),h))
  (c2:aA tab (n+8) 76 [gv f2 (Q.map (it f2)),gv f1 (P.map (it f1))] h=some (.fr (arr (tbl q d Q P (List.range P.length)) (q.map ad) (d.map ae)),h))
  (hL:f1=.ff->d=ord .ff) (hG:f1≠.ff->d=grp f1 P):
  evB (aA tab (n+8)) ρ (sl 15 9) h=some (.ret (.fr (.bool true)),h):=by
 obtain⟨d1,d6,dq,dv⟩:=D
 have ak:=t.l1
 haveI an:=t.l2
 haveI dI:cQ .items (dff f1 f2 P Q vs)=some (.list [gv f1 (P.map (it f1)),gv f2 (Q.map (it f2)),vI (vs.map T.int)]):=rfl
 haveI x0:bF (.list [gv f1 (P.map (it f1)),gv f2 (Q.map (it f2)),vI (vs.map T.int)]) (.int 0)=some (gv f1 (P.map (it f1))):=rfl
 haveI x1:bF (.list [gv f1 (P.map (it f1)),gv f2 (Q.map (it f2)),vI (vs.map T.int)]) (.int 1)=some (gv f2 (Q.map (it f2))):=rfl
 haveI ed:eqT (.list [.int q.length,.int d.length]) (.list [.int q.length,.int d.length])=some true:=qT (by simp only[List.mem_cons,List.not_mem_nil,or_false];rintro t (rfl|rfl)<;>rfl)
 haveI kl:=l7 P
 simp[sl,b_law,h7,dI,x0,x1,-dK,c1,c2,Bu,Ev,ed]
 refine sy (B9 (h:=h) t (C:=aA tab (n+8)) (ρ:=upd (upd (upd (upd ρ 20 (.fr (arr (tbl d q P Q (List.range P.length)) (d.map g1) (q.map g2)))) 21 (.fr (.int d.length))) 22 (.fr (.int q.length))) 23 (.fr (arr (tbl q d Q P (List.range P.length)) (q.map ad) (d.map ae)))) (by simp;rfl) (by simp) (by simp) (by simp;rfl)) fun aa e1 a3 J a5 Z Y W ah=>?_
 refine eX e1 ?_
 simp at a3 J a5 Z Y W ah
 rw[h3]at a3
 rw[h4]at J
 rw[h5]at a5
 rw[al]at Z
 have H:∀(r:List T) (F:aE),r.length=d.length->F=upd aa 26 (.fr (.list r))->
   (∀u,u<d.length->∀y:aE,y 4=F 4->y 26=F 26->y 24=.fr (tn u)->evX (aA tab (n+8)) y (.ite (.notNone (.attr (.var 4) .attrs)) (.bin .add (.var 24) (.int 1)) (.idx (.var 26) (.var 24))) h=some (it f1 (nt d u),h))->
   evB (aA tab (n+8)) F (sl 21 3) h=some (.ret (.fr (.bool true)),h):=by
  rintro r F hl rfl hi
  haveI ab:cL (.list r)=some d.length:=by rw[bK (tkn (trn (eln hl) ak) rfl),hl]
  refine sA (CD (f1:=f1) (f2:=f2) (h:=h) d6 t (C:=aA tab (n+8)) (ρ:=upd aa 26 (.fr (.list r))) (l26:=r) (by simp[a3]) (by simp[J]) (by simp[a5]) (rfl) (by simp[Y];rfl) (W) (by simp[ah]) hi) fun am e3 b5 ag af=>?_
  simp at b5 ag af
  simp[sl,b_law,W,ab]
  refine eX e3 ?_
  haveI su:=jO ((List.range (d.length*q.length)).map (cnt d q P Q (List.range P.length))) 0
  rw[List.map_map,t.tot]at su
  haveI ai:oP (tbl d q P Q (List.range P.length)) 0=some (((kept P).filter (npo Q)).length:Int):=by
   rw[show tbl d q P Q (List.range P.length)=(List.range (d.length*q.length)).map (T.int∘cnt d q P Q (List.range P.length))from rfl,su]
   congr 1;exact Int.zero_add _
  simp[af,Y,on,ai]
  refine cE (kept P) tn (npo Q) tn (by simp[ag,Z,lY,show(kept P).length<=100 by lia]) (fun j hj=>?_) (fun j hj _=>by simp) ?_
  ·haveI qx:=aW (l:=Q) (g:=it f2) (j:=j) (by rw[dq];exact(cS hj).1) (tkn (trn (eln dq) d6) rfl)
   simp[b5,a5,qx,eT,npo]
   by_cases z:nt Q j=.po<;>simp[z]
  ·haveI:((kept P).filter (npo Q)).length<=100:=Nat.le_trans (List.length_filter_le _ _) (tkn (trn kl d6) rfl)
   simp[bK (show(((kept P).filter (npo Q)).map tn).length<=100 by rw[List.length_map];exact this)]
 by_cases hf:f1=.ff
 ·cases hf
  haveI bm:hZ .mul (.list [.str bU]) (.int 3)=some (.list [.str bU,.str bU,.str bU]):=by kernel_rfl!
  have l3:d.length=3:=by rw[hL rfl];rfl
  haveI:=H [.str bU,.str bU,.str bU] _ (by rw[l3];rfl) rfl fun u hu y q4 L O=>by
   haveI aj:u=0\/u=1\/u=2:=by lia
   rw[hL rfl]
   simp[q4,L,O,J,show aZ (ats .ff)=false from rfl]
   rcases aj with rfl|rfl|rfl<;>kernel_rfl!
  simp[sl,b_law]at this
  simp[J,show aZ (ats .ff)=false from rfl,bm]
  exact this
 ·have hn:aZ (ats f1)=true:=by cases f1<;>first|rfl|exact(hf rfl).elim
  have ac:=AY hf d6
  have:=H ((grp f1 P).map (it f1)) _ (by rw[hG hf];simp) rfl fun u hu y q4 L O=>by
   rw[hG hf]at hu⊢
   haveI gx:=aW (l:=grp f1 P) (g:=it f1) hu (by haveI:=iM f1 P;exact tkn this rfl)
   simp[q4,L,O,J,hn,gx]
  simp[J,hn]
  refine cE P (it f1) (fun p=>decide (p≠.po)) (it f1) (by exact kIe (by apply jo (congrArg cI J);apply jo (cH (by simp;exact tkn d6 rfl));rfl)) (fun p hp=>?_) (fun p hp _=>by simp) ?_
  ·simp[eT]
   by_cases z:p=.po<;>simp[z]
  ·simp only[Ka,Fs,ac.1,ac.2,Ke,FA,CS]
   simp[sl,b_law]at this
   simp
   exact this
end
theorem ND(n:Nat)(q:List Int)(J:q.length<=63):
  ∃(f1 f2:Fm) (P Q:List Pk) (vs:List Int) (h:List T) (ρ:aE),evB (aA tab (n+8)) (aS [.list (q.map T.int)]) (sl 0 6) []=some (.nxt ρ,h)/\Dr P Q vs/\ρ 3=.fr (.int P.length)/\ρ 4=.fr (gv f1 (P.map (it f1)))/\ρ 5=.fr (gv f2 (Q.map (it f2)))/\ρ 6=.fr (.list (vs.map T.int)):=by
 haveI W:=jO q 0
 rw[Int.zero_add]at W
 haveI b1:=x9 (a:=q.sum) (show(0:Int)<100003 by lia) (by lia)
 obtain⟨k1,k2⟩:=uo (a:=q.sum) (show(0:Int)<100003 by lia)
 haveI b2:=zK k1 (by lia) (show(0:Int)<=7 by lia) (by lia)
 haveI H:HS (hs q 0 0 (q.sum.fmod 100003*7)):=⟨q,0,0,_,rfl,Nat.zero_le _,J,Int.natCast_nonneg _,by lia,by lia⟩
 obtain⟨d,h1,e1,hd,H1⟩:=pE (n+7) (show(1:Int)<=6 by lia) (by lia) H
 haveI z:d+1<=6:=by lia
 refine s7 (we (n+6) (show d+1<=100 from tkn z rfl) H1) fun f1 P Y O y H2=>?_
 refine s7 (we (n+6) (show d+1<=100 from tkn z rfl) H2) fun f2 Q h3 L lQ H3=>?_
 haveI t1:hZ .add (.int 1) (tn d)=some (tn (d+1)):=by
  show some (T.int (1+(d:Int)))=_
  unfold tn;congr 2;push_cast;exact Int.add_comm ..
 haveI F:nC (.int 63)=some 63:=by kernel_rfl!
 haveI tk:(q.map T.int).take 63=q.map T.int:=List.take_of_length_le (by simpa using J)
 let r:aE:=upd (upd (upd (upd (upd (aS [.list (q.map T.int)]) 1 (.fr (.list (q.map T.int)))) 2 (.fr .hand)) 3 (.fr (tn (d+1)))) 4 (.fr (gv f1 (P.map (it f1))))) 5 (.fr (gv f2 (Q.map (it f2))))
 obtain⟨Z,h4,e4,H4,l4,q4⟩:=z3 (C:=aA tab (n+8)) (ρ:=r) (i:=28) (m:=d+1) (x:=.var 3) (e:=.bin .sub (.call 77 [.var 2,.int 9]) (.int 4)) (g:=fun d:Nat=>T.int ((d:Int)-4)) (Q:=fun _=>True) H3 (tkn z rfl) (fun h=>by simp[r];rfl)
  (fun t h H=>by
   obtain⟨d,h',e,hd,H'⟩:=pE (n+7) (show(1:Int)<=9 by lia) (by lia) H
   refine⟨d,h',?_,H',trivial⟩
   simp[r,e]
   rfl)
 refine⟨f1,f2,P,Q,Z.map fun d:Nat=>(d:Int)-4,h4,upd r 6 (.fr (.list (Z.map fun d:Nat=>T.int ((d:Int)-4)))),?_,⟨trn (Nat.le_add_left ..) (ern y),trn (eln y) z,(lQ).trans y.symm,by simp;exact(l4).trans y.symm⟩,by simp only[r,y];rfl,by simp[r],by simp[r],by simp⟩
 haveI O:aA tab (n+8) 78 [.hand,tn (d+1)] h1=some (.fr (gv f1 (P.map (it f1))),Y):=O
 haveI L:aA tab (n+8) 78 [.hand,tn (d+1)] Y=some (.fr (gv f2 (Q.map (it f2))),h3):=L
 haveI ah:rG [.list (q.map T.int),.int 0,.int 0,.int (q.sum.fmod 100003*7)] []=some ((),hs q 0 0 (q.sum.fmod 100003*7)):=rfl
 simp[sl,ah,b_law,tk,cV (show q.length<=100 from tkn J rfl),W,b1,b2,F,e1,t1,O,L]
 refine eX e4 ?_
 rfl
theorem C7(n:Nat)(z:List Int)(hn:z.length<=63):∃h',aA tab (n+9) 81 [.list (z.map T.int)] []=some (.fr (.bool true),h'):=by
 refine rK (ND n z hn) fun f1 f2 P Q vs h ac e0 D a3 a4 a5 a6=>?_
 refine sy (NC (n:=n) (h:=h) D a3 a4 a5 a6) fun ab e1 b3 b4 b5 b6 b7 b9 ae=>?_
 refine EJ (NB (n:=n) (h:=h) D (b3.trans a3) b7 b9 ae) fun aa e2 c3 Z c5 c6 c7=>?_
 have c3:=c3.trans (b3.trans a3)
 have Z:=Z.trans (b4.trans a4)
 have c5:=c5.trans (b5.trans a5)
 have c6:=c6.trans (b6.trans a6)
 have c7:=c7.trans b7
 refine BI (JI (n:=n) (h:=h) D c3 Z) fun d e3 Y W O d6 L y=>?_
 have Y:=Y.trans c3
 have W:=W.trans Z
 have O:=O.trans c5
 have d6:=d6.trans c6
 have L:=L.trans c7
 have H:=D.q
 have J:=D.m6
 have F:∀r:aE,r 3=d 3->r 4=d 4->r 5=d 5->r 6=d 6->r 7=d 7->r 13=d 13->gU (aA tab (n+8)) (sl 15 9) (.nxt r) h=some (.ret (.fr (.bool true)),h):=fun r g3 g4 g5 g6 g7 ad=>
  NA D (g4.trans W) (g5.trans O) (g3.trans Y) (g7.trans L) (ad.trans y) (Io f1 f2 H) (wB n h f1 f2 P Q (tkn J rfl) H)
   (by have:=wB n h f2 f1 Q P (tkn (trn (eln H) J) rfl) H.symm;rwa [H]at this) (fun e=>by rw[e];rfl) (fun e=>C6 e P)
 refine⟨h,?_⟩
 rw[show aA tab (n+9) 81 [.list (z.map T.int)] []=obd (evB (aA tab (n+8)) (aS [.list (z.map T.int)]) b_law []) gi from I5 (n+8) _ _,
  show b_law=sl 0 6++(sl 6 4++(sl 10 3++(sl 13 1++(sl 14 1++sl 15 9))))from rfl,jX]
 refine eX (a:=.ret (.fr (.bool true))) (h:=h) ?_ rfl
 refine eX e0 ?_
 show evB _ ac _ h=_
 rw[jX]
 refine eX e1 ?_
 show evB _ ab _ h=_
 rw[jX]
 refine eX e2 ?_
 show evB _ aa _ h=_
 rw[jX]
 refine eX e3 ?_
 show evB _ d _ h=_
 rw[jX,show sl 14 1=[.ite (.ne (.var 13) (.list [])) Di []]from rfl]
 have ev:eqT (lT (kept P)) (.list [])=some (decide (kept P=[])):=Hq (kept P) []
 by_cases hk:kept P=[]
 ·simp[y,ev,hk]
  exact F d rfl rfl rfl rfl rfl rfl
 ·simp[y,ev,hk]
  exact JH D hk Y W O d6 L y F
end Internal
end
section
set_option tactic.hygienic false
open PySem PySem.W PyProof.Rows
namespace Internal
noncomputable def W00:Wd:=⟨fun _=>none,fun _=>none,none,nofun,nofun⟩
theorem AW{w:World}{W:Wd}{vs:List Value}{d:List Int}(h:IntsAre vs d):Reps w W (d.map T.int) vs:=by
 induction h with
 |nil=>rfl
 |cons n t _ q=>exact⟨_,_,rfl,⟨t,rfl⟩,q⟩
theorem Bj:AOk 9 callerA:=⟨rfl,by decide,by decide⟩
theorem Bk{w:World}{d s₁:Shared}{q:List Int}{l:Addr}{vs:List Value}(R:iE w.params 159 d)(Y:∀b o,d.heap.get? b=some o->s₁.heap.get? b=some o)
  (hg:s₁.gens= #[]) (hl:s₁.heap.get? l=some {cls:=.type "list",data:=.seq vs.toArray}) (hi:IntsAre vs q) (hn:q.length<=63):
  wpAny (model pw w) callerA (PySem.call (.ref 982) [.ref l]) (fun v y=>v=.bool true/\(∀b o,s₁.heap.get? b=some o->y.heap.get? b=some o)/\y.os=s₁.os/\y.gens= #[]) Nev s₁:=by
 have J:¬W00.has l:=fun h=>h.elim (fun h=>Bool.noConfusion (show false=true from h)) fun h=>h.elim (fun h=>Bool.noConfusion (show false=true from h)) fun h=>(nomatch (show(none:Option Addr)=some l from h))
 have O:∀a,¬W00.wr a:=fun a h=>h.elim (fun h=>Bool.noConfusion (show false=true from h)) fun h=>(nomatch (show(none:Option Addr)=some a from h))
 have F0:Fit w d.heap W00 [] s₁.heap:=⟨fun a o h=>(nomatch (show(none:Option Obj)=some o from h)),fun a o h=>(nomatch (show(none:Option (Value×Value×Value))=some o from h)),rfl,Y,fun a h=>(O a h).elim,fun _=>rfl⟩
 have F:=F0.add J hl
 have⟨H',e⟩:∃W,aA tab 9 81 [.list (q.map T.int)] []=some (.fr (.bool true),W):=C7 0 q hn
 have L:dB 81=982:=by kernel_rfl!
 rw[<-L]
 have Z:Reps w (W00.add l {cls:=.type "list",data:=.seq vs.toArray} J) [.list (q.map T.int)] [.ref l]:=⟨_,_,rfl,⟨l,vs.toArray,0,rfl,Wd.add_at J,AW (by simpa using hi)⟩,rfl⟩
 have K:=Gy (Ac R) 9
 generalize aA tab 9=C at K e
 refine wpAny_mono (K 81 callerA _ [] s₁ [.list (q.map T.int)] [.ref l] (.fr (.bool true)) H' Bj F Z e) (fun v y h=>?_) fun _ _ z=>z
 refine EK h fun _ W' fp x _ H _=>?_
 refine BH x.same fun W dr tk r=>?_;obtain rfl:=r
 exact⟨H.1,fun b o e=>x.keep b o e (O b),rfl,hg⟩
end Internal
end
section
open PySem PySem.W PyProof.Rows
namespace Internal
theorem uW{P:Params}{h:Heap}{vs:List Value}(w:WellAll P h vs []):vs=[]:=
 WellAll.casesOn (motive_2:=fun vs d _=>d=[]->vs=[]) w (fun _=>rfl) (fun _ _ e=>(List.cons_ne_nil _ _ e).elim) rfl
theorem BQ{P:Params}{h:Heap}{v:Value}{d:WData}(a:Well P h v d):WShape.has [] d .int=true->∃n t,v=.int n t/\d=.int n:=by
 refine Well.casesOn (motive_1:=fun v d _=>WShape.has [] d .int=true->∃n t,v=.int n t/\d=.int n) a ?_ ?_ ?_ ?_ ?_ ?_ ?_ ?_ ?_ ?_ ?_ ?_ ?_<;>intros<;>first|exact⟨_,_,rfl,rfl⟩|(rename_i e;exact(aH e).elim)
theorem Ae{P:Params}{h:Heap}{v:Value}{d:WData}(a:Well P h v d):WShape.has [] d (.list .int)=true->∃l vs xs,v=.ref l/\d=.list xs/\h.get? l=some {cls:=.type "list",data:=.seq vs.toArray}/\WellAll P h vs xs/\WShape.hasItems [] xs .int=true:=by
 refine Well.casesOn (motive_1:=fun v d _=>WShape.has [] d (.list .int)=true->∃l vs xs,v=.ref l/\d=.list xs/\h.get? l=some {cls:=.type "list",data:=.seq vs.toArray}/\WellAll P h vs xs/\WShape.hasItems [] xs .int=true) a ?_ ?_ ?_ ?_ ?_ ?_ ?_ ?_ ?_ ?_ ?_ ?_ ?_<;>intros<;>first|(rename_i hb ha e;exact⟨_,_,_,rfl,rfl,hb,ha,(Bool.or_false _).symm.trans e⟩)|(rename_i e;exact(aH e).elim)
theorem BN{P:Params}{h:Heap}:∀(xs:List WData){vs:List Value},WShape.hasItems [] xs .int=true->WellAll P h vs xs->∃y,IntsAre vs y/\xs=y.map WData.int:=by
 intro xs
 induction xs with
 |nil=>intro vs e w;rw[uW w];exact⟨[],.nil,rfl⟩
 |cons d xs F=>
  intro vs e w
  haveI z:=Bool.and_eq_true_iff.mp (show(WShape.has [] d .int&&WShape.hasItems [] xs .int)=true from e)
  refine bT (wellAll_cons_inv w) fun v r q a b=>?_
  refine xEA (F z.2 b) fun y i s=>?_
  refine m8 (BQ a z.1) fun n t J H=>?_
  rw[q,s,J,H]
  exact⟨n::y,.cons _ _ i,rfl⟩
theorem GR{P:Params}{h:Heap}{args:List WData}{z:List Value}(hs:WShape.hasAll [] args [.list .int]=true)
  (J:(WTm.and (.not (.lt (.lit (.int 63)) (.len (.arg 0)))) (.lit (.bool true))).holds [] {args:=args}=true) (Y:WellAll P h z args):
  ∃F l H,z=[.ref l]/\h.get? l=some {cls:=.type "list",data:=.seq H.toArray}/\IntsAre H F/\F.length<=63:=by
 refine bT (hasAllW_cons hs) fun d r y hd Z=>?_;obtain rfl:=y
 obtain rfl:=hasAllW_nil Z
 refine bT (wellAll_cons_inv Y) fun v W q O L=>?_
 refine BG (Ae O hd) fun l H xs e1 e2 hb ha hi=>?_
 subst e2
 refine xEA (BN _ hi ha) fun F i y=>?_;obtain rfl:=y
 refine⟨F,l,H,by rw[q,uW L,e1],hb,i,?_⟩
 have J:(WTm.and (.not (.lit (.bool (decide ((63:Int)<((F.map WData.int).length:Int)))))) (.lit (.bool true))).holds [] {args:=[]}=true:=J
 by_cases q:(63:Int)<((F.map WData.int).length:Int)
 ·rw[decide_eq_true q]at J
  exact(aH J).elim
 ·rw[List.length_map]at q
  exact Int.ofNat_le.mp (Int.not_lt.mp q)
end Internal
end
section
set_option tactic.hygienic false
set_option backward.match.sparseCases true
open PySem PySem.W PyProof.Rows
namespace Internal
theorem GJ:pw.bare:=⟨rfl,rfl,rfl,rfl,rfl,by decide +kernel⟩
theorem CO:opensWell pw=true:=by decide +kernel
theorem zL:importedModules pw.main.body=[]:=by decide +kernel
theorem gY{h:Heap}{a:Addr}{o:Obj}(e:h.get? a=some o):h.isNs a=iZ o:=by
 unfold Heap.isNs iZ
 rw[e]
 rfl
noncomputable def ksO(o:Obj):List Str:=match o.data with
 |.dict es _=>es.toList.filterMap fun e=>match e.key with
  |.str n _=>some n
  |_=>none
 |_=>[]
theorem jR{h:Heap}{a:Addr}{o:Obj}(e:h.get? a=some o):h.nsKeys a=ksO o:=by
 unfold Heap.nsKeys ksO
 rw[e]
 rfl
theorem gD{h:Heap}{a:Addr}{o:Obj}(e:h.get? a=some o)(x:Str):h.nsMap a x=nsG o x:=by
 unfold Heap.nsMap nsG dEs
 rw[e]
 cases d:o.data<;>(dsimp only;rw[d])<;>rfl
noncomputable def psO(o:Obj):List (Str×Value):=match o.data with
 |.dict es _=>es.toList.filterMap fun e=>match e.key with
  |.str n _=>some (n,e.val)
  |_=>none
 |_=>[]
theorem xJ{h:Heap}{a:Addr}{o:Obj}(e:h.get? a=some o):h.nsPairs a=psO o:=by
 unfold Heap.nsPairs psO
 rw[e]
 rfl
noncomputable def HO(o₀ o₁:Obj):Bool:=iZ o₀&&iZ o₁&&(ksO o₀++ksO o₁).all fun k=>
 k.opensWith "type.__subclasses__." ||k.opensWith "type.first-doc." ||((firstUseKey k||false)&&(nsG o₀ k).isNone)||decide (nsG o₁ k=nsG o₀ k)
theorem xm{F z:Heap}{y r:Obj}(q:F.get? 2=some y)(d:z.get? 2=some r):staticsOk [] F z=HO y r:=by
 unfold staticsOk HO
 simp only[show cStatics=2 from rfl,gY q,gY d,jR q,jR d,gD q,gD d,List.any_nil]
noncomputable def KI(o:Obj):Bool:=iZ o&&(ksO o).all fun k=>firstUseKey k||runKey k
theorem Je{h:Heap}{o:Obj}(e:h.get? 2=some o)(x:KI o=true):h.accountedOkI []=true:=by
 refine xA (Bool.and_eq_true_iff.mp x) fun a b=>?_
 unfold Heap.accountedOkI
 rw[show cStatics=2 from rfl,gY e,jR e,a,Bool.true_and]
 refine List.all_eq_true.mpr fun k d=>?_
 simp only[List.all_eq_true.mp b k d,Bool.true_or]
noncomputable def Ik(o:Obj):Bool:=iZ o&&(ksO o).all fun k=>startupNames.contains k||pw.boundNames.contains k
theorem CX{h:Heap}{o:Obj}(e:h.get? 3=some o):namesBound pw h=Ik o:=by
 unfold namesBound Ik
 simp only[show mainGlobals=3 from rfl,gY e,jR e]
theorem ET(P:Params):HO (boot_o_2 P) (stO P (bB 159).s)=true:=by kernel_rfl
theorem GS(P:Params):KI (stO P (bB 159).s)=true:=by kernel_rfl
theorem Fu(P:Params):Ik (glO P (bB 159).m (bB 159).g)=true:=by kernel_rfl
theorem Fz(P:Params):laidNames.map (nsG (glO P (bB 159).m (bB 159).g))=laidNames.map (nsG (boot_o_3 P)):=by kernel_rfl
theorem GA(P:Params):(((psO (boot_o_0 P)).head?.map (·.1),(psO (boot_o_0 P)).tail):Option Str×List (Str×Value))=bltViewBooted:=by kernel_rfl
theorem II(P:Params):iZ (boot_o_3 P)=true/\nsG (boot_o_3 P) "__annotations__" =w5/\nsG (glO P (bB 159).m (bB 159).g) "__builtins__" =some (.ref 4):=⟨by kernel_rfl,by kernel_rfl,by kernel_rfl⟩
set_option backward.match.sparseCases false in
theorem Ky:pw.theDef "law" =(match bJ 81 with
  |.FunctionDef _ a b _ _ _ sc _ _ _=>some (a,b,sc)
  |_=>none):=by kernel_rfl
end Internal
namespace Internal
theorem z9(P:Params):(boot_o_4 P).cls=.type "module" /\(boot_o_4 P).dict=some builtinsNs:=⟨by kernel_rfl,by kernel_rfl⟩
end Internal
end
section
set_option tactic.hygienic false
open PySem PySem.W PyProof.Rows
namespace Internal
theorem qX{P:Params}{s:Shared}(R:iE P 159 s){a:Nat}{o:Obj}(e:ew (g9 P 159) a=some o):s.heap.get? a=some o:=R.sim.get _ _ (by
 have:(ph P 159).K=g9 P 159:=by show g9 P 159++[]=_;rw[List.append_nil]
 rw[this];exact e)
theorem ran{w:World}{d r:Shared}{N:Nat}(z:d.asleep)(S:Sim ⟨wL w.params,11,boot_toks⟩ d)(e:topRun treeTable pw w 11 w5 N d (topStub pw)=some r)(R:iE w.params 159 r):TopRan pw w d r/\r.asleep:=by
 rw[<-table_eq_tree]at e
 refine xh (topRun_spec _ _ _ _ z e) fun a l os fr=>?_
 have b2:d.heap.get? 2=some (boot_o_2 w.params):=S.get _ _ rfl
 have J:d.heap.get? 3=some (boot_o_3 w.params):=S.get _ _ rfl
 have e0:r.heap.get? 0=some (boot_o_0 w.params):=qX R rfl
 have Z:r.heap.get? 2=some (stO w.params (bB 159).s):=qX R rfl
 have y:r.heap.get? 3=some (glO w.params (bB 159).m (bB 159).g):=qX R rfl
 have e4:r.heap.get? 4=some (boot_o_4 w.params):=qX R rfl
 refine xAA (II w.params) fun g1 g2 g3=>?_
 have O:d.heap.isNs mainGlobals=true:=(gY J).trans g1
 have F:r.heap.isNs mainGlobals=true:=(gY y).trans (Dp _)
 have L:r.heap.isNs builtinsNs=true:=(gY e0).trans (Hs _)
 refine⟨⟨a,l,Shared.rest_eq os,fun b o Y H=>fr b o ?_ (fun q=>H (.inl q)) (fun q=>H (.inr (.inl q))) (fun q=>H (.inr (.inr (((Pin.globalOf_eq O _).trans ((gD J _).trans g2)).trans q)))) Y,?_,?_,Pin.keysAreStrs_of F,fun x hx=>(Pin.builtinOf_eq L x).trans (Heap.of_bltView L ?_ x hx),⟨4,_,(Pin.globalOf_eq F _).trans ((gD y _).trans g3),e4,(z9 _).1,(z9 _).2⟩,?_,names_of_bound ((CX y).trans (Fu _)),fun x hx=>?_⟩,Shared.asleep_of_life l z⟩
 ·have:=Heap.lt_size Y
  rw[S.size]at this;exact this
 ·rw[zL];exact Heap.accountedI_of_ok (Je Z (GS _))
 ·rw[zL];exact statics_of_ok ((xm b2 Z).trans (ET _))
 ·unfold Heap.bltView
  rw[show builtinsNs=0 from rfl,xJ e0]
  exact GA _
 ·intro g W
  rw[R.sim.gens]at W
  exact absurd W (Array.not_mem_empty g)
 ·rw[Pin.globalOf_eq F,Pin.globalOf_eq O]
  exact(gD y x).trans ((jr (Fz w.params) hx).trans (gD J x).symm)
noncomputable def Eb:FuncBody->List Stmt
 |.stmts b=>b
 |_=>[]
theorem FC(dV pm:Value)(cd:Nat):let fd:=eF (bJ 81) none dV pm cd
  pw.theDef "law" =some (fd.params,Eb fd.body,fd.scope)/\fd.name="law" /\fd.qualname="law" /\fd.body=.stmts (Eb fd.body)/\fd.globals=mainNs/\fd.closure=[]/\fd.builtins=builtinsNs/\fd.params.defaults=[]/\fd.defaults=dV/\
   kwWritten? fd.params.kwonlyargs fd.params.kw_defaults=some []/\fd.kwdefaults=.none:=
 ⟨by kernel_rfl!,by kernel_rfl!,by kernel_rfl!,by kernel_rfl!,by kernel_rfl!,by kernel_rfl!,by kernel_rfl!,by kernel_rfl!,by kernel_rfl!,by kernel_rfl!,by kernel_rfl!⟩
theorem FB{w:World}{r:Shared}(R:iE w.params 159 r):isTheDefsW pw r.heap "law" :=by
 have L:r.heap.get? 3=some (glO w.params (bB 159).m (bB 159).g):=qX R rfl
 have O:r.heap.isNs mainGlobals=true:=(gY L).trans (Dp _)
 have d:81∈List.range 82:=by decide
 have J:=jr (wk w.params) d
 simp only[Prod.mk.injEq]at J
 have H:=List.all_eq_true.mp wj 81 d
 rw[Bool.and_eq_true,decide_eq_true_eq]at H
 have z:=R.objs _ H.1 _ (List.mem_of_head? J.1)
 have Y:dflt (tabStmt.getD 81 0)=.none:=by kernel_rfl!
 have W:(fu 81:Str)="law" :=by kernel_rfl!
 have F:=jr (Dq w.params) d
 rw[W]at F
 rw[Y]at z
 refine uV (FC .none (bB (tabStmt.getD 81 0)).m (dB 81-1)) fun d1 d2 d3 d4 d5 d6 d7 d8 Z y q=>?_
 exact⟨_,_,_,_,_,_,(Pin.globalOf_eq O _).trans ((gD L _).trans F),z,rfl,d1,d2,d3,rfl,d4,rfl,d5,d6,d7,.inl ⟨d8,Z⟩,[],y,.inl ⟨rfl,q⟩⟩
end Internal
end
section
set_option autoImplicit true
open PySem PySem.W PyProof.Rows
namespace Internal
section
noncomputable abbrev rwl:OpenLaw:=PySem.Challenge.rw_ov0093_01
set_option maxHeartbeats 0
theorem JJ:rwl.wellSaid=true:=by
 refine(congrFun PySem.W.Fast.te9446332074065402090 rwl).trans ?_
 unfold PySem.W.Fast.tw9446332074065402090
 repeat' (with_reducible refine look_both ?_ ?_)
 unfold PySem.W.Fast.tw17960256430627541270
 repeat' (with_reducible refine look_both ?_ ?_)
 unfold PySem.W.Fast.tw2436336058641802641
 repeat' (with_reducible refine look_both ?_ ?_)
 unfold PySem.W.Fast.tw12908688711261696721
 repeat' (with_reducible refine look_both ?_ ?_)
 all_goals decide +kernel
end
end Internal
end
section
set_option tactic.hygienic false
open PySem PySem.W PyProof.Rows
namespace Internal
theorem promised:rwl.row.toRowW.promised:=⟨[.list []],by kernel_rfl!,by kernel_rfl!⟩
theorem Dv:frees rwl.row.toRowW=true:=by kernel_rfl!
theorem GB(w:World):∃d,fencedOpening treeTable pw w 600=some d:=by
 haveI b:=boot_open (p:=pw) (N:=600) (by kernel_rfl) rfl (fun _=>by kernel_rfl) w
 refine xEA (Option.map_eq_some_iff.mp b) fun s h _=>?_
 exact⟨s,h⟩
theorem Fp(d:List WData):rwl.row.toRowW.claim.post d (.bool true) d=true:=by kernel_rfl!
theorem Bl{w:World}{s:Shared}(R:iE w.params 159 s)(z:s.asleep)(ab:Addr->Prop)(gens:Prop)(kept:Heap->Prop)(hk:∀h,kept h):rwl.row.toRowW.claim.CallFrom (callStub rwl.row.name) w ab gens kept s:=by
 haveI hg:s.gens= #[]:=R.sim.gens
 refine BM (frees_parts Dv) fun O hu ha ae hm=>?_
 refine ClaimW.callFrom_of_specN (c:=rwl.row.toRowW.claim) (tree:=fun vs=>do match<-nsGet mainNs rwl.row.name with
   |some f=>do ret (<-PySem.call f vs)
   |none=>unsupported "claim.caller:no-such-global") z (by rw[hg];kernel_rfl) fun y H W ord J=>?_
 refine xE (Option.isSome_iff_exists.mp (layAllW_isSome (P:=w.params) (ord:=ord) (R:=rwl.row.toRowW.records) (cl:=classAt s.heap) nofun y rwl.row.toRowW.args s (pre_splitW H).1)) fun Z r=>?_;obtain⟨vs,d⟩:=Z
 haveI F:=layAllW_keeps _ _ _ r
 haveI af:=layAllW_rest _ _ _ r
 refine nc (reads_layAllW J _ _ _ r W d.heap (fun _ _ e=>e)) fun as ad ag hold=>?_
 have L:=well_layAllW J y s _ r d.heap fun _ _ e=>e
 refine s6 (GR (pre_splitW H).1 (pre_splitW H).2 L) fun ns l us Y hl hi hn=>?_;obtain rfl:=Y
 haveI T:=Bk (w:=w) (s₁:={d with gens:= #[]}) R F rfl hl hi hn
 refine xE ((Ac R).glob) fun mg aa=>?_;haveI m1:=aa.1;haveI m2:=aa.2.1
 haveI hv:mg rwl.row.name=some (.ref 982):=by
  haveI e1:(fu 81:Str)=rwl.row.name:=by kernel_rfl!
  haveI e2:dB 81=982:=by kernel_rfl!
  rw[<-e1,<-e2];exact m2 81 (Nat.lt_succ_self _)
 haveI ac:d.heap.Ns mainNs mg:=m1.at' fun o e=>F _ o e
 refine⟨_,d,r,wpAny_bind (wpAny_nsGet (s:={d with gens:= #[]}) ac ?_)⟩
 rw[hv]
 refine wpAny_bind (wpAny_mono T (fun v s' g=>wpAny_pure ⟨_,rfl,?_⟩) fun _ _ z=>z.elim)
 obtain rfl:=g.1;haveI k:=g.2.1;haveI os:=g.2.2.1;haveI gn:=g.2.2.2
 haveI gw:GoodW rwl.row.toRowW.claim (classAt s.heap) (ExcName.means s.heap) y {d with gens:= #[]} (.ok (.ret (.bool true))) s':=
  ⟨.inl ⟨_,.bool true,[],rfl,fun _=>rfl,.bool true,Fp y,fun _=>⟨.nil,fun _ h=>(List.not_mem_nil h).elim⟩⟩,k,os,gn⟩
 haveI q:=gw.endsN O rfl (ident_freeW hu ha ae) ad hold af.2.2.1
 exact⟨q.1,q.2.1,q.2.2,hk _⟩
theorem holds:rwl.row.Holds:=by
 refine⟨row_said JJ,promised,⟨GJ,CO,rfl⟩,promised.witness,fun w=>?_⟩
 refine(GB w).elim fun d h=>?_
 haveI q:=Ea (N:=600) rfl h;haveI S:=q.1;haveI W:=q.2.1
 refine m8 (EO S) fun N r e R=>?_
 unfold fencedOpening at h
 refine xEA (Option.bind_eq_some_iff.mp h) fun s H F=>?_
 rw[<-table_eq_tree]at H
 haveI A:AfterRun (opening pw) w s:=AfterImport.of_importEnds H
 refine⟨⟨s,A⟩,fun L y=>?_⟩
 obtain rfl:L=s:=AfterImport.unique y A
 haveI z:d.asleep:=Shared.asleep_of_life (fence_lifeW F) (AfterImport.life A)
 haveI T:=(ran z S e R).1;haveI J:=(ran z S e R).2
 refine⟨d,F,S.gens,r,T,fun n O=>?_,nofun,nofun,Bl R J _ _ _ fun _ h=>(aH h).elim⟩
 obtain rfl:n="law" :=List.mem_singleton.mp O
 exact FB R
theorem Jx:rwl.Holds:=⟨JJ,holds⟩
end Internal
end
theorem PySem.Challenge.cw_ov0093_01_holds : PySem.Challenge.rw_ov0093_01.Holds :=
 Internal.Jx
